import PyProof.Rows.All
import Wide.All
import OpenK.AllK
import Wide.FinOn
import HandS.ForMost
import HandS.Exc
import HandS.ExcOwn
import HandS.WordsExc
import HandS.TryOnly
import HandS.TryMany
import HandS.CallSlots
import HandS.IsInst
import HandS.Codes
import HandS.Replace
import HandS.Defaults
import HandS.HeadHook2
import HandS.Head0
import HandS.Head1
import HandS.Head2
import HandS.HeadEnd
import HandS.Dict
import HandS.Small
import HandS.SetFor
import HandS.NoneIn
import HandS.Iter
import HandS.StrMore
import HandS.Finally
import HandS.SortInts
import HandS.Sort
import HandS.ExcInit
import HandS.ExcField
import HandS.ExcIs
import HandS.TryElse
import KE.KExcIs
import HandS.Conv
import HandS.Deep
import HandS.DeepEq
import HandS.DictComp
import HandS.ListItems
import KE.KDictSum
import PyProof.Rows.StrInSeq3
import KE.GoesEnumKw
import KE.DataMinMax
import HandS.Strs
import HandS.TupSets
import HandS.TupLe
import PyProof.Rows.CallKwBuiltin
import HandS.Set
import HandS.ReplaceLit
import HandS.ReplaceList
import KE.DataEq
import PySem.Challenge.RW_lettercell_k11_texts_joined
set_option Elab.async false
set_option linter.all false
set_option maxRecDepth 100000
set_option maxHeartbeats 4000000
namespace DM
open PySem PySem.Spec PyProof.Rows L2

inductive DV where
  | non | bl (b : Bool) | int (i : Int) | str (l : List Nat) | ty (n : String)
  | lst (ds : List DV) | tup (ds : List DV) | obj (k : Nat)
  deriving Inhabited
inductive MO where
  | lst (ds : List DV) | dic (kvs : List (Key × DV)) | ins (c : String) (fs : List (Str × DV))
  | lstF (ds : List DV) | dicF (kvs : List (Key × DV))
  deriving Inhabited
abbrev Mu := List MO
abbrev Dl := List (Option DV)
abbrev Sx (l : List Nat) : Str := SX.S l
structure Ex where
  cls : String
  fs : List (Str × DV)
inductive Out where
  | ok (d : DV) (m : Mu) | exc (e : Ex) (m : Mu) | bad
inductive SOut where
  | nx (l : Dl) (m : Mu) | rt (d : DV) (m : Mu) | bk (l : Dl) (m : Mu) | ct (l : Dl) (m : Mu) | exc (e : Ex) (l : Dl) (m : Mu) | bad
abbrev DE := Dl → Mu → Out
abbrev DS := Dl → Mu → SOut
structure Al where
  f : Nat → Addr
  fb : Addr → Prop
instance : CoeFun Al (fun _ => Nat → Addr) := ⟨Al.f⟩
abbrev Cm := String → Addr
abbrev Frag' := PySem.W.Frag

def Sep (al : Al) (n : Nat) (a : Addr) : Prop := ∀ k, k < n → a ≠ al k
def LAt (K : Frag') (H : Hp) (al : Al) (n : Nat) (a : Addr) (xs : List V) : Prop := (Rd H a (.lst xs) ∧ Sep al n a ∧ ¬ al.fb a) ∨ SqL K (fun _ => none) a xs
def TAt (K : Frag') (H : Hp) (al : Al) (n : Nat) (a : Addr) (xs : List V) : Prop := (Rd H a (.tup xs) ∧ Sep al n a ∧ ¬ al.fb a) ∨ SqT K (fun _ => none) a xs

section
variable (K : Frag') (H : Hp) (al : Al) (n : Nat)
mutual
inductive R : V → DV → Prop
  | non : R .non .non
  | bl (b : Bool) : R (.bl b) (.bl b)
  | int (i : Int) : R (.int i) (.int i)
  | str (l : List Nat) : R (.str (Sx l)) (.str l)
  | ty (s : String) : R (.ty s) (.ty s)
  | lst {a : Addr} {xs : List V} {ds : List DV} : LAt K H al n a xs → RA xs ds → R (.ref a) (.lst ds)
  | tup {a : Addr} {xs : List V} {ds : List DV} : TAt K H al n a xs → RA xs ds → R (.ref a) (.tup ds)
  | obj {k : Nat} : k < n → R (.ref (al k)) (.obj k)
inductive RA : List V → List DV → Prop
  | nil : RA [] []
  | cons {v : V} {vs : List V} {d : DV} {ds : List DV} : R v d → RA vs ds → RA (v :: vs) (d :: ds)
end
inductive RK {κ : Type} : List (κ × V) → List (κ × DV) → Prop
  | nil : RK [] []
  | cons {k : κ} {v : V} {d : DV} {vs : List (κ × V)} {ds : List (κ × DV)} : R K H al n v d → RK vs ds → RK ((k, v) :: vs) ((k, d) :: ds)
def MR (cm : Cm) (a : Addr) : MO → Prop
  | .lst ds => ∃ xs, H a = some (.lst xs) ∧ RA K H al n xs ds
  | .dic kvs => ∃ ws, H a = some (.dK ws) ∧ RK K H al n ws kvs
  | .ins c fs => ∃ dx ws, H a = some (.ins (cm c) dx ws) ∧ RK K H al n ws fs
  | .lstF ds => ∃ (od : Obj) (xs : List V), H a = some (.frz od (.lst xs)) ∧ RA K H al n xs ds
  | .dicF kvs => ∃ (od : Obj) (ws : List (Key × V)), H a = some (.frz od (.dK ws)) ∧ RK K H al n ws kvs
end
structure SR (K : Frag') (cm : Cm) (H : Hp) (al : Al) (mu : Mu) : Prop where
  inj : ∀ i j, i < mu.length → j < mu.length → al i = al j → i = j
  ob : ∀ k m, mu[k]? = some m → MR K H al mu.length cm (al k) m
  fbt : ∀ a, al.fb a → ∃ o, H a = some o
structure Lt (H : Hp) (al : Al) (n : Nat) (H' : Hp) (al' : Al) (n' : Nat) : Prop where
  len : n ≤ n'
  same : ∀ k, k < n → al' k = al k
  fbm : ∀ a, al.fb a → al'.fb a
  keep : ∀ a o, H a = some o → Sep al n a → H' a = some o ∧ Sep al' n' a ∧ (¬ al.fb a → ¬ al'.fb a)
  fz : ∀ (a : Addr) (o : Obj) (u : HO), H a = some (.frz o u) → H' a = some (.frz o u)

section
variable {K : Frag'} {cm : Cm} {H H' H2 : Hp} {al al' al2 : Al} {n n' n2 : Nat}
theorem Lt.refl : Lt H al n H al n := ⟨Nat.le_refl _, fun _ _ => rfl, fun _ h => h, fun _ _ h s => ⟨h, s, fun z => z⟩, fun _ _ _ h => h⟩
theorem Lt.trans (a : Lt H al n H' al' n') (b : Lt H' al' n' H2 al2 n2) : Lt H al n H2 al2 n2 :=
  ⟨Nat.le_trans a.len b.len, fun k h => (b.same k (Nat.lt_of_lt_of_le h a.len)).trans (a.same k h), fun x h => b.fbm x (a.fbm x h), fun x o h s => let ⟨h1, s1, z1⟩ := a.keep x o h s; let ⟨h2, s2, z2⟩ := b.keep x o h1 s1; ⟨h2, s2, fun q => z2 (z1 q)⟩, fun x o u h => b.fz x o u (a.fz x o u h)⟩
theorem LAt.mono (t : Lt H al n H' al' n') {a : Addr} {xs : List V} (h : LAt K H al n a xs) : LAt K H' al' n' a xs := by
  rcases h with ⟨h | ⟨o, h⟩, s, f⟩ | h
  · obtain ⟨h1, s1, z⟩ := t.keep a _ h s; exact .inl ⟨.inl h1, s1, z f⟩
  · obtain ⟨h1, s1, z⟩ := t.keep a _ h s; exact .inl ⟨.inr ⟨o, h1⟩, s1, z f⟩
  · exact .inr h
theorem TAt.mono (t : Lt H al n H' al' n') {a : Addr} {xs : List V} (h : TAt K H al n a xs) : TAt K H' al' n' a xs := by
  rcases h with ⟨h | ⟨o, h⟩, s, f⟩ | h
  · obtain ⟨h1, s1, z⟩ := t.keep a _ h s; exact .inl ⟨.inl h1, s1, z f⟩
  · obtain ⟨h1, s1, z⟩ := t.keep a _ h s; exact .inl ⟨.inr ⟨o, h1⟩, s1, z f⟩
  · exact .inr h
theorem none_L {a : Addr} {xs : List V} (h : SqL K (fun _ => none) a xs) : SqL K H a xs := by
  rcases h with (h | ⟨o, h⟩) | h
  · cases h
  · cases h
  · exact .inr h
theorem none_T {a : Addr} {xs : List V} (h : SqT K (fun _ => none) a xs) : SqT K H a xs := by
  rcases h with (h | ⟨o, h⟩) | h
  · cases h
  · cases h
  · exact .inr h
theorem LAt.sq {a : Addr} {xs : List V} (h : LAt K H al n a xs) : SqL K H a xs := h.elim (fun z => .inl z.1) none_L
theorem TAt.sq {a : Addr} {xs : List V} (h : TAt K H al n a xs) : SqT K H a xs := h.elim (fun z => .inl z.1) none_T
mutual
theorem R.mono (t : Lt H al n H' al' n') : ∀ {v : V} {d : DV}, R K H al n v d → R K H' al' n' v d
  | _, _, .non => .non
  | _, _, .bl b => .bl b
  | _, _, .int i => .int i
  | _, _, .str l => .str l
  | _, _, .ty s => .ty s
  | _, _, .lst h r => .lst (h.mono t) (RA.mono t r)
  | _, _, .tup h r => .tup (h.mono t) (RA.mono t r)
  | _, _, .obj (k := k) h => by
    rw [← t.same k h]
    exact .obj (Nat.lt_of_lt_of_le h t.len)
theorem RA.mono (t : Lt H al n H' al' n') : ∀ {vs : List V} {ds : List DV}, RA K H al n vs ds → RA K H' al' n' vs ds
  | _, _, .nil => .nil
  | _, _, .cons r q => .cons (R.mono t r) (RA.mono t q)
end
theorem RK.mono {κ : Type} (t : Lt H al n H' al' n') : ∀ {vs : List (κ × V)} {ds : List (κ × DV)}, RK K H al n vs ds → RK K H' al' n' vs ds
  | _, _, .nil => .nil
  | _, _, .cons r q => .cons (r.mono t) (RK.mono t q)
theorem MR.mono (t : Lt H al n H' al' n') {a : Addr} {m : MO} (h : MR K H al n cm a m) (e : H' a = H a) : MR K H' al' n' cm a m := by
  cases m with
  | lst ds => obtain ⟨xs, h1, h2⟩ := h; exact ⟨xs, e.trans h1, h2.mono t⟩
  | dic kvs => obtain ⟨xs, h1, h2⟩ := h; exact ⟨xs, e.trans h1, h2.mono t⟩
  | ins c fs => obtain ⟨dx, xs, h1, h2⟩ := h; exact ⟨dx, xs, e.trans h1, h2.mono t⟩
  | lstF ds => obtain ⟨od, xs, h1, h2⟩ := h; exact ⟨od, xs, e.trans h1, h2.mono t⟩
  | dicF ds => obtain ⟨od, xs, h1, h2⟩ := h; exact ⟨od, xs, e.trans h1, h2.mono t⟩
theorem MR.some {a : Addr} {m : MO} (h : MR K H al n cm a m) : ∃ o, H a = some o := by
  cases m with
  | lst ds => obtain ⟨xs, h1, _⟩ := h; exact ⟨_, h1⟩
  | dic kvs => obtain ⟨xs, h1, _⟩ := h; exact ⟨_, h1⟩
  | ins c fs => obtain ⟨dx, xs, h1, _⟩ := h; exact ⟨_, h1⟩
  | lstF ds => obtain ⟨dx, xs, h1, _⟩ := h; exact ⟨_, h1⟩
  | dicF ds => obtain ⟨dx, xs, h1, _⟩ := h; exact ⟨_, h1⟩
theorem RA.len : ∀ {vs : List V} {ds : List DV}, RA K H al n vs ds → vs.length = ds.length
  | _, _, .nil => rfl
  | _, _, .cons _ q => congrArg (· + 1) (RA.len q)
theorem RA.get : ∀ {vs : List V} {ds : List DV} {i : Nat} {d : DV}, RA K H al n vs ds → ds[i]? = some d → ∃ v, vs[i]? = some v ∧ R K H al n v d
  | _, _, _, _, .nil, h => by simp at h
  | _, _, 0, _, .cons r _, h => by simp at h; subst h; exact ⟨_, rfl, r⟩
  | _, _, i + 1, _, .cons _ q, h => by
    obtain ⟨v, h1, h2⟩ := RA.get (i := i) q (by simpa using h)
    exact ⟨v, by simpa using h1, h2⟩
theorem RA.getV : ∀ {vs : List V} {ds : List DV} {i : Nat} {v : V}, RA K H al n vs ds → vs[i]? = some v → ∃ d, ds[i]? = some d ∧ R K H al n v d
  | _, _, _, _, .nil, h => by simp at h
  | _, _, 0, _, .cons r _, h => by simp at h; subst h; exact ⟨_, rfl, r⟩
  | _, _, i + 1, _, .cons _ q, h => by
    obtain ⟨v, h1, h2⟩ := RA.getV (i := i) q (by simpa using h)
    exact ⟨v, by simpa using h1, h2⟩
theorem RA.app : ∀ {vs ws : List V} {ds es : List DV}, RA K H al n vs ds → RA K H al n ws es → RA K H al n (vs ++ ws) (ds ++ es)
  | _, _, _, _, .nil, h => h
  | _, _, _, _, .cons r q, h => .cons r (RA.app q h)
theorem RA.take : ∀ {vs : List V} {ds : List DV} (i : Nat), RA K H al n vs ds → RA K H al n (vs.take i) (ds.take i)
  | _, _, 0, _ => .nil
  | _, _, _ + 1, .nil => .nil
  | _, _, i + 1, .cons r q => .cons r (RA.take i q)
theorem RA.drop : ∀ {vs : List V} {ds : List DV} (i : Nat), RA K H al n vs ds → RA K H al n (vs.drop i) (ds.drop i)
  | _, _, 0, q => q
  | _, _, _ + 1, .nil => .nil
  | _, _, i + 1, .cons r q => RA.drop i q
theorem RA.set : ∀ {vs : List V} {ds : List DV} (i : Nat) {v : V} {d : DV}, RA K H al n vs ds → R K H al n v d → RA K H al n (vs.set i v) (ds.set i d)
  | _, _, _, _, _, .nil, _ => .nil
  | _, _, 0, _, _, .cons r q, h => .cons h q
  | _, _, i + 1, _, _, .cons r q, h => .cons r (RA.set i q h)
theorem SR.sep {mu : Mu} (s : SR K cm H al mu) {p : Addr} (h : H p = none) : Sep al mu.length p := fun k hk e => by
  obtain ⟨o, ho⟩ := (s.ob k _ (List.getElem?_eq_getElem hk)).some
  rw [← e, h] at ho
  cases ho
theorem SR.nf {mu : Mu} (s : SR K cm H al mu) {p : Addr} (h : H p = none) : ¬ al.fb p := fun z => by
  obtain ⟨o, ho⟩ := s.fbt p z
  rw [h] at ho
  cases ho
theorem Lt.new {mu : Mu} {p : Addr} {o : HO} (h : H p = none) : Lt H al n (upd H p o) al n :=
  ⟨Nat.le_refl _, fun _ _ => rfl, fun _ h => h, fun a u ha s => ⟨by rw [upd_ne (ne_of_none ha h)]; exact ha, s, fun z => z⟩, fun a o' u ha => by rw [upd_ne (ne_of_none ha h)]; exact ha⟩
theorem SR.later {mu : Mu} (s : SR K cm H al mu) (t : Lt H al mu.length H' al mu.length) (e : ∀ k, k < mu.length → H' (al k) = H (al k)) (ft : ∀ a, al.fb a → ∃ o, H' a = some o) : SR K cm H' al mu :=
  ⟨s.inj, fun k m hk => (s.ob k m hk).mono t (e k (List.getElem?_eq_some_iff.mp hk).1), ft⟩
theorem SR.new {mu : Mu} {p : Addr} {o : HO} (s : SR K cm H al mu) (h : H p = none) : SR K cm (upd H p o) al mu :=
  s.later (Lt.new (mu := mu) h) (fun k hk => upd_ne fun e => s.sep h k hk e.symm) fun a fa => let ⟨o', q⟩ := s.fbt a fa; ⟨o', by rw [upd_ne (ne_of_none q h)]; exact q⟩
theorem Lt.put {k : Nat} {o : HO} (hk : k < n) (hz : ∀ (o' : Obj) (u : HO), H (al k) ≠ some (.frz o' u)) : Lt H al n (upd H (al k) o) al n :=
  ⟨Nat.le_refl _, fun _ _ => rfl, fun _ h => h, fun a u ha s => ⟨by rw [upd_ne (s k hk)]; exact ha, s, fun z => z⟩, fun a o' u ha => by rw [upd_ne (fun e => hz o' u (by rw [← e]; exact ha))]; exact ha⟩
theorem SR.put {mu : Mu} {k : Nat} {o : HO} {m : MO} (s : SR K cm H al mu) (hk : k < mu.length) (hz : ∀ (o' : Obj) (u : HO), H (al k) ≠ some (.frz o' u)) (hm : MR K (upd H (al k) o) al mu.length cm (al k) m) : SR K cm (upd H (al k) o) al (mu.set k m) := by
  refine ⟨fun i j hi hj => s.inj i j (by rw [List.length_set] at hi; exact hi) (by rw [List.length_set] at hj; exact hj), fun j u hu => ?_, fun a fa => let ⟨o', q⟩ := s.fbt a fa; ?_⟩
  rotate_left
  · by_cases e : a = al k
    · exact ⟨o, by rw [e]; exact upd_same⟩
    · exact ⟨o', by rw [upd_ne e]; exact q⟩
  rw [List.length_set]
  by_cases e : k = j
  · subst e
    rw [List.getElem?_set_self hk] at hu
    cases hu
    exact hm
  · rw [List.getElem?_set_ne e] at hu
    have hj := (List.getElem?_eq_some_iff.mp hu).1
    exact (s.ob j u hu).mono (Lt.put hk hz) (upd_ne fun z => e (s.inj k j hk hj z.symm))
end

structure SlD (K : Frag') (H : Hp) (al : Al) (n : Nat) (sg : L2.St) (dl : Dl) : Prop where
  len : sg.length = dl.length
  at_ : ∀ (i : Nat) (d : DV), dl[i]? = some (some d) → ∃ v, sg[i]? = some (some v) ∧ R K H al n v d
section
variable {K : Frag'} {cm : Cm} {H H' H2 : Hp} {al al' al2 : Al} {n n' n2 : Nat} {sg : L2.St} {dl : Dl}
theorem SlD.mono (t : Lt H al n H' al' n') (s : SlD K H al n sg dl) : SlD K H' al' n' sg dl := ⟨s.len, fun i d h => let ⟨v, h1, h2⟩ := s.at_ i d h; ⟨v, h1, h2.mono t⟩⟩
theorem SlD.set {i : Nat} {v : V} {d : DV} (s : SlD K H al n sg dl) (r : R K H al n v d) : SlD K H al n (sg.set i (some v)) (dl.set i (some d)) := by
  refine ⟨by rw [List.length_set, List.length_set]; exact s.len, fun j e h => ?_⟩
  by_cases hi : i = j
  · subst hi
    have hl := (List.getElem?_eq_some_iff.mp h).1
    rw [List.length_set] at hl
    rw [List.getElem?_set_self hl] at h
    cases h
    exact ⟨v, List.getElem?_set_self (by rw [s.len]; exact hl), r⟩
  · rw [List.getElem?_set_ne hi] at h
    rw [List.getElem?_set_ne hi]
    exact s.at_ j e h
theorem SlD.clr {i : Nat} (s : SlD K H al n sg dl) (o : Option V) : SlD K H al n (sg.set i o) (dl.set i none) := by
  refine ⟨by rw [List.length_set, List.length_set]; exact s.len, fun j e h => ?_⟩
  by_cases hi : i = j
  · subst hi
    have hl := (List.getElem?_eq_some_iff.mp h).1
    rw [List.length_set] at hl
    rw [List.getElem?_set_self hl] at h
    cases h
  · rw [List.getElem?_set_ne hi] at h
    rw [List.getElem?_set_ne hi]
    exact s.at_ j e h
def startD (m : Nat) (ds : List DV) : Dl := ds.map some ++ List.replicate (m - ds.length) none
theorem SlD.start {N : List Str} {vs : List V} {ds : List DV} (r : RA K H al n vs ds) : SlD K H al n (L2.start N vs) (startD N.length ds) := by
  have hl := r.len
  unfold L2.start startD
  refine ⟨by rw [List.length_append, List.length_append, List.length_map, List.length_map, List.length_replicate, List.length_replicate, hl], fun i d h => ?_⟩
  by_cases hi : i < ds.length
  · rw [List.getElem?_append_left (by simpa using hi), List.getElem?_map] at h
    rw [List.getElem?_append_left (by rw [List.length_map, hl]; exact hi), List.getElem?_map]
    cases e : ds[i]? with
    | none => rw [e] at h; cases h
    | some u =>
      rw [e] at h
      cases h
      obtain ⟨v, h1, h2⟩ := r.get e
      exact ⟨v, by rw [h1]; rfl, h2⟩
  · rw [List.getElem?_append_right (by simpa using hi), List.getElem?_replicate] at h
    split at h <;> cases h
end

def xcl (cm : Cm) (c : String) : Value := .ref (cm c)
def XR (K : Frag') (H : Hp) (al : Al) (n : Nat) (dd : Option Addr) (fs : List (Str × DV)) : Prop :=
  (dd = none ∧ fs = []) ∨ ∃ d ws, dd = some d ∧ H d = some (.xd ws) ∧ (Sep al n d ∧ ¬ al.fb d) ∧ RK K H al n ws fs
theorem XR.mono {K : Frag'} {H H' : Hp} {al al' : Al} {n n' : Nat} {dd : Option Addr} {fs : List (Str × DV)} (t : Lt H al n H' al' n') (h : XR K H al n dd fs) : XR K H' al' n' dd fs := by
  rcases h with h | ⟨d, ws, e, h1, h2, h3⟩
  · exact .inl h
  · obtain ⟨q1, q2, q3⟩ := t.keep d _ h1 h2.1
    exact .inr ⟨d, ws, e, q1, ⟨q2, q3 h2.2⟩, h3.mono t⟩
def OOk (K : Frag') (cm : Cm) (H : Hp) (al : Al) (n : Nat) (o : Out) (Q : VK) (E : XK) : Prop :=
  match o with
  | .ok d mu => ∀ v H' al', SR K cm H' al' mu → Lt H al n H' al' mu.length → R K H' al' mu.length v d → Q v H'
  | .exc e mu => ∀ dd H' al', SR K cm H' al' mu → Lt H al n H' al' mu.length → XR K H' al' mu.length dd e.fs → E (xcl cm e.cls) dd H'
  | .bad => False
def SOk (K : Frag') (cm : Cm) (H : Hp) (al : Al) (n : Nat) (o : SOut) (D : Ends) (W : WX) : Prop :=
  match o with
  | .nx dl mu => ∀ sg H' al', SR K cm H' al' mu → Lt H al n H' al' mu.length → SlD K H' al' mu.length sg dl → D.nx sg H'
  | .bk dl mu => ∀ sg H' al', SR K cm H' al' mu → Lt H al n H' al' mu.length → SlD K H' al' mu.length sg dl → D.bk sg H'
  | .ct dl mu => ∀ sg H' al', SR K cm H' al' mu → Lt H al n H' al' mu.length → SlD K H' al' mu.length sg dl → D.ct sg H'
  | .rt d mu => ∀ v H' al', SR K cm H' al' mu → Lt H al n H' al' mu.length → R K H' al' mu.length v d → D.rt v H'
  | .exc e dl mu => ∀ dd sg H' al', SR K cm H' al' mu → Lt H al n H' al' mu.length → SlD K H' al' mu.length sg dl → XR K H' al' mu.length dd e.fs → W (xcl cm e.cls) dd sg H'
  | .bad => False
section
variable {K : Frag'} {cm : Cm} {H H' H2 : Hp} {al al' al2 : Al} {n n' n2 : Nat} {sg : L2.St} {dl : Dl} {mu : Mu}
theorem OOk.later {o : Out} {Q : VK} {E : XK} (t : Lt H al n H' al' n') (h : OOk K cm H al n o Q E) : OOk K cm H' al' n' o Q E := by
  cases o with
  | ok d mu => exact fun v H2 al2 s u r => h v H2 al2 s (t.trans u) r
  | exc e mu => exact fun v H2 al2 s u r => h v H2 al2 s (t.trans u) r
  | bad => exact h
theorem SOk.later {o : SOut} {D : Ends} {W : WX} (t : Lt H al n H' al' n') (h : SOk K cm H al n o D W) : SOk K cm H' al' n' o D W := by
  cases o with
  | nx d mu => exact fun v H2 al2 s u r => h v H2 al2 s (t.trans u) r
  | bk d mu => exact fun v H2 al2 s u r => h v H2 al2 s (t.trans u) r
  | ct d mu => exact fun v H2 al2 s u r => h v H2 al2 s (t.trans u) r
  | rt d mu => exact fun v H2 al2 s u r => h v H2 al2 s (t.trans u) r
  | exc e d mu => exact fun v sg H2 al2 s u r => h v sg H2 al2 s (t.trans u) r
  | bad => exact h
def Out.bind (o : Out) (k : DV → Mu → Out) : Out := match o with
  | .ok d mu => k d mu
  | .exc e mu => .exc e mu
  | .bad => .bad
def SndE (K : Frag') (cm : Cm) (W : WX) (t : TE) (f : DE) : Prop := ∀ (sg : L2.St) (H : Hp) (al : Al) (dl : Dl) (mu : Mu), SR K cm H al mu → SlD K H al mu.length sg dl → ∀ Q : VK, OOk K cm H al mu.length (f dl mu) Q (fun c d H' => W c d sg H') → t sg H Q
structure PDE (cm : Cm) (X : Cx) (W : WX) (e : Expr) (f : DE) : Prop where
  ex : ∃ t, PE X e t ∧ SndE X.K cm W t f
theorem snd_bind {W : WX} {t : TE} {f : DE} {Q R1 : VK} {k : DV → Mu → Out} {E : XK} (hA : SndE K cm W t f) (s : SR K cm H al mu) (sl : SlD K H al mu.length sg dl) (hE : E = fun c d H' => W c d sg H')
    (h : OOk K cm H al mu.length ((f dl mu).bind k) Q E)
    (kont : ∀ d mu1 v H1 al1, SR K cm H1 al1 mu1 → Lt H al mu.length H1 al1 mu1.length → SlD K H1 al1 mu1.length sg dl → R K H1 al1 mu1.length v d → OOk K cm H1 al1 mu1.length (k d mu1) Q E → R1 v H1) : t sg H R1 := by
  refine hA sg H al dl mu s sl R1 ?_
  cases e : f dl mu with
  | ok d mu1 =>
    rw [e] at h
    exact fun v H1 al1 s1 t1 r1 => kont d mu1 v H1 al1 s1 t1 (sl.mono t1) r1 (OOk.later t1 h)
  | exc x mu1 =>
    rw [e] at h
    subst hE
    exact h
  | bad =>
    rw [e] at h
    exact h
end
end DM
namespace DM
open PySem PySem.Spec PyProof.Rows L2

def eVar (i : Nat) : DE := fun dl mu => match dl[i]? with
  | some (some d) => .ok d mu
  | _ => .bad
def eC (d : DV) : DE := fun _ mu => .ok d mu
section
variable {cm : Cm} {X : Cx} {W : WX} {pos : Pos}
theorem snd_var {K : Frag'} {i : Nat} : SndE K cm W (tVar i) (eVar i) := fun sg H al dl mu s sl Q h => by
  unfold eVar at h
  cases e : dl[i]? with
  | none => rw [e] at h; exact h.elim
  | some o =>
    cases o with
    | none => rw [e] at h; exact h.elim
    | some d =>
      rw [e] at h
      obtain ⟨v, h1, h2⟩ := sl.at_ i d e
      exact ⟨v, h1, h v H al s Lt.refl h2⟩
theorem pd_var (i : Nat) {x : Str} (hN : X.N[i]? = some x := by rfl) (hv : Vis X.env.scope x := by first | exact Or.inl rfl | exact Or.inr (Or.inl rfl) | exact Or.inr (Or.inr rfl)) (hd : (x == ("__debug__" : Str)) = false := by decide)
    (hcd : (x == ("__classdict__" : Str)) = false := by decide) : PDE cm X W (.Name x pos) (eVar i) := ⟨_, pe_var hN hv hd hcd, snd_var⟩
theorem snd_c {K : Frag'} {v : V} {d : DV} (h : ∀ H al n, R K H al n v d) : SndE K cm W (tC v) (eC d) := fun sg H al dl mu s sl Q q => q v H al s Lt.refl (h H al _)
theorem pd_int {i j} : PDE cm X W (.Constant (.int i) j pos) (eC (.int i)) := ⟨_, pe_int, snd_c fun _ _ _ => .int i⟩
theorem pd_bl {b j} : PDE cm X W (.Constant (.bool b) j pos) (eC (.bl b)) := ⟨_, pe_bl, snd_c fun _ _ _ => .bl b⟩
theorem pd_str (l : List Nat) {x j} (h : x = Sx l := by decide +kernel) : PDE cm X W (.Constant (.str x) j pos) (eC (.str l)) := by
  subst h
  exact ⟨_, pe_str, snd_c fun _ _ _ => .str l⟩
theorem pd_ty {x : Str} {n : String} (hg : Gl X x) (hm : X.mg x = none) (hv : bootBuiltins x = some (.type n)) (hn : x ≠ "__name__" := by decide) (hd : (x == ("__debug__" : Str)) = false := by decide) : PDE cm X W (.Name x pos) (eC (.ty n)) :=
  ⟨_, pe_bltn (v := .ty n) hg hm hv rfl hn hd, snd_c fun _ _ _ => .ty n⟩
end

def lift : Option DV → Mu → Out
  | some d, mu => .ok d mu
  | none, _ => .bad
abbrev G2 := DV → DV → Mu → Option DV
def eOp (g : G2) (fa fb : DE) : DE := fun dl mu => (fa dl mu).bind fun x m1 => (fb dl m1).bind fun y m2 => lift (g x y m2) m2
def RS (K : Frag') (cm : Cm) (r : R2) (g : G2) : Prop := ∀ (H : Hp) (al : Al) (mu : Mu) (x y : V) (dx dy d : DV) (Q : VK), SR K cm H al mu → R K H al mu.length x dx → R K H al mu.length y dy → g dx dy mu = some d →
  (∀ v H', SR K cm H' al mu → Lt H al mu.length H' al mu.length → R K H' al mu.length v d → Q v H') → r x y H Q
section
variable {K : Frag'} {cm : Cm} {X : Cx} {W : WX} {pos : Pos} {a b : Expr} {fa fb : DE} {g g' : G2} {r r' : R2} {ta tb : TE}
theorem snd_op (hr : RS K cm r g) (ha : SndE K cm W ta fa) (hb : SndE K cm W tb fb) : SndE K cm W (tOp r ta tb) (eOp g fa fb) := fun sg H al dl mu s sl Q h => by
    refine snd_bind (R1 := fun x H1 => tb sg H1 fun y H2 => r x y H2 Q) ha s sl rfl h fun x m1 v1 H1 al1 s1 t1 sl1 r1 h1 => ?_
    refine snd_bind (R1 := fun y H2 => r v1 y H2 Q) hb s1 sl1 rfl h1 fun y m2 v2 H2 al2 s2 t2 sl2 r2 h2 => ?_
    cases e : g x y m2 with
    | none => rw [e] at h2; exact h2.elim
    | some d =>
      rw [e] at h2
      exact hr H2 al2 m2 v1 v2 x y d Q s2 (r1.mono t2) r2 e fun v H' s' t' r' => h2 v H' al2 s' t' r'
theorem pd_op {op : Operator} (ho : OpR X (binaryOp op) r) (hr : RS X.K cm r g) (ha : PDE cm X W a fa) (hb : PDE cm X W b fb) : PDE cm X W (.BinOp a op b pos) (eOp g fa fb) := by
  obtain ⟨ta, pa, sa⟩ := ha.ex
  obtain ⟨tb, pb, sb⟩ := hb.ex
  exact ⟨_, pe_op ho pa pb, snd_op hr sa sb⟩
theorem pd_cmp {op : CmpOp} (ho : OpR X (compareOp op) r) (hr : RS X.K cm r g) (ha : PDE cm X W a fa) (hb : PDE cm X W b fb) (hm : behindInMarks op b = false) : PDE cm X W (.Compare a [op] [b] pos) (eOp g fa fb) := by
  obtain ⟨ta, pa, sa⟩ := ha.ex
  obtain ⟨tb, pb, sb⟩ := hb.ex
  exact ⟨_, pe_cmpR ho pa pb hm, snd_op hr sa sb⟩
theorem OpR_or {f : Value → Value → Sem Value} (h : OpR X f r) (h' : OpR X f r') : OpR X f (fun x y H Q => r x y H Q ∨ r' x y H Q) := fun pins s σ H x y v u Q I r1 r2 q =>
  q.elim (h pins s σ H x y v u Q I r1 r2) (h' pins s σ H x y v u Q I r1 r2)
end
def lstOf (mu : Mu) : DV → Option (List DV)
  | .lst ds => some ds
  | .obj k => match mu[k]? with
    | some (.lst ds) => some ds
    | some (.lstF ds) => some ds
    | _ => none
  | _ => none
section
variable {K : Frag'} {cm : Cm} {H : Hp} {al : Al} {mu : Mu}
theorem lst_of {v : V} {d : DV} {ds : List DV} (s : SR K cm H al mu) (r : R K H al mu.length v d) (h : lstOf mu d = some ds) : ∃ a xs, v = .ref a ∧ SqL K H a xs ∧ RA K H al mu.length xs ds := by
  cases r with
  | lst hl ra => cases h; exact ⟨_, _, rfl, hl.sq, ra⟩
  | @obj k hk =>
    have h : (match mu[k]? with | some (.lst ds) => some ds | some (.lstF ds) => some ds | _ => none) = some ds := h
    cases e : mu[k]? with
    | none => rw [e] at h; cases h
    | some m =>
      cases m with
      | lst es =>
        rw [e] at h; cases h
        obtain ⟨xs, h1, h2⟩ := s.ob k _ e
        exact ⟨_, xs, rfl, SqL.of h1, h2⟩
      | lstF es =>
        rw [e] at h; cases h
        obtain ⟨od, xs, h1, h2⟩ := s.ob k _ e
        exact ⟨_, xs, rfl, .inl (.inr ⟨od, h1⟩), h2⟩
      | dic _ => rw [e] at h; cases h
      | ins _ _ | dicF _ => rw [e] at h; cases h
  | _ => cases h
end

def gI (C : Int → Int → Prop) [∀ i j, Decidable (C i j)] (f : Int → Int → DV) : G2
  | .int i, .int j, _ => if C i j then some (f i j) else none
  | _, _, _ => none
def gI0 (f : Int → Int → DV) : G2
  | .int i, .int j, _ => some (f i j)
  | _, _, _ => none
theorem rs_I {K : Frag'} {cm : Cm} {C : Int → Int → Prop} [∀ i j, Decidable (C i j)] {C' : Int → Int → Prop} {f : Int → Int → V} {f' : Int → Int → DV} (hc : ∀ i j, C i j → C' i j) (h : ∀ i j H al n, C i j → R K H al n (f i j) (f' i j)) : RS K cm (rI C' f) (gI C f') := fun H al mu x y dx dy d Q s r1 r2 e k => by
  cases dx <;> cases dy <;> try (cases e; done)
  rename_i i j
  cases r1; cases r2
  by_cases c : C i j
  · have e : (if C i j then some (f' i j) else none) = some d := e
    rw [if_pos c] at e
    cases e
    exact ⟨_, _, rfl, rfl, hc _ _ c, k _ H s Lt.refl (h _ _ _ _ _ c)⟩
  · have e : (if C i j then some (f' i j) else none) = some d := e
    rw [if_neg c] at e
    cases e
abbrev gMul : G2 := gI (fun i j => (-18446744073709551616 < i ∧ i < 18446744073709551616) ∨ (-18446744073709551616 < j ∧ j < 18446744073709551616)) fun i j => .int (i * j)
abbrev gDiv : G2 := gI (fun _ j => 0 < j ∧ j < 1073741824) fun i j => .int (i / j)
abbrev gMod : G2 := gI (fun _ j => 0 < j) fun i j => .int (i % j)
abbrev gShl : G2 := gI (fun i j => 0 ≤ j ∧ j ≤ 1000000 ∧ i.natAbs < 18446744073709551616) fun i j => .int (i * 2 ^ j.toNat)
abbrev gShr : G2 := gI (fun _ j => 0 ≤ j) fun i j => .int (i / 2 ^ j.toNat)
abbrev gAnd : G2 := gI0 fun i j => .int (Builtin.bitAnd i j)
abbrev gOr : G2 := gI0 fun i j => .int (Builtin.bitOr i j)
abbrev gXor : G2 := gI0 fun i j => .int (Builtin.bitXor i j)
abbrev gLt0 : G2 := gI0 fun i j => .bl (decide (i < j))
abbrev gLe : G2 := gI0 fun i j => .bl (decide (i ≤ j))
def gAdd : G2
  | .int i, .int j, _ => some (.int (i + j))
  | .str a, .str b, _ => if a.length + b.length ≤ 1000000 then some (.str (a ++ b)) else none
  | x, y, mu => match lstOf mu x, lstOf mu y with
    | some a, some b => if a.length + b.length ≤ 1000000 then some (.lst (a ++ b)) else none
    | _, _ => none
section
variable {K : Frag'} {cm : Cm} {X : Cx} {W : WX} {pos : Pos} {a b : Expr} {fa fb : DE}
theorem pd_mul (ha : PDE cm X W a fa) (hb : PDE cm X W b fb) : PDE cm X W (.BinOp a .Mult b pos) (eOp gMul fa fb) := pd_op op_mul (rs_I (fun i j h => by unfold CMul; exact h) fun _ _ _ _ _ _ => .int _) ha hb
theorem pd_mod (ha : PDE cm X W a fa) (hb : PDE cm X W b fb) : PDE cm X W (.BinOp a .Mod b pos) (eOp gMod fa fb) := pd_op op_mod (rs_I (fun i j h => h) fun _ _ _ _ _ _ => .int _) ha hb
def rCatL (K : Frag') : R2 := fun x y H Q => ∃ l b xs zs, x = .ref l ∧ y = .ref b ∧ SqL K H l xs ∧ SqL K H b zs ∧ xs.length + zs.length ≤ sizeLine ∧ ∀ p, H p = none → Q (.ref p) (upd H p (.lst (xs ++ zs)))
theorem op_catL : OpR X (binaryOp .Add) (rCatL X.K) := by
  intro pins s σ H x y v u Q I rx ry h
  obtain ⟨l, b, xs, zs, rfl, rfl, hH, hB, hz, q⟩ := h
  cases rx
  cases ry
  obtain ⟨its, rv, ⟨o, n, ho, hc, hdi, hd⟩, _⟩ := I.list hH
  obtain ⟨its2, rv2, ⟨o2, n2, ho2, hc2, hdi2, hd2⟩, _⟩ := I.list hB
  have hl := rv.length
  have hl2 := rv2.length
  obtain ⟨cls, dd, data, slt⟩ := o
  obtain ⟨cls2, dd2, data2, slt2⟩ := o2
  simp only at hc hd hdi hc2 hd2 hdi2
  subst hc hd hdi hc2 hd2 hdi2
  have ea : its.toArray ++ its2.toArray = (its ++ its2).toArray := by simp
  refine concat_meets ⟨_, ho, rfl⟩ ⟨_, ho2, rfl⟩ noFill_list_add seq_list_add F.slot_list_add F.entry_list_add (F.args_list_add_2 _ _) (PyProof.Rows.list_addW l b its.toArray its2.toArray n n2 none none slt slt2 (by rw [List.size_toArray, List.size_toArray]; omega)) ⟨ho, ho2, ?_⟩
  rw [ea]
  exact ⟨.ref _, _, I.lnew (t' := s.toks) (rv.append rv2) (by rw [List.length_append]; omega), rfl, q _ I.fresh⟩
theorem line_big {n : Nat} (h : n ≤ 1000000) : n ≤ sizeLine := Nat.le_trans h (by decide)
theorem rs_add : RS K cm (fun x y H Q => rI0 (fun i j => V.int (i + j)) x y H Q ∨ ((∃ i j, x = .str i ∧ y = .str j ∧ i.length + j.length ≤ sizeLine ∧ Q (.str (i ++ j)) H) ∨ rCatL K x y H Q)) gAdd := fun H al mu x y dx dy d Q s r1 r2 e k => by
  have lists : ∀ {a b : List DV}, lstOf mu dx = some a → lstOf mu dy = some b → (if a.length + b.length ≤ 1000000 then some (DV.lst (a ++ b)) else none) = some d → rCatL K x y H Q := fun {a b} ea eb e => by
    obtain ⟨l1, xs, rfl, h1, q1⟩ := lst_of s r1 ea
    obtain ⟨l2, ys, rfl, h2, q2⟩ := lst_of s r2 eb
    by_cases c : a.length + b.length ≤ 1000000
    · rw [if_pos c] at e
      cases e
      refine ⟨l1, l2, xs, ys, rfl, rfl, h1, h2, line_big (by rw [q1.len, q2.len]; exact c), fun p hp => ?_⟩
      have t : Lt H al mu.length (upd H p (.lst (xs ++ ys))) al mu.length := Lt.new (mu := mu) hp
      exact k _ _ (s.new hp) t (.lst (.inl ⟨.inl upd_same, s.sep hp, s.nf hp⟩) ((q1.app q2).mono t))
    · rw [if_neg c] at e
      cases e
  have other : (match lstOf mu dx, lstOf mu dy with | some a, some b => if a.length + b.length ≤ 1000000 then some (DV.lst (a ++ b)) else none | _, _ => none) = some d → rCatL K x y H Q := fun e => by
    cases ea : lstOf mu dx with
    | none => rw [ea] at e; cases e
    | some a =>
      cases eb : lstOf mu dy with
      | none => rw [ea, eb] at e; cases e
      | some b => rw [ea, eb] at e; exact lists ea eb e
  cases dx with
  | int i =>
    cases dy with
    | int j => cases r1; cases r2; cases e; exact .inl ⟨_, _, rfl, rfl, k _ H s Lt.refl (.int _)⟩
    | _ => exact .inr (.inr (other e))
  | str i =>
    cases dy with
    | str j =>
      cases r1; cases r2
      have e : (if i.length + j.length ≤ 1000000 then some (DV.str (i ++ j)) else none) = some d := e
      by_cases c : i.length + j.length ≤ 1000000
      · rw [if_pos c] at e
        cases e
        refine .inr (.inl ⟨_, _, rfl, rfl, line_big (by rw [SX.S_len, SX.S_len]; exact c), ?_⟩)
        rw [SX.S_cat]
        exact k _ H s Lt.refl (.str _)
      · rw [if_neg c] at e
        cases e
    | _ => exact .inr (.inr (other e))
  | _ => exact .inr (.inr (other e))
theorem pd_add (ha : PDE cm X W a fa) (hb : PDE cm X W b fb) : PDE cm X W (.BinOp a .Add b pos) (eOp gAdd fa fb) := pd_op (OpR_or op_add (OpR_or op_add_str op_catL)) rs_add ha hb
end

def pdF : Nat → Mu → DV → Option PyData
  | 0, _, _ => none
  | _ + 1, _, .non => some .none
  | _ + 1, _, .bl b => some (.bool b)
  | _ + 1, _, .int i => some (.int i)
  | _ + 1, _, .str l => if l.all (· < 1114112) then some (.str (Sx l)) else none
  | _ + 1, _, .ty _ => none
  | f + 1, mu, .lst ds => (ds.mapM (pdF f mu)).map .list
  | f + 1, mu, .tup ds => (ds.mapM (pdF f mu)).map .tuple
  | f + 1, mu, .obj k => match mu[k]? with
    | some (.lst ds) => (ds.mapM (pdF f mu)).map .list
    | _ => none
def gEqB (x y : DV) (mu : Mu) : Option Bool := match x, y with
  | .non, .non => some true
  | .non, .int _ => some false | .int _, .non => some false | .non, .bl _ => some false | .bl _, .non => some false | .non, .str _ => some false | .str _, .non => some false
  | .int i, .int j => some (decide (i = j))
  | .bl i, .bl j => some (decide (i = j))
  | .str i, .str j => some (decide (i = j))
  | .int _, .str _ => some false | .str _, .int _ => some false | .bl _, .str _ => some false | .str _, .bl _ => some false
  | x, y => match pdF 8 mu x, pdF 8 mu y with
    | some a, some b => some (PyData.eqv a b)
    | _, _ => none
def gEq : G2 := fun x y mu => (gEqB x y mu).map .bl
def gNe : G2 := fun x y mu => (gEqB x y mu).map fun b => .bl (!b)
section
variable {K : Frag'} {cm : Cm} {X : Cx} {W : WX} {pos : Pos} {a b : Expr} {fa fb : DE} {H : Hp} {al : Al} {mu : Mu}
theorem pdAll {f : Nat} (ih : ∀ {v : V} {d : DV} {p : PyData}, R K H al mu.length v d → pdF f mu d = some p → Dp K H v p ∧ p.canLay0 = true ∧ p.depth ≤ f) :
    ∀ {vs : List V} {ds : List DV} {ps : List PyData}, RA K H al mu.length vs ds → ds.mapM (pdF f mu) = some ps → DpAll K H vs ps ∧ PyData.canLayAll0 ps = true ∧ PyData.depthAll ps ≤ f
  | _, _, _, .nil, e => by
    cases e
    exact ⟨.nil, by simp [PyData.canLayAll0], by simp [PyData.depthAll]⟩
  | _, _, _, .cons (d := d) (ds := ds) r q, e => by
    rw [List.mapM_cons] at e
    cases e1 : pdF f mu d with
    | none => rw [e1] at e; cases e
    | some p =>
      cases e2 : ds.mapM (pdF f mu) with
      | none => rw [e1, e2] at e; cases e
      | some ps' =>
        rw [e1, e2] at e
        cases e
        obtain ⟨h1, h2, h3⟩ := ih r e1
        obtain ⟨g1, g2, g3⟩ := pdAll ih q e2
        refine ⟨.cons h1 g1, ?_, ?_⟩
        · show (p.canLay0 && PyData.canLayAll0 ps') = true
          rw [h2, g2] <;> rfl
        · show max p.depth (PyData.depthAll ps') ≤ f
          omega
theorem pd_ok (s : SR K cm H al mu) : ∀ {f : Nat} {v : V} {d : DV} {p : PyData}, R K H al mu.length v d → pdF f mu d = some p → Dp K H v p ∧ p.canLay0 = true ∧ p.depth ≤ f
  | 0, _, _, _, _, e => by cases e
  | f + 1, v, d, p, r, e => by
    cases d with
    | non => cases r; cases e; exact ⟨.non, rfl, Nat.zero_le _⟩
    | bl b => cases r; cases e; exact ⟨.bl b, rfl, Nat.zero_le _⟩
    | int b => cases r; cases e; exact ⟨.int b, rfl, Nat.zero_le _⟩
    | ty b => cases e
    | str l =>
      cases r
      have e : (if l.all (· < 1114112) then some (PyData.str (Sx l)) else none) = some p := e
      by_cases c : l.all (· < 1114112) = true
      · rw [if_pos c] at e
        cases e
        refine ⟨.str _, ?_, Nat.zero_le _⟩
        show PyData.strOk (Sx l) = true
        show (Sx l).cps.all (· < 0x110000) = true
        rw [← Array.all_toList]
        exact c
      · rw [if_neg c] at e
        cases e
    | lst ds =>
      cases r with
      | lst hl ra =>
        have e : (ds.mapM (pdF f mu)).map PyData.list = some p := e
        cases e2 : ds.mapM (pdF f mu) with
        | none => rw [e2] at e; cases e
        | some ps =>
          rw [e2] at e
          cases e
          obtain ⟨g1, g2, g3⟩ := pdAll (pd_ok s) ra e2
          exact ⟨.lst hl.sq g1, g2, Nat.succ_le_succ g3⟩
    | tup ds =>
      cases r with
      | tup hl ra =>
        have e : (ds.mapM (pdF f mu)).map PyData.tuple = some p := e
        cases e2 : ds.mapM (pdF f mu) with
        | none => rw [e2] at e; cases e
        | some ps =>
          rw [e2] at e
          cases e
          obtain ⟨g1, g2, g3⟩ := pdAll (pd_ok s) ra e2
          exact ⟨.tup hl.sq g1, g2, Nat.succ_le_succ g3⟩
    | obj k =>
      have e : (match mu[k]? with | some (.lst ds) => (ds.mapM (pdF f mu)).map PyData.list | _ => none) = some p := e
      cases em : mu[k]? with
      | none => rw [em] at e; cases e
      | some m =>
        cases m with
        | lst es =>
          rw [em] at e
          have e : (es.mapM (pdF f mu)).map PyData.list = some p := e
          obtain ⟨l, xs, rfl, h1, q1⟩ := lst_of (ds := es) s r (by show (match mu[k]? with | some (.lst ds) => some ds | some (.lstF ds) => some ds | _ => none) = some es; rw [em])
          cases e2 : es.mapM (pdF f mu) with
          | none => rw [e2] at e; cases e
          | some ps =>
            rw [e2] at e
            cases e
            obtain ⟨g1, g2, g3⟩ := pdAll (pd_ok s) q1 e2
            exact ⟨.lst h1 g1, g2, Nat.succ_le_succ g3⟩
        | dic _ => rw [em] at e; cases e
        | ins _ _ | lstF _ | dicF _ => rw [em] at e; cases e
theorem shaped8 {p : PyData} (h : p.canLay0 = true) (d : p.depth ≤ 8) : SeqAt.shaped p = true := by
  unfold SeqAt.shaped
  rw [h, Bool.true_and]
  exact decide_eq_true (Nat.le_trans d (by decide))
theorem eq_core (s : SR K cm H al mu) {x y : V} {dx dy : DV} {c : Bool} (r1 : R K H al mu.length x dx) (r2 : R K H al mu.length y dy) (e : gEqB dx dy mu = some c) :
    (scal x y = true ∧ decide (x = y) = c) ∨ ∃ p q, Dp K H x p ∧ Dp K H y q ∧ SeqAt.shaped p = true ∧ SeqAt.shaped q = true ∧ PyData.eqv p q = c := by
  have other : (match pdF 8 mu dx, pdF 8 mu dy with | some a, some b => some (PyData.eqv a b) | _, _ => none) = some c → ∃ p q, Dp K H x p ∧ Dp K H y q ∧ SeqAt.shaped p = true ∧ SeqAt.shaped q = true ∧ PyData.eqv p q = c := fun e => by
    cases ea : pdF 8 mu dx with
    | none => rw [ea] at e; cases e
    | some p =>
      cases eb : pdF 8 mu dy with
      | none => rw [ea, eb] at e; cases e
      | some q =>
        rw [ea, eb] at e
        cases e
        obtain ⟨h1, h2, h3⟩ := pd_ok s r1 ea
        obtain ⟨g1, g2, g3⟩ := pd_ok s r2 eb
        exact ⟨p, q, h1, g1, shaped8 h2 h3, shaped8 g2 g3, rfl⟩
  cases dx <;> cases dy <;> first
    | exact .inr (other e)
    | (cases r1; cases r2; cases e; left; refine ⟨rfl, ?_⟩; first | rfl | (simp; done) | (simp [SX.S]; done))
theorem rs_eq : RS K cm (fun x y H Q => rEq x y H Q ∨ rEqD K x y H Q) gEq := fun H al mu x y dx dy d Q s r1 r2 e k => by
  have e : (gEqB dx dy mu).map DV.bl = some d := e
  cases ec : gEqB dx dy mu with
  | none => rw [ec] at e; cases e
  | some c =>
    rw [ec] at e
    cases e
    rcases eq_core s r1 r2 ec with ⟨h1, h2⟩ | ⟨p, q, h1, h2, h3, h4, h5⟩
    · exact .inl ⟨h1, by rw [h2]; exact k _ H s Lt.refl (.bl c)⟩
    · exact .inr ⟨p, q, h1, h2, h3, h4, by rw [h5]; exact k _ H s Lt.refl (.bl c)⟩
theorem rs_ne : RS K cm (fun x y H Q => rNe x y H Q ∨ rNeD K x y H Q) gNe := fun H al mu x y dx dy d Q s r1 r2 e k => by
  have e : (gEqB dx dy mu).map (fun b => DV.bl (!b)) = some d := e
  cases ec : gEqB dx dy mu with
  | none => rw [ec] at e; cases e
  | some c =>
    rw [ec] at e
    cases e
    rcases eq_core s r1 r2 ec with ⟨h1, h2⟩ | ⟨p, q, h1, h2, h3, h4, h5⟩
    · exact .inl ⟨h1, by rw [h2]; exact k _ H s Lt.refl (.bl _)⟩
    · exact .inr ⟨p, q, h1, h2, h3, h4, by rw [h5]; exact k _ H s Lt.refl (.bl _)⟩
theorem pd_eq {k : Nat} (hr : Room k X.A) (ha : PDE cm X W a fa) (hb : PDE cm X W b fb) (hm : behindInMarks .Eq b = false := by first | exact nobehind _ (by decide) (by decide) | rfl) : PDE cm X W (.Compare a [.Eq] [b] pos) (eOp gEq fa fb) := pd_cmp (OpR_or op_eq (op_eqD hr.units)) rs_eq ha hb hm
end
end DM
namespace DM
open PySem PySem.Spec PyProof.Rows L2

def gIsN : G2 := fun x y _ => match y with
  | .non => (match x with | .non => some (.bl true) | _ => some (.bl false))
  | _ => none
def flatD : DV → Bool
  | .non => true | .bl _ => true | .int _ => true | .str _ => true | _ => false
def eqD0 : DV → DV → Bool
  | .non, .non => true
  | .bl a, .bl b => a == b
  | .bl a, .int j => (if a then 1 else 0) == j
  | .int i, .bl b => i == (if b then 1 else 0)
  | .int i, .int j => i == j
  | .str a, .str b => decide (a = b)
  | _, _ => false
def inD (x : DV) (ds : List DV) : Bool := ds.any fun y => eqD0 y x
def gInB (x y : DV) (mu : Mu) : Option Bool := match y with
  | .str z => match x with
    | .str [c] => some (decide (c ∈ z))
    | _ => none
  | .tup ds => if flatD x && ds.all flatD then some (inD x ds) else none
  | y => match lstOf mu y with
    | some ds => if flatD x && ds.all flatD then some (inD x ds) else none
    | none => none
def gIn : G2 := fun x y mu => (gInB x y mu).map .bl
section
variable {K : Frag'} {cm : Cm} {X : Cx} {W : WX} {pos : Pos} {a b c : Expr} {fa fb fc : DE} {H : Hp} {al : Al} {mu : Mu} {n : Nat}
def gIx : G2
  | .str z, .int i, _ => if z.length ≤ 1000000 then (atI z i).map fun c => .str [c] else none
  | .tup ds, .int i, _ => atI ds i
  | x, .int i, mu => match lstOf mu x with
    | some ds => atI ds i
    | none => none
  | _, _, _ => none
theorem atI_RA {vs : List V} {ds : List DV} (ra : RA K H al n vs ds) {i : Int} {d : DV} (h : atI ds i = some d) : ∃ v, atI vs i = some v ∧ R K H al n v d := by
  unfold atI at h ⊢
  rw [ra.len]
  cases e : ixN ds.length i with
  | none => rw [e] at h; cases h
  | some j =>
    rw [e] at h
    exact ra.get h
theorem rs_ix : RS K cm (rIx K) gIx := fun H al mu x y dx dy d Q s r1 r2 e k => by
  cases dy <;> try (cases dx <;> cases e; done)
  rename_i i
  cases r2
  have other : (match lstOf mu dx with | some ds => atI ds i | none => none) = some d → rIxL K x (.int i) H Q := fun e => by
    cases el : lstOf mu dx with
    | none => rw [el] at e; cases e
    | some ds =>
      rw [el] at e
      obtain ⟨p, xs, rfl, h1, h2⟩ := lst_of s r1 el
      obtain ⟨v, h3, h4⟩ := atI_RA h2 e
      exact ⟨p, xs, i, v, rfl, rfl, h1, h3, k _ H s Lt.refl h4⟩
  cases dx with
  | str z =>
    cases r1
    have e : (if z.length ≤ 1000000 then (atI z i).map fun c => DV.str [c] else none) = some d := e
    by_cases c : z.length ≤ 1000000
    · rw [if_pos c] at e
      cases ea : atI z i with
      | none => rw [ea] at e; cases e
      | some c' =>
        rw [ea] at e
        cases e
        exact .inr (.inr ⟨Sx z, i, c', rfl, rfl, line_big (by rw [SX.S_len]; exact c), ea, k _ H s Lt.refl (.str [c'])⟩)
    · rw [if_neg c] at e
      cases e
  | tup ds =>
    cases r1 with
    | tup hl ra =>
      obtain ⟨v, h3, h4⟩ := atI_RA ra e
      exact .inr (.inl ⟨_, _, i, v, rfl, rfl, hl.sq, h3, k _ H s Lt.refl h4⟩)
  | _ => exact .inl (other e)
theorem pd_ix (ha : PDE cm X W a fa) (hb : PDE cm X W b fb) (hs : PlainIx b := by intro _ _; rfl) : PDE cm X W (.Subscript a b pos) (eOp gIx fa fb) := by
  obtain ⟨ta, pa, sa⟩ := ha.ex
  obtain ⟨tb, pb, sb⟩ := hb.ex
  exact ⟨_, pe_ix ix_seq pa pb hs, snd_op rs_ix sa sb⟩
end

inductive AOut where
  | ok (ds : List DV) (m : Mu) | exc (e : Ex) (m : Mu) | bad
def evA : List DE → Dl → Mu → AOut
  | [], _, mu => .ok [] mu
  | f :: fs, dl, mu => match f dl mu with
    | .ok d m1 => (match evA fs dl m1 with
      | .ok ds m2 => .ok (d :: ds) m2
      | .exc e m2 => .exc e m2
      | .bad => .bad)
    | .exc e m1 => .exc e m1
    | .bad => .bad
def AOut.out (a : AOut) (k : List DV → Mu → Out) : Out := match a with
  | .ok ds m => k ds m
  | .exc e m => .exc e m
  | .bad => .bad
def eArgs (fs : List DE) (dl : Dl) (mu : Mu) (k : List DV → Mu → Out) : Out := (evA fs dl mu).out k
def AOk (K : Frag') (cm : Cm) (H : Hp) (al : Al) (n : Nat) (o : AOut) (R1 : List V → Hp → Prop) (E : XK) : Prop := match o with
  | .ok ds mu => ∀ vs H' al', SR K cm H' al' mu → Lt H al n H' al' mu.length → RA K H' al' mu.length vs ds → R1 vs H'
  | .exc e mu => ∀ dd H' al', SR K cm H' al' mu → Lt H al n H' al' mu.length → XR K H' al' mu.length dd e.fs → E (xcl cm e.cls) dd H'
  | .bad => False
def SndA (K : Frag') (cm : Cm) (W : WX) (t : TA) (fs : List DE) : Prop := ∀ (sg : L2.St) (H : Hp) (al : Al) (dl : Dl) (mu : Mu), SR K cm H al mu → SlD K H al mu.length sg dl → ∀ R1 : List V → Hp → Prop,
  AOk K cm H al mu.length (evA fs dl mu) R1 (fun c d H' => W c d sg H') → t sg H R1
theorem args_bind {K : Frag'} {cm : Cm} {W : WX} {t : TA} {fs : List DE} (hA : SndA K cm W t fs) (sg : L2.St) (H : Hp) (al : Al) (dl : Dl) (mu : Mu) (R1 : List V → Hp → Prop) (Q : VK) (E : XK) (k : List DV → Mu → Out) (s : SR K cm H al mu) (sl : SlD K H al mu.length sg dl) (hE : E = (fun c d H' => W c d sg H'))
    (h : OOk K cm H al mu.length (eArgs fs dl mu k) Q E)
    (kont : ∀ ds m1 vs H1 al1, SR K cm H1 al1 m1 → Lt H al mu.length H1 al1 m1.length → SlD K H1 al1 m1.length sg dl → RA K H1 al1 m1.length vs ds → OOk K cm H1 al1 m1.length (k ds m1) Q E → R1 vs H1) : t sg H R1 := by
  refine hA sg H al dl mu s sl R1 ?_
  have h : OOk K cm H al mu.length ((evA fs dl mu).out k) Q E := h
  cases e : evA fs dl mu with
  | ok ds m1 =>
    rw [e] at h
    exact fun vs H1 al1 s1 t1 r1 => kont ds m1 vs H1 al1 s1 t1 (sl.mono t1) r1 (OOk.later t1 h)
  | exc x m1 =>
    rw [e] at h
    subst hE
    exact h
  | bad => rw [e] at h; exact h
theorem AOk.later {K : Frag'} {cm : Cm} {H H' : Hp} {al al' : Al} {n n' : Nat} {o : AOut} {Q : List V → Hp → Prop} {E : XK} (t : Lt H al n H' al' n') (h : AOk K cm H al n o Q E) : AOk K cm H' al' n' o Q E := by
  cases o with
  | ok d mu => exact fun v H2 al2 s u r => h v H2 al2 s (t.trans u) r
  | exc e mu => exact fun v H2 al2 s u r => h v H2 al2 s (t.trans u) r
  | bad => exact h
structure PDA (cm : Cm) (X : Cx) (W : WX) (es : List Expr) (fs : List DE) : Prop where
  ex : ∃ t, PA X es t ∧ SndA X.K cm W t fs
def eTup (fs : List DE) : DE := fun dl mu => eArgs fs dl mu fun ds m => if ds.length ≤ 1000000 then .ok (.tup ds) m else .bad
def eLst (fs : List DE) : DE := fun dl mu => eArgs fs dl mu fun ds m => if ds.length ≤ 1000000 then .ok (.lst ds) m else .bad
section
variable {K : Frag'} {cm : Cm} {X : Cx} {W : WX} {pos : Pos} {e : Expr} {es : List Expr} {f : DE} {fs : List DE} {te : TE} {t : TA}
theorem snd_nil : SndA K cm W tNil [] := fun sg H al dl mu s sl R1 h => h [] H al s Lt.refl .nil
theorem snd_cons (ha : SndE K cm W te f) (hr : SndA K cm W t fs) : SndA K cm W (tCons te t) (f :: fs) := fun sg H al dl mu s sl R1 h => by
  refine ha sg H al dl mu s sl _ ?_
  have h : AOk K cm H al mu.length (match f dl mu with | .ok d m1 => (match evA fs dl m1 with | .ok ds m2 => .ok (d :: ds) m2 | .exc e m2 => .exc e m2 | .bad => .bad) | .exc e m1 => .exc e m1 | .bad => .bad) R1 _ := h
  cases e : f dl mu with
  | bad => rw [e] at h; exact h
  | exc x m1 => rw [e] at h; exact h
  | ok d m1 =>
    rw [e] at h
    refine fun v H1 al1 s1 t1 r1 => hr sg H1 al1 dl m1 s1 (sl.mono t1) _ ?_
    have h : AOk K cm H al mu.length (match evA fs dl m1 with | .ok ds m2 => .ok (d :: ds) m2 | .exc e m2 => .exc e m2 | .bad => .bad) R1 _ := h
    cases e2 : evA fs dl m1 with
    | bad => rw [e2] at h; exact h
    | exc x m2 => rw [e2] at h; exact AOk.later t1 (o := .exc x m2) h
    | ok ds m2 =>
      rw [e2] at h
      exact fun vs H2 al2 s2 t2 r2 => h (v :: vs) H2 al2 s2 (t1.trans t2) (.cons (r1.mono t2) r2)
theorem pda_nil : PDA cm X W [] [] := ⟨_, pa_nil, snd_nil⟩
theorem pda_cons (ha : PDE cm X W e f) (hr : PDA cm X W es fs) (hs : starEach (e :: es) X.env = (false, eval e X.env) :: starEach es X.env := by rfl) : PDA cm X W (e :: es) (f :: fs) := by
  obtain ⟨ta, pa, sa⟩ := ha.ex
  obtain ⟨tb, pb, sb⟩ := hr.ex
  exact ⟨_, pa_cons pa pb hs, snd_cons sa sb⟩
theorem snd_tup (h : SndA K cm W t fs) : SndE K cm W (tTup t) (eTup fs) := fun sg H al dl mu s sl Q q => by
  refine args_bind h sg H al dl mu _ Q _ _ s sl rfl q fun ds m1 vs H1 al1 s1 t1 sl1 r1 h1 => ?_
  have h1 : OOk K cm H1 al1 m1.length (if ds.length ≤ 1000000 then Out.ok (DV.tup ds) m1 else .bad) Q _ := h1
  by_cases c : ds.length ≤ 1000000
  · rw [if_pos c] at h1
    refine ⟨line_big (by rw [r1.len]; exact c), fun p hp => ?_⟩
    have tt : Lt H1 al1 m1.length (upd H1 p (.tup vs)) al1 m1.length := Lt.new (mu := m1) hp
    exact h1 _ _ al1 (s1.new hp) tt (.tup (.inl ⟨.inl upd_same, s1.sep hp, s1.nf hp⟩) (r1.mono tt))
  · rw [if_neg c] at h1
    exact h1.elim
theorem snd_lst (h : SndA K cm W t fs) : SndE K cm W (tLst t) (eLst fs) := fun sg H al dl mu s sl Q q => by
  refine args_bind h sg H al dl mu _ Q _ _ s sl rfl q fun ds m1 vs H1 al1 s1 t1 sl1 r1 h1 => ?_
  have h1 : OOk K cm H1 al1 m1.length (if ds.length ≤ 1000000 then Out.ok (DV.lst ds) m1 else .bad) Q _ := h1
  by_cases c : ds.length ≤ 1000000
  · rw [if_pos c] at h1
    refine ⟨line_big (by rw [r1.len]; exact c), fun p hp => ?_⟩
    have tt : Lt H1 al1 m1.length (upd H1 p (.lst vs)) al1 m1.length := Lt.new (mu := m1) hp
    exact h1 _ _ al1 (s1.new hp) tt (.lst (.inl ⟨.inl upd_same, s1.sep hp, s1.nf hp⟩) (r1.mono tt))
  · rw [if_neg c] at h1
    exact h1.elim
theorem pd_tup {x1} (h : PDA cm X W es fs) : PDE cm X W (.Tuple es x1 pos) (eTup fs) := let ⟨_, p, s⟩ := h.ex; ⟨_, pe_tup p, snd_tup s⟩
theorem pd_lst (h : PDA cm X W es fs) : PDE cm X W (.List es pos) (eLst fs) := let ⟨_, p, s⟩ := h.ex; ⟨_, pe_lst p, snd_lst s⟩
end

def SndT (K : Frag') (cm : Cm) (W : WX) (t : TT) (f : DE) : Prop := ∀ (sg : L2.St) (H : Hp) (al : Al) (dl : Dl) (mu : Mu), SR K cm H al mu → SlD K H al mu.length sg dl → ∀ R1 : Bool → Hp → Prop,
  OOk K cm H al mu.length (f dl mu) (fun v H' => ∃ b, v = .bl b ∧ R1 b H') (fun c d H' => W c d sg H') → t sg H R1
structure PDT (cm : Cm) (X : Cx) (W : WX) (e : Expr) (f : DE) : Prop where
  ex : ∃ t, PT X e t ∧ SndT X.K cm W t f
structure PDW (cm : Cm) (X : Cx) (W : WX) (e : Expr) (f : DE) : Prop where
  ex : ∃ t, PW X e t ∧ SndT X.K cm W t f
def isB : DV → Mu → Out
  | .bl b, mu => .ok (.bl b) mu
  | _, _ => .bad
def eB (f : DE) : DE := fun dl mu => (f dl mu).bind isB
def eAnd (f g : DE) : DE := fun dl mu => (f dl mu).bind fun d m => match d with
  | .bl true => g dl m
  | .bl false => .ok (.bl false) m
  | _ => .bad
def eOr (f g : DE) : DE := fun dl mu => (f dl mu).bind fun d m => match d with
  | .bl true => .ok (.bl true) m
  | .bl false => g dl m
  | _ => .bad
def eNot (f : DE) : DE := fun dl mu => (f dl mu).bind fun d m => match d with
  | .bl b => .ok (.bl (!b)) m
  | _ => .bad
def truth (mu : Mu) : DV → Option Bool
  | .non => some false
  | .bl b => some b
  | .int i => some (i != 0)
  | .str l => if l.length ≤ 1000000 then some (!l.isEmpty) else none
  | .lst ds => some (!ds.isEmpty)
  | .tup ds => some (!ds.isEmpty)
  | .obj k => match mu[k]? with
    | some (.lst ds) => some (!ds.isEmpty)
    | some (.dic kvs) => some (!kvs.isEmpty)
    | _ => none
  | .ty _ => none
def eTru (f : DE) : DE := fun dl mu => (f dl mu).bind fun d m => match truth m d with
  | some b => .ok (.bl b) m
  | none => .bad
section
variable {K : Frag'} {cm : Cm} {X : Cx} {W : WX} {pos : Pos} {a b c : Expr} {rest : List Expr} {fa fb fc : DE} {ta tb tc : TE} {tA tB' : TT} {H : Hp} {al : Al} {mu : Mu} {n : Nat}
theorem snd_test (h : SndE K cm W ta fa) : SndT K cm W (tB ta) (eB fa) := fun sg H al dl mu s sl R1 q => by
  refine snd_bind (R1 := fun x H1 => ∃ c, x = .bl c ∧ R1 c H1) h s sl rfl q fun d m1 v H1 al1 s1 t1 sl1 r1 h1 => ?_
  cases d <;> try exact h1.elim
  cases r1
  exact h1 _ H1 al1 s1 Lt.refl (.bl _)
theorem bind_T {W : WX} {t : TT} {f : DE} {R1 R2 : Bool → Hp → Prop} {k : DV → Mu → Out} {sg : L2.St} {dl : Dl} {Q : VK} {E : XK} (hA : SndT K cm W t f) (s : SR K cm H al mu) (sl : SlD K H al mu.length sg dl) (hE : E = fun c d H' => W c d sg H')
    (h : OOk K cm H al mu.length ((f dl mu).bind k) Q E)
    (kont : ∀ b mu1 H1 al1, SR K cm H1 al1 mu1 → Lt H al mu.length H1 al1 mu1.length → SlD K H1 al1 mu1.length sg dl → OOk K cm H1 al1 mu1.length (k (.bl b) mu1) Q E → R1 b H1)
    (hb : ∀ d m, (∀ b, d ≠ .bl b) → k d m = .bad) : t sg H R1 := by
  refine hA sg H al dl mu s sl R1 ?_
  cases e : f dl mu with
  | ok d mu1 =>
    rw [e] at h
    have h : OOk K cm H al mu.length (k d mu1) Q E := h
    cases d with
    | bl b =>
      refine fun v H1 al1 s1 t1 r1 => ?_
      cases r1
      exact ⟨b, rfl, kont b mu1 H1 al1 s1 t1 (sl.mono t1) (OOk.later t1 h)⟩
    | _ =>
      rw [hb _ _ (by intro b z; cases z)] at h
      exact h.elim
  | exc x mu1 =>
    rw [e] at h
    subst hE
    exact h
  | bad =>
    rw [e] at h
    exact h
theorem snd_andT (h1 : SndT K cm W tA fa) (h2 : SndT K cm W tB' fb) : SndT K cm W (tAnd tA tB') (eAnd fa fb) := fun sg H al dl mu s sl R1 q => by
  refine bind_T (R1 := fun c H1 => if c = true then tB' sg H1 R1 else R1 false H1) (R2 := R1) h1 s sl rfl q (fun b m1 H1 al1 s1 t1 sl1 g1 => ?_) (fun d m hd => ?_)
  · cases b with
    | true => rw [if_pos rfl]; exact h2 sg H1 al1 dl m1 s1 sl1 R1 g1
    | false =>
      rw [if_neg Bool.false_ne_true]
      obtain ⟨b, e, z⟩ := g1 _ H1 al1 s1 Lt.refl (.bl _)
      cases e
      exact z
  · cases d <;> first | rfl | exact absurd rfl (hd _)
theorem snd_orT (h1 : SndT K cm W tA fa) (h2 : SndT K cm W tB' fb) : SndT K cm W (tOr tA tB') (eOr fa fb) := fun sg H al dl mu s sl R1 q => by
  refine bind_T (R1 := fun c H1 => if c = true then R1 true H1 else tB' sg H1 R1) (R2 := R1) h1 s sl rfl q (fun b m1 H1 al1 s1 t1 sl1 g1 => ?_) (fun d m hd => ?_)
  · cases b with
    | false => rw [if_neg Bool.false_ne_true]; exact h2 sg H1 al1 dl m1 s1 sl1 R1 g1
    | true =>
      rw [if_pos rfl]
      obtain ⟨b, e, z⟩ := g1 _ H1 al1 s1 Lt.refl (.bl _)
      cases e
      exact z
  · cases d <;> first | rfl | exact absurd rfl (hd _)
theorem snd_notT (h1 : SndT K cm W tA fa) : SndT K cm W (tNot tA) (eNot fa) := fun sg H al dl mu s sl R1 q => by
  refine bind_T (R1 := fun c H1 => R1 (!c) H1) (R2 := R1) h1 s sl rfl q (fun b m1 H1 al1 s1 t1 sl1 g1 => ?_) (fun d m hd => ?_)
  · obtain ⟨b', e, z⟩ := g1 _ H1 al1 s1 Lt.refl (.bl _)
    cases e
    exact z
  · cases d <;> first | rfl | exact absurd rfl (hd _)
theorem tru_of {v : V} {d : DV} {b : Bool} (s : SR K cm H al mu) (r : R K H al mu.length v d) (h : truth mu d = some b) : TruV K v H b := by
  cases d with
  | non => cases r; cases h; exact rfl
  | bl b => cases r; cases h; exact rfl
  | int i => cases r; cases h; exact rfl
  | ty s => cases h
  | str l =>
    cases r
    have h : (if l.length ≤ 1000000 then some (!l.isEmpty) else none) = some b := h
    by_cases c : l.length ≤ 1000000
    · rw [if_pos c] at h
      cases h
      refine ⟨line_big (by rw [SX.S_len]; exact c), ?_⟩
      rw [SX.S_len]
      cases l with
      | nil => rfl
      | cons x l => simp only [List.isEmpty_cons, List.length_cons]; symm; simp; omega
    · rw [if_neg c] at h
      cases h
  | lst ds =>
    cases r with
    | lst hl ra =>
      cases h
      exact .inl ⟨_, hl.sq, by cases ra <;> rfl⟩
  | tup ds =>
    cases r with
    | tup hl ra =>
      cases h
      exact .inr (.inl ⟨_, hl.sq, by cases ra <;> rfl⟩)
  | obj k =>
    cases r with
    | obj hk =>
      have h : (match mu[k]? with | some (.lst ds) => some (!ds.isEmpty) | some (.dic kvs) => some (!kvs.isEmpty) | _ => none) = some b := h
      cases em : mu[k]? with
      | none => rw [em] at h; cases h
      | some m =>
        rw [em] at h
        have z := s.ob k m em
        cases m with
        | lst ds => cases h; obtain ⟨xs, h1, h2⟩ := z; exact .inl ⟨xs, SqL.of h1, by cases h2 <;> rfl⟩
        | dic ds => cases h; obtain ⟨xs, h1, h2⟩ := z; exact .inr (.inr ⟨xs, h1, by cases h2 <;> rfl⟩)
        | ins _ _ | lstF _ | dicF _ => cases h
theorem snd_tru (h : SndE K cm W ta fa) : SndT K cm W (fun σ H Q => ta σ H fun x H' => ∃ k, TruV K x H' k ∧ Q k H') (eTru fa) := fun sg H al dl mu s sl R1 q => by
  refine snd_bind (R1 := fun x H' => ∃ k, TruV K x H' k ∧ R1 k H') h s sl rfl q fun d m1 v H1 al1 s1 t1 sl1 r1 h1 => ?_
  cases e : truth m1 d with
  | none => rw [e] at h1; exact h1.elim
  | some b =>
    rw [e] at h1
    obtain ⟨b', z1, z2⟩ := h1 _ H1 al1 s1 Lt.refl (.bl _)
    cases z1
    exact ⟨b, tru_of s1 r1 e, z2⟩
theorem pdt_val (h : PDE cm X W a fa) (he : ∀ whole, isTrue a X.env whole = (do let v ← whole; standAt a.pos; holding [v] (truthy v)) := by intro _; rfl) : PDT cm X W a (eB fa) := let ⟨_, p, s⟩ := h.ex; ⟨_, pt_val p he, snd_test s⟩
theorem pdt_tru (h : PDE cm X W a fa) (he : ∀ whole, isTrue a X.env whole = (do let v ← whole; standAt a.pos; holding [v] (truthy v)) := by intro _; rfl) : PDT cm X W a (eTru fa) := let ⟨_, p, s⟩ := h.ex; ⟨_, pt_truth p he, snd_tru s⟩
theorem pdt_cmp {op : CmpOp} {r : R2} {g : G2} (ho : OpR X (compareOp op) r) (hr : RS X.K cm r g) (ha : PDE cm X W a fa) (hb : PDE cm X W b fb) (hm : behindInMarks op b = false) : PDT cm X W (.Compare a [op] [b] pos) (eB (eOp g fa fb)) := by
  obtain ⟨ta, pa, sa⟩ := ha.ex
  obtain ⟨tb, pb, sb⟩ := hb.ex
  exact ⟨_, pt_cmpR ho pa pb hm, snd_test (snd_op hr sa sb)⟩
theorem pdt_and (h1 : PDT cm X W a fa) (h2 : PDW cm X W (.BoolOp .And (b :: rest) pos) fb) : PDW cm X W (.BoolOp .And (a :: b :: rest) pos) (eAnd fa fb) := let ⟨_, p, s⟩ := h1.ex; let ⟨_, q, u⟩ := h2.ex; ⟨_, pw_and p q, snd_andT s u⟩
theorem pdt_or (h1 : PDT cm X W a fa) (h2 : PDW cm X W (.BoolOp .Or (b :: rest) pos) fb) : PDW cm X W (.BoolOp .Or (a :: b :: rest) pos) (eOr fa fb) := let ⟨_, p, s⟩ := h1.ex; let ⟨_, q, u⟩ := h2.ex; ⟨_, pw_or p q, snd_orT s u⟩
theorem pdt_and1 (h1 : PDT cm X W a fa) : PDW cm X W (.BoolOp .And [a] pos) fa := let ⟨_, p, s⟩ := h1.ex; ⟨_, pw_and1 p, s⟩
theorem pdt_or1 (h1 : PDT cm X W a fa) : PDW cm X W (.BoolOp .Or [a] pos) fa := let ⟨_, p, s⟩ := h1.ex; ⟨_, pw_or1 p, s⟩
theorem PDW.t (h : PDW cm X W a fa) : PDT cm X W a fa := let ⟨_, p, s⟩ := h.ex; ⟨_, p.pt, s⟩
theorem pdt_not (h1 : PDT cm X W a fa) : PDT cm X W (.UnaryOp .Not a pos) (eNot fa) := let ⟨_, p, s⟩ := h1.ex; ⟨_, pt_not p, snd_notT s⟩
theorem snd_andV (h1 : SndE K cm W ta fa) (h2 : SndE K cm W tb fb) : SndE K cm W (tAndV ta tb) (eAnd fa fb) := fun sg H al dl mu s sl Q q => by
  refine snd_bind (R1 := fun x H1 => ∃ c, x = .bl c ∧ if c = true then tb sg H1 Q else Q (.bl false) H1) h1 s sl rfl q fun d m1 v H1 al1 s1 t1 sl1 r1 g1 => ?_
  cases d <;> try exact g1.elim
  rename_i b
  cases r1
  refine ⟨b, rfl, ?_⟩
  cases b with
  | true => rw [if_pos rfl]; exact h2 sg H1 al1 dl m1 s1 sl1 Q g1
  | false => rw [if_neg Bool.false_ne_true]; exact g1 _ H1 al1 s1 Lt.refl (.bl _)
theorem pd_and (h1 : PDE cm X W a fa) (h2 : PDE cm X W (.BoolOp .And (b :: rest) pos) fb) : PDE cm X W (.BoolOp .And (a :: b :: rest) pos) (eAnd fa fb) := let ⟨_, p, s⟩ := h1.ex; let ⟨_, q, u⟩ := h2.ex; ⟨_, pe_and p q, snd_andV s u⟩
theorem pd_one {op} (h1 : PDE cm X W a fa) : PDE cm X W (.BoolOp op [a] pos) fa := let ⟨_, p, s⟩ := h1.ex; ⟨_, pe_one p, s⟩
end
end DM
namespace DM
open PySem PySem.Spec PyProof.Rows L2

def SndS (K : Frag') (cm : Cm) (W : WX) (t : TS) (f : DS) : Prop := ∀ (sg : L2.St) (H : Hp) (al : Al) (dl : Dl) (mu : Mu), SR K cm H al mu → SlD K H al mu.length sg dl → ∀ D : Ends, SOk K cm H al mu.length (f dl mu) D W → t D sg H
structure PDS (cm : Cm) (X : Cx) (W : WX) (st : Stmt) (f : DS) : Prop where
  ex : ∃ t, PS X st t ∧ SndS X.K cm W t f
structure PDB (cm : Cm) (X : Cx) (W : WX) (st : List Stmt) (f : DS) : Prop where
  ex : ∃ t, PSs X st t ∧ SndS X.K cm W t f
def sNext : DS := fun dl mu => .nx dl mu
def sSeq (f g : DS) : DS := fun dl mu => match f dl mu with
  | .nx dl1 m1 => g dl1 m1
  | o => o
def Out.st (o : Out) (dl : Dl) (k : DV → Mu → SOut) : SOut := match o with
  | .ok d m => k d m
  | .exc e m => .exc e dl m
  | .bad => .bad
def sSet (i : Nat) (f : DE) : DS := fun dl mu => (f dl mu).st dl fun d m => .nx (dl.set i (some d)) m
def sDrop (f : DE) : DS := fun dl mu => (f dl mu).st dl fun _ m => .nx dl m
def sRet (f : DE) : DS := fun dl mu => (f dl mu).st dl fun d m => .rt d m
def sIf (c : DE) (f g : DS) : DS := fun dl mu => (c dl mu).st dl fun d m => match d with
  | .bl true => f dl m
  | .bl false => g dl m
  | _ => .bad
abbrev Tg := DV → Dl → Option Dl
def tgN (i : Nat) : Tg := fun d dl => some (dl.set i (some d))
def tgs : List Tg → List DV → Dl → Option Dl
  | [], [], dl => some dl
  | t :: ts, d :: ds, dl => match t d dl with
    | some dl1 => tgs ts ds dl1
    | none => none
  | _, _, _ => none
def SndG (K : Frag') (g : TG) (t : Tg) : Prop := ∀ (v : V) (d : DV) (sg : L2.St) (H : Hp) (al : Al) (n : Nat) (dl dl' : Dl) (Q : L2.St → Hp → Prop), SlD K H al n sg dl → R K H al n v d → t d dl = some dl' → (∀ sg', SlD K H al n sg' dl' → Q sg' H) → g v sg H Q
def SndGs (K : Frag') (g : TGs) (ts : List Tg) : Prop := ∀ (vs : List V) (ds : List DV) (sg : L2.St) (H : Hp) (al : Al) (n : Nat) (dl dl' : Dl) (Q : L2.St → Hp → Prop), SlD K H al n sg dl → RA K H al n vs ds → tgs ts ds dl = some dl' → (∀ sg', SlD K H al n sg' dl' → Q sg' H) → g vs sg H Q
structure PDG (X : Cx) (e : Expr) (t : Tg) : Prop where
  ex : ∃ g, PG X e g ∧ SndG X.K g t
structure PDGs (X : Cx) (es : List Expr) (ts : List Tg) : Prop where
  ex : ∃ g, PGs X es g ∧ SndGs X.K g ts
def sAsg (t : Tg) (f : DE) : DS := fun dl mu => (f dl mu).st dl fun d m => match t d dl with
  | some dl1 => .nx dl1 m
  | none => .bad
section
variable {K : Frag'} {cm : Cm} {X : Cx} {W : WX} {pos : Pos} {e : Expr} {es : List Expr} {f : DE} {fs gs : DS} {te : TE} {ts tu : TS} {tt : TT} {H : Hp} {al : Al} {mu : Mu} {n : Nat} {st : Stmt} {rest : List Stmt}
theorem snd_next : SndS K cm W tNext sNext := fun sg H al dl mu s sl D h => h sg H al s Lt.refl sl
theorem snd_seq (h1 : SndS K cm W ts fs) (h2 : SndS K cm W tu gs) : SndS K cm W (tSeq ts tu) (sSeq fs gs) := fun sg H al dl mu s sl D h => by
  refine h1 sg H al dl mu s sl { D with nx := tu D } ?_
  have h : SOk K cm H al mu.length (match fs dl mu with | .nx dl1 m1 => gs dl1 m1 | o => o) D W := h
  cases e : fs dl mu with
  | nx dl1 m1 =>
    rw [e] at h
    exact fun sg1 H1 al1 s1 t1 sl1 => h2 sg1 H1 al1 dl1 m1 s1 sl1 D (SOk.later t1 h)
  | rt d m1 => rw [e] at h; exact h
  | bk d m1 => rw [e] at h; exact h
  | ct d m1 => rw [e] at h; exact h
  | exc x d m1 => rw [e] at h; exact h
  | bad => rw [e] at h; exact h
theorem snd_st {t : TE} {f : DE} {R1 : VK} {k : DV → Mu → SOut} {sg : L2.St} {dl : Dl} {D : Ends} (hA : SndE K cm W t f) (s : SR K cm H al mu) (sl : SlD K H al mu.length sg dl)
    (h : SOk K cm H al mu.length ((f dl mu).st dl k) D W)
    (kont : ∀ d mu1 v H1 al1, SR K cm H1 al1 mu1 → Lt H al mu.length H1 al1 mu1.length → SlD K H1 al1 mu1.length sg dl → R K H1 al1 mu1.length v d → SOk K cm H1 al1 mu1.length (k d mu1) D W → R1 v H1) : t sg H R1 := by
  refine hA sg H al dl mu s sl R1 ?_
  cases e : f dl mu with
  | ok d mu1 =>
    rw [e] at h
    exact fun v H1 al1 s1 t1 r1 => kont d mu1 v H1 al1 s1 t1 (sl.mono t1) r1 (SOk.later t1 h)
  | exc x mu1 =>
    rw [e] at h
    exact fun dd H1 al1 s1 t1 x1 => h dd sg H1 al1 s1 t1 (sl.mono t1) x1
  | bad => rw [e] at h; exact h
theorem snd_asg {g : TG} {t : Tg} (hA : SndE K cm W te f) (hG : SndG K g t) : SndS K cm W (tAsg te g) (sAsg t f) := fun sg H al dl mu s sl D h => by
  refine snd_st (R1 := fun x H1 => g x sg H1 D.nx) hA s sl h fun d m1 v H1 al1 s1 t1 sl1 r1 h1 => ?_
  cases e : t d dl with
  | none => rw [e] at h1; exact h1.elim
  | some dl1 =>
    rw [e] at h1
    exact hG v d sg H1 al1 _ dl dl1 D.nx sl1 r1 e fun sg' sl' => h1 sg' H1 al1 s1 Lt.refl sl'
theorem sg_name {i : Nat} : SndG K (gName i) (tgN i) := fun v d sg H al n dl dl' Q sl r e k => by
  cases e
  exact k _ (sl.set r)
theorem snd_set {i : Nat} (hA : SndE K cm W te f) : SndS K cm W (tAsg te (gName i)) (sSet i f) := snd_asg (t := tgN i) hA sg_name
theorem snd_drop (hA : SndE K cm W te f) : SndS K cm W (tDrop te) (sDrop f) := fun sg H al dl mu s sl D h =>
  snd_st (R1 := fun _ H1 => D.nx sg H1) hA s sl h fun d m1 v H1 al1 s1 t1 sl1 r1 h1 => h1 sg H1 al1 s1 Lt.refl sl1
theorem snd_ret (hA : SndE K cm W te f) : SndS K cm W (tRet te) (sRet f) := fun sg H al dl mu s sl D h =>
  snd_st (R1 := D.rt) hA s sl h fun d m1 v H1 al1 s1 t1 sl1 r1 h1 => h1 v H1 al1 s1 Lt.refl r1
theorem snd_if {c : DE} (h1 : SndT K cm W tt c) (h2 : SndS K cm W ts fs) (h3 : SndS K cm W tu gs) : SndS K cm W (tIfS tt ts tu) (sIf c fs gs) := fun sg H al dl mu s sl D h => by
  refine h1 sg H al dl mu s sl _ ?_
  have h : SOk K cm H al mu.length ((c dl mu).st dl fun d m => match d with | .bl true => fs dl m | .bl false => gs dl m | _ => .bad) D W := h
  cases e : c dl mu with
  | bad => rw [e] at h; exact h
  | exc x m1 =>
    rw [e] at h
    exact fun dd H1 al1 s1 t1 x1 => h dd sg H1 al1 s1 t1 (sl.mono t1) x1
  | ok d m1 =>
    rw [e] at h
    cases d <;> try exact h.elim
    rename_i b
    refine fun v H1 al1 s1 t1 r1 => ?_
    cases r1
    refine ⟨b, rfl, ?_⟩
    cases b with
    | true => rw [if_pos rfl]; exact h2 sg H1 al1 dl m1 s1 (sl.mono t1) D (SOk.later t1 h)
    | false => rw [if_neg Bool.false_ne_true]; exact h3 sg H1 al1 dl m1 s1 (sl.mono t1) D (SOk.later t1 h)
theorem sgs_cons {g : TG} {t : Tg} {gr : TGs} {tr : List Tg} (h1 : SndG K g t) (h2 : SndGs K gr tr) : SndGs K (gCons g gr) (t :: tr) := fun vs ds sg H al n dl dl' Q sl r e k => by
  cases r with
  | nil => cases e
  | @cons v vs d ds r1 r2 =>
    have e : (match t d dl with | some dl1 => tgs tr ds dl1 | none => none) = some dl' := e
    cases e1 : t d dl with
    | none => rw [e1] at e; cases e
    | some dl1 =>
      rw [e1] at e
      exact ⟨v, vs, rfl, h1 v d sg H al n dl dl1 _ sl r1 e1 fun sg1 sl1 => h2 vs ds sg1 H al n dl1 dl' Q sl1 r2 e k⟩
theorem pdg_name {i : Nat} {x : Str} (hN : X.N.Nodup) (hi : X.N[i]? = some x := by rfl) (hx : Loc X.env.scope x := by first | exact Or.inl rfl | exact Or.inr rfl) (hf : X.fn x = true ∨ X.env.scope.names.lookup x = some .local := by first | exact .inl rfl | exact .inr rfl) : PDG X (.Name x pos) (tgN i) := ⟨_, pg_name hN hi hx hf, sg_name⟩
theorem pdgs_cons {ts : List Tg} {t : Tg} (h1 : PDG X e t) (h2 : PDGs X es ts) (hs : (assignEach (e :: es) X.env).map (·.2) = assign e X.env :: (assignEach es X.env).map (·.2) := by rfl) : PDGs X (e :: es) (t :: ts) := let ⟨_, p, s⟩ := h1.ex; let ⟨_, q, u⟩ := h2.ex; ⟨_, pgs_cons p q hs, sgs_cons s u⟩
theorem pdb_nil : PDB cm X W [] sNext := ⟨_, pss_nil, snd_next⟩
theorem pdb_cons (h1 : PDS cm X W st fs) (h2 : PDB cm X W rest gs) : PDB cm X W (st :: rest) (sSeq fs gs) := let ⟨_, p, s⟩ := h1.ex; let ⟨_, q, u⟩ := h2.ex; ⟨_, pss_cons p q, snd_seq s u⟩
theorem pdb_one (h1 : PDS cm X W st fs) : PDB cm X W [st] fs := let ⟨_, p, s⟩ := h1.ex; ⟨_, pss_one p, s⟩
theorem pds_set {i : Nat} {x : Str} {p' : Pos} (hN : X.N.Nodup) (h : PDE cm X W e f) (hi : X.N[i]? = some x := by rfl) (hx : Loc X.env.scope x := by first | exact Or.inl rfl | exact Or.inr rfl)
    (hs : swapsWithSole [.Name x p'] e pos.line X.env = pure false := by rfl) (hw : swappedStores [.Name x p'] e X.env = pure none := by rfl) (hf : X.fn x = true ∨ X.env.scope.names.lookup x = some .local := by first | exact .inl rfl | exact .inr rfl) : PDS cm X W (.Assign [.Name x p'] e pos) (sSet i f) := by
  obtain ⟨t, p, s⟩ := h.ex
  exact ⟨_, ps_asg p (pg_name hN hi hx hf) hs hw, snd_set s⟩
theorem pds_expr (h : PDE cm X W e f) (hs : swapsWith e none pos.line X.env = pure false := by rfl) : PDS cm X W (.Expr e pos) (sDrop f) := let ⟨_, p, s⟩ := h.ex; ⟨_, ps_expr p hs, snd_drop s⟩
theorem pds_ret (h : PDE cm X W e f) : PDS cm X W (.Return (some e) pos) (sRet f) := let ⟨_, p, s⟩ := h.ex; ⟨_, ps_ret p, snd_ret s⟩
theorem pds_if {c : Expr} {fc : DE} {b1 b2 : List Stmt} (h1 : PDT cm X W c fc) (h2 : PDB cm X W b1 fs) (h3 : PDB cm X W b2 gs) : PDS cm X W (.If c b1 b2 pos) (sIf fc fs gs) :=
  let ⟨_, p, s⟩ := h1.ex; let ⟨_, q, u⟩ := h2.ex; let ⟨_, q', u'⟩ := h3.ex; ⟨_, ps_if p q q', snd_if s u u'⟩
end

inductive IOut where
  | it (ds : List DV) (m : Mu) | dyn (k : Nat) (m : Mu) | exc (e : Ex) (m : Mu) | bad
def StI (K : Frag') (cm : Cm) (H0 : Hp) (al0 : Al) (n0 : Nat) (J : It) (ds : List DV) : Prop := ∀ (H : Hp) (al : Al) (mu : Mu), SR K cm H al mu → Lt H0 al0 n0 H al mu.length → ∀ i : Nat,
  (i < ds.length → J.go i H ∧ ∀ x H', J.yld i H x H' → SR K cm H' al mu ∧ Lt H al mu.length H' al mu.length ∧ ∃ d, ds[i]? = some d ∧ R K H' al mu.length x d) ∧ (¬ i < ds.length → J.stop i H)
def IOk (K : Frag') (cm : Cm) (H : Hp) (al : Al) (n : Nat) (o : IOut) (R1 : It → Hp → Prop) (E : XK) : Prop := match o with
  | .it ds mu => ∀ J H' al', SR K cm H' al' mu → Lt H al n H' al' mu.length → StI K cm H' al' mu.length J ds → R1 J H'
  | .dyn k mu => ∀ H' al', SR K cm H' al' mu → Lt H al n H' al' mu.length → k < mu.length → R1 (Itl K (al' k)) H'
  | .exc e mu => ∀ dd H' al', SR K cm H' al' mu → Lt H al n H' al' mu.length → XR K H' al' mu.length dd e.fs → E (xcl cm e.cls) dd H'
  | .bad => False
abbrev DI := Dl → Mu → IOut
def SndI (K : Frag') (cm : Cm) (W : WX) (t : TI) (f : DI) : Prop := ∀ (sg : L2.St) (H : Hp) (al : Al) (dl : Dl) (mu : Mu), SR K cm H al mu → SlD K H al mu.length sg dl → ∀ R1 : It → Hp → Prop,
  IOk K cm H al mu.length (f dl mu) R1 (fun c d H' => W c d sg H') → t sg H R1
structure PDI (cm : Cm) (X : Cx) (W : WX) (tg iter : Expr) (f : DI) : Prop where
  ex : ∃ t, PI X tg iter t ∧ SndI X.K cm W t f
def itOf : DV → Mu → IOut
  | .lst ds, m => .it ds m
  | .tup ds, m => .it ds m
  | .str l, m => .it (l.map fun c => .str [c]) m
  | .obj k, m => match m[k]? with
    | some (.lst _) => .dyn k m
    | _ => .bad
  | _, _ => .bad
def Out.it (o : Out) (k : DV → Mu → IOut) : IOut := match o with
  | .ok d m => k d m
  | .exc e m => .exc e m
  | .bad => .bad
def iSeq (f : DE) : DI := fun dl mu => (f dl mu).it itOf
def AOut.it (a : AOut) (k : List DV → Mu → IOut) : IOut := match a with
  | .ok ds m => k ds m
  | .exc e m => .exc e m
  | .bad => .bad
def rng1 : List DV → Mu → IOut
  | [.int j], m => if -4611686018427387904 ≤ j ∧ j < 4611686018427387904 then .it ((List.range j.toNat).map fun (u : Nat) => .int (u : Int)) m else .bad
  | _, _ => .bad
def iRngA (fs : List DE) : DI := fun dl mu => (evA fs dl mu).it rng1
section
variable {K : Frag'} {cm : Cm} {X : Cx} {W : WX} {pos p : Pos} {e tg iter : Expr} {es : List Expr} {f : DE} {fs : List DE} {te : TE} {ta : TA} {H : Hp} {al : Al} {mu : Mu} {n : Nat}
theorem sti_list {a : Addr} {xs : List V} {ds : List DV} (h : LAt K H al n a xs) (ra : RA K H al n xs ds) : StI K cm H al n (Itl K a) ds := fun H1 al1 mu1 s1 t1 i => by
  have h1 := h.mono t1
  have r1 := ra.mono t1
  refine ⟨fun hi => ?_, fun hi => ⟨xs, h1.sq, by rw [r1.len]; omega⟩⟩
  have hx : i < xs.length := by rw [r1.len]; exact hi
  refine ⟨⟨xs, xs[i], h1.sq, List.getElem?_eq_getElem hx⟩, fun x H' y => ?_⟩
  obtain ⟨rfl, y⟩ := y
  obtain ⟨d, e1, e2⟩ := r1.getV (y xs h1.sq)
  exact ⟨s1, Lt.refl, d, e1, e2⟩
theorem sti_tup {a : Addr} {xs : List V} {ds : List DV} (h : TAt K H al n a xs) (ra : RA K H al n xs ds) : StI K cm H al n (Itt K a) ds := fun H1 al1 mu1 s1 t1 i => by
  have h1 := h.mono t1
  have r1 := ra.mono t1
  refine ⟨fun hi => ?_, fun hi => ⟨xs, h1.sq, by rw [r1.len]; omega⟩⟩
  have hx : i < xs.length := by rw [r1.len]; exact hi
  refine ⟨⟨xs, xs[i], h1.sq, List.getElem?_eq_getElem hx⟩, fun x H' y => ?_⟩
  obtain ⟨rfl, y⟩ := y
  obtain ⟨d, e1, e2⟩ := r1.getV (y xs h1.sq)
  exact ⟨s1, Lt.refl, d, e1, e2⟩
theorem sti_str {l : List Nat} : StI K cm H al n (Its (Sx l)) (l.map fun c => .str [c]) := fun H1 al1 mu1 s1 t1 i => by
  have hz : (Sx l).cps.size = l.length := by simp [SX.S]
  rw [List.length_map]
  refine ⟨fun hi => ⟨by show i < (Sx l).cps.size; rw [hz]; exact hi, fun x H' y => ?_⟩, fun hi => by show (Sx l).cps.size ≤ i; rw [hz]; omega⟩
  obtain ⟨rfl, c, e, rfl⟩ := y
  have e : l[i]? = some c := by simpa [SX.S] using e
  exact ⟨s1, Lt.refl, .str [c], by rw [List.getElem?_map, e]; rfl, .str [c]⟩
theorem sti_rng {lo : Int} {m : Nat} : StI K cm H al n (Itr lo m) ((List.range m).map fun (u : Nat) => .int (lo + u)) := fun H1 al1 mu1 s1 t1 i => by
  rw [List.length_map, List.length_range]
  refine ⟨fun hi => ⟨hi, fun x H' y => ?_⟩, fun hi => Nat.le_of_not_lt hi⟩
  obtain ⟨rfl, rfl⟩ := y
  exact ⟨s1, Lt.refl, .int (lo + i), by rw [List.getElem?_map, List.getElem?_range hi]; rfl, .int _⟩
def iAny (K : Frag') (te : TE) : TI := fun σ H R => iList K te σ H R ∨ iTup K te σ H R ∨ iStr te σ H R
theorem PI_or {t u : TI} (h : PI X tg iter t) (h' : PI X tg iter u) : PI X tg iter (fun σ H R => t σ H R ∨ u σ H R) := ⟨fun pins s σ H R I q => q.elim (h.run pins s σ H R I) (h'.run pins s σ H R I)⟩
theorem snd_seqI (hA : SndE K cm W te f) : SndI K cm W (iAny K te) (iSeq f) := fun sg H al dl mu s sl R1 h => by
  have run : ∀ {R2 : VK}, (∀ d m1, f dl mu = .ok d m1 → ∀ v H1 al1, SR K cm H1 al1 m1 → Lt H al mu.length H1 al1 m1.length → R K H1 al1 m1.length v d → R2 v H1) → te sg H R2 := fun {R2} k => by
    refine hA sg H al dl mu s sl R2 ?_
    have h : IOk K cm H al mu.length ((f dl mu).it itOf) R1 _ := h
    cases e : f dl mu with
    | ok d m1 => exact k d m1 e
    | exc x m1 => rw [e] at h; exact h
    | bad => rw [e] at h; exact h
  have h : IOk K cm H al mu.length ((f dl mu).it itOf) R1 _ := h
  cases e : f dl mu with
  | bad => rw [e] at h; exact h.elim
  | exc x m => exact .inl (run fun d m1 e1 => by rw [e] at e1; cases e1)
  | ok d m =>
    rw [e] at h
    cases d with
    | lst ds =>
      refine .inl (run fun d m1 e1 v H1 al1 s1 t1 r1 => ?_)
      rw [e] at e1; cases e1
      cases r1 with
      | lst hl ra => exact ⟨_, rfl, ⟨_, hl.sq⟩, h _ H1 al1 s1 t1 (sti_list hl ra)⟩
    | tup ds =>
      refine .inr (.inl (run fun d m1 e1 v H1 al1 s1 t1 r1 => ?_))
      rw [e] at e1; cases e1
      cases r1 with
      | tup hl ra => exact ⟨_, rfl, ⟨_, hl.sq⟩, h _ H1 al1 s1 t1 (sti_tup hl ra)⟩
    | str l =>
      refine .inr (.inr (run fun d m1 e1 v H1 al1 s1 t1 r1 => ?_))
      rw [e] at e1; cases e1
      cases r1
      exact ⟨_, rfl, h _ H1 al1 s1 t1 sti_str⟩
    | obj k =>
      have h : IOk K cm H al mu.length (match m[k]? with | some (.lst _) => .dyn k m | _ => .bad) R1 _ := h
      cases em : m[k]? with
      | none => rw [em] at h; exact h.elim
      | some o =>
        rw [em] at h
        cases o with
        | lst ds =>
          refine .inl (run fun d m1 e1 v H1 al1 s1 t1 r1 => ?_)
          rw [e] at e1; cases e1
          cases r1 with
          | obj hk =>
            obtain ⟨xs, h1, h2⟩ := s1.ob k _ em
            exact ⟨_, rfl, ⟨xs, SqL.of h1⟩, h H1 al1 s1 t1 hk⟩
        | dic _ => exact h.elim
        | ins _ _ | lstF _ | dicF _ => exact h.elim
    | _ => exact h.elim
theorem pdi_seq (h : PDE cm X W e f) : PDI cm X W tg e (iSeq f) := let ⟨_, p, s⟩ := h.ex; ⟨_, PI_or (pi_list p) (PI_or (pi_tup p) (pi_str p)), snd_seqI s⟩
theorem snd_argI {R2 : List V → Hp → Prop} {R1 : It → Hp → Prop} {k : List DV → Mu → IOut} {sg : L2.St} {dl : Dl} (hA : SndA K cm W ta fs) (s : SR K cm H al mu) (sl : SlD K H al mu.length sg dl)
    (h : IOk K cm H al mu.length ((evA fs dl mu).it k) R1 (fun c d H' => W c d sg H'))
    (kont : ∀ ds m1 vs H1 al1, SR K cm H1 al1 m1 → Lt H al mu.length H1 al1 m1.length → RA K H1 al1 m1.length vs ds → IOk K cm H al mu.length (k ds m1) R1 (fun c d H' => W c d sg H') → R2 vs H1) : ta sg H R2 := by
  refine hA sg H al dl mu s sl R2 ?_
  cases e : evA fs dl mu with
  | ok ds m1 => rw [e] at h; exact fun vs H1 al1 s1 t1 r1 => kont ds m1 vs H1 al1 s1 t1 r1 h
  | exc x m1 => rw [e] at h; exact h
  | bad => rw [e] at h; exact h
theorem snd_rng1 (hA : SndA K cm W ta fs) : SndI K cm W (iRng1 ta) (iRngA fs) := fun sg H al dl mu s sl R1 h => by
  refine snd_argI (R2 := fun vs H1 => ∃ j : Int, vs = [.int j] ∧ -(2 ^ 62) ≤ j ∧ j < 2 ^ 62 ∧ R1 (Itr 0 j.toNat) H1) hA s sl h fun ds m1 vs H1 al1 s1 t1 r1 h1 => ?_
  match ds, r1, h1 with
  | [], _, h1 => exact h1.elim
  | d :: [], r1, h1 =>
    cases d <;> try exact h1.elim
    rename_i j
    cases r1 with
    | cons r rr =>
      cases rr
      cases r
      have h1 : IOk K cm H al mu.length (if -4611686018427387904 ≤ j ∧ j < 4611686018427387904 then .it ((List.range j.toNat).map fun (u : Nat) => .int (u : Int)) m1 else .bad) R1 _ := h1
      by_cases c : -4611686018427387904 ≤ j ∧ j < 4611686018427387904
      · rw [if_pos c] at h1
        refine ⟨j, rfl, c.1, c.2, h1 _ H1 al1 s1 t1 ?_⟩
        have z : StI K cm H1 al1 m1.length (Itr 0 j.toNat) ((List.range j.toNat).map fun (u : Nat) => .int (0 + u)) := sti_rng
        have e : ((List.range j.toNat).map fun (u : Nat) => DV.int (0 + (u : Int))) = (List.range j.toNat).map fun (u : Nat) => .int (u : Int) := List.map_congr_left fun u _ => by rw [Int.zero_add]
        rw [e] at z
        exact z
      · rw [if_neg c] at h1
        exact h1.elim
  | d :: _ :: _, _, h1 => cases d <;> exact h1.elim
theorem pdi_rng1 {a : Expr} (hg : Gl X "range") (hm : X.mg "range" = none) (h : PDA cm X W [a] fs) (hs : starEach [a] X.env = [(false, eval a X.env)] := by rfl) : PDI cm X W tg (.Call (.Name "range" p) [a] [] pos) (iRngA fs) := let ⟨_, p, s⟩ := h.ex; ⟨_, pi_range1 hg hm p hs, snd_rng1 s⟩
end

def forL (t : Tg) (body : DS) : List DV → DS
  | [], dl, mu => .nx dl mu
  | x :: xs, dl, mu => match t x dl with
    | none => .bad
    | some dl1 => match body dl1 mu with
      | .nx dl2 m2 => forL t body xs dl2 m2
      | .ct dl2 m2 => forL t body xs dl2 m2
      | .bk dl2 m2 => .nx dl2 m2
      | .rt d m2 => .rt d m2
      | .exc e dl2 m2 => .exc e dl2 m2
      | .bad => .bad
def forM (t : Tg) (body : DS) (k : Nat) : Nat → Nat → DS
  | fuel, i, dl, mu => match mu[k]? with
    | some (.lst es) => match es[i]? with
      | none => .nx dl mu
      | some x => match fuel with
        | 0 => .bad
        | fuel + 1 => match t x dl with
          | none => .bad
          | some dl1 => match body dl1 mu with
            | .nx dl2 m2 => forM t body k fuel (i + 1) dl2 m2
            | .ct dl2 m2 => forM t body k fuel (i + 1) dl2 m2
            | .bk dl2 m2 => .nx dl2 m2
            | .rt d m2 => .rt d m2
            | .exc e dl2 m2 => .exc e dl2 m2
            | .bad => .bad
    | _ => .bad
def sFor (f : DI) (t : Tg) (body : DS) : DS := fun dl mu => match f dl mu with
  | .it ds m => forL t body ds dl m
  | .dyn k m => (match m[k]? with
    | some (.lst es) => forM t body k es.length 0 dl m
    | _ => .bad)
  | .exc e m => .exc e dl m
  | .bad => .bad
section
variable {K : Frag'} {cm : Cm} {X : Cx} {W : WX} {pos p : Pos} {tgt iter : Expr} {f : DI} {body : DS} {t : Tg} {g : TG} {wi : TI} {tb : TS} {H : Hp} {al : Al} {mu : Mu} {n : Nat}
def Nxt (K : Frag') (cm : Cm) (H1 : Hp) (al1 : Al) (n1 : Nat) (D : Ends) (W : WX) (rest : DS) : L2.St → Hp → Prop := fun sg H => ∃ al dl mu, SR K cm H al mu ∧ Lt H1 al1 n1 H al mu.length ∧ SlD K H al mu.length sg dl ∧ SOk K cm H al mu.length (rest dl mu) D W
theorem turn_ok {rest : DS} {sg : L2.St} {dl : Dl} {x : V} {d : DV} {D : Ends} {H1 : Hp} {al1 : Al} {n1 : Nat} (hG : SndG K g t) (hB : SndS K cm W tb body) (s : SR K cm H al mu) (lt : Lt H1 al1 n1 H al mu.length) (sl : SlD K H al mu.length sg dl) (r : R K H al mu.length x d)
    (h : SOk K cm H al mu.length (match t d dl with | none => .bad | some dl1 => match body dl1 mu with | .nx dl2 m2 => rest dl2 m2 | .ct dl2 m2 => rest dl2 m2 | .bk dl2 m2 => .nx dl2 m2 | .rt d m2 => .rt d m2 | .exc e dl2 m2 => .exc e dl2 m2 | .bad => .bad) D W) :
    g x sg H fun σ2 H2 => tb { D with nx := Nxt K cm H1 al1 n1 D W rest, ct := Nxt K cm H1 al1 n1 D W rest, bk := D.nx } σ2 H2 := by
  cases e1 : t d dl with
  | none => rw [e1] at h; exact h.elim
  | some dl1 =>
    rw [e1] at h
    refine hG x d sg H al _ dl dl1 _ sl r e1 fun sg' sl' => ?_
    refine hB sg' H al dl1 mu s sl' _ ?_
    have h : SOk K cm H al mu.length (match body dl1 mu with | .nx dl2 m2 => rest dl2 m2 | .ct dl2 m2 => rest dl2 m2 | .bk dl2 m2 => .nx dl2 m2 | .rt d m2 => .rt d m2 | .exc e dl2 m2 => .exc e dl2 m2 | .bad => .bad) D W := h
    cases e2 : body dl1 mu with
    | nx dl2 m2 => rw [e2] at h; exact fun sg2 H2 al2 s2 t2 sl2 => ⟨al2, dl2, m2, s2, lt.trans t2, sl2, SOk.later t2 h⟩
    | ct dl2 m2 => rw [e2] at h; exact fun sg2 H2 al2 s2 t2 sl2 => ⟨al2, dl2, m2, s2, lt.trans t2, sl2, SOk.later t2 h⟩
    | bk dl2 m2 => rw [e2] at h; exact h
    | rt d m2 => rw [e2] at h; exact h
    | exc e dl2 m2 => rw [e2] at h; exact h
    | bad => rw [e2] at h; exact h
theorem snd_for (hI : SndI K cm W wi f) (hG : SndG K g t) (hB : SndS K cm W tb body) : SndS K cm W (tFor wi g tb) (sFor f t body) := fun sg H al dl mu s sl D h => by
  refine hI sg H al dl mu s sl _ ?_
  have h : SOk K cm H al mu.length (match f dl mu with | .it ds m => forL t body ds dl m | .dyn k m => (match m[k]? with | some (.lst es) => forM t body k es.length 0 dl m | _ => .bad) | .exc e m => .exc e dl m | .bad => .bad) D W := h
  cases e : f dl mu with
  | bad => rw [e] at h; exact h
  | exc x m => rw [e] at h; exact fun dd H1 al1 s1 t1 x1 => h dd sg H1 al1 s1 t1 (sl.mono t1) x1
  | it ds m =>
    rw [e] at h
    refine fun J H1 al1 s1 t1 st => ?_
    refine ⟨fun i k σ H2 => k = ds.length - i ∧ i ≤ ds.length ∧ Nxt K cm H1 al1 m.length D W (forL t body (ds.drop i)) σ H2, ⟨ds.length, rfl, Nat.zero_le _, al1, dl, m, s1, Lt.refl, sl.mono t1, SOk.later t1 h⟩, ?_⟩
    rintro i k σ H2 ⟨rfl, hi, al2, dl2, m2, s2, lt2, sl2, h2⟩
    obtain ⟨st1, st2⟩ := st H2 al2 m2 s2 lt2 i
    by_cases hlt : i < ds.length
    · obtain ⟨go, yld⟩ := st1 hlt
      refine .inr ⟨go, Nxt K cm H1 al1 m.length D W (forL t body (ds.drop (i + 1))), fun σ' H' q => ⟨ds.length - (i + 1), by omega, rfl, hlt, q⟩, fun x H3 y => ?_⟩
      obtain ⟨s3, t3, d, e1, r3⟩ := yld x H3 y
      have ed : ds.drop i = d :: ds.drop (i + 1) := by
        obtain ⟨hl, e2⟩ := List.getElem?_eq_some_iff.mp e1
        rw [← e2]
        exact List.drop_eq_getElem_cons hl
      rw [ed] at h2
      exact turn_ok hG hB s3 (lt2.trans t3) (sl2.mono t3) r3 (SOk.later t3 h2)
    · have e1 : ds.drop i = [] := List.drop_eq_nil_of_le (by omega)
      rw [e1] at h2
      exact .inl ⟨st2 hlt, h2 σ H2 al2 s2 Lt.refl sl2⟩
  | dyn k m =>
    rw [e] at h
    refine fun H1 al1 s1 t1 hk => ?_
    have h : SOk K cm H al mu.length (match m[k]? with | some (.lst es) => forM t body k es.length 0 dl m | _ => .bad) D W := h
    cases em : m[k]? with
    | none => rw [em] at h; exact h.elim
    | some o =>
      cases o with
      | dic _ => rw [em] at h; exact h.elim
      | ins _ _ | lstF _ | dicF _ => rw [em] at h; exact h.elim
      | lst es0 =>
        rw [em] at h
        refine ⟨fun i u σ H2 => Nxt K cm H1 al1 m.length D W (forM t body k u i) σ H2, ⟨es0.length, al1, dl, m, s1, Lt.refl, sl.mono t1, SOk.later t1 h⟩, ?_⟩
        rintro i fuel σ H2 ⟨al2, dl2, m2, s2, lt2, sl2, h2⟩
        have ek := lt2.same k hk
        unfold forM at h2
        cases em2 : m2[k]? with
        | none => rw [em2] at h2; exact h2.elim
        | some o2 =>
          cases o2 with
          | dic _ => rw [em2] at h2; exact h2.elim
          | ins _ _ | lstF _ | dicF _ => rw [em2] at h2; exact h2.elim
          | lst es =>
            rw [em2] at h2
            obtain ⟨xs, hx, ra⟩ := s2.ob k _ em2
            rw [ek] at hx
            have sq : SqL K H2 (al1 k) xs := SqL.of hx
            dsimp only at h2
            cases ei : es[i]? with
            | none =>
              rw [ei] at h2
              refine .inl ⟨⟨xs, sq, ?_⟩, h2 σ H2 al2 s2 Lt.refl sl2⟩
              rw [ra.len]
              exact List.getElem?_eq_none_iff.mp ei
            | some d =>
              rw [ei] at h2
              obtain ⟨v, e1, r3⟩ := ra.get ei
              cases fuel with
              | zero => exact h2.elim
              | succ fuel =>
                refine .inr ⟨⟨xs, v, sq, e1⟩, Nxt K cm H1 al1 m.length D W (forM t body k fuel (i + 1)), fun σ' H' q => ⟨fuel, Nat.lt_succ_self _, q⟩, fun x H3 y => ?_⟩
                obtain ⟨rfl, y⟩ := y
                have ev : x = v := by
                  have z := y xs sq
                  rw [e1] at z
                  exact (Option.some.inj z).symm
                subst ev
                exact turn_ok hG hB s2 lt2 sl2 r3 h2
theorem pds_for {b : List Stmt} (hp : PassesOwn (model X.prog X.w) X.A X.env X.xe) (hc : X.calm = true) (hi : PDI cm X W tgt iter f) (hg : PDG X tgt t) (hb : PDB cm X W b body) (hs : ∀ x, foldedSetIterable iter X.env x = pure x := by intro _; rfl) :
    PDS cm X W (.For tgt iter b [] pos) (sFor f t body) := let ⟨_, p, s⟩ := hi.ex; let ⟨_, q, u⟩ := hg.ex; let ⟨_, q', u'⟩ := hb.ex; ⟨_, ps_for hp hc p q q' hs, snd_for s u u'⟩
def whileF (c : DE) (body : DS) : Nat → DS
  | 0, _, _ => .bad
  | fuel + 1, dl, mu => (c dl mu).st dl fun d m => match d with
    | .bl true => (match body dl m with
      | .nx dl2 m2 => whileF c body fuel dl2 m2
      | .ct dl2 m2 => whileF c body fuel dl2 m2
      | .bk dl2 m2 => .nx dl2 m2
      | .rt d m2 => .rt d m2
      | .exc e dl2 m2 => .exc e dl2 m2
      | .bad => .bad)
    | .bl false => .nx dl m
    | _ => .bad
end
end DM
namespace DM
open PySem PySem.Spec PyProof.Rows L2

def wipeD (dl : Dl) : List Nat → Dl
  | [] => dl
  | v :: vs => (wipeD dl vs).set v none
def eYes : DE := eC (.bl true)
def cStep (t : Tg) (test elt : DE) (dl : Dl) (x : DV) (mu : Mu) (skip : Mu → Out) (take : DV → Mu → Out) : Out := match t x dl with
  | none => .bad
  | some dl1 => match test dl1 mu with
    | .ok (.bl true) m1 => (match elt dl1 m1 with
      | .ok d m2 => take d m2
      | _ => .bad)
    | .ok (.bl false) m1 => skip m1
    | _ => .bad
def compL (fin : List DV → Mu → Out) (t : Tg) (test elt : DE) (dl : Dl) : List DV → List DV → Mu → Out
  | [], acc, mu => fin acc mu
  | x :: xs, acc, mu => cStep t test elt dl x mu (fun m => compL fin t test elt dl xs acc m) fun d m => if acc.length < 1000000 then compL fin t test elt dl xs (acc ++ [d]) m else .bad
def compM (fin : List DV → Mu → Out) (t : Tg) (test elt : DE) (dl : Dl) (k : Nat) : Nat → Nat → List DV → Mu → Out
  | fuel, i, acc, mu => match mu[k]? with
    | some (.lst es) => match es[i]? with
      | none => fin acc mu
      | some x => match fuel with
        | 0 => .bad
        | fuel + 1 => cStep t test elt dl x mu (fun m => compM fin t test elt dl k fuel (i + 1) acc m) fun d m => if acc.length < 1000000 then compM fin t test elt dl k fuel (i + 1) (acc ++ [d]) m else .bad
    | _ => .bad
def finL (acc : List DV) (mu : Mu) : Out := .ok (.lst acc) mu
def finM (acc : List DV) (mu : Mu) : Out := .ok (.obj mu.length) (mu ++ [.lst acc])
def eCompG (fin : List DV → Mu → Out) (f : DI) (t : Tg) (test elt : DE) (vs : List Nat) : DE := fun dl mu => match f dl mu with
  | .it ds m => compL fin t test elt (wipeD dl vs) ds [] m
  | .dyn k m => (match m[k]? with
    | some (.lst es) => compM fin t test elt (wipeD dl vs) k es.length 0 [] m
    | _ => .bad)
  | .exc e m => .exc e m
  | .bad => .bad
abbrev eComp := eCompG finL
abbrev eCompM := eCompG finM
abbrev W0 : WX := fun _ _ _ _ => False
def SndGv (K : Frag') (vs : List Nat) (g : TG) (t : Tg) : Prop := ∀ (v : V) (d : DV) (sg : L2.St) (H : Hp) (al : Al) (n : Nat) (dl dl' : Dl) (Q : L2.St → Hp → Prop), SlD K H al n sg dl → R K H al n v d → t d dl = some dl' → (∀ sg', SlD K H al n sg' dl' → wipe sg' vs = wipe sg vs → Q sg' H) → g v sg H Q
def SndGvs (K : Frag') (vs : List Nat) (g : TGs) (ts : List Tg) : Prop := ∀ (ws : List V) (ds : List DV) (sg : L2.St) (H : Hp) (al : Al) (n : Nat) (dl dl' : Dl) (Q : L2.St → Hp → Prop), SlD K H al n sg dl → RA K H al n ws ds → tgs ts ds dl = some dl' → (∀ sg', SlD K H al n sg' dl' → wipe sg' vs = wipe sg vs → Q sg' H) → g ws sg H Q
theorem wipe_set_in {sg : L2.St} {j : Nat} {o : Option V} : ∀ {vs : List Nat}, j ∈ vs → wipe (sg.set j o) vs = wipe sg vs
  | v :: vs, h => by
    show (wipe (sg.set j o) vs).set v none = (wipe sg vs).set v none
    by_cases hj : j ∈ vs
    · rw [wipe_set_in hj]
    · have e : j = v := by
        rcases List.mem_cons.mp h with e | e
        · exact e
        · exact absurd e hj
      subst e
      have comm : ∀ (us : List Nat), j ∉ us → wipe (sg.set j o) us = (wipe sg us).set j o := by
        intro us
        induction us with
        | nil => intro _; rfl
        | cons u us ih =>
          intro hu
          show (wipe (sg.set j o) us).set u none = ((wipe sg us).set u none).set j o
          rw [ih fun z => hu (List.mem_cons_of_mem _ z)]
          exact List.set_comm _ _ fun z => hu (List.mem_cons.mpr (.inl z))
      rw [comm vs hj, List.set_set]
theorem wipe_idem (sg : L2.St) : ∀ vs : List Nat, wipe (wipe sg vs) vs = wipe sg vs
  | [] => rfl
  | v :: vs => by
    have h : ∀ us : List Nat, (∀ u ∈ us, u ∈ (v :: vs)) → wipe (wipe sg (v :: vs)) us = wipe sg (v :: vs) := by
      intro us
      induction us with
      | nil => intro _; rfl
      | cons u us ih =>
        intro hu
        show (wipe (wipe sg (v :: vs)) us).set u none = wipe sg (v :: vs)
        rw [ih fun w hw => hu w (List.mem_cons_of_mem _ hw)]
        have hmem := hu u List.mem_cons_self
        have at_ : ∀ ws : List Nat, u ∈ ws → (wipe sg ws).set u none = wipe sg ws := by
          intro ws
          induction ws with
          | nil => intro z; cases z
          | cons w ws ih2 =>
            intro z
            show ((wipe sg ws).set w none).set u none = (wipe sg ws).set w none
            by_cases e : u = w
            · subst e; rw [List.set_set]
            · rcases List.mem_cons.mp z with z | z
              · exact absurd z e
              · rw [List.set_comm _ _ (Ne.symm e), ih2 z]
        exact at_ _ hmem
    exact h (v :: vs) fun u hu => hu
section
variable {K : Frag'} {cm : Cm} {X : Cx} {W : WX} {pos p : Pos} {tgt iter elt : Expr} {ifs : List Expr} {f : DI} {fe ft : DE} {t : Tg} {g : TG} {wi : TI} {te : TE} {tt : TT} {H H1 : Hp} {al al1 : Al} {mu : Mu} {n n1 : Nat} {vs : List Nat}
theorem SlD.wipe {sg : L2.St} {dl : Dl} (s : SlD K H al n sg dl) : ∀ vs : List Nat, SlD K H al n (L2.wipe sg vs) (wipeD dl vs)
  | [] => s
  | v :: vs => (SlD.wipe s vs).clr none
theorem sgv_name {i : Nat} (hi : i ∈ vs) : SndGv K vs (gName i) (tgN i) := fun v d sg H al n dl dl' Q sl r e k => by
  cases e
  exact k _ (sl.set r) (wipe_set_in hi)
def hid (al : Al) (D : Addr) : Al := ⟨al.f, fun a => al.fb a ∨ a = D⟩
theorem Lt.hid {D : Addr} {o : HO} (hD : H D = none) : Lt H al n (upd H D o) (hid al D) n :=
  ⟨Nat.le_refl _, fun _ _ => rfl, fun _ h => .inl h, fun a u ha s => ⟨by rw [upd_ne (ne_of_none ha hD)]; exact ha, s, fun z q => q.elim z (ne_of_none ha hD)⟩, fun a o' u ha => by rw [upd_ne (ne_of_none ha hD)]; exact ha⟩
theorem SR.hid {D : Addr} {o : HO} (s : SR K cm H al mu) (hD : H D = none) : SR K cm (upd H D o) (DM.hid al D) mu :=
  ⟨s.inj, fun k m hk => (s.ob k m hk).mono (Lt.hid hD) (upd_ne fun e => s.sep hD k (List.getElem?_eq_some_iff.mp hk).1 e.symm), fun a fa => by
    rcases fa with fa | rfl
    · obtain ⟨u, hu⟩ := s.fbt a fa
      exact ⟨u, by rw [upd_ne (ne_of_none hu hD)]; exact hu⟩
    · exact ⟨o, upd_same⟩⟩
theorem Lt.poke {D : Addr} {o : HO} (hD : al.fb D) : ∀ {v : V} {d : DV}, R K H al n v d → R K (upd H D o) al n v d := by
  have hL : ∀ {a : Addr} {xs : List V}, LAt K H al n a xs → LAt K (upd H D o) al n a xs := fun {a xs} h => by
    rcases h with ⟨h, s, z⟩ | h
    · have ne : a ≠ D := fun e => z (by rw [e]; exact hD)
      refine .inl ⟨?_, s, z⟩
      rcases h with h | ⟨u, h⟩
      · exact .inl (by rw [upd_ne ne]; exact h)
      · exact .inr ⟨u, by rw [upd_ne ne]; exact h⟩
    · exact .inr h
  have hT : ∀ {a : Addr} {xs : List V}, TAt K H al n a xs → TAt K (upd H D o) al n a xs := fun {a xs} h => by
    rcases h with ⟨h, s, z⟩ | h
    · have ne : a ≠ D := fun e => z (by rw [e]; exact hD)
      refine .inl ⟨?_, s, z⟩
      rcases h with h | ⟨u, h⟩
      · exact .inl (by rw [upd_ne ne]; exact h)
      · exact .inr ⟨u, by rw [upd_ne ne]; exact h⟩
    · exact .inr h
  intro v d r
  exact R.rec (motive_1 := fun v d _ => R K (upd H D o) al n v d) (motive_2 := fun vs ds _ => RA K (upd H D o) al n vs ds)
    .non .bl .int .str .ty (fun h _ ih => .lst (hL h) ih) (fun h _ ih => .tup (hT h) ih) (fun h => .obj h) .nil (fun _ _ i1 i2 => .cons i1 i2) r
theorem poke_all {D : Addr} {o : HO} (hD : al.fb D) : ∀ {vs : List V} {ds : List DV}, RA K H al n vs ds → RA K (upd H D o) al n vs ds
  | _, _, .nil => .nil
  | _, _, .cons r q => .cons (Lt.poke hD r) (poke_all hD q)
theorem poke_K {κ : Type} {D : Addr} {o : HO} (hD : al.fb D) : ∀ {vs : List (κ × V)} {ds : List (κ × DV)}, RK K H al n vs ds → RK K (upd H D o) al n vs ds
  | _, _, .nil => .nil
  | _, _, .cons r q => .cons (Lt.poke hD r) (poke_K hD q)
theorem SR.poke {D : Addr} {o : HO} (s : SR K cm H al mu) (hD : al.fb D) (hS : Sep al mu.length D) : SR K cm (upd H D o) al mu := by
  refine ⟨s.inj, fun k m hk => ?_, fun a fa => ?_⟩
  · have hl := (List.getElem?_eq_some_iff.mp hk).1
    have e : upd H D o (al k) = H (al k) := upd_ne fun z => hS k hl z.symm
    have z := s.ob k m hk
    cases m with
    | lst ds => obtain ⟨xs, h1, h2⟩ := z; exact ⟨xs, e.trans h1, poke_all hD h2⟩
    | dic ds => obtain ⟨xs, h1, h2⟩ := z; exact ⟨xs, e.trans h1, poke_K hD h2⟩
    | ins c ds => obtain ⟨dx, xs, h1, h2⟩ := z; exact ⟨dx, xs, e.trans h1, poke_K hD h2⟩
    | lstF ds => obtain ⟨od, xs, h1, h2⟩ := z; exact ⟨od, xs, e.trans h1, poke_all hD h2⟩
    | dicF ds => obtain ⟨od, xs, h1, h2⟩ := z; exact ⟨od, xs, e.trans h1, poke_K hD h2⟩
  · by_cases e : a = D
    · exact ⟨o, by rw [e]; exact upd_same⟩
    · rw [upd_ne e]
      exact s.fbt a fa
theorem LAt.unh {fb : Addr → Prop} (h : ∀ a, fb a → al.fb a) {a : Addr} {xs : List V} (l : LAt K H al n a xs) : LAt K H ⟨al.f, fb⟩ n a xs := l.elim (fun z => .inl ⟨z.1, z.2.1, fun q => z.2.2 (h _ q)⟩) .inr
theorem TAt.unh {fb : Addr → Prop} (h : ∀ a, fb a → al.fb a) {a : Addr} {xs : List V} (l : TAt K H al n a xs) : TAt K H ⟨al.f, fb⟩ n a xs := l.elim (fun z => .inl ⟨z.1, z.2.1, fun q => z.2.2 (h _ q)⟩) .inr
theorem R.unh {fb : Addr → Prop} (h : ∀ a, fb a → al.fb a) : ∀ {v : V} {d : DV}, R K H al n v d → R K H ⟨al.f, fb⟩ n v d := fun {v d} r =>
  R.rec (motive_1 := fun v d _ => R K H ⟨al.f, fb⟩ n v d) (motive_2 := fun vs ds _ => RA K H ⟨al.f, fb⟩ n vs ds)
    .non .bl .int .str .ty (fun l _ ih => .lst (l.unh h) ih) (fun l _ ih => .tup (l.unh h) ih) (fun hk => .obj (al := ⟨al.f, fb⟩) hk) .nil (fun _ _ i1 i2 => .cons i1 i2) r
theorem unh_all {fb : Addr → Prop} (h : ∀ a, fb a → al.fb a) : ∀ {vs : List V} {ds : List DV}, RA K H al n vs ds → RA K H ⟨al.f, fb⟩ n vs ds
  | _, _, .nil => .nil
  | _, _, .cons r q => .cons (r.unh h) (unh_all h q)
theorem unh_K {κ : Type} {fb : Addr → Prop} (h : ∀ a, fb a → al.fb a) : ∀ {vs : List (κ × V)} {ds : List (κ × DV)}, RK K H al n vs ds → RK K H ⟨al.f, fb⟩ n vs ds
  | _, _, .nil => .nil
  | _, _, .cons r q => .cons (r.unh h) (unh_K h q)
theorem SR.unh {fb : Addr → Prop} (h : ∀ a, fb a → al.fb a) (s : SR K cm H al mu) : SR K cm H ⟨al.f, fb⟩ mu := by
  refine ⟨s.inj, fun k m hk => ?_, fun a fa => s.fbt a (h a fa)⟩
  have z := s.ob k m hk
  cases m with
  | lst ds => obtain ⟨xs, h1, h2⟩ := z; exact ⟨xs, h1, unh_all h h2⟩
  | dic ds => obtain ⟨xs, h1, h2⟩ := z; exact ⟨xs, h1, unh_K h h2⟩
  | ins c ds => obtain ⟨dx, xs, h1, h2⟩ := z; exact ⟨dx, xs, h1, unh_K h h2⟩
  | lstF ds => obtain ⟨od, xs, h1, h2⟩ := z; exact ⟨od, xs, h1, unh_all h h2⟩
  | dicF ds => obtain ⟨od, xs, h1, h2⟩ := z; exact ⟨od, xs, h1, unh_K h h2⟩
theorem Lt.unh (t : Lt H1 al1 n1 H al n) : Lt H1 al1 n1 H ⟨al.f, al1.fb⟩ n := ⟨t.len, t.same, fun _ h => h, fun a o ha s => let ⟨h1, s1, _⟩ := t.keep a o ha s; ⟨h1, s1, fun z => z⟩, t.fz⟩
structure CSt (K : Frag') (cm : Cm) (D : Addr) (H1 : Hp) (al1 : Al) (n1 : Nat) (H : Hp) (al : Al) (mu : Mu) (acc : List DV) : Prop where
  sr : SR K cm H al mu
  lt : Lt H1 al1 n1 H al mu.length
  fb : al.fb D
  sp : Sep al mu.length D
  ac : ∃ xs, H D = some (.lst xs) ∧ RA K H al mu.length xs acc
theorem CSt.start {D : Addr} (s : SR K cm H1 al1 mu) (hD : H1 D = none) : CSt K cm D H1 al1 mu.length (upd H1 D (.lst [])) (DM.hid al1 D) mu [] :=
  ⟨s.hid hD, Lt.hid hD, .inr rfl, s.sep hD, [], upd_same, .nil⟩
theorem CSt.later {D : Addr} {acc : List DV} {H' : Hp} {al' : Al} {mu' : Mu} (c : CSt K cm D H1 al1 n1 H al mu acc) (s : SR K cm H' al' mu') (t : Lt H al mu.length H' al' mu'.length) : CSt K cm D H1 al1 n1 H' al' mu' acc := by
  obtain ⟨xs, h1, h2⟩ := c.ac
  obtain ⟨q1, q2, _⟩ := t.keep D _ h1 c.sp
  exact ⟨s, c.lt.trans t, t.fbm D c.fb, q2, xs, q1, h2.mono t⟩
theorem CSt.more {D : Addr} {acc : List DV} {v : V} {d : DV} (c : CSt K cm D H1 al1 n1 H al mu acc) (hD : H1 D = none) (r : R K H al mu.length v d) : ∃ xs, H D = some (.lst xs) ∧ xs.length = acc.length ∧ CSt K cm D H1 al1 n1 (upd H D (.lst (xs ++ [v]))) al mu (acc ++ [d]) := by
  obtain ⟨xs, h1, h2⟩ := c.ac
  refine ⟨xs, h1, h2.len, c.sr.poke c.fb c.sp, ⟨c.lt.len, c.lt.same, c.lt.fbm, fun a o ha s => ?_, fun a o' u ha => by rw [upd_ne (ne_of_none ha hD)]; exact c.lt.fz a o' u ha⟩, c.fb, c.sp, xs ++ [v], upd_same, poke_all c.fb (h2.app (.cons r .nil))⟩
  obtain ⟨q1, q2, q3⟩ := c.lt.keep a o ha s
  exact ⟨by rw [upd_ne (ne_of_none ha hD)]; exact q1, q2, q3⟩
theorem c_turn {D : Addr} {sg : L2.St} {dl : Dl} {acc : List DV} {x : V} {d : DV} {Q : VK} {E : XK} {skip : Mu → Out} {take : DV → Mu → Out} {Nx : Hp → Prop} {H0 : Hp} {al0 : Al} {n0 : Nat}
    (hG : SndGv K vs g t) (hT : SndT K cm W0 tt ft) (hE : SndE K cm W0 te fe) (hD : H1 D = none) (c : CSt K cm D H1 al1 n1 H al mu acc) (sl : SlD K H al mu.length (wipe sg vs) (wipeD dl vs)) (r : R K H al mu.length x d)
    (h : OOk K cm H0 al0 n0 (cStep t ft fe (wipeD dl vs) d mu skip take) Q E)
    (k1 : ∀ H' al' mu', CSt K cm D H1 al1 n1 H' al' mu' acc → OOk K cm H0 al0 n0 (skip mu') Q E → Nx H')
    (k2 : ∀ H' al' mu' e, CSt K cm D H1 al1 n1 H' al' mu' (acc ++ [e]) → OOk K cm H0 al0 n0 (take e mu') Q E → acc.length < 1000000 ∧ Nx H') :
    g x (wipe sg vs) H fun σ2 H2 => wipe σ2 vs = wipe sg vs ∧ tt σ2 H2 fun b H3 => if b = true then te σ2 H3 fun y H4 => ∃ acc, H4 D = some (.lst acc) ∧ acc.length < sizeLine ∧ Nx (upd H4 D (.lst (acc ++ [y]))) else Nx H3 := by
  unfold cStep at h
  cases e1 : t d (wipeD dl vs) with
  | none => rw [e1] at h; exact h.elim
  | some dl1 =>
    rw [e1] at h
    dsimp only at h
    refine hG x d (wipe sg vs) H al _ _ dl1 _ sl r e1 fun sg' sl' w' => ⟨w'.trans (wipe_idem sg vs), ?_⟩
    refine hT sg' H al dl1 mu c.sr sl' _ ?_
    cases e2 : ft dl1 mu with
    | bad => rw [e2] at h; exact h
    | exc z m1 => rw [e2] at h; exact h.elim
    | ok b m1 =>
      rw [e2] at h
      cases b <;> try exact h.elim
      rename_i b
      refine fun v H2 al2 s2 t2 r2 => ?_
      cases r2
      refine ⟨b, rfl, ?_⟩
      have c2 := c.later s2 t2
      cases b with
      | false => rw [if_neg Bool.false_ne_true]; exact k1 H2 al2 m1 c2 h
      | true =>
        rw [if_pos rfl]
        dsimp only at h
        refine hE sg' H2 al2 dl1 m1 s2 (sl'.mono t2) _ ?_
        cases e3 : fe dl1 m1 with
        | bad => rw [e3] at h; exact h
        | exc z m2 => rw [e3] at h; exact h.elim
        | ok y m2 =>
          rw [e3] at h
          refine fun v H3 al3 s3 t3 r3 => ?_
          have c3 := c2.later s3 t3
          obtain ⟨xs, h1, h2, c4⟩ := c3.more hD r3
          obtain ⟨hz, nx⟩ := k2 _ al3 m2 y c4 h
          exact ⟨xs, h1, Nat.lt_of_lt_of_le (by rw [h2]; exact hz) (show 1000000 ≤ sizeLine by decide), nx⟩
def FinOk (K : Frag') (cm : Cm) (fin : List DV → Mu → Out) : Prop := ∀ (D : Addr) (H0 : Hp) (al0 : Al) (n0 : Nat) (H1 : Hp) (al1 : Al) (mu1 : Mu) (H2 : Hp) (al2 : Al) (m2 : Mu) (acc : List DV) (Q : VK) (E : XK), SR K cm H1 al1 mu1 → Lt H0 al0 n0 H1 al1 mu1.length → H1 D = none →
  CSt K cm D H1 al1 mu1.length H2 al2 m2 acc → OOk K cm H0 al0 n0 (fin acc m2) Q E → Q (.ref D) H2
theorem fin_L : FinOk K cm finL := fun D H0 al0 n0 H1 al1 mu1 H2 al2 m2 acc Q E s1 t1 hD c2 h2 => by
  obtain ⟨ys, hx1, hx2⟩ := c2.ac
  exact h2 _ H2 ⟨al2.f, al1.fb⟩ (c2.sr.unh c2.lt.fbm) (t1.trans c2.lt.unh) (.lst (.inl ⟨.inl hx1, c2.sp, fun z => s1.nf hD z⟩) (unh_all c2.lt.fbm hx2))
def ext2 (al : Al) (fb : Addr → Prop) (n : Nat) (p : Addr) : Al := ⟨fun k => if k = n then p else al k, fb⟩
theorem ext2_same {fb : Addr → Prop} {p : Addr} : ext2 al fb n p n = p := if_pos rfl
theorem ext2_ne {fb : Addr → Prop} {p : Addr} {k : Nat} (h : k < n) : ext2 al fb n p k = al k := if_neg (Nat.ne_of_lt h)
theorem sep2 {fb : Addr → Prop} {D a : Addr} (s : Sep al n a) (ne : a ≠ D) : Sep (ext2 al fb n D) (n + 1) a := fun k hk => by
  by_cases e : k = n
  · subst e; rw [ext2_same]; exact ne
  · rw [ext2_ne (by omega)]; exact s k (by omega)
theorem R.bare {fb : Addr → Prop} {D : Addr} (hD : al.fb D) (h : ∀ a, fb a → al.fb a) : ∀ {v : V} {d : DV}, R K H al n v d → R K H (ext2 al fb n D) (n + 1) v d := by
  have hL : ∀ {a : Addr} {xs : List V}, LAt K H al n a xs → LAt K H (ext2 al fb n D) (n + 1) a xs := fun {a xs} l => l.elim (fun z => .inl ⟨z.1, sep2 z.2.1 fun e => z.2.2 (by rw [e]; exact hD), fun q => z.2.2 (h _ q)⟩) .inr
  have hT : ∀ {a : Addr} {xs : List V}, TAt K H al n a xs → TAt K H (ext2 al fb n D) (n + 1) a xs := fun {a xs} l => l.elim (fun z => .inl ⟨z.1, sep2 z.2.1 fun e => z.2.2 (by rw [e]; exact hD), fun q => z.2.2 (h _ q)⟩) .inr
  intro v d r
  refine R.rec (motive_1 := fun v d _ => R K H (ext2 al fb n D) (n + 1) v d) (motive_2 := fun vs ds _ => RA K H (ext2 al fb n D) (n + 1) vs ds)
    .non .bl .int .str .ty (fun l _ ih => .lst (hL l) ih) (fun l _ ih => .tup (hT l) ih) (fun {k} hk => ?_) .nil (fun _ _ i1 i2 => .cons i1 i2) r
  have z : R K H (ext2 al fb n D) (n + 1) (.ref (ext2 al fb n D k)) (.obj k) := .obj (Nat.lt_succ_of_lt hk)
  rw [ext2_ne hk] at z
  exact z
theorem bare_all {fb : Addr → Prop} {D : Addr} (hD : al.fb D) (h : ∀ a, fb a → al.fb a) : ∀ {vs : List V} {ds : List DV}, RA K H al n vs ds → RA K H (ext2 al fb n D) (n + 1) vs ds
  | _, _, .nil => .nil
  | _, _, .cons r q => .cons (r.bare hD h) (bare_all hD h q)
theorem bare_K {κ : Type} {fb : Addr → Prop} {D : Addr} (hD : al.fb D) (h : ∀ a, fb a → al.fb a) : ∀ {vs : List (κ × V)} {ds : List (κ × DV)}, RK K H al n vs ds → RK K H (ext2 al fb n D) (n + 1) vs ds
  | _, _, .nil => .nil
  | _, _, .cons r q => .cons (r.bare hD h) (bare_K hD h q)
theorem fin_M : FinOk K cm finM := fun D H0 al0 n0 H1 al1 mu1 H2 al2 m2 acc Q E s1 t1 hD c2 h2 => by
  obtain ⟨ys, hx1, hx2⟩ := c2.ac
  have el : (m2 ++ [MO.lst acc]).length = m2.length + 1 := by rw [List.length_append, List.length_singleton]
  have sr : SR K cm H2 (ext2 al2 al1.fb m2.length D) (m2 ++ [.lst acc]) := by
    refine ⟨fun i j hi hj e => ?_, fun k u hu => ?_, fun a fa => c2.sr.fbt a (c2.lt.fbm a fa)⟩
    · rw [el] at hi hj
      by_cases h1 : i = m2.length
      · by_cases h3 : j = m2.length
        · omega
        · rw [h1, ext2_same, ext2_ne (by omega)] at e
          exact absurd e (c2.sp j (by omega))
      · by_cases h3 : j = m2.length
        · rw [h3, ext2_same, ext2_ne (by omega)] at e
          exact absurd e.symm (c2.sp i (by omega))
        · rw [ext2_ne (by omega), ext2_ne (by omega)] at e
          exact c2.sr.inj i j (by omega) (by omega) e
    · rw [el]
      by_cases h1 : k < m2.length
      · rw [List.getElem?_append_left h1] at hu
        rw [ext2_ne h1]
        have z := c2.sr.ob k u hu
        cases u with
        | lst ds => obtain ⟨xs, g1, g2⟩ := z; exact ⟨xs, g1, bare_all c2.fb c2.lt.fbm g2⟩
        | dic ds => obtain ⟨xs, g1, g2⟩ := z; exact ⟨xs, g1, bare_K c2.fb c2.lt.fbm g2⟩
        | ins c ds => obtain ⟨dx, xs, g1, g2⟩ := z; exact ⟨dx, xs, g1, bare_K c2.fb c2.lt.fbm g2⟩
        | lstF ds => obtain ⟨od, xs, g1, g2⟩ := z; exact ⟨od, xs, g1, bare_all c2.fb c2.lt.fbm g2⟩
        | dicF ds => obtain ⟨od, xs, g1, g2⟩ := z; exact ⟨od, xs, g1, bare_K c2.fb c2.lt.fbm g2⟩
      · have hk' := (List.getElem?_eq_some_iff.mp hu).1
        rw [el] at hk'
        have e : k = m2.length := by omega
        subst e
        rw [List.getElem?_append_right (Nat.le_refl _), Nat.sub_self] at hu
        cases hu
        rw [ext2_same]
        exact ⟨ys, hx1, bare_all c2.fb c2.lt.fbm hx2⟩
  have lt : Lt H1 al1 mu1.length H2 (ext2 al2 al1.fb m2.length D) (m2 ++ [MO.lst acc]).length := by
    rw [el]
    have hl := c2.lt.len
    refine ⟨by omega, fun k hk => by rw [ext2_ne (by omega)]; exact c2.lt.same k hk, fun _ h => h, fun a o ha s => ?_, c2.lt.fz⟩
    obtain ⟨q1, q2, _⟩ := c2.lt.keep a o ha s
    exact ⟨q1, sep2 q2 (ne_of_none ha hD), fun z => z⟩
  refine h2 _ H2 (ext2 al2 al1.fb m2.length D) sr (t1.trans lt) ?_
  rw [el]
  have z : R K H2 (ext2 al2 al1.fb m2.length D) (m2.length + 1) (.ref (ext2 al2 al1.fb m2.length D m2.length)) (.obj m2.length) := .obj (Nat.lt_succ_self _)
  rw [ext2_same] at z
  exact z
theorem snd_comp {fin : List DV → Mu → Out} (hF : FinOk K cm fin) (hI : SndI K cm W wi f) (hG : SndGv K vs g t) (hT : SndT K cm W0 tt ft) (hE : SndE K cm W0 te fe) : SndE K cm W (tLc wi g tt te vs) (eCompG fin f t ft fe vs) := fun sg H al dl mu s sl Q h => by
  refine hI sg H al dl mu s sl _ ?_
  unfold eCompG at h
  cases e : f dl mu with
  | bad => rw [e] at h; exact h
  | exc z m => rw [e] at h; exact h
  | it ds m =>
    rw [e] at h
    dsimp only at h
    refine fun J H1 al1 s1 t1 st D hD => ?_
    have slw := (sl.mono t1).wipe vs
    refine ⟨fun i k H2 => k = ds.length - i ∧ i ≤ ds.length ∧ ∃ al2 m2 acc, CSt K cm D H1 al1 m.length H2 al2 m2 acc ∧ OOk K cm H al mu.length (compL fin t ft fe (wipeD dl vs) (ds.drop i) acc m2) Q (fun c d H' => W c d sg H'), ⟨ds.length, rfl, Nat.zero_le _, _, m, [], CSt.start s1 hD, h⟩, ?_⟩
    rintro i k H2 ⟨rfl, hi, al2, m2, acc, c2, h2⟩
    obtain ⟨st1, st2⟩ := st H2 al2 m2 c2.sr c2.lt i
    by_cases hlt : i < ds.length
    · obtain ⟨go, yld⟩ := st1 hlt
      refine .inr ⟨go, fun H' => ∃ al2 m2 acc, CSt K cm D H1 al1 m.length H' al2 m2 acc ∧ OOk K cm H al mu.length (compL fin t ft fe (wipeD dl vs) (ds.drop (i + 1)) acc m2) Q (fun c d H' => W c d sg H'), fun H' q => ⟨ds.length - (i + 1), by omega, rfl, hlt, q⟩, fun x H3 y => ?_⟩
      obtain ⟨s3, t3, d, e1, r3⟩ := yld x H3 y
      have ed : ds.drop i = d :: ds.drop (i + 1) := by
        obtain ⟨hl, e2⟩ := List.getElem?_eq_some_iff.mp e1
        rw [← e2]
        exact List.drop_eq_getElem_cons hl
      rw [ed] at h2
      have c3 := c2.later s3 t3
      refine c_turn hG hT hE hD c3 (slw.mono c3.lt) r3 h2 (fun H' al' mu' c' h' => ⟨al', mu', acc, c', h'⟩) (fun H' al' mu' e c' h' => ?_)
      by_cases hz : acc.length < 1000000
      · rw [if_pos hz] at h'
        exact ⟨hz, al', mu', acc ++ [e], c', h'⟩
      · rw [if_neg hz] at h'
        exact h'.elim
    · have e1 : ds.drop i = [] := List.drop_eq_nil_of_le (by omega)
      rw [e1] at h2
      exact .inl ⟨st2 hlt, hF D H al mu.length H1 al1 m H2 al2 m2 acc Q _ s1 t1 hD c2 h2⟩
  | dyn k m =>
    rw [e] at h
    dsimp only at h
    refine fun H1 al1 s1 t1 hk D hD => ?_
    have slw := (sl.mono t1).wipe vs
    cases em : m[k]? with
    | none => rw [em] at h; exact h.elim
    | some o =>
      cases o with
      | dic _ => rw [em] at h; exact h.elim
      | ins _ _ | lstF _ | dicF _ => rw [em] at h; exact h.elim
      | lst es0 =>
        rw [em] at h
        dsimp only at h
        refine ⟨fun i fuel H2 => ∃ al2 m2 acc, CSt K cm D H1 al1 m.length H2 al2 m2 acc ∧ OOk K cm H al mu.length (compM fin t ft fe (wipeD dl vs) k fuel i acc m2) Q (fun c d H' => W c d sg H'), ⟨es0.length, _, m, [], CSt.start s1 hD, h⟩, ?_⟩
        rintro i fuel H2 ⟨al2, m2, acc, c2, h2⟩
        have ek := c2.lt.same k hk
        unfold compM at h2
        cases em2 : m2[k]? with
        | none => rw [em2] at h2; exact h2.elim
        | some o2 =>
          cases o2 with
          | dic _ => rw [em2] at h2; exact h2.elim
          | ins _ _ | lstF _ | dicF _ => rw [em2] at h2; exact h2.elim
          | lst es =>
            rw [em2] at h2
            obtain ⟨xs, hx, ra⟩ := c2.sr.ob k _ em2
            rw [ek] at hx
            have sq : SqL K H2 (al1 k) xs := SqL.of hx
            dsimp only at h2
            cases ei : es[i]? with
            | none =>
              rw [ei] at h2
              exact .inl ⟨⟨xs, sq, by rw [ra.len]; exact List.getElem?_eq_none_iff.mp ei⟩, hF D H al mu.length H1 al1 m H2 al2 m2 acc Q _ s1 t1 hD c2 h2⟩
            | some d =>
              rw [ei] at h2
              obtain ⟨v, e1, r3⟩ := ra.get ei
              cases fuel with
              | zero => exact h2.elim
              | succ fuel =>
                refine .inr ⟨⟨xs, v, sq, e1⟩, fun H' => ∃ al2 m2 acc, CSt K cm D H1 al1 m.length H' al2 m2 acc ∧ OOk K cm H al mu.length (compM fin t ft fe (wipeD dl vs) k fuel (i + 1) acc m2) Q (fun c d H' => W c d sg H'), fun H' q => ⟨fuel, Nat.lt_succ_self _, q⟩, fun x H3 y => ?_⟩
                obtain ⟨rfl, y⟩ := y
                have ev : x = v := by
                  have z := y xs sq
                  rw [e1] at z
                  exact (Option.some.inj z).symm
                subst ev
                refine c_turn hG hT hE hD c2 (slw.mono c2.lt) r3 h2 (fun H' al' mu' c' h' => ⟨al', mu', acc, c', h'⟩) (fun H' al' mu' e c' h' => ?_)
                by_cases hz : acc.length < 1000000
                · rw [if_pos hz] at h'
                  exact ⟨hz, al', mu', acc ++ [e], c', h'⟩
                · rw [if_neg hz] at h'
                  exact h'.elim
theorem snd_yes : SndT K cm W0 tYes eYes := fun sg H al dl mu s sl R1 h => by
  obtain ⟨b, e, z⟩ := h _ H al s Lt.refl (.bl true)
  cases e
  exact z
end
section
variable {cm : Cm} {X : Cx} {W : WX} {pos p spos : Pos} {tgt iter elt : Expr} {ifs : List Expr} {scope : Scope} {own : List (Str × Nat)} {f : DI} {fe ft : DE} {t : Tg} {fin : List DV → Mu → Out}
abbrev Blk (X : Cx) (s : Shared) (H : Hp) (scope : Scope) (C : Addr) (cl : List (Str × Addr)) (fp : List Addr) : Cx := X.blk s H scope (compEnvC scope cl C X.env) fp
def canE (K : Frag') (cm : Cm) (W : WX) (f : DE) : TE := fun sg H Q => ∃ al dl mu, SR K cm H al mu ∧ SlD K H al mu.length sg dl ∧ OOk K cm H al mu.length (f dl mu) Q (fun c d H' => W c d sg H')
def canT (K : Frag') (cm : Cm) (W : WX) (f : DE) : TT := fun sg H R1 => ∃ al dl mu, SR K cm H al mu ∧ SlD K H al mu.length sg dl ∧ OOk K cm H al mu.length (f dl mu) (fun v H' => ∃ b, v = .bl b ∧ R1 b H') (fun c d H' => W c d sg H')
def canGv (K : Frag') (vs : List Nat) (t : Tg) : TG := fun v sg H Q => ∃ d al n dl dl', SlD K H al n sg dl ∧ R K H al n v d ∧ t d dl = some dl' ∧ ∀ sg', SlD K H al n sg' dl' → wipe sg' vs = wipe sg vs → Q sg' H
theorem can_E {K : Frag'} {f : DE} : SndE K cm W (canE K cm W f) f := fun sg H al dl mu s sl Q h => ⟨al, dl, mu, s, sl, h⟩
theorem can_T {K : Frag'} {f : DE} : SndT K cm W (canT K cm W f) f := fun sg H al dl mu s sl Q h => ⟨al, dl, mu, s, sl, h⟩
theorem can_Gv {K : Frag'} {vs : List Nat} : SndGv K vs (canGv K vs t) t := fun v d sg H al n dl dl' Q sl r e k => ⟨d, al, n, dl, dl', sl, r, e, k⟩
theorem PDE.can {e : Expr} {f : DE} (h : PDE cm X W e f) : PE X e (canE X.K cm W f) := by
  obtain ⟨t, p, s⟩ := h.ex
  exact ⟨fun pins s' σ H Q I q => let ⟨al, dl, mu, sr, sl, h⟩ := q; p.run pins s' σ H Q I (s σ H al dl mu sr sl Q h)⟩
theorem PDT.can {e : Expr} {f : DE} (h : PDT cm X W e f) : PT X e (canT X.K cm W f) := by
  obtain ⟨t, p, s⟩ := h.ex
  exact ⟨fun pins s' σ H Q I q => let ⟨al, dl, mu, sr, sl, h⟩ := q; p.run pins s' σ H Q I (s σ H al dl mu sr sl Q h)⟩
structure PDGv (X : Cx) (vs : List Nat) (e : Expr) (t : Tg) : Prop where
  ex : ∃ g, PG X e g ∧ SndGv X.K vs g t
structure PDGvs (X : Cx) (vs : List Nat) (es : List Expr) (ts : List Tg) : Prop where
  ex : ∃ g, PGs X es g ∧ SndGvs X.K vs g ts
theorem PDGv.can {vs : List Nat} {e : Expr} (h : PDGv X vs e t) : PG X e (canGv X.K vs t) := by
  obtain ⟨g, p, s⟩ := h.ex
  exact ⟨fun pins s' σ H v u Q I r q => let ⟨d, al, n, dl, dl', sl, rr, e, k⟩ := q; p.run pins s' σ H v u Q I r (s v d σ H al n dl dl' Q sl rr e k)⟩
theorem pdgv_name {vs : List Nat} {i : Nat} {x : Str} (hN : X.N.Nodup) (hi : X.N[i]? = some x := by rfl) (hx : Loc X.env.scope x := by first | exact Or.inl rfl | exact Or.inr rfl) (hf : X.fn x = true ∨ X.env.scope.names.lookup x = some .local := by first | exact .inl rfl | exact .inr rfl) (hv : i ∈ vs := by decide) : PDGv X vs (.Name x pos) (tgN i) := ⟨_, pg_name hN hi hx hf, sgv_name hv⟩
structure PDTs (cm : Cm) (X : Cx) (W : WX) (es : List Expr) (f : DE) : Prop where
  ex : ∃ t, PTs X es t ∧ SndT X.K cm W t f
theorem pdts_nil : PDTs cm X W0 [] eYes := ⟨_, pts_nil, snd_yes⟩
theorem PDTs.can {es : List Expr} {f : DE} (h : PDTs cm X W es f) : PTs X es (canT X.K cm W f) := by
  obtain ⟨t, p, s⟩ := h.ex
  exact ⟨fun pins s' σ H Q I q => let ⟨al, dl, mu, sr, sl, h⟩ := q; p.run pins s' σ H Q I (s σ H al dl mu sr sl Q h)⟩
theorem pd_comp (hF : FinOk X.K cm fin) (hc : X.calm = true) (hN : X.N.Nodup) (hi : PDI cm X W tgt iter f) (ok : BlkOk X.N X.env.scope scope own)
    (hg : ∀ (s : Shared) (H : Hp) (C : Addr) (cl : List (Str × Addr)) (fp : List Addr), PDGv (Blk X s H scope C cl fp) (own.map (·.2)) tgt t)
    (ht : ∀ (s : Shared) (H : Hp) (C : Addr) (cl : List (Str × Addr)) (fp : List Addr), PDTs cm (Blk X s H scope C cl fp) W0 ifs ft)
    (he : ∀ (s : Shared) (H : Hp) (C : Addr) (cl : List (Str × Addr)) (fp : List Addr), PDE cm (Blk X s H scope C cl fp) W0 elt fe)
    (hs : ∀ x, foldedSetIterable iter X.env x = pure x := by intro _; rfl) : PDE cm X W (.ListComp elt [⟨tgt, iter, ifs, 0⟩] scope pos) (eCompG fin f t ft fe (own.map (·.2))) := by
  obtain ⟨_, pi, si⟩ := hi.ex
  exact ⟨_, pe_lc hc hN pi ok (fun s H C cl fp => (hg s H C cl fp).can) (fun s H C cl fp => (ht s H C cl fp).can) (fun s H C cl fp => (he s H C cl fp).can) hs, snd_comp hF si can_Gv can_T can_E⟩
theorem pds_setComp {i : Nat} {y : Str} {py : Pos} (hF : FinOk X.K cm fin) (hc : X.calm = true) (hN : X.N.Nodup) (hyl : X.env.scope.names.lookup y = some .local) (hsw : swapsWith (.ListComp elt [⟨tgt, iter, ifs, 0⟩] scope pos) (some (.Name y py)) spos.line X.env = pure true) (hi : PDI cm X W tgt iter f) (ok : BlkOk X.N X.env.scope scope own)
    (hg : ∀ (s : Shared) (H : Hp) (C : Addr) (cl : List (Str × Addr)) (fp : List Addr), PDGv (Blk X s H scope C cl fp) (own.map (·.2)) tgt t)
    (ht : ∀ (s : Shared) (H : Hp) (C : Addr) (cl : List (Str × Addr)) (fp : List Addr), PDTs cm (Blk X s H scope C cl fp) W0 ifs ft)
    (he : ∀ (s : Shared) (H : Hp) (C : Addr) (cl : List (Str × Addr)) (fp : List Addr), PDE cm (Blk X s H scope C cl fp) W0 elt fe)
    (hs : ∀ x, foldedSetIterable iter X.env x = pure x := by intro _; rfl) (hy : X.N[i]? = some y := by rfl) : PDS cm X W (.Assign [.Name y py] (.ListComp elt [⟨tgt, iter, ifs, 0⟩] scope pos) spos) (sSet i (eCompG fin f t ft fe (own.map (·.2)))) := by
  obtain ⟨_, pi, si⟩ := hi.ex
  exact ⟨_, ps_setLc hc hN hy hyl hsw pi ok (fun s H C cl fp => (hg s H C cl fp).can) (fun s H C cl fp => (ht s H C cl fp).can) (fun s H C cl fp => (he s H C cl fp).can) hs, snd_set (snd_comp hF si can_Gv can_T can_E)⟩
end

def partOf : DV → Option (Option Int)
  | .non => some none
  | .int i => some (some i)
  | _ => none
def gSl (d : DV) (lo hi : Option Int) (mu : Mu) : Option DV := match d with
  | .str z => if z.length ≤ 1000000 then some (.str ((z.drop (HT.sIx z.length 0 lo)).take (HT.sIx z.length z.length hi - HT.sIx z.length 0 lo))) else none
  | .tup ds => if HT.sIx ds.length 0 lo = 0 ∧ HT.sIx ds.length ds.length hi = ds.length then none else some (.tup ((ds.drop (HT.sIx ds.length 0 lo)).take (HT.sIx ds.length ds.length hi - HT.sIx ds.length 0 lo)))
  | d => match lstOf mu d with
    | some ds => some (.lst ((ds.drop (HT.sIx ds.length 0 lo)).take (HT.sIx ds.length ds.length hi - HT.sIx ds.length 0 lo)))
    | none => none
def eSl (fe fl fh : DE) : DE := fun dl mu => (fe dl mu).bind fun d m1 => (fl dl m1).bind fun l m2 => match partOf l with
  | some lo => (fh dl m2).bind fun h m3 => (match partOf h with
    | some hi => lift (gSl d lo hi m3) m3
    | none => .bad)
  | none => .bad
structure PDO (cm : Cm) (X : Cx) (W : WX) (e : Option Expr) (f : DE) : Prop where
  ex : ∃ t : TO, PO X e t ∧ ∀ (sg : L2.St) (H : Hp) (al : Al) (dl : Dl) (mu : Mu), SR X.K cm H al mu → SlD X.K H al mu.length sg dl → ∀ R1 : Option Int → Hp → Prop, OOk X.K cm H al mu.length (f dl mu) (fun v H' => ∃ o, R1 o H' ∧ v = (match o with | none => .non | some i => .int i)) (fun c d H' => W c d sg H') → t sg H R1
section
variable {K : Frag'} {cm : Cm} {X : Cx} {W : WX} {pos p2 : Pos} {e : Expr} {lo hi : Option Expr} {fe fl fh : DE} {H : Hp} {al : Al} {mu : Mu}
theorem pdo_none : PDO cm X W none (eC .non) := ⟨_, po_none, fun sg H al dl mu s sl R1 h => by
  obtain ⟨o, q, e⟩ := h _ H al s Lt.refl .non
  cases o with
  | none => exact q
  | some i => cases e⟩
def eI (f : DE) : DE := fun dl mu => (f dl mu).bind fun d m => match d with
  | .int i => .ok (.int i) m
  | _ => .bad
theorem pdo_some {f : DE} (h : PDE cm X W e f) : PDO cm X W (some e) (eI f) := by
  obtain ⟨t, p, s⟩ := h.ex
  refine ⟨_, po_some p, fun sg H al dl mu sr sl R1 q => ?_⟩
  refine snd_bind (R1 := fun x H1 => ∃ i, x = .int i ∧ R1 (some i) H1) s sr sl rfl q fun d m1 v H1 al1 s1 t1 sl1 r1 h1 => ?_
  cases d <;> try exact h1.elim
  cases r1
  obtain ⟨o, z, e⟩ := h1 _ H1 al1 s1 Lt.refl (.int _)
  cases o with
  | none => cases e
  | some i => cases e; exact ⟨_, rfl, z⟩
def rSlAny (K : Frag') : V → Option Int → Option Int → Hp → VK → Prop := fun x lo hi H Q => rSlL K x lo hi H Q ∨ rSlT K x lo hi H Q ∨ rSlS x lo hi H Q
theorem sl_ok {x : V} {d e : DV} {lo hi : Option Int} {Q : VK} (s : SR K cm H al mu) (r : R K H al mu.length x d) (h : gSl d lo hi mu = some e) (k : ∀ v H', SR K cm H' al mu → Lt H al mu.length H' al mu.length → R K H' al mu.length v e → Q v H') : rSlAny K x lo hi H Q := by
  have other : (match lstOf mu d with | some ds => some (DV.lst ((ds.drop (HT.sIx ds.length 0 lo)).take (HT.sIx ds.length ds.length hi - HT.sIx ds.length 0 lo))) | none => none) = some e → rSlL K x lo hi H Q := fun h => by
    cases el : lstOf mu d with
    | none => rw [el] at h; cases h
    | some ds =>
      rw [el] at h
      cases h
      obtain ⟨a, xs, rfl, h1, h2⟩ := lst_of s r el
      refine ⟨a, xs, rfl, h1, fun p hp => ?_⟩
      have t : Lt H al mu.length (upd H p (.lst (cutV xs lo hi))) al mu.length := Lt.new (mu := mu) hp
      have cut : RA K H al mu.length (cutV xs lo hi) ((ds.drop (HT.sIx ds.length 0 lo)).take (HT.sIx ds.length ds.length hi - HT.sIx ds.length 0 lo)) := by
        unfold cutV
        rw [h2.len]
        exact (h2.drop _).take _
      exact k _ _ (s.new hp) t (.lst (.inl ⟨.inl upd_same, s.sep hp, s.nf hp⟩) (cut.mono t))
  cases d with
  | str z =>
    cases r
    have h : (if z.length ≤ 1000000 then some (DV.str ((z.drop (HT.sIx z.length 0 lo)).take (HT.sIx z.length z.length hi - HT.sIx z.length 0 lo))) else none) = some e := h
    by_cases c : z.length ≤ 1000000
    · rw [if_pos c] at h
      cases h
      refine .inr (.inr ⟨_, rfl, line_big (by rw [SX.S_len]; exact c), ?_⟩)
      have ee : cutS (Sx z) lo hi = Sx ((z.drop (HT.sIx z.length 0 lo)).take (HT.sIx z.length z.length hi - HT.sIx z.length 0 lo)) := by
        unfold cutS
        rw [SX.S_len]
      rw [ee]
      exact k _ H s Lt.refl (.str _)
    · rw [if_neg c] at h
      cases h
  | tup ds =>
    cases r with
    | tup hl ra =>
      have h : (if HT.sIx ds.length 0 lo = 0 ∧ HT.sIx ds.length ds.length hi = ds.length then none else some (DV.tup ((ds.drop (HT.sIx ds.length 0 lo)).take (HT.sIx ds.length ds.length hi - HT.sIx ds.length 0 lo)))) = some e := h
      split at h
      · cases h
      · rename_i c
        cases h
        refine .inr (.inl ⟨_, _, rfl, hl.sq, by rw [ra.len]; exact c, fun p hp => ?_⟩)
        rename_i xs
        have t : Lt H al mu.length (upd H p (.tup (cutV xs lo hi))) al mu.length := Lt.new (mu := mu) hp
        have cut : RA K H al mu.length (cutV xs lo hi) ((ds.drop (HT.sIx ds.length 0 lo)).take (HT.sIx ds.length ds.length hi - HT.sIx ds.length 0 lo)) := by
          unfold cutV
          rw [ra.len]
          exact (ra.drop _).take _
        exact k _ _ (s.new hp) t (.tup (.inl ⟨.inl upd_same, s.sep hp, s.nf hp⟩) (cut.mono t))
  | _ => exact .inl (other h)
theorem pd_sl (h : PDE cm X W e fe) (hl : PDO cm X W lo fl) (hh : PDO cm X W hi fh) : PDE cm X W (.Subscript e (.Slice lo hi none p2) pos) (eSl fe fl fh) := by
  obtain ⟨te, pe, se⟩ := h.ex
  obtain ⟨tl, pl, sl⟩ := hl.ex
  obtain ⟨th, ph, sh⟩ := hh.ex
  refine ⟨_, pe_slice (sl_list.or (sl_tup.or sl_str)) pe pl ph, fun sg H al dl mu s sld Q q => ?_⟩
  refine snd_bind (R1 := fun x H1 => tl sg H1 fun l H2 => th sg H2 fun u H3 => rSlAny X.K x l u H3 Q) se s sld rfl q fun d m1 v H1 al1 s1 t1 sl1 r1 h1 => ?_
  refine sl sg H1 al1 dl m1 s1 sl1 _ ?_
  have h1 : OOk X.K cm H1 al1 m1.length ((fl dl m1).bind fun l m2 => match partOf l with | some lo => (fh dl m2).bind fun h m3 => (match partOf h with | some hi => lift (gSl d lo hi m3) m3 | none => .bad) | none => .bad) Q _ := h1
  cases e2 : fl dl m1 with
  | bad => rw [e2] at h1; exact h1
  | exc z m2 => rw [e2] at h1; exact h1
  | ok l m2 =>
    rw [e2] at h1
    refine fun v2 H2 al2 s2 t2 r2 => ?_
    have h2 : OOk X.K cm H2 al2 m2.length (match partOf l with | some lo => (fh dl m2).bind fun h m3 => (match partOf h with | some hi => lift (gSl d lo hi m3) m3 | none => .bad) | none => .bad) Q _ := OOk.later t2 h1
    have key : ∀ o : Option Int, partOf l = some o → th sg H2 fun u H3 => rSlAny X.K v o u H3 Q := fun o eo => by
      rw [eo] at h2
      dsimp only at h2
      refine sh sg H2 al2 dl m2 s2 ((sl1.mono t2)) _ ?_
      cases e3 : fh dl m2 with
      | bad => rw [e3] at h2; exact h2
      | exc z m3 => rw [e3] at h2; exact h2
      | ok u m3 =>
        rw [e3] at h2
        refine fun v3 H3 al3 s3 t3 r3 => ?_
        have h3 : OOk X.K cm H3 al3 m3.length (match partOf u with | some hi => lift (gSl d o hi m3) m3 | none => .bad) Q _ := OOk.later t3 h2
        have fin : ∀ o2 : Option Int, partOf u = some o2 → rSlAny X.K v o o2 H3 Q := fun o2 eo2 => by
          rw [eo2] at h3
          dsimp only at h3
          cases eg : gSl d o o2 m3 with
          | none => rw [eg] at h3; exact h3.elim
          | some dd =>
            rw [eg] at h3
            exact sl_ok s3 ((r1.mono t2).mono t3) eg fun v H' s' t' r' => h3 v H' al3 s' t' r'
        cases u with
        | non => cases r3; exact ⟨none, fin none rfl, rfl⟩
        | int j => cases r3; exact ⟨some j, fin (some j) rfl, rfl⟩
        | _ => exact h3.elim
    cases l with
    | non => cases r2; exact ⟨none, key none rfl, rfl⟩
    | int j => cases r2; exact ⟨some j, key (some j) rfl, rfl⟩
    | _ => exact h2.elim
end
end DM
namespace DM
open PySem PySem.Spec PyProof.Rows L2

theorem evA_len : ∀ {fs : List DE} {dl : Dl} {mu : Mu} {ds : List DV} {m1 : Mu}, evA fs dl mu = .ok ds m1 → ds.length = fs.length
  | [], _, _, _, _, h => by cases h; rfl
  | f :: fs, dl, mu, ds, m1, h => by
    have h : (match f dl mu with | .ok d m1 => (match evA fs dl m1 with | .ok ds m2 => AOut.ok (d :: ds) m2 | .exc e m2 => .exc e m2 | .bad => .bad) | .exc e m1 => .exc e m1 | .bad => .bad) = .ok ds m1 := h
    cases e1 : f dl mu with
    | bad => rw [e1] at h; cases h
    | exc x m => rw [e1] at h; cases h
    | ok d m2 =>
      rw [e1] at h
      dsimp only at h
      cases e2 : evA fs dl m2 with
      | bad => rw [e2] at h; cases h
      | exc x m => rw [e2] at h; cases h
      | ok ds2 m3 =>
        rw [e2] at h
        cases h
        exact congrArg (· + 1) (evA_len e2)
theorem args_bindL {K : Frag'} {cm : Cm} {W : WX} {t : TA} {fs : List DE} (hA : SndA K cm W t fs) (sg : L2.St) (H : Hp) (al : Al) (dl : Dl) (mu : Mu) (R1 : List V → Hp → Prop) (Q : VK) (E : XK) (k : List DV → Mu → Out) (s : SR K cm H al mu) (sl : SlD K H al mu.length sg dl) (hE : E = (fun c d H' => W c d sg H'))
    (h : OOk K cm H al mu.length (eArgs fs dl mu k) Q E)
    (kont : ∀ ds m1 vs H1 al1, SR K cm H1 al1 m1 → Lt H al mu.length H1 al1 m1.length → SlD K H1 al1 m1.length sg dl → RA K H1 al1 m1.length vs ds → OOk K cm H1 al1 m1.length (k ds m1) Q E → ds.length = fs.length → R1 vs H1) : t sg H R1 := by
  refine hA sg H al dl mu s sl R1 ?_
  have h : OOk K cm H al mu.length ((evA fs dl mu).out k) Q E := h
  cases e : evA fs dl mu with
  | ok ds m1 =>
    rw [e] at h
    exact fun vs H1 al1 s1 t1 r1 => kont ds m1 vs H1 al1 s1 t1 (sl.mono t1) r1 (OOk.later t1 h) (evA_len e)
  | exc x m1 =>
    rw [e] at h
    subst hE
    exact h
  | bad => rw [e] at h; exact h

abbrev GC := List DV → Mu → Option DV
def RC (K : Frag') (cm : Cm) (r : List V → Hp → VK → Prop) (g : GC) : Prop := ∀ (H : Hp) (al : Al) (mu : Mu) (vs : List V) (ds : List DV) (d : DV) (Q : VK), SR K cm H al mu → RA K H al mu.length vs ds → g ds mu = some d →
  (∀ v H', SR K cm H' al mu → Lt H al mu.length H' al mu.length → R K H' al mu.length v d → Q v H') → r vs H Q
def eCB (g : GC) (fs : List DE) : DE := fun dl mu => eArgs fs dl mu fun ds m => lift (g ds m) m
def gLen : GC
  | [.str l], _ => if l.length ≤ 1000000 then some (.int l.length) else none
  | [.tup ds], _ => some (.int ds.length)
  | [d], mu => match lstOf mu d with
    | some ds => some (.int ds.length)
    | none => match d with
      | .obj k => match mu[k]? with
        | some (.dic kvs) => some (.int kvs.length)
        | _ => none
      | _ => none
  | _, _ => none
def gOrd : GC
  | [.str [c]], _ => some (.int c)
  | _, _ => none
def tyName (mu : Mu) : DV → Option String
  | .non => some "NoneType" | .bl _ => some "bool" | .int _ => some "int" | .str _ => some "str" | .lst _ => some "list" | .tup _ => some "tuple" | .ty _ => none
  | .obj k => match mu[k]? with
    | some (.lst _) => some "list"
    | some (.dic _) => some "dict"
    | _ => none
def subTy (a b : String) : Option Bool :=
  if ["NoneType", "bool", "int", "str", "list", "tuple", "dict"].contains a && ["bool", "int", "str", "list", "tuple", "dict"].contains b then some (a == b || (a == "bool" && b == "int")) else none
def gIsi : GC
  | [d, .ty b], mu => (tyName mu d).bind fun a => (subTy a b).map .bl
  | _, _ => none
def gList : GC
  | [.tup ds], _ => some (.lst ds)
  | [d], mu => (lstOf mu d).map .lst
  | _, _ => none
section
variable {K : Frag'} {cm : Cm} {X : Cx} {W : WX} {pos p apos : Pos} {e o : Expr} {es : List Expr} {fs : List DE} {fo fe : DE} {g : GC} {r : List V → Hp → VK → Prop} {ta : TA} {x : Str} {id T : String} {H : Hp} {al : Al} {mu : Mu} {n : Nat}
theorem snd_cb (hr : RC K cm r g) (ha : SndA K cm W ta fs) : SndE K cm W (tCB r ta) (eCB g fs) := fun sg H al dl mu s sl Q q =>
  args_bind (R1 := fun vs H1 => r vs H1 Q) ha sg H al dl mu Q _ _ s sl rfl q fun ds m1 vs H1 al1 s1 t1 sl1 r1 h1 => by
    cases eg : g ds m1 with
    | none => rw [eg] at h1; exact h1.elim
    | some d =>
      rw [eg] at h1
      exact hr H1 al1 m1 vs ds d Q s1 r1 eg fun v H' s' t' r' => h1 v H' al1 s' t' r'
theorem pd_cb (hc : CallR X (.builtin id) r) (hr : RC X.K cm r g) (hg : Gl X x) (hm : X.mg x = none) (hv : bootBuiltins x = some (.builtin id)) (ha : PDA cm X W (e :: es) fs) (hn : x ≠ "__name__" := by decide) (hdb : (x == ("__debug__" : Str)) = false := by decide)
    (he : starEach (e :: es) X.env = (false, eval e X.env) :: starEach es X.env := by rfl) (hpl : (backTo pos (starEach es X.env)).any (·.1) = false := by rfl) : PDE cm X W (.Call (.Name x p) (e :: es) [] pos) (eCB g fs) := by
  obtain ⟨_, pa, sa⟩ := ha.ex
  exact ⟨_, pe_callB hc hg hm hv pa hn hdb he hpl, snd_cb hr sa⟩
theorem pd_cty (hc : CallR X (.type T) r) (hr : RC X.K cm r g) (hg : Gl X x) (hm : X.mg x = none) (hv : bootBuiltins x = some (.type T)) (ha : PDA cm X W (e :: es) fs) (hn : x ≠ "__name__" := by decide) (hdb : (x == ("__debug__" : Str)) = false := by decide)
    (he : starEach (e :: es) X.env = (false, eval e X.env) :: starEach es X.env := by rfl) (hpl : (backTo pos (starEach es X.env)).any (·.1) = false := by rfl) : PDE cm X W (.Call (.Name x p) (e :: es) [] pos) (eCB g fs) := by
  obtain ⟨_, pa, sa⟩ := ha.ex
  exact ⟨_, pe_callTy hc hg hm hv pa hn hdb he hpl, snd_cb hr sa⟩
theorem RA.one {vs : List V} {d : DV} (r : RA K H al n vs [d]) : ∃ v, vs = [v] ∧ R K H al n v d := by
  cases r with
  | cons r q => cases q; exact ⟨_, rfl, r⟩
theorem RA.two {vs : List V} {d e : DV} (r : RA K H al n vs [d, e]) : ∃ v w, vs = [v, w] ∧ R K H al n v d ∧ R K H al n w e := by
  cases r with
  | cons r q =>
    cases q with
    | cons r2 q => cases q; exact ⟨_, _, rfl, r, r2⟩
theorem RK.len {κ : Type} : ∀ {vs : List (κ × V)} {ds : List (κ × DV)}, RK K H al n vs ds → vs.length = ds.length
  | _, _, .nil => rfl
  | _, _, .cons _ q => congrArg (· + 1) (RK.len q)
theorem subTy_ok {a b : String} {c : Bool} (h : subTy a b = some c) : kitB a b = some c := by
  unfold subTy at h
  split at h
  · rename_i hh
    rw [Bool.and_eq_true] at hh
    have h1 : a ∈ ["NoneType", "bool", "int", "str", "list", "tuple", "dict"] := List.contains_iff_mem.mp hh.1
    have h2 : b ∈ ["bool", "int", "str", "list", "tuple", "dict"] := List.contains_iff_mem.mp hh.2
    simp only [List.mem_cons, List.not_mem_nil, or_false] at h1 h2
    rcases h1 with rfl | rfl | rfl | rfl | rfl | rfl | rfl <;> rcases h2 with rfl | rfl | rfl | rfl | rfl | rfl <;> (cases h; decide +kernel)
  · cases h
theorem ty_of {v : V} {d : DV} {a : String} (s : SR K cm H al mu) (r : R K H al mu.length v d) (h : tyName mu d = some a) : TyX K H v (.type a) := by
  cases r with
  | non => cases h; exact .base .non
  | bl b => cases h; exact .base (.bl b)
  | int b => cases h; exact .base (.int b)
  | str b => cases h; exact .base (.str _)
  | ty b => cases h
  | lst hl ra =>
    cases h
    rcases hl with ⟨hl | ⟨o, hl⟩, _⟩ | (hl | ⟨o, hl⟩) | ⟨o, its, n, h1, h2, _⟩
    · exact .base (.lst hl)
    · exact .base (.frz hl)
    · cases hl
    · cases hl
    · exact .kList h1 h2
  | tup hl ra =>
    cases h
    rcases hl with ⟨hl | ⟨o, hl⟩, _⟩ | (hl | ⟨o, hl⟩) | ⟨o, its, n, h1, h2, _⟩
    · exact .base (.tup hl)
    · exact .fTuple hl
    · cases hl
    · cases hl
    · exact .kTuple h1 h2
  | @obj k hk =>
    have h : (match mu[k]? with | some (.lst _) => some "list" | some (.dic _) => some "dict" | _ => none) = some a := h
    cases em : mu[k]? with
    | none => rw [em] at h; cases h
    | some m =>
      rw [em] at h
      have z := s.ob k _ em
      cases m with
      | lst ds => cases h; obtain ⟨xs, h1, _⟩ := z; exact .base (.lst h1)
      | dic ds => cases h; obtain ⟨xs, h1, _⟩ := z; exact .base (.dK h1)
      | ins _ _ | lstF _ | dicF _ => cases h
theorem rc_isi : RC K cm (rIsi K) gIsi := fun H al mu vs ds d Q s ra e k => by
  match ds, ra, e with
  | [c, .ty b], ra, e =>
    obtain ⟨v, w, rfl, r1, r2⟩ := ra.two
    cases r2
    have e : ((tyName mu c).bind fun a => (subTy a b).map DV.bl) = some d := e
    cases e1 : tyName mu c with
    | none => rw [e1] at e; cases e
    | some a =>
      rw [e1] at e
      have e : (subTy a b).map DV.bl = some d := e
      cases e2 : subTy a b with
      | none => rw [e2] at e; cases e
      | some q =>
        rw [e2] at e
        cases e
        exact ⟨v, .ty b, .type a, .type b, q, rfl, .ty b, ty_of s r1 e1, kit_ty (subTy_ok e2), k _ H s Lt.refl (.bl q)⟩
theorem pd_isi {e2 : Expr} (hg : Gl X "isinstance") (hm : X.mg "isinstance" = none) (ha : PDA cm X W [e, e2] fs) (he : starEach [e, e2] X.env = (false, eval e X.env) :: starEach [e2] X.env := by rfl) (hpl : (backTo pos (starEach [e2] X.env)).any (·.1) = false := by rfl) : PDE cm X W (.Call (.Name "isinstance" p) [e, e2] [] pos) (eCB gIsi fs) :=
  pd_cb call_isi rc_isi hg hm PyProof.Rows.boot_isinstance ha (by decide) (by decide) he hpl
theorem rc_list : RC K cm (fun xs H Q => ∃ p ys, xs = [.ref p] ∧ (SqL K H p ys ∨ SqT K H p ys) ∧ ∀ l, H l = none → Q (.ref l) (upd H l (.lst ys))) gList := fun H al mu vs ds d Q s ra e k => by
  have fin : ∀ {p : Addr} {ys : List V} {es : List DV}, RA K H al mu.length ys es → d = .lst es → (∀ l, H l = none → Q (.ref l) (upd H l (.lst ys))) := fun {p ys es} rr ed l hl => by
    subst ed
    have t : Lt H al mu.length (upd H l (.lst ys)) al mu.length := Lt.new (mu := mu) hl
    exact k _ _ (s.new hl) t (.lst (.inl ⟨.inl upd_same, s.sep hl, s.nf hl⟩) (rr.mono t))
  have other : ∀ c : DV, RA K H al mu.length vs [c] → (lstOf mu c).map DV.lst = some d → ∃ p ys, vs = [.ref p] ∧ (SqL K H p ys ∨ SqT K H p ys) ∧ ∀ l, H l = none → Q (.ref l) (upd H l (.lst ys)) := fun c ra e => by
    obtain ⟨v, rfl, r⟩ := ra.one
    cases el : lstOf mu c with
    | none => rw [el] at e; cases e
    | some es =>
      rw [el] at e
      obtain ⟨a, xs, rfl, h1, h2⟩ := lst_of s r el
      exact ⟨a, xs, rfl, .inl h1, fin (p := a) h2 (Option.some.inj e).symm⟩
  match ds, ra, e with
  | [.tup es], ra, e =>
    obtain ⟨v, rfl, r⟩ := ra.one
    cases r with
    | tup hl rr => exact ⟨_, _, rfl, .inr hl.sq, fin (p := 0) rr (Option.some.inj e).symm⟩
  | [.non], ra, e => exact other _ ra e
  | [.bl _], ra, e => exact other _ ra e
  | [.int _], ra, e => exact other _ ra e
  | [.str _], ra, e => exact other _ ra e
  | [.ty _], ra, e => exact other _ ra e
  | [.lst _], ra, e => exact other _ ra e
  | [.obj _], ra, e => exact other _ ra e
theorem pd_list (hg : Gl X "list") (hm : X.mg "list" = none) (ha : PDA cm X W [e] fs) (he : starEach [e] X.env = (false, eval e X.env) :: starEach [] X.env := by rfl) (hpl : (backTo pos (starEach [] X.env)).any (·.1) = false := by rfl) : PDE cm X W (.Call (.Name "list" p) [e] [] pos) (eCB gList fs) :=
  pd_cty call_list_of rc_list hg hm (by decide +kernel) ha (by decide) (by decide) he hpl
def strsOf : List DV → Option (List (List Nat))
  | [] => some []
  | .str l :: r => (strsOf r).map (l :: ·)
  | _ => none
def gJoin : G2 := fun x y mu => match x with
  | .str a => (match (match y with | .tup ds => some ds | y => lstOf mu y) with
    | some ds => match strsOf ds with
      | some ls => if (ls.map (·.length)).sum + ls.length * a.length ≤ 1000000 then some (.str (TL.joinL a ls)) else none
      | none => none
    | none => none)
  | _ => none
theorem strs_RA : ∀ {vs : List V} {ds : List DV} {ls : List (List Nat)}, RA K H al n vs ds → strsOf ds = some ls → vs = (ls.map Sx).map V.str
  | _, _, _, .nil, e => by cases e; rfl
  | _, _, ls, .cons (d := d) (ds := ds) r q, e => by
    cases d <;> try (cases e; done)
    cases r
    rename_i l
    have e : (strsOf ds).map (l :: ·) = some ls := e
    cases e1 : strsOf ds with
    | none => rw [e1] at e; cases e
    | some l2 =>
      rw [e1] at e
      cases e
      rw [strs_RA q e1]
      rfl
def rJoin (K : Frag') : R2 := fun x y H Q => (∃ a, x = .str a) ∧ ∃ a p, ∃ ys : List Str, x = .str a ∧ [y] = [.ref p] ∧ (SqL K H p (ys.map V.str) ∨ SqT K H p (ys.map V.str)) ∧ (ys.map (·.length)).sum + ys.length * a.length ≤ 16777216 ∧ Q (.str (Txt.join a ys)) H
theorem rs_join : RS K cm (rJoin K) gJoin := fun H al mu x y dx dy d Q s r1 r2 e k => by
  cases dx <;> try (cases e; done)
  rename_i a
  cases r1
  have e : (match (match dy with | .tup ds => some ds | y => lstOf mu y) with | some ds => (match strsOf ds with | some ls => if (ls.map (·.length)).sum + ls.length * a.length ≤ 1000000 then some (DV.str (TL.joinL a ls)) else none | none => none) | none => none) = some d := e
  cases e1 : (match dy with | .tup ds => some ds | y => lstOf mu y) with
  | none => rw [e1] at e; cases e
  | some ds =>
    rw [e1] at e
    dsimp only at e
    cases e2 : strsOf ds with
    | none => rw [e2] at e; cases e
    | some ls =>
      rw [e2] at e
      dsimp only at e
      by_cases c : (ls.map (·.length)).sum + ls.length * a.length ≤ 1000000
      · rw [if_pos c] at e
        cases e
        have fin : ∀ {p : Addr} {xs : List V}, y = .ref p → (SqL K H p xs ∨ SqT K H p xs) → RA K H al mu.length xs ds → rJoin K (.str (Sx a)) y H Q := fun {p xs} ey hs ra => by
          subst ey
          have ex := strs_RA ra e2
          refine ⟨⟨_, rfl⟩, Sx a, p, ls.map Sx, rfl, rfl, by rw [← ex]; exact hs, ?_, ?_⟩
          · rw [SX.lens, List.length_map, SX.S_len]
            exact Nat.le_trans c (by decide)
          · rw [SX.join_S]
            exact k _ H s Lt.refl (.str _)
        cases dy with
        | tup es =>
          cases e1
          cases r2 with
          | tup hl ra => exact fin rfl (.inr hl.sq) ra
        | _ =>
          obtain ⟨p, xs, ey, h1, h2⟩ := lst_of s r2 e1
          exact fin ey (.inl h1) h2
      · rw [if_neg c] at e
        cases e
def eM1 (g : G2) (fo fe : DE) : DE := fun dl mu => (fo dl mu).bind fun x m1 => match x with | .str a => (fe dl m1).bind fun y m2 => lift (g (.str a) y m2) m2 | _ => .bad
theorem snd_m1 {r : V → List V → Hp → VK → Prop} {g : G2} {to te : TE} (hr : RS K cm (fun x y H Q => (∃ a, x = .str a) ∧ r x [y] H Q) g) (ha : SndE K cm W to fo) (hb : SndE K cm W te fe) : SndE K cm W (tM1 r to te) (eM1 g fo fe) := fun sg H al dl mu s sl Q h => by
  refine snd_bind (R1 := fun x H1 => (∃ a, x = .str a) ∧ te sg H1 fun y H2 => r x [y] H2 Q) ha s sl rfl h fun x m1 v1 H1 al1 s1 t1 sl1 r1 h1 => ?_
  cases x <;> try exact h1.elim
  rename_i a
  cases r1
  refine ⟨⟨_, rfl⟩, ?_⟩
  refine snd_bind (R1 := fun y H2 => r _ [y] H2 Q) hb s1 sl1 rfl h1 fun y m2 v2 H2 al2 s2 t2 sl2 r2 h2 => ?_
  cases e : g (.str a) y m2 with
  | none => rw [e] at h2; exact h2.elim
  | some d =>
    rw [e] at h2
    exact (hr H2 al2 m2 _ v2 _ y d Q s2 (.str a) r2 e fun v H' s' t' r' => h2 v H' al2 s' t' r').2
theorem pd_join (ho : PDE cm X W o fo) (he : PDE cm X W e fe) (hs : starEach [e] X.env = [(false, eval e X.env)] := by rfl) (hbase : attributeBase o "join" X.env (eval o X.env) = eval o X.env := by rfl) (hline : (apos.endLine == pos.line) = true := by rfl) :
    PDE cm X W (.Call (.Attribute o "join" apos) [e] [] pos) (eM1 gJoin fo fe) := by
  obtain ⟨_, p1, s1⟩ := ho.ex
  obtain ⟨_, p2, s2⟩ := he.ex
  exact ⟨_, pe_join p1 p2 hs hbase hline, snd_m1 rs_join s1 s2⟩
end

abbrev Fn := List DV → Mu → Out
def runF (N m : Nat) (body : DS) : Fn := fun ds mu => if ds.length = m then (match body (startD N ds) mu with
  | .nx _ m => .ok .non m
  | .rt d m => .ok d m
  | .exc e _ m => .exc e m
  | _ => .bad) else .bad
def spF (K : Frag') (cm : Cm) (m : Nat) (F : Fn) : Sp := fun vs H Q E => ∃ al mu ds, SR K cm H al mu ∧ RA K H al mu.length vs ds ∧ ds.length = m ∧ OOk K cm H al mu.length (F ds mu) Q E
structure CalD (P : Program) (w : World) (K : Frag') (mg : Str → Option Value) (base : Heap) (cm : Cm) (k : Nat) (x : Str) (m : Nat) (dfl : List DV) (F : Fn) : Prop where
  ex : ∃ (f : Addr) (fd : FuncData) (ps : List Str) (ds : List Value) (dvs : List V), FnOk P w K mg base (L2.CX P w) k f fd ps (spF K cm m F) ∧ mg x = some (.ref f) ∧ PySem.W.keepIn K (.ref f) = true ∧ Binds K fd ps ds ∧ Vals dvs ds ∧ ∀ H al n, RA K H al n dvs dfl
theorem CalD.to {P : Program} {w : World} {K : Frag'} {mg : Str → Option Value} {base : Heap} {cm : Cm} {k : Nat} {x : Str} {m : Nat} {dfl : List DV} {F G : Fn} (c : CalD P w K mg base cm k x m dfl F)
    (h : ∀ H al mu vs ds Q E, SR K cm H al mu → RA K H al mu.length vs ds → ds.length = m → OOk K cm H al mu.length (G ds mu) Q E → OOk K cm H al mu.length (F ds mu) Q E) : CalD P w K mg base cm k x m dfl G := by
  obtain ⟨f, fd, ps, ds, dvs, F', h1, h2, h3, h4, h5⟩ := c.ex
  exact ⟨f, fd, ps, ds, dvs, F'.imp fun vs H Q E ⟨al, mu, es, s, ra, hl, q⟩ => ⟨al, mu, es, s, ra, hl, h H al mu vs es Q E s ra hl q⟩, h1, h2, h3, h4, h5⟩
theorem CalD.eqv {P : Program} {w : World} {K : Frag'} {mg : Str → Option Value} {base : Heap} {cm : Cm} {k : Nat} {x : Str} {m : Nat} {dfl : List DV} {F G : Fn} (c : CalD P w K mg base cm k x m dfl F)
    (h : ∀ ds mu, ds.length = m → G ds mu ≠ .bad → F ds mu = G ds mu) : CalD P w K mg base cm k x m dfl G := c.to fun H al mu vs ds Q E s ra hl q => by
  by_cases e : G ds mu = .bad
  · rw [e] at q; exact q.elim
  · rw [h ds mu hl e]; exact q
theorem CalD.mono {P : Program} {w : World} {K : Frag'} {mg : Str → Option Value} {base : Heap} {cm : Cm} {j k : Nat} {x : Str} {m : Nat} {dfl : List DV} {F : Fn} (c : CalD P w K mg base cm j x m dfl F) (h : j ≤ k) : CalD P w K mg base cm k x m dfl F := by
  obtain ⟨f, fd, ps, ds, dvs, F', r⟩ := c.ex
  exact ⟨f, fd, ps, ds, dvs, F'.mono h, r⟩
def eCall (F : Fn) (fs : List DE) (dfl : List DV) : DE := fun dl mu => eArgs fs dl mu fun ds m => F (ds ++ dfl) m
section
variable {P : Program} {w : World} {K : Frag'} {mg : Str → Option Value} {base : Heap} {cm : Cm} {X : Cx} {W : WX} {pos p : Pos} {e : Expr} {es : List Expr} {fs : List DE} {F : Fn} {k j m : Nat} {x : Str} {dfl : List DV}
theorem pd_call (c : CalD X.prog X.w X.K X.mg X.base cm k x m dfl F) (tk : Takes X W) (hr : Room j X.A) (hk : k ≤ j) (hg : Gl X x) (ha : PDA cm X W (e :: es) fs) (hl : fs.length + dfl.length = m := by rfl)
    (hdb : (x == ("__debug__" : Str)) = false := by decide) (he : starEach (e :: es) X.env = (false, eval e X.env) :: starEach es X.env := by rfl) (hpl : (backTo pos (starEach es X.env)).any (·.1) = false := by rfl) :
    PDE cm X W (.Call (.Name x p) (e :: es) [] pos) (eCall F fs dfl) := by
  obtain ⟨f, fd, ps, ds, dvs, F', h1, h2, h3, h4, h5⟩ := c.ex
  obtain ⟨ta, pa, sa⟩ := ha.ex
  refine ⟨_, pe_callSD F' (hr.mono hk) hg h1 h2 h3 h4 (fun σ => passAt tk σ) pa hdb he hpl, fun sg H al dl mu s sl Q q => ?_⟩
  refine args_bindL (R1 := fun vs H1 => spF X.K cm m F (vs ++ dvs) H1 Q (WE W sg)) sa sg H al dl mu Q _ _ s sl rfl q fun ds m1 vs H1 al1 s1 t1 sl1 r1 h1 hlen => ?_
  exact ⟨al1, m1, ds ++ dfl, s1, r1.app (h5 H1 al1 _), by rw [List.length_append, hlen]; exact hl, h1⟩
theorem fn_ok {qual name : Str} {params : Arguments} {body : List Stmt} {scope : Scope} {dvs : List V} {kws : List (Str × V)} {f : Addr} {fd : FuncData} {N ps : List Str} {b : DS} (Fd : FunD K name qual params body scope dvs kws f fd) (S : FnScope N ps scope) (hm : ps.length = m)
    (hb : ∀ (cdv : Value) (A : Around) (outer : List Env) (s : Shared) (H : Hp) (E : XK), Room k (A.deeper (envOfC qual scope s.heap.objs.size f cdv)) →
      PDB cm (cxOf (L2.CX P w) P w K mg base N qual scope f cdv A outer s H E) (fun cls d _ H => E cls d H) body b) : FnOk P w K mg base (L2.CX P w) (k + 1) f fd ps (spF K cm m (runF N.length m b)) := by
  refine Fd.ok S (fun vs H Q E ⟨al, mu, ds, s, ra, hl, q⟩ => ra.len.trans (hl.trans hm.symm)) (fun cdv A outer s H vs Q E hr ⟨al, mu, ds, sr, ra, hl, q⟩ => ?_)
  obtain ⟨t, p, sn⟩ := (hb cdv A outer s H E hr).ex
  refine ⟨t, p, sn _ H al (startD N.length ds) mu sr (SlD.start ra) _ ?_⟩
  unfold runF at q
  rw [if_pos hl] at q
  cases e : b (startD N.length ds) mu with
  | nx l m1 => rw [e] at q; exact fun sg H1 al1 s1 t1 sl1 => q .non H1 al1 s1 t1 .non
  | rt d m1 => rw [e] at q; exact q
  | exc x l m1 => rw [e] at q; exact fun dd sg H1 al1 s1 t1 sl1 x1 => q dd H1 al1 s1 t1 x1
  | bk l m1 => rw [e] at q; exact q.elim
  | ct l m1 => rw [e] at q; exact q.elim
  | bad => rw [e] at q; exact q.elim
def lawIn (ns : List Int) : List DV := [.lst (ns.map .int)]
theorem RA_ints {H : Hp} {al : Al} {n : Nat} : ∀ ns : List Int, RA K H al n (ns.map V.int) (ns.map DV.int)
  | [] => .nil
  | i :: ns => .cons (.int i) (RA_ints ns)
theorem law_sp {F : Fn} {a : Addr} {ns : List Int} {H : Hp} (hO : Only H) (hS : SqL K H a (ns.map V.int)) (h : ∃ mu, F (lawIn ns) [] = .ok (.bl true) mu) : spF K cm 1 F [.ref a] H (fun v _ => v = .bl true) (fun _ _ _ => False) := by
  obtain ⟨mu, e⟩ := h
  refine ⟨⟨fun _ => 0, fun _ => False⟩, [], lawIn ns, ⟨fun i j hi => absurd hi (Nat.not_lt_zero _), fun k m hk => by simp at hk, fun a h => h.elim⟩, .cons (.lst ?_ (RA_ints ns)) .nil, rfl, ?_⟩
  · rcases hS with hS | hS
    · exact .inl ⟨hS, fun k hk => absurd hk (Nat.not_lt_zero _), fun h => h⟩
    · exact .inr (.inr hS)
  · rw [e]
    intro v H' al' _ _ r
    cases r
    rfl
end
end DM
namespace DM
open PySem PySem.Spec PyProof.Rows L2
def eChain (g g' : G2) (fa fb fc : DE) : DE := fun dl mu => (fa dl mu).bind fun x m1 => (fb dl m1).bind fun y m2 => match g x y m2 with
  | some (.bl true) => (fc dl m2).bind fun z m3 => (match g' y z m3 with
    | some (.bl b) => .ok (.bl b) m3
    | _ => .bad)
  | some (.bl false) => .ok (.bl false) m2
  | _ => .bad
def eNeg (f : DE) : DE := fun dl mu => (f dl mu).bind fun d m => match d with
  | .int i => .ok (.int (-i)) m
  | _ => .bad
section
variable {K : Frag'} {cm : Cm} {X : Cx} {W : WX} {pos : Pos} {a b c : Expr} {fa fb fc : DE} {g g' : G2} {r r' : R2} {ta tb tc : TE}
end
theorem noexc {P : Program} {w : World} {K : Frag'} {mg : Str → Option Value} {base : Heap} {k : Nat} {f : Addr} {fd : FuncData} {ps : List Str} {sp : Sp} (F : FnOk P w K mg base (L2.CX P w) k f fd ps sp) : FnOk P w K mg base CX0 k f fd ps (fun vs H Q _ => sp vs H Q fun _ _ _ => False) :=
  ⟨fun vs H Q _ h => F.len vs H Q _ h, fun A outer s H args us vs Q E hr he hb hv hs => codeAny_mono (F.run A outer s H args us vs Q _ hr he hb hv hs) fun r s' q => by
    cases r with
    | error e =>
      obtain ⟨_, _, _, _, _, _, _, _, _, _, _, _, z⟩ := q
      exact z.elim
    | ok fl => cases fl <;> exact q⟩
end DM
namespace DM
open PySem PySem.Spec PyProof.Rows L2
theorem sSeq_nx {f g : DS} {dl dl1 : Dl} {mu m1 : Mu} (h : f dl mu = .nx dl1 m1) : sSeq f g dl mu = g dl1 m1 := by
  unfold sSeq; rw [h]
theorem runF_rt {N m : Nat} {b : DS} {ds : List DV} {mu m1 : Mu} {d : DV} (hl : ds.length = m) (h : b (startD N ds) mu = .rt d m1) : runF N m b ds mu = .ok d m1 := by
  unfold runF; rw [if_pos hl, h]
theorem strs_map (ls : List (List Nat)) : strsOf (ls.map DV.str) = some ls := by
  induction ls with
  | nil => rfl
  | cons a r ih => simp [strsOf, ih]
theorem gI_pos {C : Int → Int → Prop} [∀ i j, Decidable (C i j)] {f : Int → Int → DV} {i j : Int} {mu : Mu} (h : C i j) : gI C f (.int i) (.int j) mu = some (f i j) := if_pos h
end DM
namespace DM
open PySem PySem.Spec PyProof.Rows L2
section
variable {dl dl1 dl2 : Dl} {mu m1 m2 m3 m4 : Mu} {d x y z : DV} {ds xs : List DV} {f fa fb fc : DE} {fs : List DE} {g g' : G2} {gc : GC} {i : Nat} {F : Fn} {b c : Bool} {e : Ex} {s t : DS} {tg : Tg}
theorem ev_var (h : dl[i]? = some (some d)) : eVar i dl mu = .ok d mu := by unfold eVar; rw [h]
theorem ev_c : eC d dl mu = .ok d mu := rfl
theorem ev_op (h1 : fa dl mu = .ok x m1) (h2 : fb dl m1 = .ok y m2) (h3 : g x y m2 = some d) : eOp g fa fb dl mu = .ok d m2 := by
  unfold eOp; rw [h1]; show (fb dl m1).bind _ = _; rw [h2]; show lift (g x y m2) m2 = _; rw [h3]; rfl
theorem ev_not (h : f dl mu = .ok (.bl b) m1) : eNot f dl mu = .ok (.bl (!b)) m1 := by unfold eNot; rw [h]; rfl
theorem ev_and_t (h1 : fa dl mu = .ok (.bl true) m1) (h2 : fb dl m1 = .ok d m2) : eAnd fa fb dl mu = .ok d m2 := by
  unfold eAnd; rw [h1]; exact h2
theorem ea_nil : evA [] dl mu = .ok [] mu := rfl
theorem ea_cons (h1 : f dl mu = .ok d m1) (h2 : evA fs dl m1 = .ok ds m2) : evA (f :: fs) dl mu = .ok (d :: ds) m2 := by
  unfold evA; rw [h1]; show (match evA fs dl m1 with | .ok ds m2 => AOut.ok (d :: ds) m2 | .exc e m2 => .exc e m2 | .bad => .bad) = _; rw [h2]
theorem ev_args {k : List DV → Mu → Out} (h1 : evA fs dl mu = .ok ds m1) : eArgs fs dl mu k = k ds m1 := by
  unfold eArgs; rw [h1]; rfl
theorem ev_cb (h1 : evA fs dl mu = .ok ds m1) (h2 : gc ds m1 = some d) : eCB gc fs dl mu = .ok d m1 := by
  unfold eCB; rw [ev_args h1, h2]; rfl
theorem es_seq (h1 : s dl mu = .nx dl1 m1) {o : SOut} (h2 : t dl1 m1 = o) : sSeq s t dl mu = o := (sSeq_nx h1).trans h2
theorem es_set (h1 : f dl mu = .ok d m1) : sSet i f dl mu = .nx (dl.set i (some d)) m1 := by unfold sSet; rw [h1]; rfl
theorem es_ret (h1 : f dl mu = .ok d m1) : sRet f dl mu = .rt d m1 := by unfold sRet; rw [h1]; rfl
theorem it_rng {j : Int} (h1 : evA fs dl mu = .ok [.int j] m1) (h2 : -4611686018427387904 ≤ j ∧ j < 4611686018427387904) : iRngA fs dl mu = .it ((List.range j.toNat).map fun (u : Nat) => .int (u : Int)) m1 := by
  unfold iRngA; rw [h1]; exact if_pos h2
theorem gAdd_str {a b : List Nat} (h : a.length + b.length ≤ 1000000) : gAdd (.str a) (.str b) mu = some (.str (a ++ b)) := if_pos h
theorem gIx_str {z : List Nat} {j c : Nat} (h : z.length ≤ 1000000) (hj : z[j]? = some c) : gIx (.str z) (.int j) mu = some (.str [c]) := by
  have hlt : j < z.length := by
    rcases Nat.lt_or_ge j z.length with h | h
    · exact h
    · rw [List.getElem?_eq_none h] at hj; cases hj
  show (if z.length ≤ 1000000 then (atI z j).map fun c => DV.str [c] else none) = _
  rw [if_pos h]
  unfold atI ixN
  rw [if_pos (by omega), if_pos (by omega)]
  simp [hj]
theorem gIx_lst {z : List DV} {j : Nat} (hj : z[j]? = some d) : gIx (.lst z) (.int j) mu = some d := by
  have hlt : j < z.length := by
    rcases Nat.lt_or_ge j z.length with h | h
    · exact h
    · rw [List.getElem?_eq_none h] at hj; cases hj
  show atI z j = _
  unfold atI ixN
  rw [if_pos (by omega), if_pos (by omega)]
  simp [hj]
theorem gLen_str {z : List Nat} (h : z.length ≤ 1000000) : gLen [.str z] mu = some (.int z.length) := if_pos h
end
end DM
namespace DM
open PySem PySem.Spec PyProof.Rows L2
section
variable {α : Type}
theorem sl_to (z : List α) (k : Nat) : (z.drop (HT.sIx z.length 0 none)).take (HT.sIx z.length z.length (some (k : Int)) - HT.sIx z.length 0 none) = z.take k := by
  rw [HT.sIx_none, HT.sIx_nat, List.drop_zero, Nat.sub_zero]
  exact List.take_eq_take_iff.2 (by omega)
variable {mu : Mu}
end
end DM
namespace DM
open PySem PySem.Spec PyProof.Rows L2
def mixB : DS := (sSeq (sSet 2 (eOp gMod (eOp gAdd (eOp gAdd (eOp gMul (eOp gMod (eVar 0) (eC (.int 2147483647))) (eC (.int 48271))) (eOp gMul (eC (.int 7919)) (eVar 1))) (eC (.int 1))) (eC (.int 2147483647))))
  (sRet (eOp gMod (eOp gMul (eVar 2) (eVar 2)) (eC (.int 2147483647)))))
def mixN (c k : Int) : Int := (c % 2147483647 * 48271 + 7919 * k + 1) % 2147483647
def mix (c k : Int) : Int := mixN c k * mixN c k % 2147483647
theorem mix_nn (c k : Int) : 0 ≤ mix c k := Int.emod_nonneg _ (by decide)
section
variable {dl dl1 : Dl} {mu m1 m2 : Mu} {i j k : Int}
theorem g_add : gAdd (.int i) (.int j) mu = some (.int (i + j)) := rfl
theorem g_mod (h : 0 < j) : DM.gMod (.int i) (.int j) mu = some (.int (i % j)) := gI_pos h
theorem g_div (h : 0 < j ∧ j < 1073741824) : DM.gDiv (.int i) (.int j) mu = some (.int (i / j)) := gI_pos h
theorem g_mul1 (h : -18446744073709551616 < i ∧ i < 18446744073709551616) : DM.gMul (.int i) (.int j) mu = some (.int (i * j)) := gI_pos (.inl h)
theorem g_mul2 (h : -18446744073709551616 < j ∧ j < 18446744073709551616) : DM.gMul (.int i) (.int j) mu = some (.int (i * j)) := gI_pos (.inr h)
theorem g_lt : DM.gLt0 (.int i) (.int j) mu = some (.bl (decide (i < j))) := rfl
theorem g_le : DM.gLe (.int i) (.int j) mu = some (.bl (decide (i ≤ j))) := rfl
theorem g_eq : DM.gEq (.int i) (.int j) mu = some (.bl (decide (i = j))) := rfl
theorem mixB_eq (c k : Int) (mu : Mu) : runF 3 2 mixB [.int c, .int k] mu = .ok (.int (mix c k)) mu := by
  have s1 : DM.gMod (.int c) (.int 2147483647) mu = some (.int (c % 2147483647)) := g_mod (by decide)
  have s2 : DM.gMul (.int (c % 2147483647)) (.int 48271) mu = some (.int (c % 2147483647 * 48271)) := g_mul2 (by decide)
  have s3 : DM.gMul (.int 7919) (.int k) mu = some (.int (7919 * k)) := g_mul1 (by decide)
  have s4 : DM.gMod (.int (c % 2147483647 * 48271 + 7919 * k + 1)) (.int 2147483647) mu = some (.int (mixN c k)) := g_mod (by decide)
  have h0 : 0 ≤ mixN c k := Int.emod_nonneg _ (by decide)
  have h1 : mixN c k < 2147483647 := Int.emod_lt_of_pos _ (by decide)
  have s5 : DM.gMul (.int (mixN c k)) (.int (mixN c k)) mu = some (.int (mixN c k * mixN c k)) := g_mul1 (by omega)
  have s6 : DM.gMod (.int (mixN c k * mixN c k)) (.int 2147483647) mu = some (.int (mix c k)) := g_mod (by decide)
  refine runF_rt rfl (es_seq (m1 := mu) (es_set (d := .int (mixN c k)) (ev_op (ev_op (ev_op (ev_op (ev_op (ev_var rfl) ev_c s1) ev_c s2) (ev_op ev_c (ev_var rfl) s3) g_add) ev_c g_add) ev_c s4)) (es_ret (ev_op (ev_op (ev_var rfl) (ev_var rfl) s5) ev_c s6)))
def cellI (ns : List Int) (k : Nat) : Int := ns.getD k 0
def wholeB : DS := (sRet (eAnd (eCB gIsi [(eVar 0), (eC (.ty "int"))]) (eAnd (eNot (eCB gIsi [(eVar 0), (eC (.ty "bool"))])) (eOp gEq (eVar 0) (eVar 1)))))
theorem wholeB_eq (i j : Int) (mu : Mu) : runF 2 2 wholeB [.int i, .int j] mu = .ok (.bl (decide (i = j))) mu := by
  refine runF_rt rfl (es_ret (ev_and_t (m1 := mu) (ev_cb (ea_cons (ev_var rfl) (ea_cons ev_c ea_nil)) rfl) (ev_and_t (m1 := mu) (ev_not (b := false) (ev_cb (ea_cons (ev_var rfl) (ea_cons ev_c ea_nil)) rfl)) (ev_op (ev_var rfl) (ev_var rfl) g_eq))))
end
theorem gIx_mod {z : List Nat} {n : Int} {mu : Mu} (h : z.length ≤ 1000000) (h0 : 0 ≤ n) (h1 : n < z.length) : gIx (.str z) (.int n) mu = some (.str [z.getD n.toNat 0]) := by
  have h2 : n.toNat < z.length := by omega
  have := gIx_str (mu := mu) (z := z) (j := n.toNat) (c := z.getD n.toNat 0) h (by rw [List.getElem?_eq_getElem h2, List.getD_eq_getElem?_getD, List.getElem?_eq_getElem h2]; rfl)
  rw [Int.toNat_of_nonneg h0] at this
  exact this
end DM
namespace DM
open PySem PySem.Spec PyProof.Rows L2

def sAug (i : Nat) (g : G2) (f : DE) : DS := fun dl mu => match dl[i]? with
  | some (some x) => (f dl mu).st dl fun y m => (match g x y m with
    | some z => .nx (dl.set i (some z)) m
    | none => .bad)
  | _ => .bad
def gPlus : G2
  | .int i, .int j, _ => some (.int (i + j))
  | .str a, .str b, _ => if a.length + b.length ≤ 1000000 then some (.str (a ++ b)) else none
  | _, _, _ => none
def rPlus : TIp := fun x y H Q => (∃ i j, x = .int i ∧ y = .int j ∧ Q (.int (i + j)) H) ∨ ∃ a b, x = .str a ∧ y = .str b ∧ a.length + b.length ≤ sizeLine ∧ Q (.str (a ++ b)) H
section
variable {K : Frag'} {cm : Cm} {X : Cx} {W : WX} {pos p : Pos} {e : Expr} {f fo fi fv : DE} {te : TE} {ti : TIp} {g : G2} {H : Hp} {al : Al} {mu : Mu}
theorem ip_plus : PIp X .Add rPlus := by
  intro pins s σ H x y v u Q I r1 r2 h
  rcases h with h | h
  · exact ip_add pins s σ H x y v u Q I r1 r2 h
  · obtain ⟨a, b, rfl, rfl, hz, q⟩ := h
    obtain ⟨t, rfl⟩ := r1
    obtain ⟨t', rfl⟩ := r2
    exact iadd_str (fun t2 tk => ⟨.str _, H, I.tok _, ⟨_, rfl⟩, q⟩) hz
theorem rs_plus : RS K cm rPlus gPlus := fun H al mu x y dx dy d Q s r1 r2 e k => by
  cases dx <;> cases dy <;> try (cases e; done)
  · cases r1; cases r2; cases e
    exact .inl ⟨_, _, rfl, rfl, k _ H s Lt.refl (.int _)⟩
  · rename_i a b
    cases r1; cases r2
    by_cases c : a.length + b.length ≤ 1000000
    · have e : (if a.length + b.length ≤ 1000000 then some (DV.str (a ++ b)) else none) = some d := e
      rw [if_pos c] at e
      cases e
      refine .inr ⟨_, _, rfl, rfl, ?_, ?_⟩
      · rw [SX.S_len, SX.S_len]; exact Nat.le_trans c (by decide)
      · rw [SX.S_cat]
        exact k _ H s Lt.refl (.str _)
    · have e : (if a.length + b.length ≤ 1000000 then some (DV.str (a ++ b)) else none) = some d := e
      rw [if_neg c] at e
      cases e
theorem snd_aug {i : Nat} (hr : RS K cm ti g) (he : SndE K cm W te f) : SndS K cm W (tAug i te ti) (sAug i g f) := fun sg H al dl mu s sl D h => by
  unfold sAug at h
  cases e : dl[i]? with
  | none => rw [e] at h; exact h.elim
  | some o =>
    cases o with
    | none => rw [e] at h; exact h.elim
    | some dx =>
      rw [e] at h
      obtain ⟨x, hx, rx⟩ := sl.at_ i dx e
      refine ⟨x, hx, ?_⟩
      refine snd_st (R1 := fun y H1 => ti x y H1 fun z H2 => D.nx (sg.set i (some z)) H2) he s sl h fun y m1 v H1 al1 s1 t1 sl1 r1 h1 => ?_
      cases eg : g dx y m1 with
      | none => rw [eg] at h1; exact h1.elim
      | some z =>
        rw [eg] at h1
        exact hr H1 al1 m1 x v dx y z _ s1 (rx.mono t1) r1 eg fun zv H2 s2 t2 r2 => h1 _ H2 al1 s2 t2 ((sl1.mono t2).set r2)
theorem pds_augP {i : Nat} {x : Str} (hN : X.N.Nodup) (he : PDE cm X W e f) (hi : X.N[i]? = some x := by rfl) (hx : Loc X.env.scope x := by first | exact Or.inl rfl | exact Or.inr rfl) (hf : X.fn x = true ∨ X.env.scope.names.lookup x = some .local := by first | exact .inl rfl | exact .inr rfl) : PDS cm X W (.AugAssign (.Name x p) .Add e pos) (sAug i gPlus f) := by
  obtain ⟨_, p1, s1⟩ := he.ex
  exact ⟨_, ps_aug hN hi hx p1 ip_plus hf, snd_aug rs_plus s1⟩
end

section
variable {K : Frag'} {cm : Cm} {H : Hp} {al : Al} {n : Nat}
end
abbrev GM := DV → List DV → Mu → Option (DV × Mu)
def RM (K : Frag') (cm : Cm) (r : V → List V → Hp → VK → Prop) (g : GM) : Prop := ∀ (H : Hp) (al : Al) (mu : Mu) (x : V) (xs : List V) (dx : DV) (ds : List DV) (d : DV) (mu' : Mu) (Q : VK), SR K cm H al mu → R K H al mu.length x dx → RA K H al mu.length xs ds → g dx ds mu = some (d, mu') →
  (∀ v H', SR K cm H' al mu' → Lt H al mu.length H' al mu'.length → R K H' al mu'.length v d → Q v H') → r x xs H Q
def tyOk (T : String) (d : DV) (mu : Mu) : Bool := match d with
  | .str _ => T == "str"
  | .int _ => T == "int"
  | .lst _ => T == "list"
  | .obj k => match mu[k]? with
    | some (.lst _) => T == "list"
    | some (.dic _) => T == "dict"
    | _ => false
  | _ => false
def eBM (T : String) (g : GM) (fo : DE) (fs : List DE) : DE := fun dl mu => (fo dl mu).bind fun x m1 => if tyOk T x m1 = true then eArgs fs dl m1 fun ds m2 => (match g x ds m2 with
  | some (d, m3) => .ok d m3
  | none => .bad) else .bad
section
variable {K : Frag'} {cm : Cm} {X : Cx} {W : WX} {pos p apos cpos : Pos} {o e : Expr} {es : List Expr} {f fo : DE} {fs : List DE} {to : TE} {ta : TA} {g : GM} {r : V → List V → Hp → VK → Prop} {T id : String} {name : Str} {H : Hp} {al : Al} {mu : Mu}
theorem tyV_of {x : V} {d : DV} (s : SR K cm H al mu) (rx : R K H al mu.length x d) (h : tyOk T d mu = true) : tyV K T x H := by
  cases d with
  | str l => cases rx; exact eq_of_beq h
  | int i => cases rx; exact eq_of_beq h
  | lst ds =>
    cases rx with
    | lst hl ra => exact .inl ⟨eq_of_beq h, _, hl.sq⟩
  | obj k =>
    cases rx with
    | obj hk =>
      have h : (match mu[k]? with | some (.lst _) => T == "list" | some (.dic _) => T == "dict" | _ => false) = true := h
      cases e : mu[k]? with
      | none => rw [e] at h; exact absurd h Bool.false_ne_true
      | some m =>
        rw [e] at h
        cases m with
        | lst ds =>
          obtain ⟨xs, h1, _⟩ := s.ob k _ e
          exact .inl ⟨eq_of_beq h, xs, SqL.of h1⟩
        | dic kvs =>
          obtain ⟨ws, h1, _⟩ := s.ob k _ e
          exact .inr (.inr (.inl ⟨eq_of_beq h, .inl ⟨ws, h1⟩⟩))
        | ins _ _ | lstF _ | dicF _ => exact absurd h Bool.false_ne_true
  | _ => exact absurd h Bool.false_ne_true
theorem snd_bm (hr : RM K cm r g) (ho : SndE K cm W to fo) (ha : SndA K cm W ta fs) : SndE K cm W (tBM K T r to ta) (eBM T g fo fs) := fun sg H al dl mu s sl Q h => by
  refine snd_bind (R1 := fun x H1 => tyV K T x H1 ∧ ta sg H1 fun xs H2 => r x xs H2 Q) ho s sl rfl h fun x m1 v1 H1 al1 s1 t1 sl1 r1 h1 => ?_
  by_cases c : tyOk T x m1 = true
  · rw [if_pos c] at h1
    refine ⟨tyV_of s1 r1 c, ?_⟩
    refine args_bind (R1 := fun xs H2 => r v1 xs H2 Q) ha sg H1 al1 dl m1 Q _ _ s1 sl1 rfl h1 fun ds m2 vs H2 al2 s2 t2 sl2 r2 h2 => ?_
    cases eg : g x ds m2 with
    | none => rw [eg] at h2; exact h2.elim
    | some q =>
      obtain ⟨d, m3⟩ := q
      rw [eg] at h2
      exact hr H2 al2 m2 v1 vs x ds d m3 Q s2 (r1.mono t2) r2 eg fun v H' s' t' r' => h2 v H' al2 s' t' r'
  · rw [if_neg c] at h1; exact h1.elim
theorem pd_bm (pa : PlainAttrs T) (slot : Slot T name id) (hty : typeOf (.builtin id) = pure (.type "method_descriptor")) (hm : MtR X id r) (hr : RM X.K cm r g) (ho : PDE cm X W o fo) (ha : PDA cm X W (e :: es) fs)
    (hbase : attributeBase o name X.env (eval o X.env) = eval o X.env := by rfl)
    (hfew : ((backTo cpos (starEach (e :: es) X.env)).all (fun x => !x.1) && (backToKw cpos (keywordEach [] X.env)).all (fun x => x.1.isSome)
      && decide ((e :: es).length + ([] : List Keyword).length + (if ([] : List Keyword).isEmpty then 0 else 1) < 30)) = true := by rfl)
    (hline : (apos.endLine == cpos.line) = true := by rfl) (hs : starEach (e :: es) X.env = (false, eval e X.env) :: starEach es X.env := by rfl) (hplain : (backTo cpos (starEach es X.env)).any (·.1) = false := by rfl) :
    PDE cm X W (.Call (.Attribute o name apos) (e :: es) [] cpos) (eBM T g fo fs) := by
  obtain ⟨_, p1, s1⟩ := ho.ex
  obtain ⟨_, p2, s2⟩ := ha.ex
  exact ⟨_, pe_bm pa slot hty hm p1 p2 hbase hfew hline hs hplain, snd_bm hr s1 s2⟩
def lstAt (mu : Mu) (k : Nat) : Option (List DV) := match mu[k]? with
  | some (.lst ds) => some ds
  | _ => none
theorem lstAt_some {k : Nat} {ds : List DV} (h : lstAt mu k = some ds) : mu[k]? = some (.lst ds) := by
  unfold lstAt at h
  cases e : mu[k]? with
  | none => rw [e] at h; cases h
  | some m =>
    rw [e] at h
    cases m <;> cases h
    rfl
theorem lst_put {k : Nat} {ds es : List DV} {xs : List V} (s : SR K cm H al mu) (h : mu[k]? = some (.lst ds)) (ra : RA K H al mu.length xs es) : SR K cm (upd H (al k) (.lst xs)) al (mu.set k (.lst es)) ∧ Lt H al mu.length (upd H (al k) (.lst xs)) al (mu.set k (.lst es)).length := by
  have hk := (List.getElem?_eq_some_iff.mp h).1
  have hz : ∀ (o' : Obj) (u : HO), H (al k) ≠ some (.frz o' u) := fun o' u e => by
    obtain ⟨xs, h1, _⟩ := s.ob k _ h
    rw [h1] at e
    cases e
  refine ⟨s.put hk hz ⟨xs, upd_same, ra.mono (Lt.put hk hz)⟩, ?_⟩
  rw [List.length_set]
  exact Lt.put hk hz
def gAppend : GM
  | .obj k, [d], mu => match lstAt mu k with
    | some ds => if ds.length < 1000000 then some (.non, mu.set k (.lst (ds ++ [d]))) else none
    | none => none
  | _, _, _ => none
theorem rm_append : RM K cm rAppend gAppend := fun H al mu x xs dx ds d mu' Q s rx ra e k => by
  match dx, ds, e with
  | .obj j, [dd], e =>
    have e : (match lstAt mu j with | some ds => if ds.length < 1000000 then some (DV.non, mu.set j (.lst (ds ++ [dd]))) else none | none => none) = some (d, mu') := e
    cases e1 : lstAt mu j with
    | none => rw [e1] at e; cases e
    | some es =>
      rw [e1] at e
      dsimp only at e
      by_cases c : es.length < 1000000
      · rw [if_pos c] at e
        cases e
        cases rx with
        | obj hk =>
          have h2 := lstAt_some e1
          obtain ⟨zs, h3, h4⟩ := s.ob j _ h2
          obtain ⟨y, rfl, ry⟩ := ra.one
          obtain ⟨s', t'⟩ := lst_put s h2 (h4.app (.cons ry .nil))
          refine ⟨_, zs, y, rfl, rfl, h3, ?_, k _ _ s' t' .non⟩
          rw [h4.len]
          exact Nat.lt_of_lt_of_le c (by decide)
      · rw [if_neg c] at e; cases e
def gClear : GM
  | .obj k, [], mu => match lstAt mu k with
    | some _ => some (.non, mu.set k (.lst []))
    | none => none
  | _, _, _ => none
theorem pd_append (ho : PDE cm X W o fo) (ha : PDA cm X W [e] fs) (hbase : attributeBase o "append" X.env (eval o X.env) = eval o X.env := by rfl) (hfew : ((backTo cpos (starEach [e] X.env)).all (fun x => !x.1) && (backToKw cpos (keywordEach [] X.env)).all (fun x => x.1.isSome)
      && decide ([e].length + ([] : List Keyword).length + (if ([] : List Keyword).isEmpty then 0 else 1) < 30)) = true := by rfl)
    (hline : (apos.endLine == cpos.line) = true := by rfl) (hs : starEach [e] X.env = (false, eval e X.env) :: starEach [] X.env := by rfl) : PDE cm X W (.Call (.Attribute o "append" apos) [e] [] cpos) (eBM "list" gAppend fo fs) := pd_bm PySem.F.plainAttrs_list PySem.F.slot_list_append PySem.F.type_list_append mt_append rm_append ho ha hbase hfew hline hs
end
end DM
namespace DM
open PySem PySem.Spec PyProof.Rows L2

section
variable {K : Frag'} {cm : Cm} {X : Cx} {W : WX} {e tg iter : Expr} {st : Stmt} {f f1 f2 : DE} {t1 t2 : TE}
theorem OOk.or2 {H : Hp} {al : Al} {n : Nat} {o o1 o2 : Out} {Q : VK} {E : XK} (h : o = o1 ∨ o = o2 ∨ o = .bad) (ho : OOk K cm H al n o Q E) : OOk K cm H al n o1 Q E ∨ OOk K cm H al n o2 Q E := by
  rcases h with h | h | h
  · exact .inl (h ▸ ho)
  · exact .inr (h ▸ ho)
  · rw [h] at ho; exact ho.elim
theorem pd_alt (h1 : PDE cm X W e f1) (h2 : PDE cm X W e f2) (h : ∀ dl mu, f dl mu = f1 dl mu ∨ f dl mu = f2 dl mu ∨ f dl mu = .bad) : PDE cm X W e f := by
  obtain ⟨t1, p1, s1⟩ := h1.ex
  obtain ⟨t2, p2, s2⟩ := h2.ex
  refine ⟨fun σ H Q => t1 σ H Q ∨ t2 σ H Q, ⟨fun pins s σ H Q I q => q.elim (p1.run pins s σ H Q I) (p2.run pins s σ H Q I)⟩, fun sg H al dl mu s sl Q q => ?_⟩
  rcases OOk.or2 (h dl mu) q with q | q
  · exact .inl (s1 sg H al dl mu s sl Q q)
  · exact .inr (s2 sg H al dl mu s sl Q q)
theorem pdi_alt {g g1 g2 : DI} (h1 : PDI cm X W tg iter g1) (h2 : PDI cm X W tg iter g2) (h : ∀ dl mu, g dl mu = g1 dl mu ∨ g dl mu = g2 dl mu ∨ g dl mu = .bad) : PDI cm X W tg iter g := by
  obtain ⟨t1, p1, s1⟩ := h1.ex
  obtain ⟨t2, p2, s2⟩ := h2.ex
  refine ⟨fun σ H Q => t1 σ H Q ∨ t2 σ H Q, ⟨fun pins s σ H Q I q => q.elim (p1.run pins s σ H Q I) (p2.run pins s σ H Q I)⟩, fun sg H al dl mu s sl Q q => ?_⟩
  rcases h dl mu with e | e | e <;> rw [e] at q
  · exact .inl (s1 sg H al dl mu s sl Q q)
  · exact .inr (s2 sg H al dl mu s sl Q q)
  · exact q.elim
end

def valD (kvs : List (Key × DV)) (k : Key) : Option DV := (kvs.find? fun kv => decide (kv.1 = k)).map (·.2)
def putD (kvs : List (Key × DV)) (k : Key) (d : DV) : List (Key × DV) :=
  if (kvs.any fun kv => decide (kv.1 = k)) = true then kvs.map (fun kv => if kv.1 = k then (kv.1, d) else kv) else kvs ++ [(k, d)]
def dropD (kvs : List (Key × DV)) (k : Key) : List (Key × DV) := kvs.filter fun kv => decide (kv.1 ≠ k)
def keyOf : DV → Option Key
  | .int i => some (.inl i)
  | .str l => some (.inr (Sx l))
  | _ => none
section
variable {K : Frag'} {cm : Cm} {H : Hp} {al : Al} {n : Nat} {mu : Mu}
theorem keyOf_R {v : V} {d : DV} {k : Key} (r : R K H al n v d) (h : keyOf d = some k) : v = kV k := by
  cases d <;> cases h <;> cases r <;> rfl
theorem RK.val : ∀ {ws : List (Key × V)} {kvs : List (Key × DV)} (k : Key), RK K H al n ws kvs → (∀ d, valD kvs k = some d → ∃ v, valV ws k = some v ∧ R K H al n v d) ∧ (valD kvs k = none → valV ws k = none)
  | _, _, k, .nil => ⟨fun d h => (nomatch h), fun _ => rfl⟩
  | _, _, k, .cons (k := k') (v := v) (d := d') (vs := vs) (ds := ds) r q => by
    have ih := RK.val k q
    by_cases e : k' = k
    · have e1 : valD ((k', d') :: ds) k = some d' := by simp [valD, List.find?_cons, e]
      have e2 : valV ((k', v) :: vs) k = some v := valV_pos (p := (k', v)) e
      rw [e1, e2]
      exact ⟨fun d h => ⟨v, rfl, by cases h; exact r⟩, fun h => nomatch h⟩
    · have e1 : valD ((k', d') :: ds) k = valD ds k := by simp [valD, List.find?_cons, e]
      have e2 : valV ((k', v) :: vs) k = valV vs k := valV_neg (p := (k', v)) e
      rw [e1, e2]
      exact ih
theorem RK.any : ∀ {ws : List (Key × V)} {kvs : List (Key × DV)} (k : Key), RK K H al n ws kvs → (ws.any fun kv => decide (kv.1 = k)) = kvs.any fun kv => decide (kv.1 = k)
  | _, _, k, .nil => rfl
  | _, _, k, .cons r q => by rw [List.any_cons, List.any_cons, RK.any k q]
theorem RK.app {κ : Type} : ∀ {ws ws' : List (κ × V)} {kvs kvs' : List (κ × DV)}, RK K H al n ws kvs → RK K H al n ws' kvs' → RK K H al n (ws ++ ws') (kvs ++ kvs')
  | _, _, _, _, .nil, h => h
  | _, _, _, _, .cons r q, h => .cons r (RK.app q h)
theorem RK.repl {v : V} {d : DV} (r0 : R K H al n v d) (k : Key) : ∀ {ws : List (Key × V)} {kvs : List (Key × DV)}, RK K H al n ws kvs → RK K H al n (ws.map fun kv => if kv.1 = k then (kv.1, v) else kv) (kvs.map fun kv => if kv.1 = k then (kv.1, d) else kv)
  | _, _, .nil => .nil
  | _, _, .cons (k := k') (v := v') (d := d') r q => by
    rw [List.map_cons, List.map_cons]
    by_cases e : k' = k
    · rw [if_pos e, if_pos e]; exact .cons r0 (RK.repl r0 k q)
    · rw [if_neg e, if_neg e]; exact .cons r (RK.repl r0 k q)
theorem RK.put {ws : List (Key × V)} {kvs : List (Key × DV)} {v : V} {d : DV} (h : RK K H al n ws kvs) (k : Key) (r : R K H al n v d) : RK K H al n (putK ws k v) (putD kvs k d) := by
  unfold putK putD
  rw [h.any k]
  by_cases e : (kvs.any fun kv => decide (kv.1 = k)) = true
  · rw [if_pos e, if_pos e]; exact h.repl r k
  · rw [if_neg e, if_neg e]; exact h.app (.cons r .nil)
def dicAt (mu : Mu) (k : Nat) : Option (List (Key × DV)) := match mu[k]? with
  | some (.dic kvs) => some kvs
  | _ => none
def dicR (mu : Mu) (k : Nat) : Option (List (Key × DV)) := match mu[k]? with
  | some (.dic kvs) => some kvs
  | some (.dicF kvs) => some kvs
  | _ => none
theorem dicR_rd {k : Nat} {kvs : List (Key × DV)} (s : SR K cm H al mu) (h : dicR mu k = some kvs) : ∃ ws, Rd H (al k) (.dK ws) ∧ RK K H al mu.length ws kvs := by
  unfold dicR at h
  cases e : mu[k]? with
  | none => rw [e] at h; cases h
  | some m =>
    rw [e] at h
    cases m with
    | dic es => cases h; obtain ⟨ws, h1, h2⟩ := s.ob k _ e; exact ⟨ws, .inl h1, h2⟩
    | dicF es => cases h; obtain ⟨od, ws, h1, h2⟩ := s.ob k _ e; exact ⟨ws, .inr ⟨od, h1⟩, h2⟩
    | _ => cases h
end

def gDGet : G2
  | .obj j, y, mu => match dicR mu j with
    | some kvs => (keyOf y).bind fun k => valD kvs k
    | none => none
  | _, _, _ => none
def gIxA : G2 := fun x y mu => match x with
  | .obj j => (match dicR mu j with
    | some _ => gDGet x y mu
    | none => gIx x y mu)
  | _ => gIx x y mu
section
variable {K : Frag'} {cm : Cm} {X : Cx} {W : WX} {pos p tpos apos cpos : Pos} {a b o i e e2 : Expr} {fa fb fo fi fv fe : DE} {ta tb : TE} {H : Hp} {al : Al} {mu : Mu} {n : Nat}
def rDGet : R2 := fun x y H Q => ∃ a v, x = .ref a ∧ DGet H a y (some v) ∧ Q v H
theorem dget_aux {x y : V} {dx dy d : DV} (s : SR K cm H al mu) (r1 : R K H al mu.length x dx) (r2 : R K H al mu.length y dy) (h : gDGet dx dy mu = some d) : ∃ a v, x = .ref a ∧ DGet H a y (some v) ∧ R K H al mu.length v d := by
  cases dx <;> try (cases h; done)
  rename_i j
  cases r1 with
  | obj hj =>
    have h : (match dicR mu j with | some kvs => (keyOf dy).bind fun k => valD kvs k | none => none) = some d := h
    cases e1 : dicR mu j with
    | none => rw [e1] at h; cases h
    | some kvs =>
      rw [e1] at h
      have h : ((keyOf dy).bind fun k => valD kvs k) = some d := h
      cases e2 : keyOf dy with
      | none => rw [e2] at h; cases h
      | some ky =>
        rw [e2] at h
        obtain ⟨ws, h3, h4⟩ := dicR_rd s e1
        obtain ⟨v, h5, h6⟩ := (h4.val ky).1 d h
        have ey := keyOf_R r2 e2
        subst ey
        exact ⟨_, v, rfl, .inl ⟨ws, ky, h3, rfl, h5.symm⟩, h6⟩
theorem rs_dget : RS K cm rDGet gDGet := fun H al mu x y dx dy d Q s r1 r2 h k => by
  obtain ⟨a, v, e, g, r⟩ := dget_aux s r1 r2 h
  exact ⟨a, v, e, g, k v H s Lt.refl r⟩
theorem pd_dget {k : Nat} (hr : Room k X.A) (ha : PDE cm X W a fa) (hb : PDE cm X W b fb) (hs : NoSl b := by intro _ _; rfl) : PDE cm X W (.Subscript a b pos) (eOp gDGet fa fb) := by
  obtain ⟨ta, pa, sa⟩ := ha.ex
  obtain ⟨tb, pb, sb⟩ := hb.ex
  exact ⟨_, pe_dget (by have := hr.un; omega) pa pb hs, snd_op (r := rDGet) rs_dget sa sb⟩
theorem eOp_or {g g1 g2 : G2} (h : ∀ x y mu, g x y mu = g1 x y mu ∨ g x y mu = g2 x y mu) (dl : Dl) (mu : Mu) : eOp g fa fb dl mu = eOp g1 fa fb dl mu ∨ eOp g fa fb dl mu = eOp g2 fa fb dl mu ∨ eOp g fa fb dl mu = .bad := by
  unfold eOp
  cases fa dl mu with
  | bad => exact .inl rfl
  | exc e m => exact .inl rfl
  | ok x m1 =>
    show (fb dl m1).bind _ = (fb dl m1).bind _ ∨ _
    cases e : fb dl m1 with
    | bad => exact .inl rfl
    | exc e m => exact .inl rfl
    | ok y m2 =>
      rcases h x y m2 with h | h
      · exact .inl (congrArg (fun z => lift z m2) h)
      · refine .inr (.inl ?_)
        show (fb dl m1).bind (fun y m2 => lift (g x y m2) m2) = (fb dl m1).bind fun y m2 => lift (g2 x y m2) m2
        rw [e]
        exact congrArg (fun z => lift z m2) h
theorem gIxA_or (x y : DV) (mu : Mu) : gIxA x y mu = gIx x y mu ∨ gIxA x y mu = gDGet x y mu := by
  unfold gIxA
  cases x with
  | obj j => cases e : dicR mu j with
    | none => exact .inl (by simp only [e])
    | some _ => exact .inr (by simp only [e])
  | _ => exact .inl rfl
theorem pd_ixA {k : Nat} (hr : Room k X.A) (ha : PDE cm X W a fa) (hb : PDE cm X W b fb) (hs : PlainIx b := by intro _ _; rfl) : PDE cm X W (.Subscript a b pos) (eOp gIxA fa fb) :=
  pd_alt (pd_ix ha hb hs) (pd_dget hr ha hb hs) (eOp_or gIxA_or)
def inDk (kvs : List (Key × DV)) (y : DV) : Option Bool := match y with
  | .non => some false
  | y => (keyOf y).map fun k => (valD kvs k).isSome
def gDIn : G2
  | y, .obj j, mu => match dicR mu j with
    | some kvs => (inDk kvs y).map .bl
    | none => none
  | _, _, _ => none
def gInA : G2 := fun y x mu => match x with
  | .obj j => (match dicR mu j with
    | some _ => gDIn y x mu
    | none => gIn y x mu)
  | _ => gIn y x mu
def isDic (mu : Mu) : DV → Bool
  | .obj j => (dicR mu j).isSome
  | _ => false
end
end DM
namespace DM
open PySem PySem.Spec PyProof.Rows L2
section
variable {K : Frag'} {cm : Cm} {X : Cx} {W : WX} {pos p tpos apos cpos : Pos} {a b o i e e2 : Expr} {fa fb fo fi fv fe ff : DE} {ta tb : TE} {H H1 : Hp} {al al1 : Al} {mu : Mu} {n n1 : Nat}
def eDPop1 (fo fe : DE) : DE := fun dl mu => (fo dl mu).bind fun x m1 => match x with
  | .obj j => if isDic m1 x = true then (fe dl m1).bind fun y m2 => (match dicAt m2 j, keyOf y with
    | some kvs, some k => (match valD kvs k with
      | some d => .ok d (m2.set j (.dic (dropD kvs k)))
      | none => .bad)
    | _, _ => .bad) else .bad
  | _ => .bad
inductive POut where
  | ok (ps : List (DV × DV)) (m : Mu) | exc (e : Ex) (m : Mu) | bad
def evP : List (DE × DE) → Dl → Mu → POut
  | [], _, mu => .ok [] mu
  | (fk, fv) :: r, dl, mu => match fk dl mu with
    | .ok k m1 => (match fv dl m1 with
      | .ok v m2 => (match evP r dl m2 with
        | .ok ps m3 => .ok ((k, v) :: ps) m3
        | .exc e m3 => .exc e m3
        | .bad => .bad)
      | .exc e m2 => .exc e m2
      | .bad => .bad)
    | .exc e m1 => .exc e m1
    | .bad => .bad
inductive RP (K : Frag') (H : Hp) (al : Al) (n : Nat) : List (V × V) → List (DV × DV) → Prop
  | nil : RP K H al n [] []
  | cons {x y : V} {d e : DV} {vs : List (V × V)} {ds : List (DV × DV)} : R K H al n x d → R K H al n y e → RP K H al n vs ds → RP K H al n ((x, y) :: vs) ((d, e) :: ds)
def POk (K : Frag') (cm : Cm) (H : Hp) (al : Al) (n : Nat) (o : POut) (R1 : List (V × V) → Hp → Prop) : Prop := match o with
  | .ok ds mu => ∀ vs H' al', SR K cm H' al' mu → Lt H al n H' al' mu.length → RP K H' al' mu.length vs ds → R1 vs H'
  | _ => False
structure PDP (cm : Cm) (X : Cx) (W : WX) (pos : Pos) (ks : List (Option Expr)) (vs : List Expr) (fs : List (DE × DE)) : Prop where
  ex : ∃ trs, PPs X pos ks vs trs ∧ ∀ (sg : L2.St) (H : Hp) (al : Al) (dl : Dl) (mu : Mu), SR X.K cm H al mu → SlD X.K H al mu.length sg dl → ∀ R1 : List (V × V) → Hp → Prop, POk X.K cm H al mu.length (evP fs dl mu) R1 → tPairs trs sg H R1
def keysOf : List (DV × DV) → Option (List (Key × DV))
  | [] => some []
  | (k, v) :: r => match keyOf k, keysOf r with
    | some q, some t => some ((q, v) :: t)
    | _, _ => none
end
end DM
namespace DM
open PySem PySem.Spec PyProof.Rows L2
def putFD (f : Str) (d : DV) : List (Str × DV) → List (Str × DV)
  | [] => [(f, d)]
  | (g, x) :: r => if g = f then (g, d) :: r else (g, x) :: putFD f d r
section
variable {K : Frag'} {cm : Cm} {H : Hp} {al : Al} {n : Nat} {mu : Mu}
end
section
variable {K : Frag'} {cm : Cm} {X : Cx} {W : WX} {pos pos' tpos p apos : Pos} {o e : Expr} {es : List Expr} {f : Str} {fo fv : DE} {fs : List DE} {cs : List String} {to tv : TE} {H : Hp} {al : Al} {mu : Mu} {n : Nat}
def ClsOk (K : Frag') (cm : Cm) (cs : List String) (f : Str) : Prop := ∀ c, cs.contains c = true → Cls K (cm c) ∧ NoAttr K (cm c) f
theorem ClsOk.nil : ClsOk K cm [] f := fun c h => (nomatch h)
theorem ClsOk.cons {c : String} (h1 : Cls K (cm c)) (h2 : NoAttr K (cm c) f) (h : ClsOk K cm cs f) : ClsOk K cm (c :: cs) f := fun d hd => by
  rw [List.contains_cons] at hd
  cases e : d == c with
  | true => rw [eq_of_beq e]; exact ⟨h1, h2⟩
  | false => rw [e] at hd; exact h d hd
end
section
variable {X : Cx} {CX : CXT} {k : Nat} {C f : Addr} {fd : FuncData} {ps : List Str} {sp : Sp} {dvs : List V} {ds : List Value} {E : L2.St → XK} {m x : Str} {o e : Expr} {es : List Expr} {p pos apos : Pos} {ta : TE} {t : TA}
end
structure CalM (P : Program) (w : World) (K : Frag') (mg : Str → Option Value) (base : Heap) (cm : Cm) (k : Nat) (c : String) (m : Str) (n : Nat) (dfl : List DV) (F : Fn) : Prop where
  ex : ∃ (f : Addr) (fd : FuncData) (ps : List Str) (ds : List Value) (dvs : List V), FnOk P w K mg base (L2.CX P w) k f fd ps (spF K cm n F) ∧ Cls K (cm c) ∧ Meth K (cm c) m f ∧ Binds K fd ps ds ∧ Vals dvs ds ∧ ∀ H al n, RA K H al n dvs dfl
structure CalC (P : Program) (w : World) (K : Frag') (mg : Str → Option Value) (base : Heap) (cm : Cm) (k : Nat) (c : String) (x : Str) (n : Nat) (dfl : List DV) (F : Fn) : Prop where
  ex : ∃ (f : Addr) (fd : FuncData) (ps : List Str) (ds : List Value) (dvs : List V), FnOk P w K mg base (L2.CX P w) k f fd ps (spF K cm n F) ∧ mg x = some (.ref (cm c)) ∧ Mk K (cm c) f ∧ Binds K fd ps ds ∧ Vals dvs ds ∧ ∀ H al n, RA K H al n dvs dfl
section
variable {X : Cx} {W : WX} {cm : Cm} {c : String} {m x : Str} {o e : Expr} {es : List Expr} {fo : DE} {fs : List DE} {F : Fn} {k j n : Nat} {dfl : List DV} {p pos apos : Pos}
end
section
variable {X : Cx} {W : WX} {cm : Cm} {F : Fn} {k j n : Nat} {dfl : List DV} {x : Str} {p pos : Pos}
end
end DM
namespace DM
open PySem PySem.Spec PyProof.Rows L2
section
variable {K : Frag'} {cm : Cm} {H H1 : Hp} {al al1 : Al} {mu : Mu} {n n1 : Nat}
theorem R.pokeO {k : Nat} {o : HO} (hk : k < n) : ∀ {v : V} {d : DV}, R K H al n v d → R K (upd H (al k) o) al n v d := by
  have hL : ∀ {a : Addr} {xs : List V}, LAt K H al n a xs → LAt K (upd H (al k) o) al n a xs := fun {a xs} h => by
    rcases h with ⟨h, s, z⟩ | h
    · have ne : a ≠ al k := s k hk
      refine .inl ⟨?_, s, z⟩
      rcases h with h | ⟨u, h⟩
      · exact .inl (by rw [upd_ne ne]; exact h)
      · exact .inr ⟨u, by rw [upd_ne ne]; exact h⟩
    · exact .inr h
  have hT : ∀ {a : Addr} {xs : List V}, TAt K H al n a xs → TAt K (upd H (al k) o) al n a xs := fun {a xs} h => by
    rcases h with ⟨h, s, z⟩ | h
    · have ne : a ≠ al k := s k hk
      refine .inl ⟨?_, s, z⟩
      rcases h with h | ⟨u, h⟩
      · exact .inl (by rw [upd_ne ne]; exact h)
      · exact .inr ⟨u, by rw [upd_ne ne]; exact h⟩
    · exact .inr h
  intro v d r
  exact R.rec (motive_1 := fun v d _ => R K (upd H (al k) o) al n v d) (motive_2 := fun vs ds _ => RA K (upd H (al k) o) al n vs ds)
    .non .bl .int .str .ty (fun h _ ih => .lst (hL h) ih) (fun h _ ih => .tup (hT h) ih) (fun h => .obj h) .nil (fun _ _ i1 i2 => .cons i1 i2) r
theorem pokeO_all {k : Nat} {o : HO} (hk : k < n) : ∀ {vs : List V} {ds : List DV}, RA K H al n vs ds → RA K (upd H (al k) o) al n vs ds
  | _, _, .nil => .nil
  | _, _, .cons r q => .cons (r.pokeO hk) (pokeO_all hk q)
theorem pokeO_K {κ : Type} {k : Nat} {o : HO} (hk : k < n) : ∀ {vs : List (κ × V)} {ds : List (κ × DV)}, RK K H al n vs ds → RK K (upd H (al k) o) al n vs ds
  | _, _, .nil => .nil
  | _, _, .cons r q => .cons (r.pokeO hk) (pokeO_K hk q)
theorem SR.putO {k : Nat} {o : HO} {m : MO} (s : SR K cm H al mu) (hk : k < mu.length) (hm : MR K (upd H (al k) o) al mu.length cm (al k) m) : SR K cm (upd H (al k) o) al (mu.set k m) := by
  refine ⟨fun i j hi hj => s.inj i j (by rw [List.length_set] at hi; exact hi) (by rw [List.length_set] at hj; exact hj), fun j u hu => ?_, fun a fa => let ⟨o', q⟩ := s.fbt a fa; ?_⟩
  rotate_left
  · by_cases e : a = al k
    · exact ⟨o, by rw [e]; exact upd_same⟩
    · exact ⟨o', by rw [upd_ne e]; exact q⟩
  rw [List.length_set]
  by_cases e : k = j
  · subst e
    rw [List.getElem?_set_self hk] at hu
    cases hu
    exact hm
  · rw [List.getElem?_set_ne e] at hu
    have hj := (List.getElem?_eq_some_iff.mp hu).1
    have ne : al j ≠ al k := fun z => e (s.inj k j hk hj z.symm)
    have z := s.ob j u hu
    cases u with
    | lst ds => obtain ⟨xs, h1, h2⟩ := z; exact ⟨xs, by rw [upd_ne ne]; exact h1, pokeO_all hk h2⟩
    | dic ds => obtain ⟨xs, h1, h2⟩ := z; exact ⟨xs, by rw [upd_ne ne]; exact h1, pokeO_K hk h2⟩
    | ins c ds => obtain ⟨dx, xs, h1, h2⟩ := z; exact ⟨dx, xs, by rw [upd_ne ne]; exact h1, pokeO_K hk h2⟩
    | lstF ds => obtain ⟨od, xs, h1, h2⟩ := z; exact ⟨od, xs, by rw [upd_ne ne]; exact h1, pokeO_all hk h2⟩
    | dicF ds => obtain ⟨od, xs, h1, h2⟩ := z; exact ⟨od, xs, by rw [upd_ne ne]; exact h1, pokeO_K hk h2⟩
theorem SlD.pokeO {k : Nat} {o : HO} {sg : L2.St} {dl : Dl} (hk : k < n) (s : SlD K H al n sg dl) : SlD K (upd H (al k) o) al n sg dl := ⟨s.len, fun i d h => let ⟨v, h1, h2⟩ := s.at_ i d h; ⟨v, h1, h2.pokeO hk⟩⟩
end
def fzMO : MO → Option MO
  | .lst ds => some (.lstF ds)
  | .dic kvs => some (.dicF kvs)
  | _ => none
def thMO : MO → Option MO
  | .lstF ds => some (.lst ds)
  | .dicF kvs => some (.dic kvs)
  | _ => none
def fzAt (j : Nat) (mu : Mu) : Option Mu := (mu[j]?).bind fun m => (fzMO m).map fun m' => mu.set j m'
def thAt (j : Nat) (mu : Mu) : Option Mu := (mu[j]?).bind fun m => (thMO m).map fun m' => mu.set j m'
def SOut.mapM (f : Mu → Option Mu) : SOut → SOut
  | .nx l m => (match f m with | some m' => .nx l m' | none => .bad)
  | .rt d m => (match f m with | some m' => .rt d m' | none => .bad)
  | .bk l m => (match f m with | some m' => .bk l m' | none => .bad)
  | .ct l m => (match f m with | some m' => .ct l m' | none => .bad)
  | _ => .bad
def Out.mapM (f : Mu → Option Mu) : Out → Out
  | .ok d m => (match f m with | some m' => .ok d m' | none => .bad)
  | _ => .bad
abbrev Pick := Dl → Mu → Option Nat
def sLk (pick : Pick) (s : DS) : DS := fun dl mu => match pick dl mu with
  | some j => (match fzAt j mu with
    | some m1 => (s dl m1).mapM (thAt j)
    | none => .bad)
  | none => s dl mu
def eLk (pick : Pick) (f : DE) : DE := fun dl mu => match pick dl mu with
  | some j => (match fzAt j mu with
    | some m1 => (f dl m1).mapM (thAt j)
    | none => .bad)
  | none => f dl mu
section
variable {K : Frag'} {cm : Cm} {X : Cx} {W : WX} {H H1 H' : Hp} {al al1 al' : Al} {mu m1 m2 m3 : Mu} {n n1 n' j : Nat} {u : HO} {st : Stmt} {e tgt iter : Expr} {s : DS} {f : DE} {pick : Pick} {pos : Pos}
theorem lock_in (sr : SR K cm H al mu) (h : fzAt j mu = some m1) : j < mu.length ∧ m1.length = mu.length ∧ ∃ u, H (al j) = some u ∧ Mut (some u) ∧ (∀ (o : Obj) (w : HO), u ≠ .frz o w) ∧ ∀ od : Obj, SR K cm (upd H (al j) (.frz od u)) al m1 ∧ Lt H al mu.length (upd H (al j) (.frz od u)) al mu.length := by
  unfold fzAt at h
  cases e : mu[j]? with
  | none => rw [e] at h; cases h
  | some m =>
    rw [e] at h
    have hj := (List.getElem?_eq_some_iff.mp e).1
    have z := sr.ob j m e
    have h : (fzMO m).map (fun m' => mu.set j m') = some m1 := h
    cases m with
    | lst ds =>
      cases h
      obtain ⟨xs, h1, h2⟩ := z
      have hz : ∀ (o' : Obj) (u : HO), H (al j) ≠ some (.frz o' u) := fun o' u e => by rw [h1] at e; cases e
      exact ⟨hj, List.length_set, _, h1, trivial, fun _ _ z => (nomatch z), fun od => ⟨sr.putO hj ⟨od, xs, upd_same, pokeO_all hj h2⟩, Lt.put hj hz⟩⟩
    | dic ds =>
      cases h
      obtain ⟨xs, h1, h2⟩ := z
      have hz : ∀ (o' : Obj) (u : HO), H (al j) ≠ some (.frz o' u) := fun o' u e => by rw [h1] at e; cases e
      exact ⟨hj, List.length_set, _, h1, trivial, fun _ _ z => (nomatch z), fun od => ⟨sr.putO hj ⟨od, xs, upd_same, pokeO_K hj h2⟩, Lt.put hj hz⟩⟩
    | ins _ _ | lstF _ | dicF _ => cases h
theorem lock_out {od : Obj} (hu : H (al j) = some u) (nf : ∀ (o : Obj) (w : HO), u ≠ .frz o w) (hj : j < n) (sr : SR K cm H' al' m2) (t : Lt (upd H (al j) (.frz od u)) al n H' al' m2.length) (h : thAt j m2 = some m3) : H' (al j) = some (.frz od u) ∧ m3.length = m2.length ∧ SR K cm (upd H' (al j) u) al' m3 ∧ Lt H al n (upd H' (al j) u) al' m3.length ∧ al' j = al j ∧ j < m2.length := by
  have hf : H' (al j) = some (.frz od u) := t.fz _ _ _ upd_same
  have ea : al' j = al j := t.same j hj
  unfold thAt at h
  cases e : m2[j]? with
  | none => rw [e] at h; cases h
  | some m =>
    rw [e] at h
    have hj2 := (List.getElem?_eq_some_iff.mp e).1
    have z := sr.ob j m e
    have h : (thMO m).map (fun m' => m2.set j m') = some m3 := h
    have lt : ∀ m3 : Mu, m3.length = m2.length → Lt H al n (upd H' (al j) u) al' m3.length := fun m3 hl => by
      rw [hl]
      refine ⟨t.len, t.same, t.fbm, fun a o ha sa => ?_, fun a o w ha => ?_⟩
      · have ne : a ≠ al j := sa j hj
        obtain ⟨z1, z2, z3⟩ := t.keep a o (by rw [upd_ne ne]; exact ha) sa
        exact ⟨by rw [upd_ne ne]; exact z1, z2, z3⟩
      · have ne : a ≠ al j := fun z => by
          rw [z, hu] at ha
          exact nf o w (Option.some.inj ha)
        rw [upd_ne ne]
        exact t.fz a o w (by rw [upd_ne ne]; exact ha)
    cases m with
    | lstF ds =>
      cases h
      obtain ⟨od', xs, h1, h2⟩ := z
      rw [ea, hf] at h1
      cases h1
      have q := sr.putO (o := .lst xs) hj2 (m := .lst ds) ⟨xs, upd_same, pokeO_all hj2 h2⟩
      rw [ea] at q
      exact ⟨hf, List.length_set, q, lt _ List.length_set, ea, hj2⟩
    | dicF ds =>
      cases h
      obtain ⟨od', xs, h1, h2⟩ := z
      rw [ea, hf] at h1
      cases h1
      have q := sr.putO (o := .dK xs) hj2 (m := .dic ds) ⟨xs, upd_same, pokeO_K hj2 h2⟩
      rw [ea] at q
      exact ⟨hf, List.length_set, q, lt _ List.length_set, ea, hj2⟩
    | ins _ _ | lst _ | dic _ => cases h
theorem pds_lk (h : PDS cm X W st s) : PDS cm X W st (sLk pick s) := by
  obtain ⟨t, p, sn⟩ := h.ex
  have pl := ps_lock p
  refine ⟨fun D σ H => t D σ H ∨ tLock t D σ H, ⟨fun pins s σ H D I q => q.elim (p.run pins s σ H D I) (pl.run pins s σ H D I)⟩, fun sg H al dl mu sr sl D q => ?_⟩
  unfold sLk at q
  cases ep : pick dl mu with
  | none => rw [ep] at q; exact .inl (sn sg H al dl mu sr sl D q)
  | some j =>
    rw [ep] at q
    dsimp only at q
    cases ef : fzAt j mu with
    | none => rw [ef] at q; exact q.elim
    | some m1 =>
      rw [ef] at q
      dsimp only at q
      obtain ⟨hj, hl, u, hu, mt, nf, k⟩ := lock_in sr ef
      refine .inr ⟨al j, u, hu, mt, fun od => ?_⟩
      obtain ⟨sr1, lt1⟩ := k od
      refine sn sg _ al dl m1 sr1 (by rw [hl]; exact sl.mono lt1) _ ?_
      cases es : s dl m1 with
      | bad => rw [es] at q; exact q.elim
      | exc x l m => rw [es] at q; exact q.elim
      | nx l m2 =>
        rw [es] at q
        have q : SOk X.K cm H al mu.length (match thAt j m2 with | some m' => .nx l m' | none => .bad) D W := q
        intro sg2 H2 al2 s2 t2 sl2
        rw [hl] at t2
        cases et : thAt j m2 with
        | none => rw [et] at q; exact q.elim
        | some m3 =>
          rw [et] at q
          obtain ⟨g1, g2, g3, g4, g5, g6⟩ := lock_out hu nf hj s2 t2 et
          refine ⟨g1, q sg2 _ al2 g3 g4 ?_⟩
          rw [g2, ← g5]
          exact sl2.pokeO g6
      | rt d m2 =>
        rw [es] at q
        have q : SOk X.K cm H al mu.length (match thAt j m2 with | some m' => .rt d m' | none => .bad) D W := q
        intro v H2 al2 s2 t2 r2
        rw [hl] at t2
        cases et : thAt j m2 with
        | none => rw [et] at q; exact q.elim
        | some m3 =>
          rw [et] at q
          obtain ⟨g1, g2, g3, g4, g5, g6⟩ := lock_out hu nf hj s2 t2 et
          refine ⟨g1, q v _ al2 g3 g4 ?_⟩
          rw [g2, ← g5]
          exact r2.pokeO g6
      | bk l m2 =>
        rw [es] at q
        have q : SOk X.K cm H al mu.length (match thAt j m2 with | some m' => .bk l m' | none => .bad) D W := q
        intro sg2 H2 al2 s2 t2 sl2
        rw [hl] at t2
        cases et : thAt j m2 with
        | none => rw [et] at q; exact q.elim
        | some m3 =>
          rw [et] at q
          obtain ⟨g1, g2, g3, g4, g5, g6⟩ := lock_out hu nf hj s2 t2 et
          refine ⟨g1, q sg2 _ al2 g3 g4 ?_⟩
          rw [g2, ← g5]
          exact sl2.pokeO g6
      | ct l m2 =>
        rw [es] at q
        have q : SOk X.K cm H al mu.length (match thAt j m2 with | some m' => .ct l m' | none => .bad) D W := q
        intro sg2 H2 al2 s2 t2 sl2
        rw [hl] at t2
        cases et : thAt j m2 with
        | none => rw [et] at q; exact q.elim
        | some m3 =>
          rw [et] at q
          obtain ⟨g1, g2, g3, g4, g5, g6⟩ := lock_out hu nf hj s2 t2 et
          refine ⟨g1, q sg2 _ al2 g3 g4 ?_⟩
          rw [g2, ← g5]
          exact sl2.pokeO g6
theorem pd_lk (h : PDE cm X W e f) : PDE cm X W e (eLk pick f) := by
  obtain ⟨t, p, sn⟩ := h.ex
  have pl := pe_lock p
  refine ⟨fun σ H Q => t σ H Q ∨ tLockE t σ H Q, ⟨fun pins s σ H Q I q => q.elim (p.run pins s σ H Q I) (pl.run pins s σ H Q I)⟩, fun sg H al dl mu sr sl Q q => ?_⟩
  unfold eLk at q
  cases ep : pick dl mu with
  | none => rw [ep] at q; exact .inl (sn sg H al dl mu sr sl Q q)
  | some j =>
    rw [ep] at q
    dsimp only at q
    cases ef : fzAt j mu with
    | none => rw [ef] at q; exact q.elim
    | some m1 =>
      rw [ef] at q
      dsimp only at q
      obtain ⟨hj, hl, u, hu, mt, nf, k⟩ := lock_in sr ef
      refine .inr ⟨al j, u, hu, mt, fun od => ?_⟩
      obtain ⟨sr1, lt1⟩ := k od
      refine sn sg _ al dl m1 sr1 (by rw [hl]; exact sl.mono lt1) _ ?_
      cases es : f dl m1 with
      | bad => rw [es] at q; exact q.elim
      | exc x m => rw [es] at q; exact q.elim
      | ok d m2 =>
        rw [es] at q
        have q : OOk X.K cm H al mu.length (match thAt j m2 with | some m' => .ok d m' | none => .bad) Q _ := q
        intro v H2 al2 s2 t2 r2
        rw [hl] at t2
        cases et : thAt j m2 with
        | none => rw [et] at q; exact q.elim
        | some m3 =>
          rw [et] at q
          obtain ⟨g1, g2, g3, g4, g5, g6⟩ := lock_out hu nf hj s2 t2 et
          refine ⟨g1, q v _ al2 g3 g4 ?_⟩
          rw [g2, ← g5]
          exact r2.pokeO g6
end
def keyDV : Key → DV
  | .inl i => .int i
  | .inr x => .str x.cps.toList
section
variable {K : Frag'} {cm : Cm} {X : Cx} {W : WX} {H : Hp} {al : Al} {mu : Mu} {n : Nat} {tgt e e2 : Expr} {f : DE} {fs : List DE} {te : TE} {ta : TA} {p pos apos cpos : Pos}
theorem keyDV_R (k : Key) : R K H al n (kV k) (keyDV k) := by
  cases k with
  | inl i => exact .int i
  | inr x =>
    have z : R K H al n (.str (Sx x.cps.toList)) (.str x.cps.toList) := .str _
    have e : Sx x.cps.toList = x := SX.S_tl x
    rw [e] at z
    exact z
theorem RK.keyAt : ∀ {ws : List (Key × V)} {kvs : List (Key × DV)} {i : Nat} {k : Key} {v : V}, RK K H al n ws kvs → ws[i]? = some (k, v) → ∃ d, kvs[i]? = some (k, d) ∧ R K H al n v d
  | _, _, _, _, _, .nil, h => by simp at h
  | _, _, 0, _, _, .cons r _, h => by simp at h; obtain ⟨rfl, rfl⟩ := h; exact ⟨_, rfl, r⟩
  | _, _, i + 1, _, _, .cons _ q, h => by
    obtain ⟨d, h1, h2⟩ := RK.keyAt (i := i) q (by simpa using h)
    exact ⟨d, by simpa using h1, h2⟩
def dicFz (mu : Mu) (j : Nat) : Option (List (Key × DV)) := match mu[j]? with
  | some (.dicF kvs) => some kvs
  | _ => none
theorem dicFz_rd {j : Nat} {kvs : List (Key × DV)} (s : SR K cm H al mu) (h : dicFz mu j = some kvs) : ∃ (od : Obj) (ws : List (Key × V)), H (al j) = some (.frz od (.dK ws)) ∧ RK K H al mu.length ws kvs := by
  unfold dicFz at h
  cases e : mu[j]? with
  | none => rw [e] at h; cases h
  | some m =>
    rw [e] at h
    cases m <;> cases h
    exact s.ob j _ e
inductive DK where
  | keys | vals | items
def dkOf : DK → List (Key × DV) → List DV
  | .keys, kvs => kvs.map fun kv => keyDV kv.1
  | .vals, kvs => kvs.map (·.2)
  | .items, kvs => kvs.map fun kv => .tup [keyDV kv.1, kv.2]
def dkIt : DK → Addr → Obj → List (Key × V) → It
  | .keys => Itk
  | .vals => Itd
  | .items => Iti
def itDic (w : DK) : DV → Mu → IOut
  | .obj j, m => match dicFz m j with
    | some kvs => .it (dkOf w kvs) m
    | none => .bad
  | _, _ => .bad
def iDic (w : DK) (f : DE) : DI := fun dl mu => (f dl mu).it (itDic w)
theorem sti_dic {w : DK} {a : Addr} {od : Obj} {ws : List (Key × V)} {kvs : List (Key × DV)} (h : H a = some (.frz od (.dK ws))) (rk : RK K H al n ws kvs) : StI K cm H al n (dkIt w a od ws) (dkOf w kvs) := fun H1 al1 mu1 s1 t1 i => by
  have h1 := t1.fz _ _ _ h
  have r1 := rk.mono t1
  have hl := r1.len
  have dl : (dkOf w kvs).length = kvs.length := by cases w <;> exact List.length_map ..
  rw [dl]
  cases w with
  | keys =>
    refine ⟨fun hi => ⟨⟨h1, by omega⟩, fun x H' y => ?_⟩, fun hi => ⟨h1, by omega⟩⟩
    obtain ⟨rfl, k, v, y1, rfl⟩ := y
    obtain ⟨d, e1, e2⟩ := r1.keyAt y1
    exact ⟨s1, Lt.refl, keyDV k, by show (kvs.map fun kv => keyDV kv.1)[i]? = _; rw [List.getElem?_map, e1]; rfl, keyDV_R k⟩
  | vals =>
    refine ⟨fun hi => ⟨⟨h1, by omega⟩, fun x H' y => ?_⟩, fun hi => ⟨h1, by omega⟩⟩
    obtain ⟨rfl, k, y1⟩ := y
    obtain ⟨d, e1, e2⟩ := r1.keyAt y1
    exact ⟨s1, Lt.refl, d, by show (kvs.map (·.2))[i]? = _; rw [List.getElem?_map, e1]; rfl, e2⟩
  | items =>
    refine ⟨fun hi => ⟨⟨h1, by omega⟩, fun x H' y => ?_⟩, fun hi => ⟨h1, by omega⟩⟩
    obtain ⟨T, k, v, y1, rfl, hT, rfl⟩ := y
    obtain ⟨d, e1, e2⟩ := r1.keyAt y1
    have tt : Lt H1 al1 mu1.length (upd H1 T (.tup [kV k, v])) al1 mu1.length := Lt.new (mu := mu1) hT
    exact ⟨s1.new hT, tt, .tup [keyDV k, d], by show (kvs.map fun kv => DV.tup [keyDV kv.1, kv.2])[i]? = _; rw [List.getElem?_map, e1]; rfl, .tup (.inl ⟨.inl upd_same, s1.sep hT, s1.nf hT⟩) (.cons (keyDV_R k) (.cons (e2.mono tt) .nil))⟩
theorem snd_dic {w : DK} {t : TI} (hA : SndE K cm W te f) (ht : ∀ σ H R, (te σ H fun x H1 => ∃ d o kvs, x = .ref d ∧ H1 d = some (.frz o (.dK kvs)) ∧ R (dkIt w d o kvs) H1) → t σ H R) : SndI K cm W t (iDic w f) := fun sg H al dl mu s sl R1 h => by
  refine ht _ _ _ (hA sg H al dl mu s sl _ ?_)
  have h : IOk K cm H al mu.length ((f dl mu).it (itDic w)) R1 _ := h
  cases e : f dl mu with
  | bad => rw [e] at h; exact h.elim
  | exc x m => rw [e] at h; exact h
  | ok d m =>
    rw [e] at h
    refine fun v H1 al1 s1 t1 r1 => ?_
    cases d <;> try exact h.elim
    rename_i j
    have h : IOk K cm H al mu.length (match dicFz m j with | some kvs => .it (dkOf w kvs) m | none => .bad) R1 _ := h
    cases ed : dicFz m j with
    | none => rw [ed] at h; exact h.elim
    | some kvs =>
      rw [ed] at h
      cases r1 with
      | obj hj =>
        obtain ⟨od, ws, g1, g2⟩ := dicFz_rd s1 ed
        exact ⟨_, od, ws, rfl, g1, h _ H1 al1 s1 t1 (sti_dic g1 g2)⟩
theorem pe_more (h : PE X e te) : PE X e (fun σ H Q => ∃ Q' : VK, te σ H Q' ∧ ∀ v H', Q' v H' → Q v H') := ⟨fun pins s σ H Q I q => by
  obtain ⟨Q', q1, q2⟩ := q
  exact thn (h.run pins s σ H Q' I q1) fun u s1 ⟨x, H1, I1, r, q3⟩ => ⟨x, H1, I1, r, q2 x H1 q3⟩⟩
theorem pdi_keys (he : PDE cm X W e f) : PDI cm X W tgt e (iDic .keys f) := by
  obtain ⟨_, p1, s1⟩ := he.ex
  exact ⟨_, pi_keys (pe_more p1), snd_dic s1 fun σ H R h => ⟨_, h, fun x H1 ⟨d, o, kvs, h1, h2, h3⟩ => ⟨d, o, h1, .inl ⟨kvs, h2, h3⟩⟩⟩⟩
def stillOf (mu : Mu) : DV → Option (List DV)
  | .lst ds => some ds
  | .obj j => match mu[j]? with
    | some (.lstF ds) => some ds
    | _ => none
  | _ => none
def pickE (f : DE) : Pick := fun dl mu => match f dl mu with
  | .ok (.obj j) _ => (match mu[j]? with
    | some (.lst _) => some j
    | some (.dic _) => some j
    | _ => none)
  | _ => none
def pickD (f : DE) : Pick := fun dl mu => match f dl mu with
  | .ok (.obj j) _ => (match mu[j]? with
    | some (.dic _) => some j
    | _ => none)
  | _ => none
def isDicE (f : DE) : Dl → Mu → Bool := fun dl mu => match f dl mu with
  | .ok (.obj j) m => (dicR m j).isSome
  | _ => false
def iA (f : DE) : DI := fun dl mu => if isDicE f dl mu = true then iDic .keys f dl mu else iSeq f dl mu
theorem pdi_any (he : PDE cm X W e f) : PDI cm X W tgt e (iA f) := pdi_alt (pdi_keys he) (pdi_seq he) fun dl mu => by
  unfold iA
  by_cases c : isDicE f dl mu = true
  · rw [if_pos c]; exact .inl rfl
  · rw [if_neg c]; exact .inr (.inl rfl)
end
end DM
namespace DM
open PySem PySem.Spec PyProof.Rows L2
section
variable {K : Frag'} {cm : Cm} {X : Cx} {W : WX} {H : Hp} {al : Al} {mu : Mu} {n : Nat} {e e2 o : Expr} {es : List Expr} {f fa fb fo : DE} {fs : List DE} {te : TE} {ta : TA} {p p2 pos apos cpos : Pos}
def boolsOf : List DV → Option (List Bool)
  | [] => some []
  | .bl b :: r => (boolsOf r).map (b :: ·)
  | _ => none
def intsOf : List DV → Option (List Int)
  | [] => some []
  | .int b :: r => (intsOf r).map (b :: ·)
  | _ => none
def gAll : GC
  | [d], mu => ((lstOf mu d).bind boolsOf).map fun bs => .bl (bs.all id)
  | _, _ => none
def gMulS : G2
  | .str a, .int k, _ => if 0 ≤ k ∧ k ≤ 1000000 ∧ a.length * k.toNat ≤ 1000000 then some (.str (List.replicate k.toNat a).flatten) else none
  | _, _, _ => none
def gMulA : G2 := fun x y mu => match x with
  | .str _ => gMulS x y mu
  | _ => DM.gMul x y mu
def gClearD : GM
  | .obj k, [], mu => match dicAt mu k with
    | some _ => some (.non, mu.set k (.dic []))
    | none => none
  | _, _, _ => none
def eClearA (fo : DE) : DE := fun dl mu => match fo dl mu with
  | .ok (.obj j) m => if (dicAt m j).isSome = true then eBM "dict" gClearD fo [] dl mu else eBM "list" gClear fo [] dl mu
  | _ => eBM "list" gClear fo [] dl mu
def gStr : GC
  | [.int i], _ => if 0 ≤ i ∧ i < 18446744073709551616 then some (.str (TL.numL i.toNat)) else none
  | _, _ => none
end
end DM
namespace DM
open PySem PySem.Spec PyProof.Rows L2
section
variable {K : Frag'} {cm : Cm} {X : Cx} {W : WX} {p pos : Pos} {e : Expr} {fs : List DE}
end
end DM
namespace DM
open PySem PySem.Spec PyProof.Rows L2
section
variable {K : Frag'} {cm : Cm} {X : Cx} {W : WX} {p pos q : Pos} {ex a b : Expr} {fs : List DE} {fx : DE}
end
end DM
namespace DM
open PySem PySem.Spec PyProof.Rows L2
section
variable {K : Frag'} {cm : Cm} {X : Cx} {W : WX} {H : Hp} {al : Al} {n : Nat} {p pos : Pos} {e : Expr} {fs : List DE}
end
section
variable {cm : Cm} {X : Cx} {W : WX} {p pos : Pos} {e : Expr} {fs : List DE}
end
section
variable {K : Frag'} {cm : Cm} {X : Cx} {W : WX} {p pos : Pos} {e e2 : Expr} {fs : List DE}
end
end DM
namespace DM
open PySem PySem.Spec PyProof.Rows L2
abbrev Cl1 := Value × Option Nat × (Addr → Value → Option Addr → TS)
def atO (o : Option Nat) (a : Addr) (s : L2.St) : L2.St := match o with
  | some i => s.set i (some (.ref a))
  | none => s
def goO (o : Option Nat) (s : L2.St) : L2.St := match o with
  | some i => s.set i none
  | none => s
def endO (o : Option Nat) (D : Ends) : Ends := ⟨fun s H => D.nx (goO o s) H, D.rt, fun s H => D.bk (goO o s) H, fun s H => D.ct (goO o s) H⟩
def wAny (K : Frag') (Wo : WX) (D : Ends) : List Cl1 → WX
  | [] => Wo
  | (c, o, ts) :: r => fun cls d s H => ∃ b, PySem.W.exmOne K cls c = some b ∧ (b = true → ∀ a, H a = none → ts a cls d (endO o D) (atO o a s) H) ∧ (b = false → wAny K Wo D r cls d s H)
inductive ClOk (X : Cx) : List ExceptHandler → List Cl1 → Prop
  | nil : ClOk X [] []
  | bare {x : Str} {c : Value} {ts : Addr → Value → Option Addr → TS} {b0 : Stmt} {su : List Stmt} {np p' : Pos} {hd : List ExceptHandler} {l : List Cl1} (hc : Names X x c)
      (hsu : ∀ (a : Addr) (oe : Obj) (cls : Value) (d : Option Addr) (pn : List (Addr × Obj)), Zc cls d oe → (∃ vs, oe.data = .fields vs) → PSs (X.suite a ((a, oe) :: pn)) (b0 :: su) (ts a cls d)) (r : ClOk X hd l) :
      ClOk X (.ExceptHandler (some (.Name x np)) none (b0 :: su) p' :: hd) ((c, none, ts) :: l)
  | named {x n : Str} {i : Nat} {c : Value} {ts : Addr → Value → Option Addr → TS} {b0 : Stmt} {su : List Stmt} {np p' : Pos} {hd : List ExceptHandler} {l : List Cl1} (hc : Names X x c) (hi : X.N[i]? = some n) (hn : X.env.kindOf n = some .local)
      (hsu : ∀ (a : Addr) (oe : Obj) (cls : Value) (d : Option Addr) (pn : List (Addr × Obj)), Zc cls d oe → (∃ vs, oe.data = .fields vs) → PSs (X.suite a ((a, oe) :: pn)) (b0 :: su) (ts a cls d)) (r : ClOk X hd l) :
      ClOk X (.ExceptHandler (some (.Name x np)) (some n) (b0 :: su) p' :: hd) ((c, some i, ts) :: l)
section
variable {X : Cx} {body : List Stmt} {h0 : ExceptHandler} {hd : List ExceptHandler} {l : List Cl1} {pos : Pos} {tb : WX → TS} {Wo : WX}
end
end DM
namespace DM
open PySem PySem.Spec PyProof.Rows L2
def canS (K : Frag') (cm : Cm) (W : WX) (f : DS) : TS := fun D sg H => ∃ al dl mu, SR K cm H al mu ∧ SlD K H al mu.length sg dl ∧ SOk K cm H al mu.length (f dl mu) D W
theorem PDB.can {cm : Cm} {X : Cx} {W : WX} {b : List Stmt} {f : DS} (h : PDB cm X W b f) : PSs X b (canS X.K cm W f) := by
  obtain ⟨t, p, s⟩ := h.ex
  exact ⟨fun pins s' σ H D I q => let ⟨al, dl, mu, sr, sl, h⟩ := q; p.run pins s' σ H D I (s σ H al dl mu sr sl D h)⟩
def goD (o : Option Nat) (dl : Dl) : Dl := match o with
  | some i => dl.set i none
  | none => dl
structure HC where
  tab : List (String × Bool)
  slot : Option Nat
  run : Ex → DS
def suD (o : Option Nat) : SOut → SOut
  | .nx l m => .nx (goD o l) m
  | .rt d m => .rt d m
  | _ => .bad
def inSl (o : Option Nat) (dl : Dl) : Bool := match o with
  | some i => i.blt dl.length
  | none => true
def pickH : List HC → Ex → DS
  | [], e => fun dl mu => .exc e dl mu
  | h :: r, e => fun dl mu => match h.tab.lookup e.cls with
    | some true => if inSl h.slot dl = true then suD h.slot (h.run e (goD h.slot dl) mu) else .bad
    | some false => pickH r e dl mu
    | none => .bad
abbrev JP := L2.St → Hp → Al → Nat → Prop
def JX (K : Frag') (a : Addr) (o : Option Nat) (d : Option Addr) (e : Ex) : JP := fun sg H al n => (∀ i, o = some i → sg[i]? = some (some (.ref a))) ∧ XR K H al n d e.fs
def SndEJ (K : Frag') (cm : Cm) (J : JP) (t : TE) (f : DE) : Prop := ∀ (sg : L2.St) (H : Hp) (al : Al) (dl : Dl) (mu : Mu), SR K cm H al mu → SlD K H al mu.length sg dl → J sg H al mu.length → ∀ Q : VK, OOk K cm H al mu.length (f dl mu) Q (fun _ _ _ => False) → t sg H Q
def SOkJ (K : Frag') (cm : Cm) (J : JP) (H : Hp) (al : Al) (n : Nat) (o : SOut) (D : Ends) : Prop := match o with
  | .nx dl mu => ∀ sg H' al', SR K cm H' al' mu → Lt H al n H' al' mu.length → SlD K H' al' mu.length sg dl → J sg H' al' mu.length → D.nx sg H'
  | .rt d mu => ∀ v H' al', SR K cm H' al' mu → Lt H al n H' al' mu.length → R K H' al' mu.length v d → D.rt v H'
  | _ => False
def SndSJ (K : Frag') (cm : Cm) (J : JP) (t : TS) (f : DS) : Prop := ∀ (sg : L2.St) (H : Hp) (al : Al) (dl : Dl) (mu : Mu), SR K cm H al mu → SlD K H al mu.length sg dl → J sg H al mu.length → ∀ D : Ends, SOkJ K cm J H al mu.length (f dl mu) D → t D sg H
section
variable {K : Frag'} {cm : Cm} {J : JP} {H H1 H' : Hp} {al al1 al' : Al} {mu m1 : Mu} {n n1 n' : Nat} {t u : TE} {ts tu : TS} {f g : DE} {fs : List DE} {s s' : DS} {sg : L2.St} {dl : Dl} {D : Ends}
theorem SOkJ.later {o : SOut} (t : Lt H al n H' al' n') (h : SOkJ K cm J H al n o D) : SOkJ K cm J H' al' n' o D := by
  cases o with
  | nx dl mu => exact fun sg H2 al2 s2 t2 sl2 j2 => h sg H2 al2 s2 (t.trans t2) sl2 j2
  | rt d mu => exact fun v H2 al2 s2 t2 r2 => h v H2 al2 s2 (t.trans t2) r2
  | _ => exact h
def SndAJ (K : Frag') (cm : Cm) (J : JP) (t : TA) (fs : List DE) : Prop := ∀ (sg : L2.St) (H : Hp) (al : Al) (dl : Dl) (mu : Mu), SR K cm H al mu → SlD K H al mu.length sg dl → J sg H al mu.length → ∀ R1 : List V → Hp → Prop,
  AOk K cm H al mu.length (evA fs dl mu) R1 (fun _ _ _ => False) → t sg H R1
theorem sj_bare {a : Addr} {d : Option Addr} {e : Ex} (h : SndS K cm W0 ts s) : SndSJ K cm (JX K a none d e) ts s := fun sg H al dl mu sr sl j D h1 => by
  refine h sg H al dl mu sr sl D ?_
  cases e1 : s dl mu with
  | nx dl1 m1 => rw [e1] at h1; exact fun sg1 H1 al1 s1 t1 sl1 => h1 sg1 H1 al1 s1 t1 sl1 ⟨fun i z => (nomatch z), j.2.mono t1⟩
  | rt d m1 => rw [e1] at h1; exact h1
  | bk d m1 => rw [e1] at h1; exact h1.elim
  | ct d m1 => rw [e1] at h1; exact h1.elim
  | exc x d m1 => rw [e1] at h1; exact h1.elim
  | bad => rw [e1] at h1; exact h1.elim
end
structure PUE (cm : Cm) (X : Cx) (o : Option Nat) (a : Addr) (cls : Value) (d : Option Addr) (e : Ex) (x : Expr) (f : DE) : Prop where
  ex : ∃ t, PE X x t ∧ SndEJ X.K cm (JX X.K a o d e) t f
structure PUA (cm : Cm) (X : Cx) (o : Option Nat) (a : Addr) (cls : Value) (d : Option Addr) (e : Ex) (xs : List Expr) (fs : List DE) : Prop where
  ex : ∃ t, PA X xs t ∧ SndAJ X.K cm (JX X.K a o d e) t fs
structure PU1 (cm : Cm) (X : Cx) (o : Option Nat) (a : Addr) (cls : Value) (d : Option Addr) (e : Ex) (x : Stmt) (s : DS) : Prop where
  ex : ∃ t, PS X x t ∧ SndSJ X.K cm (JX X.K a o d e) t s
structure PUS (cm : Cm) (X : Cx) (o : Option Nat) (a : Addr) (cls : Value) (d : Option Addr) (e : Ex) (xs : List Stmt) (s : DS) : Prop where
  ex : ∃ t, PSs X xs t ∧ SndSJ X.K cm (JX X.K a o d e) t s
structure PDU (cm : Cm) (X : Cx) (o : Option Nat) (su : List Stmt) (s : Ex → DS) : Prop where
  ex : ∀ (a : Addr) (oe : Obj) (d : Option Addr) (e : Ex) (pn : List (Addr × Obj)), Zc (xcl cm e.cls) d oe → (∃ vs, oe.data = .fields vs) → PUS cm (X.suite a ((a, oe) :: pn)) o a (xcl cm e.cls) d e su (s e)
def canU (K : Frag') (cm : Cm) (o : Option Nat) (s : Ex → DS) (a : Addr) (cls : Value) (d : Option Addr) : TS := fun D sg H => ∃ e al dl mu, cls = xcl cm e.cls ∧ SR K cm H al mu ∧ SlD K H al mu.length sg dl ∧ JX K a o d e sg H al mu.length ∧ SOkJ K cm (JX K a o d e) H al mu.length (s e dl mu) D
theorem PDU.can {cm : Cm} {X : Cx} {o : Option Nat} {su : List Stmt} {s : Ex → DS} (h : PDU cm X o su s) (a : Addr) (oe : Obj) (cls : Value) (d : Option Addr) (pn : List (Addr × Obj)) (hz : Zc cls d oe) (hv : ∃ vs, oe.data = .fields vs) : PSs (X.suite a ((a, oe) :: pn)) su (canU X.K cm o s a cls d) :=
  ⟨fun pins s' σ H D I q => by
    obtain ⟨e, al, dl, mu, rfl, sr, sl, j, q⟩ := q
    obtain ⟨t, p, sn⟩ := (h.ex a oe d e pn hz hv).ex
    exact p.run pins s' σ H D I (sn σ H al dl mu sr sl j D q)⟩
def TabOk (K : Frag') (cm : Cm) (c : Value) (tab : List (String × Bool)) : Prop := ∀ x b, tab.lookup x = some b → PySem.W.exmOne K (xcl cm x) c = some b
theorem TabOk.nil {K : Frag'} {cm : Cm} {c : Value} : TabOk K cm c [] := fun x b h => (nomatch h)
theorem TabOk.cons {K : Frag'} {cm : Cm} {c : Value} {y : String} {b0 : Bool} {tab : List (String × Bool)} (h0 : PySem.W.exmOne K (xcl cm y) c = some b0) (h : TabOk K cm c tab) : TabOk K cm c ((y, b0) :: tab) := fun x b hx => by
  rw [List.lookup_cons] at hx
  split at hx
  · rename_i e
    have e := beq_iff_eq.mp e
    subst e
    cases hx
    exact h0
  · exact h x b hx
inductive HdOk (cm : Cm) (X : Cx) : List ExceptHandler → List HC → Prop
  | nil : HdOk cm X [] []
  | bare {x : Str} {c : Value} {b0 : Stmt} {su : List Stmt} {np p' : Pos} {hd : List ExceptHandler} {tab : List (String × Bool)} {s : Ex → DS} {r : List HC} (hc : Names X x c) (ht : TabOk X.K cm c tab) (hs : PDU cm X none (b0 :: su) s) (hr : HdOk cm X hd r) :
      HdOk cm X (.ExceptHandler (some (.Name x np)) none (b0 :: su) p' :: hd) (⟨tab, none, s⟩ :: r)
  | named {x n : Str} {i : Nat} {c : Value} {b0 : Stmt} {su : List Stmt} {np p' : Pos} {hd : List ExceptHandler} {tab : List (String × Bool)} {s : Ex → DS} {r : List HC} (hc : Names X x c) (hi : X.N[i]? = some n) (hn : X.env.kindOf n = some .local) (ht : TabOk X.K cm c tab) (hs : PDU cm X (some i) (b0 :: su) s) (hr : HdOk cm X hd r) :
      HdOk cm X (.ExceptHandler (some (.Name x np)) (some n) (b0 :: su) p' :: hd) (⟨tab, some i, s⟩ :: r)
section
variable {K : Frag'} {cm : Cm} {X : Cx} {W : WX} {H : Hp} {al : Al} {mu : Mu} {n : Nat} {sg : L2.St} {dl : Dl}
theorem suite_end {o : Option Nat} {a : Addr} {d : Option Addr} {e : Ex} {so : SOut} {D : Ends} (h : SOk K cm H al n (suD o so) D W) : SOkJ K cm (JX K a o d e) H al n so (endO o D) := by
  cases so with
  | nx l m =>
    exact fun sg1 H1 al1 s1 t1 sl1 _ => h (goO o sg1) H1 al1 s1 t1 (by
      cases o with
      | none => exact sl1
      | some i => exact sl1.clr none)
  | rt d m => exact h
  | bk l m => exact (h : False).elim
  | ct l m => exact (h : False).elim
  | exc e l m => exact (h : False).elim
  | bad => exact (h : False).elim
end
end DM
namespace DM
open PySem PySem.Spec PyProof.Rows L2
section
variable {K : Frag'} {cm : Cm} {X : Cx} {W : WX} {H : Hp} {al : Al} {mu : Mu} {n : Nat} {sg : L2.St} {dl : Dl} {pos : Pos}
theorem HdOk.cl {hd : List ExceptHandler} {hs : List HC} (h : HdOk cm X hd hs) : ∃ l, ClOk X hd l ∧ ∀ (W : WX) (D : Ends) (e : Ex) (dd : Option Addr) (sg : L2.St) (H : Hp) (al : Al) (dl : Dl) (mu : Mu), SR X.K cm H al mu → SlD X.K H al mu.length sg dl → XR X.K H al mu.length dd e.fs →
    SOk X.K cm H al mu.length (pickH hs e dl mu) D W → wAny X.K W D l (xcl cm e.cls) dd sg H := by
  induction h with
  | nil => exact ⟨[], .nil, fun W D e dd sg H al dl mu s sl x q => q dd sg H al s Lt.refl sl x⟩
  | @bare x c b0 su np p' hd tab s r hc ht hs hr ih =>
    obtain ⟨l, cl, cw⟩ := ih
    refine ⟨(c, none, canU X.K cm none s) :: l, .bare hc (fun a oe cls d pn hz hv => hs.can a oe cls d pn hz hv) cl, fun W D e dd sg H al dl mu sr sl xr q => ?_⟩
    have q : SOk X.K cm H al mu.length (match tab.lookup e.cls with | some true => (if inSl none dl = true then suD none (s e dl mu) else .bad) | some false => pickH r e dl mu | none => .bad) D W := q
    cases e1 : tab.lookup e.cls with
    | none => rw [e1] at q; exact q.elim
    | some b =>
      rw [e1] at q
      refine ⟨b, ht _ _ e1, fun eb a na => ?_, fun eb => ?_⟩
      · subst eb
        have q : SOk X.K cm H al mu.length (suD none (s e dl mu)) D W := q
        exact ⟨e, al, dl, mu, rfl, sr, sl, ⟨fun i z => (nomatch z), xr⟩, suite_end (o := none) q⟩
      · subst eb
        exact cw W D e dd sg H al dl mu sr sl xr q
  | @named x n i c b0 su np p' hd tab s r hc hi hn ht hs hr ih =>
    obtain ⟨l, cl, cw⟩ := ih
    refine ⟨(c, some i, canU X.K cm (some i) s) :: l, .named hc hi hn (fun a oe cls d pn hz hv => hs.can a oe cls d pn hz hv) cl, fun W D e dd sg H al dl mu sr sl xr q => ?_⟩
    have q : SOk X.K cm H al mu.length (match tab.lookup e.cls with | some true => (if inSl (some i) dl = true then suD (some i) (s e (dl.set i none) mu) else .bad) | some false => pickH r e dl mu | none => .bad) D W := q
    cases e1 : tab.lookup e.cls with
    | none => rw [e1] at q; exact q.elim
    | some b =>
      rw [e1] at q
      refine ⟨b, ht _ _ e1, fun eb a na => ?_, fun eb => ?_⟩
      · subst eb
        have q : SOk X.K cm H al mu.length (if inSl (some i) dl = true then suD (some i) (s e (dl.set i none) mu) else .bad) D W := q
        by_cases hb : inSl (some i) dl = true
        · rw [if_pos hb] at q
          have hl : i < sg.length := by rw [sl.len]; exact Nat.blt_eq.mp hb
          refine ⟨e, al, dl.set i none, mu, rfl, sr, sl.clr _, ⟨fun j z => ?_, xr⟩, suite_end (o := some i) q⟩
          cases z
          exact List.getElem?_set_self hl
        · rw [if_neg hb] at q
          exact q.elim
      · subst eb
        exact cw W D e dd sg H al dl mu sr sl xr q
section
variable {o : Option Nat} {a : Addr} {cls : Value} {d : Option Addr} {e : Ex} {x y : Expr} {xs : List Expr} {f g : DE} {fs : List DE} {st : Stmt} {rest : List Stmt} {s s' : DS}
end
end
end DM
namespace DM
open PySem PySem.Spec PyProof.Rows L2
def XfOk (K : Frag') (cm : Cm) (cs : List String) (f : Str) : Prop := ∀ c, cs.contains c = true → XfC K (cm c) ∧ PySem.W.findIn K (.ref (cm c)) f = some none
theorem XfOk.nil {K : Frag'} {cm : Cm} {f : Str} : XfOk K cm [] f := fun c h => by cases h
theorem XfOk.cons {K : Frag'} {cm : Cm} {f : Str} {c : String} {cs : List String} (h1 : XfC K (cm c)) (h2 : PySem.W.findIn K (.ref (cm c)) f = some none) (h : XfOk K cm cs f) : XfOk K cm (c :: cs) f := fun x hx => by
  rw [List.contains_cons] at hx
  rcases Bool.or_eq_true_iff.mp hx with e | e
  · rw [beq_iff_eq.mp e]; exact ⟨h1, h2⟩
  · exact h x e
section
variable {K : Frag'} {cm : Cm} {X : Cx} {pos p p2 : Pos} {i : Nat} {a : Addr} {oe : Obj} {d : Option Addr} {e : Ex} {pn : List (Addr × Obj)} {cs : List String} {f nm x : Str}
end
structure IsX (K : Frag') (D : Addr) : Prop where
  cl : (PySem.W.clsIn K D).isSome = true
  ga : PySem.W.findIn K (.ref D) "__getattribute__" = some (some (.builtin "BaseException.__getattribute__"))
  gt : PySem.W.findIn K (.ref D) "__getattr__" = some none
  sb : PySem.W.subIn K (.ref D) (.type "BaseException") = some true
  ca : PySem.W.findIn K (.ref D) "__class__" = some (some (.builtin "object.__class__"))
  sg : PySem.W.specialIn K (.builtin "object.__class__") "__get__" = some (some (.builtin "getset_descriptor.__get__"))
  tk : PySem.W.takesIn K (.builtin "object.__class__") = some true
  mr : PySem.W.mroIn K D (.type "object") = some true
section
variable {X : Cx} {D a : Addr} {d : Option Addr} {oe : Obj} {pn : List (Addr × Obj)}
end
def KitTab (K : Frag') (cm : Cm) (us : List Value) (tab : List (String × Bool)) : Prop := ∀ x b, tab.lookup x = some b → IsX K (cm x) ∧ PySem.W.kitAny K (xcl cm x) us = some b
theorem KitTab.nil {K : Frag'} {cm : Cm} {us : List Value} : KitTab K cm us [] := fun x b h => (nomatch h)
theorem KitTab.cons {K : Frag'} {cm : Cm} {us : List Value} {y : String} {b0 : Bool} {tab : List (String × Bool)} (h0 : IsX K (cm y)) (h1 : PySem.W.kitAny K (xcl cm y) us = some b0) (h : KitTab K cm us tab) : KitTab K cm us ((y, b0) :: tab) := fun x b hx => by
  rw [List.lookup_cons] at hx
  split at hx
  · rename_i e
    have e := beq_iff_eq.mp e
    subst e
    cases hx
    exact ⟨h0, h1⟩
  · exact h x b hx
section
variable {K : Frag'} {cm : Cm} {X : Cx} {pos p p2 p3 p4 : Pos} {i : Nat} {a : Addr} {oe : Obj} {d : Option Addr} {e : Ex} {pn : List (Addr × Obj)} {tab : List (String × Bool)} {nm : Str} {c : Expr} {u : Value} {v : V}
end
end DM
namespace DM
open PySem PySem.Spec PyProof.Rows L2
structure BaseI (K : Frag') (B : Addr) : Prop where
  sp : PySem.W.specialIn K (.ref B) "__getattribute__" = some (some (.builtin "type.__getattribute__"))
  rd : PySem.W.readsIn K B (.type "type") = true
  fc : PySem.W.findCls K (.ref B) (.type "type") "__init__" = some (.val (.builtin "ValueError.__init__"))
section
variable {X : Cx} {e : Expr} {es : List Expr} {ta : TA} {B : Addr} {x : Str} {p1 p2 pos : Pos}
end
def mkV (nms : List Str) (xs : List V) : List (Str × V) := (nms.zip xs).reverse
def spX (K : Frag') (C : Addr) (nms : List Str) : Sp := fun vs H Q _ => ∃ a xs, vs = .ref a :: xs ∧ xs.length = nms.length ∧ OexC K C ∧ H a = some (exo a C none) ∧
  ∀ d H2, H d = none → d ≠ a → H2 a = some (exo a C (some d)) → H2 d = some (exd d (mkV nms xs)) → (∀ b, b ≠ a → b ≠ d → H2 b = H b) → Q .non H2
section
variable {P : Program} {w : World} {K : Frag'} {mg : Str → Option Value} {base : Heap} {qual bx f1 f2 t : Str} {params : Arguments} {body : List Stmt} {scope : Scope} {f C B : Addr} {fd : FuncData} {p1 p2 p3 p4 p5 p6 q1 q2 q3 q4 q5 q6 q7 q8 : Pos} {j : Bool}
end
def sRaise0 (c : String) : DS := fun dl mu => .exc ⟨c, []⟩ dl mu
structure CalX (P : Program) (w : World) (K : Frag') (mg : Str → Option Value) (base : Heap) (cm : Cm) (c : String) (x : Str) (nms : List Str) : Prop where
  ex : ∃ (f : Addr) (fd : FuncData) (ps : List Str), FnOk P w K mg base (L2.CX P w) 1 f fd ps (spX K (cm c) nms) ∧ Binds K fd ps [] ∧ mg x = some (.ref (cm c)) ∧ OexC K (cm c) ∧ PySem.W.findIn K (.ref (cm c)) "__init__" = some (some (.ref f)) ∧ PySem.W.typeIn K (.ref f) = some (.type "function")
section
variable {cm : Cm} {X : Cx} {W : WX} {c : String} {x : Str} {nms : List Str} {e : Expr} {es : List Expr} {fs : List DE} {p pos rpos p2 : Pos} {j2 : Nat}
theorem pds_raise0 {m : Str} {j : Nat} (hm : X.mg x = some (.ref (cm c))) (hx : PySem.W.excIn X.K (cm c) He.veBase "ValueError.__new__" = true ∧ PySem.W.keepIn X.K (.ref (cm c)) = true ∧ PySem.W.subIn X.K (.ref (cm c)) (.type "BaseException") = some true ∧ PySem.W.typeIn X.K (.ref (cm c)) = some (.type "type")) (hc : X.calm = true) (tk : Takes X W) (hg : Gl X x) (hdb : (x == ("__debug__" : Str)) = false := by decide) :
    PDS cm X W (.Raise (some (.Call (.Name x p) [.Constant (.str m) j p2] [] pos)) none rpos) (sRaise0 c) :=
  ⟨_, ps_raise hc tk (pmk_own PySem.F.excBase_ValueError hx.1 hm hx.2.1 (raises_own hx.2.2.1 hx.2.2.2) hg hdb), fun sg H al dl mu s sl D h => h none sg H al s Lt.refl sl (.inl ⟨rfl, rfl⟩)⟩
end
end DM
namespace DM
open PySem PySem.Spec PyProof.Rows L2
def oexB (K : Frag') (C : Addr) : Bool := (match K.lookup C with
  | some ⟨.type "type", _, .cls cd, sl⟩ => (match cd.mro, sl.toList with
    | .ref C' :: bm, [_, _, _, _, some (.builtin n), _] => decide (C' = C) && (decide (n = "ValueError.__new__") && (!cd.hasDel && (cd.hasDict && PySem.HandSPX.refsVE bm)))
    | _, _ => false)
  | _ => false) && (He.eqO (PySem.W.findIn K (.ref C) "__setattr__") (some (some (.builtin "object.__setattr__"))) && (decide (PySem.W.subIn K (.ref C) (.type "BaseException") = some true) && (decide (PySem.W.typeIn K (.ref C) = some (.type "type")) && PySem.W.keepIn K (.ref C))))
def isxB (K : Frag') (D : Addr) : Bool := (PySem.W.clsIn K D).isSome && (He.eqO (PySem.W.findIn K (.ref D) "__getattribute__") (some (some (.builtin "BaseException.__getattribute__"))) && (He.eqO (PySem.W.findIn K (.ref D) "__getattr__") (some none) && (decide (PySem.W.subIn K (.ref D) (.type "BaseException") = some true) &&
  (He.eqO (PySem.W.findIn K (.ref D) "__class__") (some (some (.builtin "object.__class__"))) && (He.eqO (PySem.W.specialIn K (.builtin "object.__class__") "__get__") (some (some (.builtin "getset_descriptor.__get__"))) && (decide (PySem.W.takesIn K (.builtin "object.__class__") = some true) && decide (PySem.W.mroIn K D (.type "object") = some true)))))))
def basB (K : Frag') (B : Addr) : Bool := He.eqO (PySem.W.specialIn K (.ref B) "__getattribute__") (some (some (.builtin "type.__getattribute__"))) && (PySem.W.readsIn K B (.type "type") && (match PySem.W.findCls K (.ref B) (.type "type") "__init__" with
  | some (.val (.builtin n)) => decide (n = "ValueError.__init__")
  | _ => false))
inductive Fx where
  | oex (x : Str)
  | fld (x f : Str)
  | bas (x : Str)
  | xf (x : Str)
  | isx (x : Str)
  | ini (x : Str)
  | exv (x : Str) (b : Bool)
  | kit (x y : Str) (b : Bool)
  | kitv (x : Str) (b : Bool)
def Fx.ok (K : Frag') : Fx → Bool
  | .oex x => oexB K (He.ga K x)
  | .fld x f => He.eqO (PySem.W.findIn K (.ref (He.ga K x)) f) (some none)
  | .bas x => basB K (He.ga K x)
  | .xf x => xfB K (He.ga K x)
  | .isx x => isxB K (He.ga K x)
  | .ini x => He.eqO (PySem.W.findIn K (.ref (He.ga K x)) "__init__") (some (some (.ref (He.ma K (He.ga K x) "__init__")))) && decide (PySem.W.typeIn K (.ref (He.ma K (He.ga K x) "__init__")) = some (.type "function"))
  | .exv x b => decide (PySem.W.exmOne K (.ref (He.ga K x)) (.type "ValueError") = some b)
  | .kit x y b => decide (PySem.W.kitOne K (.ref (He.ga K x)) (.ref (He.ga K y)) = some b)
  | .kitv x b => decide (PySem.W.kitOne K (.ref (He.ga K x)) (.type "ValueError") = some b)
section
variable {K : Frag'} {x y f : Str} {b : Bool}
end
def SaysY (fa : List He.Fa) (fn : List He.DefD) (fx : List Fx) (K : Frag') : Prop := He.SaysD fa fn K ∧ (fx.all fun f => f.ok K) = true
theorem SaysY.fact {fa : List He.Fa} {fn : List He.DefD} {fx : List Fx} {K : Frag'} (c : SaysY fa fn fx K) (i : Nat) {f : He.Fa} (h : fa[i]? = some f := by rfl) : f.ok K = true := c.1.fact i h
end DM
namespace DM
open PySem PySem.Spec PyProof.Rows L2
section
variable {K : Frag'} {cm : Cm} {X : Cx} {W : WX} {pos p apos cpos : Pos} {e o : Expr} {es : List Expr} {f fo fe : DE} {fs : List DE} {H : Hp} {al : Al} {mu : Mu} {n : Nat}
def gPopAt : GM
  | .obj k, [.int i], mu => match lstAt mu k with
    | some ds => if 0 ≤ i ∧ i < 1000000 then (match ds[i.toNat]? with
      | some d => some (d, mu.set k (.lst (ds.eraseIdx i.toNat)))
      | none => none) else none
    | none => none
  | _, _, _ => none
def eDPopA (fo fe : DE) : DE := fun dl mu => match fo dl mu with
  | .ok (.obj j) m => if (lstAt m j).isSome = true then eBM "list" gPopAt fo [fe] dl mu else eDPop1 fo fe dl mu
  | _ => eDPop1 fo fe dl mu
end
end DM
namespace DM
open PySem PySem.Spec PyProof.Rows L2
section
variable {K : Frag'} {cm : Cm} {X : Cx} {W : WX} {pos p p2 pos2 : Pos} {a b : Expr} {f g : DE} {ta tb : TE} {H : Hp} {al : Al} {mu : Mu} {n : Nat} {big : Bool}
end
end DM
namespace DM
open PySem PySem.Spec PyProof.Rows L2
def gInDB (x y : DV) (mu : Mu) : Option Bool := match pdF 8 mu x, pdF 8 mu y with
  | some a, some (.list ds) => some (ds.any fun z => PyData.eqv z a)
  | _, _ => none
section
variable {K : Frag'} {cm : Cm} {X : Cx} {W : WX} {pos p : Pos} {a b e : Expr} {fa fb : DE} {fs : List DE} {H : Hp} {al : Al} {mu : Mu} {n : Nat}
def flatEq : DV → DV → Bool
  | .non, .non => true
  | .bl a, .bl b => a == b
  | .int i, .int j => decide (i = j)
  | .str a, .str b => decide (a = b)
  | _, _ => false
def eqvF : Nat → Mu → DV → DV → Bool
  | 0, _, _, _ => false
  | n + 1, mu, x, y => flatEq x y || (match lstOf mu x, lstOf mu y with
    | some as, some bs => decide (as.length = bs.length) && (as.zip bs).all (fun p => eqvF n mu p.1 p.2)
    | _, _ => match x, y with
      | .obj i, .obj j => (match dicAt mu i, dicAt mu j with
        | some ks, some ls => decide (ks.length = ls.length) && ks.all (fun p => match valD ls p.1 with | some u => eqvF n mu p.2 u | none => false)
        | _, _ => false)
      | _, _ => false)
def eCatM (fa fb : DE) : DE := fun dl mu => (fa dl mu).bind fun x m1 => (fb dl m1).bind fun y m2 => match lstOf m2 x, lstOf m2 y with
  | some as, some bs => if as.length + bs.length ≤ 1000000 then .ok (.obj m2.length) (m2 ++ [.lst (as ++ bs)]) else .bad
  | _, _ => .bad
end
end DM
namespace DM
open PySem PySem.Spec PyProof.Rows L2
section
variable {K : Frag'} {cm : Cm} {X : Cx} {W : WX} {pos p apos cpos : Pos} {e : Expr} {fo : DE} {te : TE} {H H' : Hp} {al : Al} {mu : Mu} {n : Nat}
end

abbrev RV := List V → Hp → VK → Prop
section
variable {X : Cx}
variable {e : Expr} {te : TE} {x : Str} {id : String} {r : RV} {p apos cpos pos : Pos}
end
section
variable {K : Frag'} {cm : Cm} {X : Cx} {W : WX} {pos p apos cpos : Pos} {e : Expr} {fo : DE} {te : TE} {H H' : Hp} {al : Al} {mu : Mu} {n : Nat} {r : RV} {g : List Int → Option DV} {x : Str} {id : String}
end
section
variable {K : Frag'} {cm : Cm} {X : Cx} {W : WX} {pos p : Pos} {e : Expr} {fs : List DE}
end
section
variable {K : Frag'} {cm : Cm} {X : Cx} {W : WX} {H : Hp} {al : Al} {n : Nat} {p pos : Pos} {e : Expr} {fs : List DE}
end
end DM
namespace DM
open PySem PySem.Spec PyProof.Rows L2
section
variable {X : Cx}
end
section
variable {K : Frag'} {cm : Cm} {X : Cx} {W : WX} {pos p apos cpos : Pos} {o e : Expr} {fo : DE} {fs : List DE} {H H' : Hp} {al : Al} {n : Nat}
end
end DM
namespace L2
open PySem PySem.Spec PyProof.Rows
variable {X : Cx}
end L2
namespace DM
open PySem PySem.Spec PyProof.Rows L2
section
variable {K : Frag'} {cm : Cm} {X : Cx} {W : WX} {pos p : Pos} {a b e : Expr} {fa fb : DE} {fs : List DE} {H : Hp} {al : Al} {mu : Mu} {n : Nat}
end
end DM
namespace L2
open PySem PySem.Spec PyProof.Rows
section
variable {M : Model} {A : Around} {E : Value → Shared → Prop} {s : Shared} {env : Env}
end
end L2
namespace DM
open PySem PySem.Spec PyProof.Rows L2
section
variable {K : Frag'} {cm : Cm} {X : Cx} {W : WX} {pos p tpos kp vp : Pos} {e : Expr} {fs : List DE} {H : Hp} {al : Al} {mu : Mu} {n : Nat}
end
end DM
namespace L2
open PySem PySem.Spec PyProof.Rows
section
variable {prog : Program} {w : World} {A : Around} {R : Result → Shared → Prop} {I : Addr} {fp wr : List Addr} {G : Array GenState → Array GenState → Prop} {n : Nat} {P : Nat → Value → Prop} {St : Nat → Shared → Prop}
end
end L2
namespace L2
open PySem PySem.Spec PyProof.Rows
section
variable {prog : Program} {w : World} {A : Around} {E : Value → Shared → Prop} {s : Shared}
set_option maxHeartbeats 3200000 in
end
section
variable {X : Cx} {a : Expr} {ta : TE} {p p2 q pos : Pos}
end
end L2
namespace DM
open PySem PySem.Spec PyProof.Rows L2
section
variable {K : Frag'} {cm : Cm} {X : Cx} {W : WX} {pos p p2 q apos : Pos} {e o : Expr} {fe fo : DE} {fs : List DE} {H : Hp} {al : Al} {mu : Mu} {n : Nat} {to te : TE}
def gZfill : G2
  | .str a, .int i, _ => if PadOk i = true then some (.str (Txt.zfill (Sx a) i).cps.toList) else none
  | _, _, _ => none
def gStarts : G2
  | .str a, .str b, _ => some (.bl (Txt.startswith (Sx a) (Sx b)))
  | _, _, _ => none
def gSplit : G2
  | .str a, .str b, _ => if b ≠ [] ∧ a.length + 2 ≤ 1000000 then some (.lst ((Txt.split (Sx a) (Sx b)).map fun x => .str x.cps.toList)) else none
  | _, _, _ => none
theorem rs_split : RS K cm (fun x y H Q => (∃ a, x = .str a) ∧ ∃ a b, x = .str a ∧ [y] = [.str b] ∧ (b.length == 0) = false ∧ a.length + 2 ≤ sizeLine ∧ rNewStrs (Txt.split a b) H Q) gSplit := fun H al mu x y dx dy d Q s rx ry e k => by
  match dx, dy, e with
  | .str a, .str b, e =>
    cases rx
    cases ry
    have e : (if b ≠ [] ∧ a.length + 2 ≤ 1000000 then some (DV.lst ((Txt.split (Sx a) (Sx b)).map fun x => .str x.cps.toList)) else none) = some d := e
    by_cases c : b ≠ [] ∧ a.length + 2 ≤ 1000000
    · rw [if_pos c] at e
      cases e
      refine ⟨⟨_, rfl⟩, Sx a, Sx b, rfl, rfl, ?_, ?_, fun p hp => k _ _ (s.new hp) (Lt.new (mu := mu) hp) (.lst (.inl ⟨.inl upd_same, s.sep hp, s.nf hp⟩) ?_)⟩
      · have hb : (Sx b).length = b.length := by simp [Str.length, SX.S]
        rw [hb]
        cases b with
        | nil => exact absurd rfl c.1
        | cons z r => rfl
      · have ha : (Sx a).length = a.length := by simp [Str.length, SX.S]
        rw [ha, sizeLine_eq]
        omega
      · have hra : ∀ (l : List Str) (H : Hp) (al : Al) (n : Nat), RA K H al n (l.map V.str) (l.map fun x => DV.str x.cps.toList) := by
          intro l H al n
          induction l with
          | nil => exact .nil
          | cons a t ih =>
            refine .cons ?_ ih
            have := R.str (K := K) (H := H) (al := al) (n := n) a.cps.toList
            rw [show Sx a.cps.toList = a from SX.S_tl a] at this
            exact this
        exact hra _ _ _ _
    · rw [if_neg c] at e; cases e
theorem pd_split (ho : PDE cm X W o fo) (he : PDE cm X W e fe) (hs : starEach [e] X.env = [(false, eval e X.env)] := by rfl) (hbase : attributeBase o "split" X.env (eval o X.env) = eval o X.env := by rfl) (hline : (apos.endLine == pos.line) = true := by rfl) :
    PDE cm X W (.Call (.Attribute o "split" apos) [e] [] pos) (eM1 gSplit fo fe) := by
  obtain ⟨_, p1, s1⟩ := ho.ex
  obtain ⟨_, p2, s2⟩ := he.ex
  exact ⟨_, pe_split p1 p2 hs hbase hline, snd_m1 rs_split s1 s2⟩
end
end DM
namespace DM
open PySem PySem.Spec PyProof.Rows L2
section
variable {K : Frag'} {cm : Cm} {X : Cx} {W : WX} {pos : Pos} {a b : Expr} {fa fb : DE}
end
end DM
namespace DM
open PySem PySem.Spec PyProof.Rows L2
section
variable {K : Frag'} {cm : Cm} {X : Cx} {W : WX} {pos p2 : Pos} {e : Expr} {lo hi : Option Expr} {fe fl fh : DE} {H : Hp} {al : Al} {mu : Mu}
end
end DM
namespace L2
open PySem PySem.Spec PyProof.Rows PySem.W
section
variable {X : Cx}
end
end L2
namespace DM
open PySem PySem.Spec PyProof.Rows L2
section
variable {K : Frag'} {cm : Cm} {X : Cx} {W : WX} {p pos kp : Pos} {e ed : Expr} {fs : List DE} {fd : DE}
end
end DM
namespace L2
open PySem PySem.Spec PyProof.Rows
section
variable {prog : Program} {w : World} {A : Around} {R : Result → Shared → Prop} {I : Addr} {fp wr : List Addr} {G : Array GenState → Array GenState → Prop} {n : Nat} {P : Nat → Value → Prop} {St : Nat → Shared → Prop}
end
end L2
namespace L2
open PySem PySem.Spec PyProof.Rows
section
variable {prog : Program} {w : World} {A : Around} {E : Value → Shared → Prop} {s : Shared}
set_option maxHeartbeats 3200000 in
end
section
variable {X : Cx} {a : Expr} {ta : TE} {p p2 q pos : Pos}
end
end L2
namespace DM
open PySem PySem.Spec PyProof.Rows L2
section
variable {K : Frag'} {cm : Cm} {X : Cx} {W : WX} {pos p p2 q : Pos} {e : Expr} {fe : DE}
end
end DM
namespace L2
open PySem PySem.Spec PyProof.Rows
section
variable {X : Cx}
theorem pet_lc {elt tg iter : Expr} {ifs : List Expr} {scope : Scope} {own : List (Str × Nat)} {pos : Pos} {wi : TI} {g : TG} {tt : TT} {te : TE} (hc : X.calm = true) (hN : X.N.Nodup) (hi : PI X tg iter wi) (ok : BlkOk X.N X.env.scope scope own)
    (hg : ∀ (s : Shared) (H : Hp) (C : Addr) (cl : List (Str × Addr)) (fp : List Addr), PG (X.blk s H scope (compEnvC scope cl C X.env) fp) tg g) (ht : ∀ (s : Shared) (H : Hp) (C : Addr) (cl : List (Str × Addr)) (fp : List Addr), PTs (X.blk s H scope (compEnvC scope cl C X.env) fp) ifs tt)
    (he : ∀ (s : Shared) (H : Hp) (C : Addr) (cl : List (Str × Addr)) (fp : List Addr), PET (X.blk s H scope (compEnvC scope cl C X.env) fp) elt te) (hs : ∀ x, foldedSetIterable iter X.env x = pure x) :
    PET X (.ListComp elt [⟨tg, iter, ifs, 0⟩] scope pos) (tLc wi g tt te (own.map (·.2))) := by
  intro pins s σ H Q h0 I h
  have free : ∀ y ∈ scope.names, y.2 = .free → ∃ c, X.env.cells.lookup y.1 = some c := fun y hy e => (ok.free y hy e).elim (fun k => I.ok.has _ (.inl k)) fun k => I.ok.has _ (.inr k)
  rw [eval_ListComp]
  refine wpAny_comprehension_free (use := none) rfl hs (closure_ok free) ok.kind (fun y hy e => by rw [ok.uniq y hy, e]) ?_
  refine wpAny_with_toks h0 (wpAny_mono (hi.run pins s σ H _ I h) (fun xv s1 hx h1 => wpAny_with_toks h1 (wpAny_mono hx (fun itv s2 h2 ht2 => ?_) fun _ _ x _ => x)) fun _ _ x _ => x)
  obtain ⟨it, fp, tn, J, H2, rfl, I2, T, st2, f2, q⟩ := h2
  refine wpAny_newObj_type (newEnv_comp ?_) (by show 0 ≤ sizeLine; decide)
  have hDn : H2 s2.heap.objs.size = none := I2.hok.fresh (Nat.le_refl _)
  obtain ⟨W, ⟨m0, w0⟩, turn⟩ := q s2.heap.objs.size hDn
  have I3 : Inv X pins σ (upd H2 s2.heap.objs.size (.lst [])) { s2 with heap := s2.heap.push { cls := .type "list", data := .seq ([] : List Value).toArray } } := I2.laid (t' := s2.toks) (fun b o e => Heap.get?_push_of_some _ e) (Nat.le_refl _) ⟨Nat.zero_le _, [], 0, .nil, Heap.get?_push_size _ rfl⟩
  have f3 : ∀ b ∈ fp, FpOk X pins (upd H2 s2.heap.objs.size (.lst [])) b ∧ b < (s2.heap.push { cls := .type "list", data := .seq ([] : List Value).toArray }).objs.size := fun b hb => by
    obtain ⟨o, e, _⟩ := T.obj _ _ st2 b hb
    have lt : b < s2.heap.objs.size := Heap.lt_size e
    exact ⟨⟨by rw [upd_ne (Nat.ne_of_lt lt)]; exact (f2 b hb).1, (f2 b hb).2⟩, by rw [Heap.size_push]; exact Nat.lt_succ_of_lt lt⟩
  have st3 : tn 0 (s2.heap.push { cls := .type "list", data := .seq ([] : List Value).toArray }) := T.keep _ _ _ st2 fun b _ o e => Heap.get?_push_of_some _ e
  have h3t : 1 ≤ ({ s2 with heap := s2.heap.push { cls := .type "list", data := .seq ([] : List Value).toArray } } : Shared).toks := ht2
  generalize hD : s2.heap.objs.size = D at w0 turn hDn I3 f3 ⊢
  generalize hs3 : ({ s2 with heap := s2.heap.push { cls := .type "list", data := .seq ([] : List Value).toArray } } : Shared) = s3 at I3 h3t ⊢
  have e3 : s2.heap.push { cls := .type "list", data := .seq ([] : List Value).toArray } = s3.heap := by rw [← hs3]
  rw [e3] at st3 f3
  have I4 := block_start I3 ok hN f3
  have pg := hg s3 (upd H2 D (.lst [])) s3.heap.objs.size (cellsFrom (s3.heap.objs.size + 1) scope.names (cloFrom X.env.cells scope.names [])) fp
  have pt := ht s3 (upd H2 D (.lst [])) s3.heap.objs.size (cellsFrom (s3.heap.objs.size + 1) scope.names (cloFrom X.env.cells scope.names [])) fp
  have pe := he s3 (upd H2 D (.lst [])) s3.heap.objs.size (cellsFrom (s3.heap.objs.size + 1) scope.names (cloFrom X.env.cells scope.names [])) fp
  show codeAny _ _ (.compStart (.ListComp elt [⟨tg, iter, ifs, 0⟩] scope pos) 0 (.ref it) (.ref D) (compEnvC scope (cellsFrom (s3.heap.objs.size + 1) scope.names (cloFrom X.env.cells scope.names [])) s3.heap.objs.size X.env)) (compPost (model X.prog X.w) X.A X.xe none _ (.ref D) s3.heap.objs.size) { s3 with heap := pushCells (s3.heap.push { cls := .type "dict", data := .dict #[] }) scope.names }
  have nfp : ∀ b ∈ fp, (upd H2 D (.lst [])) b = none := fun b hb => (f3 b hb).1.1
  have h4t : 1 ≤ ({ s3 with heap := pushCells (s3.heap.push { cls := .type "dict", data := .dict #[] }) scope.names } : Shared).toks := h3t
  have st4 : tn 0 (pushCells (s3.heap.push { cls := .type "dict", data := .dict #[] }) scope.names) := T.keep _ _ _ st3 fun b _ o e => pushCells_keeps _ _ _ _ (Heap.get?_push_of_some _ e)
  generalize hce : compEnvC scope (cellsFrom (s3.heap.objs.size + 1) scope.names (cloFrom X.env.cells scope.names [])) s3.heap.objs.size X.env = ce at I4 pg pt pe ⊢
  have cL : ce.locals = s3.heap.objs.size := by rw [← hce]; rfl
  generalize upd H2 D (.lst []) = H3 at I3 I4 pg pt pe w0 nfp f3
  generalize hs4 : ({ s3 with heap := pushCells (s3.heap.push { cls := .type "dict", data := .dict #[] }) scope.names } : Shared) = s4 at I4 h4t ⊢
  have st4 : tn 0 s4.heap := by rw [← hs4]; exact st4
  have calm : ∀ {σ' : St} {H' : Hp} {s' : Shared}, Inv (X.blk s3 H3 scope ce fp) [] σ' H' s' → (∀ b ∈ fp, H' b = none) → ∀ b ∈ fp, FpOk (X.blk s3 H3 scope ce fp) [] H' b := fun {σ' H' s'} I' hn b hb =>
    ⟨hn b hb, (I'.ok.exf b hb).1, I'.ok.exfs b hb, .inl hb, fun x c e => (I'.ok.exf b hb).2 x c e, fun p hp => absurd (show p ∈ ([] : List (Addr × Obj)) ++ [] from hp) (by simp)⟩
  refine codeAny_compStart_list ?_ (T.self X.A 0 _ _ _ st4 ?_)
  all_goals
    refine compLoop_any (fun n s' => 1 ≤ s'.toks ∧ ∃ i H', Inv (X.blk s3 H3 scope ce fp) [] (wipe σ (own.map (·.2))) H' s' ∧ tn i s'.heap ∧ (∀ b ∈ fp, H' b = none) ∧ W i n H') ?_ m0 ⟨h4t, 0, H3, I4, st4, nfp, w0⟩
    rintro n s5 ⟨t5, i, H5, I5, st5, n5, w5⟩
    rcases turn i n H5 w5 with ⟨stop, qq⟩ | ⟨go, Nx, hNx, step⟩
    · refine thnF (T.done (X.blk s3 H3 scope ce fp) rfl rfl rfl hc i [] s5 _ H5 (fun _ _ => False) I5 (calm I5 n5) st5 stop) fun r s6 ⟨hr, I6⟩ => ?_
      subst hr
      have nC : H5 s3.heap.objs.size = none := by rw [← cL]; exact I6.free
      have I7 : Inv X pins σ H5 s6 := I3.call' (ch := fp) I6.os I6.base I6.hok I6.bare fun b hb => ⟨(f3 b hb).1.2.2.2.1, (f3 b hb).1.2.1, (f3 b hb).1.2.2.2.2.1, (f3 b hb).1.2.2.2.2.2⟩
      obtain ⟨m, hn, _⟩ := I6.loc
      have hn : s6.heap.Ns s3.heap.objs.size m := by rw [← cL]; exact hn
      obtain ⟨f0, f1, f2, f3, f4, f5⟩ := I3.fpOk (Nat.le_refl _) nC
      exact ⟨m, hn, fun h'' sb => ⟨.ref D, H5, I7.turned (t' := s6.toks) (fun b o hb e => (sb.2 b hb).trans e) f0 f1 f3 f4 f5, rfl, qq⟩⟩
    · refine wpAny_with_toks t5 (thnF (T.item (X.blk s3 H3 scope ce fp) rfl rfl rfl hc i [] s5 _ H5 (fun _ _ => False) I5 (calm I5 n5) st5 go) fun r s6 ⟨u, hr, h6⟩ t6 => ?_)
      subst hr
      refine wpAny_with_toks t6 (thnF h6 fun _ s7 ⟨x, H7, I7, r7, y7, st7, n7⟩ t7 => ?_)
      refine wpAny_with_toks t7 (thnF (pg.run _ s7 _ H7 x u _ (I7.pinned (calm I7 n7) (T.obj _ _ st7)) r7 (step x H7 y7)) fun _ s8 ⟨σ8, H8, I8, hw8, q8⟩ t8 => ?_)
      refine wpAny_with_toks t8 (thnF (pt.run _ s8 σ8 H8 _ I8 q8) fun b s9 ⟨H9, I9, q9⟩ t9 => ?_)
      have fin : ∀ {s' : Shared} {H' : Hp}, 1 ≤ s'.toks → Inv (X.blk s3 H3 scope ce fp) ([] ++ pinsAt fp s7.heap) σ8 H' s' → Nx H' → ∃ m, m < n ∧ 1 ≤ s'.toks ∧ ∃ i H', Inv (X.blk s3 H3 scope ce fp) [] (wipe σ (own.map (·.2))) H' s' ∧ tn i s'.heap ∧ (∀ b ∈ fp, H' b = none) ∧ W i m H' := fun {s' H'} t' I' nx => by
        obtain ⟨m', hm, w'⟩ := hNx H' nx
        have pin' : ∀ b ∈ fp, ∀ o, s7.heap.get? b = some o → s'.heap.get? b = some o ∧ H' b = none := fun b hb o e =>
          let z := I'.pin (b, o) (List.mem_append_right _ (List.mem_append_right _ (mem_pinsAt hb e)))
          ⟨z.1, z.2.1⟩
        refine ⟨m', hm, t', i + 1, H', (I'.unpinned (pins := [])).weak (by rw [← hw8, wipe_length]) (fun j v e => ?_), T.keep _ _ _ st7 fun b hb o e => (pin' b hb o e).1, fun b hb => ?_, w'⟩
        · rw [← hw8] at e
          exact (wipe_some e).1
        · obtain ⟨o, e, _⟩ := T.obj _ _ st7 b hb
          exact (pin' b hb o e).2
      cases b with
      | false =>
        simp only [Bool.false_eq_true, if_false] at q9 ⊢
        exact fin t9 I9 q9
      | true =>
        simp only [if_true] at q9 ⊢
        refine wpAny_with_toks t9 (thnF (pe _ s9 σ8 H9 _ t9 I9 q9) fun z s10 ⟨yv, H10, I10, r10, acc, hD10, hz10, nx⟩ t10 => ?_)
        exact wpAny_with_toks t10 (app_ok (X := X.blk s3 H3 scope ce fp) I10 hD10 hz10 r10 fun s11 I11 t11 => fin t11 I11 nx)
theorem pe_joinT {e : Expr} {c : Str} {j : Nat} {c0 apos pos : Pos} {te : TE} (he : PET X e te) (hs : starEach [e] X.env = [(false, eval e X.env)]) (hbase : attributeBase (.Constant (.str c) j c0) "join" X.env (eval (.Constant (.str c) j c0) X.env) = eval (.Constant (.str c) j c0) X.env) (hline : (apos.endLine == pos.line) = true) :
    PE X (.Call (.Attribute (.Constant (.str c) j c0) "join" apos) [e] [] pos) (tM1 (fun x xs H Q => ∃ a p, ∃ ys : List Str, x = .str a ∧ xs = [.ref p] ∧ (SqL X.K H p (ys.map V.str) ∨ SqT X.K H p (ys.map V.str)) ∧
      (ys.map (·.length)).sum + ys.length * a.length ≤ 16777216 ∧ Q (.str (Txt.join a ys)) H) (tC (.str c)) te) := by
  refine ⟨fun pins s σ H Q I h => ?_⟩
  refine PySem.Call_method1 hbase hs hline (Calls.Constant_str ?_)
  refine ⟨"str", _, PySem.F.plainAttrs_str, PySem.F.slot_str_join, PySem.F.type_str_join, typeIs_str _ _ _, (fun _ e => nomatch e), Calls.callWith_builtin rfl (Calls.evalArgs_plain (Calls.spliced_cons ?_))⟩
  exact thn (he pins { s with toks := s.toks + 1 } σ H _ (by show 1 ≤ s.toks + 1; omega) (I.tok _) h.2) fun u s2 ⟨y, H2, I2, r2, q2⟩ => Calls.spliced_nil (mt_join pins s2 σ H2 (.str c) [y] (.str c s.toks) [u] Q I2 (show RelV (.str c) (.str c s.toks) from ⟨_, rfl⟩) (.cons r2 .nil) q2)
end
end L2
namespace DM
open PySem PySem.Spec PyProof.Rows L2 CwR PySem.StrLaws
section
variable {cm : Cm} {X : Cx} {W : WX} {pos apos c0 c1 : Pos} {o e tgt iter elt : Expr} {ifs : List Expr} {scope : Scope} {own : List (Str × Nat)} {f : DI} {fo fe ft : DE} {t : Tg} {fin : List DV → Mu → Out} {x y z : Str} {j k : Nat}
structure PDET (cm : Cm) (X : Cx) (W : WX) (e : Expr) (f : DE) : Prop where
  ex : ∃ t, PET X e t ∧ SndE X.K cm W t f
theorem PDET.of (h : PDE cm X W e fe) : PDET cm X W e fe := let ⟨_, p, s⟩ := h.ex; ⟨_, CwR.PET.of p, s⟩
theorem PDET.can (h : PDET cm X W e fe) : PET X e (canE X.K cm W fe) := by
  obtain ⟨t, p, s⟩ := h.ex
  exact fun pins s' σ H Q h0 I q => let ⟨al, dl, mu, sr, sl, h⟩ := q; p pins s' σ H Q h0 I (s σ H al dl mu sr sl Q h)
def gRep : G2
  | .str x, .tup [.str y, .str z], _ => if x.length + (x.length + 1) * z.length ≤ 16777216 then some (.str (replL y z x)) else none
  | _, _, _ => none
theorem snd_rep {K : Frag'} {to : TE} {yl zl : List Nat} (hy : yl ≠ []) (ha : SndE K cm W to fo) : SndE K cm W (tReplC to (Sx yl) (Sx zl)) (eM1 gRep fo (eC (.tup [.str yl, .str zl]))) := fun sg H al dl mu s sl Q h => by
  refine snd_bind (R1 := fun x H1 => ∃ a, x = .str a ∧ a.length + (a.length + 1) * (Sx zl).length ≤ 16777216 ∧ Q (.str (Txt.replace a (Sx yl) (Sx zl))) H1) ha s sl rfl h fun x m1 v1 H1 al1 s1 t1 sl1 r1 h1 => ?_
  cases x <;> try exact h1.elim
  rename_i a
  cases r1
  have la : (Sx a).length = a.length := by simp [Str.length, SX.S]
  have lz : (Sx zl).length = zl.length := by simp [Str.length, SX.S]
  have ly : (Sx yl).length = yl.length := by simp [Str.length, SX.S]
  by_cases c : a.length + (a.length + 1) * zl.length ≤ 16777216
  · refine ⟨_, rfl, by rw [la, lz]; exact c, ?_⟩
    have h2 : OOk K cm H1 al1 m1.length (lift (if a.length + (a.length + 1) * zl.length ≤ 16777216 then some (.str (replL yl zl a)) else none) m1) Q (fun c d H' => W c d sg H') := h1
    rw [if_pos c] at h2
    have e1 : (Txt.replace (Sx a) (Sx yl) (Sx zl)).cps.toList = replL yl zl a := by
      have := replace_list (x := Sx a) (y := Sx yl) (z := Sx zl) (by rw [ly]; exact List.length_pos_iff.mpr hy)
      rw [this]
    have r := R.str (K := K) (H := H1) (al := al1) (n := m1.length) (Txt.replace (Sx a) (Sx yl) (Sx zl)).cps.toList
    rw [show Sx (Txt.replace (Sx a) (Sx yl) (Sx zl)).cps.toList = Txt.replace (Sx a) (Sx yl) (Sx zl) from SX.S_tl _, e1] at r
    exact h2 _ H1 al1 s1 Lt.refl r
  · have h2 : OOk K cm H1 al1 m1.length (lift (if a.length + (a.length + 1) * zl.length ≤ 16777216 then some (.str (replL yl zl a)) else none) m1) Q (fun c d H' => W c d sg H') := h1
    rw [if_neg c] at h2
    exact h2.elim
theorem pdet_rep (yl zl : List Nat) (ho : PDET cm X W o fo) (hy : y = Sx yl := by decide +kernel) (hz : z = Sx zl := by decide +kernel) (ne : yl ≠ [] := by decide) (hyz : (y == z) = false := by decide)
    (hst : starEach [.Constant (.str y) j c0, .Constant (.str z) k c1] X.env = [(false, eval (.Constant (.str y) j c0) X.env), (false, eval (.Constant (.str z) k c1) X.env)] := by rfl)
    (hbase : attributeBase o "replace" X.env (eval o X.env) = eval o X.env := by rfl) (hline : (apos.endLine == pos.line) = true := by rfl) :
    PDET cm X W (.Call (.Attribute o "replace" apos) [.Constant (.str y) j c0, .Constant (.str z) k c1] [] pos) (eM1 gRep fo (eC (.tup [.str yl, .str zl]))) := by
  obtain ⟨_, p, s⟩ := ho.ex
  subst hy hz
  exact ⟨_, pet_replT p hyz hst hbase hline, snd_rep ne s⟩
theorem pdet_comp (hF : FinOk X.K cm fin) (hc : X.calm = true) (hN : X.N.Nodup) (hi : PDI cm X W tgt iter f) (ok : BlkOk X.N X.env.scope scope own)
    (hg : ∀ (s : Shared) (H : Hp) (C : Addr) (cl : List (Str × Addr)) (fp : List Addr), PDGv (Blk X s H scope C cl fp) (own.map (·.2)) tgt t)
    (ht : ∀ (s : Shared) (H : Hp) (C : Addr) (cl : List (Str × Addr)) (fp : List Addr), PDTs cm (Blk X s H scope C cl fp) W0 ifs ft)
    (he : ∀ (s : Shared) (H : Hp) (C : Addr) (cl : List (Str × Addr)) (fp : List Addr), PDET cm (Blk X s H scope C cl fp) W0 elt fe)
    (hs : ∀ x, foldedSetIterable iter X.env x = pure x := by intro _; rfl) : PDET cm X W (.ListComp elt [⟨tgt, iter, ifs, 0⟩] scope pos) (eCompG fin f t ft fe (own.map (·.2))) := by
  obtain ⟨_, pi, si⟩ := hi.ex
  exact ⟨_, pet_lc hc hN pi ok (fun s H C cl fp => (hg s H C cl fp).can) (fun s H C cl fp => (ht s H C cl fp).can) (fun s H C cl fp => (he s H C cl fp).can) hs, snd_comp hF si can_Gv can_T can_E⟩
theorem pd_joinT (l : List Nat) (he : PDET cm X W e fe) (hx : x = Sx l := by decide +kernel) (hs : starEach [e] X.env = [(false, eval e X.env)] := by rfl) (hbase : attributeBase (.Constant (.str x) j c0) "join" X.env (eval (.Constant (.str x) j c0) X.env) = eval (.Constant (.str x) j c0) X.env := by rfl) (hline : (apos.endLine == pos.line) = true := by rfl) :
    PDE cm X W (.Call (.Attribute (.Constant (.str x) j c0) "join" apos) [e] [] pos) (eM1 gJoin (eC (.str l)) fe) := by
  obtain ⟨_, p2, s2⟩ := he.ex
  subst hx
  exact ⟨_, pe_joinT p2 hs hbase hline, snd_m1 rs_join (snd_c fun _ _ _ => .str l) s2⟩
end
end DM
namespace DM
open PySem PySem.Spec PyProof.Rows L2
inductive PV where
  | non | int (i : Int) | str (l : List Nat) | lst (ds : List PV) | tup (ds : List PV)
inductive Rep (mu : Mu) : DV → PV → Prop
  | non : Rep mu .non .non
  | int (i : Int) : Rep mu (.int i) (.int i)
  | str (l : List Nat) : Rep mu (.str l) (.str l)
  | lst {ds : List DV} {ps : List PV} : ds.length = ps.length → (∀ (i : Nat) d p, ds[i]? = some d → ps[i]? = some p → Rep mu d p) → Rep mu (.lst ds) (.lst ps)
  | tup {ds : List DV} {ps : List PV} : ds.length = ps.length → (∀ (i : Nat) d p, ds[i]? = some d → ps[i]? = some p → Rep mu d p) → Rep mu (.tup ds) (.tup ps)
  | obj {k : Nat} {ds : List DV} {ps : List PV} : mu[k]? = some (.lst ds) → ds.length = ps.length → (∀ (i : Nat) d p, ds[i]? = some d → ps[i]? = some p → Rep mu d p) → Rep mu (.obj k) (.lst ps)
mutual
def PV.py : PV → PyData
  | .non => .none
  | .int i => .int i
  | .str l => .str (Sx l)
  | .lst ps => .list (PV.pys ps)
  | .tup ps => .tuple (PV.pys ps)
def PV.pys : List PV → List PyData
  | [] => []
  | p :: ps => p.py :: PV.pys ps
end
def PV.ok : Nat → PV → Prop
  | 0, _ => False
  | _ + 1, .non => True
  | _ + 1, .int _ => True
  | _ + 1, .str l => l.all (· < 1114112) = true
  | n + 1, .lst ps => ∀ p, p ∈ ps → PV.ok n p
  | n + 1, .tup ps => ∀ p, p ∈ ps → PV.ok n p
theorem pys_map : ∀ ps : List PV, PV.pys ps = ps.map PV.py
  | [] => rfl
  | p :: ps => by rw [PV.pys, pys_map ps]; rfl
theorem mapM_some {α β : Type} {f : α → Option β} {g : List β} : ∀ {xs : List α} {ys : List β}, xs.length = ys.length → (∀ (i : Nat) x y, xs[i]? = some x → ys[i]? = some y → f x = some y) → xs.mapM f = some ys
  | [], [], _, _ => rfl
  | [], _ :: _, h, _ => by simp at h
  | _ :: _, [], h, _ => by simp at h
  | x :: xs, y :: ys, h, k => by
    have h1 := k 0 x y rfl rfl
    have h2 := mapM_some (g := g) (f := f) (xs := xs) (ys := ys) (by simpa using h) fun i a b ha hb => k (i + 1) a b (by simpa using ha) (by simpa using hb)
    rw [List.mapM_cons, h1, h2]
    rfl
theorem pdF_rep {mu : Mu} : ∀ {n : Nat} {d : DV} {p : PV}, Rep mu d p → PV.ok n p → pdF n mu d = some p.py := by
  intro n
  induction n with
  | zero => exact fun _ h => h.elim
  | succ n ih =>
    intro d p r h
    cases r with
    | non => rfl
    | int i => rfl
    | str l => exact if_pos h
    | @lst ds ps hl k =>
      have e : ds.mapM (pdF n mu) = some (ps.map PV.py) := mapM_some (g := []) (by rw [List.length_map]; exact hl) fun i x y hx hy => by
        rw [List.getElem?_map] at hy
        cases e1 : ps[i]? with
        | none => rw [e1] at hy; cases hy
        | some q =>
          rw [e1] at hy
          cases hy
          exact ih (k i x q hx e1) (h q (List.mem_of_getElem? e1))
      show (ds.mapM (pdF n mu)).map PyData.list = _
      rw [e, PV.py, pys_map]
      rfl
    | @tup ds ps hl k =>
      have e : ds.mapM (pdF n mu) = some (ps.map PV.py) := mapM_some (g := []) (by rw [List.length_map]; exact hl) fun i x y hx hy => by
        rw [List.getElem?_map] at hy
        cases e1 : ps[i]? with
        | none => rw [e1] at hy; cases hy
        | some q =>
          rw [e1] at hy
          cases hy
          exact ih (k i x q hx e1) (h q (List.mem_of_getElem? e1))
      show (ds.mapM (pdF n mu)).map PyData.tuple = _
      rw [e, PV.py, pys_map]
      rfl
    | @obj j ds ps hm hl k =>
      have e : ds.mapM (pdF n mu) = some (ps.map PV.py) := mapM_some (g := []) (by rw [List.length_map]; exact hl) fun i x y hx hy => by
        rw [List.getElem?_map] at hy
        cases e1 : ps[i]? with
        | none => rw [e1] at hy; cases hy
        | some q =>
          rw [e1] at hy
          cases hy
          exact ih (k i x q hx e1) (h q (List.mem_of_getElem? e1))
      show (match mu[j]? with | some (.lst ds) => (ds.mapM (pdF n mu)).map PyData.list | _ => none) = _
      rw [hm]
      show (ds.mapM (pdF n mu)).map PyData.list = _
      rw [e, PV.py, pys_map]
      rfl
mutual
theorem eqv_py : ∀ p q : PV, PyData.eqv p.py q.py = true ↔ p = q
  | .non, q => by cases q <;> simp [PV.py, PyData.eqv]
  | .int i, q => by cases q <;> simp [PV.py, PyData.eqv]
  | .str l, q => by
    cases q with
    | str m =>
      simp only [PV.py, PyData.eqv, PV.str.injEq]
      rw [SX.S_beq]
      exact beq_iff_eq
    | _ => simp [PV.py, PyData.eqv]
  | .lst ps, q => by
    cases q with
    | lst qs => simp only [PV.py, PyData.eqv, PV.lst.injEq]; exact eqv_pys ps qs
    | _ => simp [PV.py, PyData.eqv]
  | .tup ps, q => by
    cases q with
    | tup qs => simp only [PV.py, PyData.eqv, PV.tup.injEq]; exact eqv_pys ps qs
    | _ => simp [PV.py, PyData.eqv]
theorem eqv_pys : ∀ ps qs : List PV, PyData.eqvAll (PV.pys ps) (PV.pys qs) = true ↔ ps = qs
  | [], [] => by simp [PV.pys, PyData.eqvAll]
  | [], _ :: _ => by simp [PV.pys, PyData.eqvAll]
  | _ :: _, [] => by simp [PV.pys, PyData.eqvAll]
  | p :: ps, q :: qs => by
    simp only [PV.pys, PyData.eqvAll, Bool.and_eq_true, List.cons.injEq]
    exact and_congr (eqv_py p q) (eqv_pys ps qs)
end
open Classical in
theorem gEqB_rep {mu : Mu} {x y : DV} {p q : PV} (hx : Rep mu x p) (hy : Rep mu y q) (kx : PV.ok 8 p) (ky : PV.ok 8 q) : gEqB x y mu = some (decide (p = q)) := by
  have main : (match pdF 8 mu x, pdF 8 mu y with | some a, some b => some (PyData.eqv a b) | _, _ => none) = some (decide (p = q)) := by
    rw [pdF_rep hx kx, pdF_rep hy ky]
    show some (PyData.eqv p.py q.py) = _
    have e : PyData.eqv p.py q.py = decide (p = q) := by
      rw [Bool.eq_iff_iff, eqv_py]
      simp
    rw [e]
  cases hx <;> cases hy <;> first
    | exact main
    | (simp [gEqB]; done)
    | skip
  all_goals (show some _ = _; congr 1; rw [Bool.eq_iff_iff]; simp)
open Classical in
theorem gEq_rep {mu : Mu} {x y : DV} {p q : PV} (hx : Rep mu x p) (hy : Rep mu y q) (kx : PV.ok 8 p) (ky : PV.ok 8 q) : gEq x y mu = some (.bl (decide (p = q))) := by
  unfold gEq; rw [gEqB_rep hx hy kx ky]; rfl
open Classical in
theorem gNe_rep {mu : Mu} {x y : DV} {p q : PV} (hx : Rep mu x p) (hy : Rep mu y q) (kx : PV.ok 8 p) (ky : PV.ok 8 q) : gNe x y mu = some (.bl (!decide (p = q))) := by
  unfold gNe; rw [gEqB_rep hx hy kx ky]; rfl
theorem gEq_same {mu : Mu} {x y : DV} {p : PV} (hx : Rep mu x p) (hy : Rep mu y p) (kx : PV.ok 8 p) : gEq x y mu = some (.bl true) := by
  classical
  rw [gEq_rep hx hy kx kx, decide_eq_true rfl]
theorem gNe_same {mu : Mu} {x y : DV} {p : PV} (hx : Rep mu x p) (hy : Rep mu y p) (kx : PV.ok 8 p) : gNe x y mu = some (.bl false) := by
  classical
  rw [gNe_rep hx hy kx kx, decide_eq_true rfl]; rfl
theorem gIsi_eq {mu : Mu} {d : DV} {a b : String} {c : Bool} (h2 : tyName mu d = some a) (h3 : subTy a b = some c) : gIsi [d, .ty b] mu = some (.bl c) := by
  show (tyName mu d).bind (fun a => (subTy a b).map DV.bl) = _
  rw [h2]
  show (subTy a b).map DV.bl = _
  rw [h3]; rfl
end DM
namespace DM
open PySem PySem.Spec PyProof.Rows L2
section
variable {dl dl1 dl2 : Dl} {mu m1 m2 m3 m4 : Mu} {d x y z : DV} {ds xs : List DV} {f fa fb fc fo fv fi fe ff : DE} {fs : List DE} {g : G2} {i j k : Nat} {F : Fn} {b c : Bool} {s t : DS} {T : String} {gm : GM} {cs : List String} {fl : Str} {ky : Key} {kvs : List (Key × DV)} {fds : List (Str × DV)} {cn : String}
theorem mem_new {m : MO} : (mu ++ [m])[mu.length]? = some m := by simp
theorem mem_old {m : MO} {u : MO} (h : mu[k]? = some u) : (mu ++ [m])[k]? = some u := by
  rw [List.getElem?_append_left (List.getElem?_eq_some_iff.mp h).1]; exact h
theorem mem_same {u : MO} (h : k < mu.length) : (mu.set k u)[k]? = some u := List.getElem?_set_self h
theorem mem_ne {u v : MO} (h : mu[j]? = some v) (ne : k ≠ j) : (mu.set k u)[j]? = some v := by rw [List.getElem?_set_ne ne]; exact h
theorem mem_lt {u : MO} (h : mu[k]? = some u) : k < mu.length := (List.getElem?_eq_some_iff.mp h).1
theorem lstAt_of (h : mu[k]? = some (.lst ds)) : lstAt mu k = some ds := by unfold lstAt; rw [h]
theorem dicAt_of (h : mu[k]? = some (.dic kvs)) : dicAt mu k = some kvs := by unfold dicAt; rw [h]
theorem dicR_of (h : mu[k]? = some (.dic kvs)) : dicR mu k = some kvs := by unfold dicR; rw [h]
theorem dicR_lst (h : mu[k]? = some (.lst ds)) : dicR mu k = none := by unfold dicR; rw [h]
theorem lstOf_of (h : mu[k]? = some (.lst ds)) : lstOf mu (.obj k) = some ds := by
  show (match mu[k]? with | some (.lst ds) => some ds | some (.lstF ds) => some ds | _ => none) = _
  rw [h]
theorem ty_lst (h : mu[k]? = some (.lst ds)) : tyOk "list" (.obj k) mu = true := by
  show (match mu[k]? with | some (.lst _) => "list" == "list" | some (.dic _) => "list" == "dict" | _ => false) = true
  rw [h]; rfl
theorem g_append (h : mu[k]? = some (.lst ds)) (hl : ds.length < 1000000) : gAppend (.obj k) [d] mu = some (.non, mu.set k (.lst (ds ++ [d]))) := by
  show (match lstAt mu k with | some ds => if ds.length < 1000000 then some (DV.non, mu.set k (.lst (ds ++ [d]))) else none | none => none) = _
  rw [lstAt_of h]
  exact if_pos hl
theorem gIxA_seq (h : ∀ j, x ≠ .obj j) : gIxA x y mu = gIx x y mu := by
  unfold gIxA
  cases x with
  | obj j => exact absurd rfl (h j)
  | _ => rfl
theorem isDic_of (h : dicR mu k = some kvs) : isDic mu (.obj k) = true := by
  show (dicR mu k).isSome = true
  rw [h]; rfl
theorem gLen_dic (h : mu[k]? = some (.dic kvs)) : gLen [.obj k] mu = some (.int kvs.length) := by
  show (match lstOf mu (.obj k) with | some ds => some (DV.int ds.length) | none => match mu[k]? with | some (.dic kvs) => some (.int kvs.length) | _ => none) = _
  have e : lstOf mu (.obj k) = none := by
    show (match mu[k]? with | some (.lst ds) => some ds | some (.lstF ds) => some ds | _ => none) = _
    rw [h]
  rw [e]
  dsimp only
  rw [h]
theorem gLen_lstM (h : mu[k]? = some (.lst ds)) : gLen [.obj k] mu = some (.int ds.length) := by
  show (match lstOf mu (.obj k) with | some ds => some (DV.int ds.length) | none => match mu[k]? with | some (.dic kvs) => some (.int kvs.length) | _ => none) = _
  rw [lstOf_of h]
theorem gLen_lst : gLen [.lst ds] mu = some (.int ds.length) := rfl
theorem valD_nil : valD [] ky = none := rfl
theorem valD_cons {p : Key × DV} {r : List (Key × DV)} : valD (p :: r) ky = if p.1 = ky then some p.2 else valD r ky := by
  by_cases e : p.1 = ky
  · simp [valD, List.find?_cons, e]
  · simp [valD, List.find?_cons, e]
theorem valD_any : ∀ (kvs : List (Key × DV)) (ky : Key), (kvs.any fun kv => decide (kv.1 = ky)) = (valD kvs ky).isSome
  | [], _ => rfl
  | p :: r, ky => by
    rw [List.any_cons, valD_cons]
    by_cases e : p.1 = ky
    · simp [e]
    · simp [e, valD_any r ky]
theorem valD_map (ky kz : Key) (d : DV) : ∀ kvs : List (Key × DV), valD (kvs.map fun kv => if kv.1 = ky then (kv.1, d) else kv) kz = if kz = ky then (valD kvs ky).map fun _ => d else valD kvs kz
  | [] => by split <;> rfl
  | p :: r => by
    rw [List.map_cons, valD_cons, valD_map ky kz d r, valD_cons, valD_cons]
    by_cases e : p.1 = ky
    · by_cases e2 : kz = ky
      · subst e2; simp [e]
      · have : ¬ ky = kz := fun h => e2 h.symm
        simp [e, e2, this]
    · by_cases e2 : kz = ky
      · subst e2; simp [e]
      · simp [e, e2]
theorem valD_app : ∀ (a b : List (Key × DV)) (ky : Key), valD (a ++ b) ky = (valD a ky).or (valD b ky)
  | [], _, _ => by simp [valD_nil]
  | p :: r, b, ky => by
    rw [List.cons_append, valD_cons, valD_cons, valD_app r b ky]
    split <;> simp
theorem valD_put (kvs : List (Key × DV)) (ky kz : Key) (d : DV) : valD (putD kvs ky d) kz = if kz = ky then some d else valD kvs kz := by
  unfold putD
  rw [valD_any]
  cases e : valD kvs ky with
  | none =>
    rw [if_neg (by simp), valD_app, valD_cons, valD_nil]
    by_cases e2 : kz = ky
    · subst e2; rw [e]; simp
    · have : ¬ ky = kz := fun h => e2 h.symm
      simp [e2, this]
  | some x =>
    rw [if_pos (by simp), valD_map, e]
    simp
def keysD (kvs : List (Key × DV)) : List Key := kvs.map (·.1)
theorem mem_keysD {kvs : List (Key × DV)} {ky : Key} : ky ∈ keysD kvs ↔ (valD kvs ky).isSome = true := by
  rw [← valD_any]
  unfold keysD
  simp
theorem nodup_put {kvs : List (Key × DV)} {ky : Key} {d : DV} (h : (keysD kvs).Nodup) : (keysD (putD kvs ky d)).Nodup := by
  unfold putD
  by_cases e : (kvs.any fun kv => decide (kv.1 = ky)) = true
  · rw [if_pos e]
    have : keysD (kvs.map fun kv => if kv.1 = ky then (kv.1, d) else kv) = keysD kvs := by
      unfold keysD
      rw [List.map_map]
      refine List.map_congr_left fun p _ => ?_
      show (if p.1 = ky then (p.1, d) else p).1 = p.1
      split <;> rfl
    rw [this]
    exact h
  · rw [if_neg e]
    unfold keysD at h ⊢
    rw [List.map_append, List.nodup_append]
    refine ⟨h, by simp, fun a ha b hb => ?_⟩
    intro eab
    subst eab
    simp at hb
    subst hb
    have : ¬ (valD kvs a).isSome = true := by rw [← valD_any]; exact e
    exact this (mem_keysD.mp ha)
end
def Ext (mu mu' : Mu) : Prop := ∀ (k : Nat) (u : MO), mu[k]? = some u → mu'[k]? = some u
theorem Ext.trans {a b c : Mu} (h : Ext a b) (h' : Ext b c) : Ext a c := fun k u e => h' k u (h k u e)
theorem Ext.snoc {mu : Mu} {m : MO} : Ext mu (mu ++ [m]) := fun k u h => mem_old h
theorem Ext.len {a b : Mu} (h : Ext a b) : a.length ≤ b.length := by
  rcases Nat.eq_zero_or_pos a.length with e | e
  · omega
  · have := h (a.length - 1) (a[a.length - 1]'(by omega)) (List.getElem?_eq_getElem _)
    have := (List.getElem?_eq_some_iff.mp this).1
    omega
end DM
namespace DM
open PySem PySem.Spec PyProof.Rows L2
abbrev KE := DV → Mu → Prop
abbrev KX := Ex → Mu → Prop
abbrev KN := Dl → Mu → Prop
@[irreducible] def WO (o : Out) (P : KE) (X : KX) : Prop := match o with
  | .ok d m => P d m
  | .exc e m => X e m
  | .bad => False
@[irreducible] def WE (f : DE) (dl : Dl) (mu : Mu) (P : KE) (X : KX) : Prop := WO (f dl mu) P X
@[irreducible] def WC (F : Fn) (ds : List DV) (mu : Mu) (P : KE) (X : KX) : Prop := WO (F ds mu) P X
@[irreducible] def WA (fs : List DE) (dl : Dl) (mu : Mu) (P : List DV → Mu → Prop) (X : KX) : Prop := match evA fs dl mu with
  | .ok ds m => P ds m
  | .exc e m => X e m
  | .bad => False
def WG {α : Type} (o : Option α) (P : α → Prop) : Prop := ∃ d, o = some d ∧ P d
def WB (d : DV) (p q : Prop) : Prop := ∃ b, d = .bl b ∧ (b = true → p) ∧ (b = false → q)
def WBl (d : DV) (p : Prop) : Prop := (∃ b, d = .bl b) ∧ p
def WNot (d : DV) (p : DV → Prop) : Prop := ∃ b, d = .bl b ∧ p (.bl (!b))
def WInt (d : DV) (p : Int → Prop) : Prop := ∃ i, d = .int i ∧ p i
def WStr (d : DV) (p : List Nat → Prop) : Prop := ∃ i, d = .str i ∧ p i
def WObj (d : DV) (p : Nat → Prop) : Prop := ∃ i, d = .obj i ∧ p i
def WAt (o : Option MO) (p : MO → Prop) : Prop := ∃ u, o = some u ∧ p u
def WYes (q p : Prop) : Prop := q ∧ p
@[irreducible] def WSO (o : SOut) (N : KN) (R : KE) (B C : KN) (X : Ex → Dl → Mu → Prop) : Prop := match o with
  | .nx l m => N l m
  | .rt d m => R d m
  | .bk l m => B l m
  | .ct l m => C l m
  | .exc e l m => X e l m
  | .bad => False
@[irreducible] def WS (s : DS) (dl : Dl) (mu : Mu) (N : KN) (R : KE) (B C : KN) (X : Ex → Dl → Mu → Prop) : Prop := WSO (s dl mu) N R B C X
@[irreducible] def WI (f : DI) (dl : Dl) (mu : Mu) (P : List DV → Mu → Option Nat → Prop) (X : KX) : Prop := match f dl mu with
  | .it ds m => P ds m none
  | .dyn k m => (∃ es, m[k]? = some (.lst es) ∧ P es m (some k))
  | .exc e m => X e m
  | .bad => False
def WT (t : Tg) (d : DV) (dl : Dl) (P : Dl → Prop) : Prop := ∃ dl1, t d dl = some dl1 ∧ P dl1
def seqK (mu : Mu) : DV → Option (List DV × Option Nat)
  | .lst ds => some (ds, none)
  | .tup ds => some (ds, none)
  | .str l => some (l.map fun c => .str [c], none)
  | .obj k => match mu[k]? with
    | some (.lst ds) => some (ds, some k)
    | _ => none
  | _ => none
abbrev NoX : KX := fun _ _ => False
abbrev NoN : KN := fun _ _ => False
section
variable {dl dl1 dl2 : Dl} {mu m1 m2 m3 m4 : Mu} {d x y z : DV} {ds xs es : List DV} {f fa fb fc fo fe ff fv fi : DE} {fs : List DE} {g g' : G2} {gc : GC} {i : Nat} {F : Fn} {b c : Bool} {e : Ex} {s t : DS} {tg : Tg} {P P' : KE} {X X' : KX} {N N' B C : KN} {R R' : KE} {Y : Ex → Dl → Mu → Prop} {p q : Prop} {dfl : List DV} {cn : String} {fds : List (Str × DV)} {k j : Nat}
theorem wo_imp {o : Out} (h : WO o P X) (hp : ∀ d m, P d m → P' d m) (hx : ∀ e m, X e m → X' e m) : WO o P' X' := by
  with_unfolding_all
    cases o with
    | ok d m => exact hp d m h
    | exc e m => exact hx e m h
    | bad => exact h
theorem wo_bind {o : Out} {kk : DV → Mu → Out} (h : WO o (fun d m => WO (kk d m) P X) X) : WO (o.bind kk) P X := by
  with_unfolding_all
    cases o <;> exact h
theorem wo_st {o : Out} {kk : DV → Mu → SOut} (h : WO o (fun d m => WSO (kk d m) N R B C Y) (fun e m => Y e dl m)) : WSO (o.st dl kk) N R B C Y := by
  with_unfolding_all
    cases o <;> exact h
theorem wo_lift {o : Option DV} (h : WG o fun d => P d mu) : WO (lift o mu) P X := by
  with_unfolding_all
    obtain ⟨d, rfl, h⟩ := h; exact h
theorem we_imp (h : WE f dl mu P X) (hp : ∀ d m, P d m → P' d m) (hx : ∀ e m, X e m → X' e m) : WE f dl mu P' X' := by
  with_unfolding_all
    exact (wo_imp h hp hx)
theorem wc_imp (h : WC F ds mu P X) (hp : ∀ d m, P d m → P' d m) (hx : ∀ e m, X e m → X' e m) : WC F ds mu P' X' := by
  with_unfolding_all
    exact (wo_imp h hp hx)
theorem wc_call (h : WC F ds mu P' NoX) (hp : ∀ d m, P' d m → P d m) : WC F ds mu P X := by
  with_unfolding_all
    exact (wo_imp h hp fun _ _ h => h.elim)
theorem wc_eq (h : F ds mu = .ok d m1) (hp : P d m1) : WC F ds mu P X := by
  with_unfolding_all
    unfold WC; rw [h]; exact hp
theorem we_eq (h : f dl mu = .ok d m1) (hp : P d m1) : WE f dl mu P X := by
  with_unfolding_all
    unfold WE; rw [h]; exact hp
theorem wc_ex (h : WC F ds mu P NoX) : ∃ d m, F ds mu = .ok d m ∧ P d m := by
  with_unfolding_all
    unfold WC at h
    cases e : F ds mu with
    | ok d m => rw [e] at h; exact ⟨d, m, rfl, h⟩
    | exc e' m => rw [e] at h; exact h.elim
    | bad => rw [e] at h; exact h.elim
theorem wc_same (h : WC F ds mu (fun d' m' => d' = d ∧ m' = mu) NoX) : F ds mu = .ok d mu := by
  with_unfolding_all
    obtain ⟨d, m, e, rfl, rfl⟩ := wc_ex h; exact e
theorem we_ex (h : WE f dl mu P NoX) : ∃ d m, f dl mu = .ok d m ∧ P d m := by
  with_unfolding_all
    unfold WE at h
    cases e : f dl mu with
    | ok d m => rw [e] at h; exact ⟨d, m, rfl, h⟩
    | exc e' m => rw [e] at h; exact h.elim
    | bad => rw [e] at h; exact h.elim
theorem wg_of {α : Type} {o : Option α} {d : α} {P : α → Prop} (h : o = some d) (hp : P d) : WG o P := ⟨d, h, hp⟩
theorem we_var (h : dl[i]? = some (some d)) (hp : P d mu) : WE (eVar i) dl mu P X := by
  with_unfolding_all
    exact (we_eq (ev_var h) hp)
theorem we_c (hp : P d mu) : WE (eC d) dl mu P X := by
  with_unfolding_all
    exact (hp)
theorem we_op (h : WE fa dl mu (fun x m1 => WE fb dl m1 (fun y m2 => WG (g x y m2) fun d => P d m2) X) X) : WE (eOp g fa fb) dl mu P X := by
  with_unfolding_all
    exact (wo_bind (wo_imp h (fun _ _ h => wo_bind (wo_imp h (fun _ _ h => wo_lift h) fun _ _ h => h)) fun _ _ h => h))
theorem wb_true (h : p) : WB (.bl true) p q := ⟨true, rfl, fun _ => h, fun h => (nomatch h)⟩
theorem wb_false (h : q) : WB (.bl false) p q := ⟨false, rfl, fun h => (nomatch h), fun _ => h⟩
theorem wb_dec {r : Prop} [Decidable r] (hp : r → p) (hq : ¬ r → q) : WB (.bl (decide r)) p q := ⟨_, rfl, fun h => hp (of_decide_eq_true h), fun h => hq (of_decide_eq_false h)⟩
theorem wb_ndec {r : Prop} [Decidable r] (hp : ¬ r → p) (hq : r → q) : WB (.bl (!decide r)) p q := ⟨_, rfl, fun h => hp (by simpa using h), fun h => hq (by simpa using h)⟩
theorem wb_npos {r : Prop} [Decidable r] (hr : r) (hp : q) : WB (.bl (!decide r)) p q := wb_ndec (fun h => absurd hr h) fun _ => hp
theorem wb_t (hb : b = true) (hp : p) : WB (.bl b) p q := ⟨b, rfl, fun _ => hp, (fun h => by rw [hb] at h; cases h)⟩
theorem wb_f (hb : b = false) (hp : q) : WB (.bl b) p q := ⟨b, rfl, (fun h => by rw [hb] at h; cases h), fun _ => hp⟩
theorem wbl (h : p) : WBl (.bl b) p := ⟨⟨b, rfl⟩, h⟩
theorem wnot {pp : DV → Prop} (h : pp (.bl (!b))) : WNot (.bl b) pp := ⟨b, rfl, h⟩
theorem wint {pp : Int → Prop} {i : Int} (h : pp i) : WInt (.int i) pp := ⟨i, rfl, h⟩
theorem wstr {pp : List Nat → Prop} {i : List Nat} (h : pp i) : WStr (.str i) pp := ⟨i, rfl, h⟩
theorem wobj {pp : Nat → Prop} (h : pp k) : WObj (.obj k) pp := ⟨k, rfl, h⟩
theorem wat {o : Option MO} {u : MO} {pp : MO → Prop} (h : o = some u) (hp : pp u) : WAt o pp := ⟨u, h, hp⟩
theorem wyes (h : q) (hp : p) : WYes q p := ⟨h, hp⟩
theorem we_B (h : WE f dl mu (fun d m => WBl d (P d m)) X) : WE (eB f) dl mu P X := by
  with_unfolding_all
    exact (wo_bind (wo_imp h (fun _ _ h => by obtain ⟨⟨b, rfl⟩, h⟩ := h; exact h) fun _ _ h => h))
theorem we_not (h : WE f dl mu (fun d m => WNot d fun d => P d m) X) : WE (eNot f) dl mu P X := by
  with_unfolding_all
    exact (wo_bind (wo_imp h (fun _ _ h => by obtain ⟨b, rfl, h⟩ := h; exact h) fun _ _ h => h))
theorem we_and (h : WE fa dl mu (fun d m => WB d (WE fb dl m P X) (P (.bl false) m)) X) : WE (eAnd fa fb) dl mu P X := by
  with_unfolding_all
    exact (wo_bind (wo_imp h (fun _ _ h => by
        obtain ⟨b, rfl, h1, h2⟩ := h
        cases b with
        | true => exact h1 rfl
        | false => exact h2 rfl) fun _ _ h => h))
theorem we_or (h : WE fa dl mu (fun d m => WB d (P (.bl true) m) (WE fb dl m P X)) X) : WE (eOr fa fb) dl mu P X := by
  with_unfolding_all
    exact (wo_bind (wo_imp h (fun _ _ h => by
        obtain ⟨b, rfl, h1, h2⟩ := h
        cases b with
        | true => exact h1 rfl
        | false => exact h2 rfl) fun _ _ h => h))
theorem we_tru (h : WE f dl mu (fun d m => WG (truth m d) fun b => P (.bl b) m) X) : WE (eTru f) dl mu P X := by
  with_unfolding_all
    exact (wo_bind (wo_imp h (fun d m h => by
        obtain ⟨b, e, h⟩ := h
        show WO (match truth m d with | some b => Out.ok (.bl b) m | none => .bad) P X
        rw [e]; exact h) fun _ _ h => h))
theorem we_neg (h : WE f dl mu (fun d m => WInt d fun i => P (.int (-i)) m) X) : WE (eNeg f) dl mu P X := by
  with_unfolding_all
    exact (wo_bind (wo_imp h (fun _ _ h => by obtain ⟨b, rfl, h⟩ := h; exact h) fun _ _ h => h))
theorem we_I (h : WE f dl mu (fun d m => WInt d fun i => P (.int i) m) X) : WE (eI f) dl mu P X := by
  with_unfolding_all
    exact (wo_bind (wo_imp h (fun _ _ h => by obtain ⟨b, rfl, h⟩ := h; exact h) fun _ _ h => h))
theorem we_chain (h : WE fa dl mu (fun x m1 => WE fb dl m1 (fun y m2 => WG (g x y m2) fun d => WB d (WE fc dl m2 (fun z m3 => WG (g' y z m3) fun d => WBl d (P d m3)) X) (P (.bl false) m2)) X) X) : WE (eChain g g' fa fb fc) dl mu P X := by
  with_unfolding_all
    exact (wo_bind (wo_imp h (fun x m1 h => wo_bind (wo_imp h (fun y m2 h => by
        obtain ⟨d, e, b, rfl, h1, h2⟩ := h
        try dsimp only
        rw [e]
        cases b with
        | true => exact wo_bind (wo_imp (h1 rfl) (fun z m3 h => by
            obtain ⟨d, e, ⟨b, rfl⟩, h⟩ := h
            try dsimp only
            rw [e]
            exact h) fun _ _ h => h)
        | false => exact h2 rfl) fun _ _ h => h)) fun _ _ h => h))
theorem wa_nil {P : List DV → Mu → Prop} (h : P [] mu) : WA [] dl mu P X := by
  with_unfolding_all
    exact (h)
theorem wa_cons {P : List DV → Mu → Prop} (h : WE f dl mu (fun d m1 => WA fs dl m1 (fun ds m2 => P (d :: ds) m2) X) X) : WA (f :: fs) dl mu P X := by
  with_unfolding_all
    unfold WE at h
    show (match (match f dl mu with | .ok d m1 => (match evA fs dl m1 with | .ok ds m2 => AOut.ok (d :: ds) m2 | .exc e m2 => .exc e m2 | .bad => .bad) | .exc e m1 => .exc e m1 | .bad => .bad) with | .ok ds m => P ds m | .exc e m => X e m | .bad => False)
    cases e : f dl mu with
    | ok d m =>
      rw [e] at h
      have h : WA fs dl m (fun ds m2 => P (d :: ds) m2) X := h
      unfold WA at h
      try dsimp only
      cases e2 : evA fs dl m with
      | ok ds m2 => rw [e2] at h; exact h
      | exc e' m2 => rw [e2] at h; exact h
      | bad => rw [e2] at h; exact h
    | exc e' m => rw [e] at h; exact h
    | bad => rw [e] at h; exact h
theorem we_args {kk : List DV → Mu → Out} (h : WA fs dl mu (fun ds m => WO (kk ds m) P X) X) : WO (eArgs fs dl mu kk) P X := by
  with_unfolding_all
    unfold eArgs AOut.out
    unfold WA at h
    cases e : evA fs dl mu with
    | ok ds m => rw [e] at h; exact h
    | exc e' m => rw [e] at h; exact h
    | bad => rw [e] at h; exact h
theorem wa_imp {P P' : List DV → Mu → Prop} (h : WA fs dl mu P X) (hp : ∀ d m, P d m → P' d m) : WA fs dl mu P' X := by
  with_unfolding_all
    unfold WA at h ⊢
    cases e : evA fs dl mu with
    | ok ds m => rw [e] at h; exact hp _ _ h
    | exc e' m => rw [e] at h; exact h
    | bad => rw [e] at h; exact h
theorem we_cb (h : WA fs dl mu (fun ds m => WG (gc ds m) fun d => P d m) X) : WE (eCB gc fs) dl mu P X := by
  with_unfolding_all
    exact (we_args (wa_imp h fun _ _ h => wo_lift h))
theorem we_call0 (h : WA fs dl mu (fun ds m => WC F ds m P X) X) : WE (eCall F fs []) dl mu P X := by
  with_unfolding_all
    exact (we_args (wa_imp h fun ds m h => by show WO (F (ds ++ []) m) P X; rw [List.append_nil]; exact h))
theorem we_lst (h : WA fs dl mu (fun ds m => WYes (ds.length ≤ 1000000) (P (.lst ds) m)) X) : WE (eLst fs) dl mu P X := by
  with_unfolding_all
    exact (we_args (wa_imp h fun ds m h => by rw [if_pos h.1]; exact h.2))
theorem we_sl (h : WE fa dl mu (fun d m1 => WE fb dl m1 (fun l m2 => WG (partOf l) fun lo => WE fc dl m2 (fun u m3 => WG (partOf u) fun hi => WG (gSl d lo hi m3) fun z => P z m3) X) X) X) : WE (eSl fa fb fc) dl mu P X := by
  with_unfolding_all
    exact (wo_bind (wo_imp h (fun d m1 h => wo_bind (wo_imp h (fun l m2 h => by
        obtain ⟨lo, e, h⟩ := h
        try dsimp only
        rw [e]
        exact wo_bind (wo_imp h (fun u m3 h => by
          obtain ⟨hi, e, h⟩ := h
          try dsimp only
          rw [e]
          exact wo_lift h) fun _ _ h => h)) fun _ _ h => h)) fun _ _ h => h))
theorem we_m1 (h : WE fa dl mu (fun x m1 => WStr x fun a => WE fb dl m1 (fun y m2 => WG (g (.str a) y m2) fun d => P d m2) X) X) : WE (eM1 g fa fb) dl mu P X := by
  with_unfolding_all
    exact (wo_bind (wo_imp h (fun x m1 h => by
        obtain ⟨a, rfl, h⟩ := h
        exact wo_bind (wo_imp h (fun _ _ h => wo_lift h) fun _ _ h => h)) fun _ _ h => h))
theorem we_append (h : WE fo dl mu (fun x m1 => WObj x fun k => WAt m1[k]? fun u => WYes (∃ us, u = .lst us) (WE fe dl m1 (fun d m2 => WAt m2[k]? fun u => ∃ us, u = .lst us ∧ WYes (us.length < 1000000) (P .non (m2.set k (.lst (us ++ [d]))))) X)) X) : WE (eBM "list" gAppend fo [fe]) dl mu P X := by
  with_unfolding_all
    exact (wo_bind (wo_imp h (fun x m1 h => by
        obtain ⟨k, rfl, u, e1, ⟨us, rfl⟩, h⟩ := h
        rw [if_pos (ty_lst e1)]
        refine we_args (wa_cons (we_imp h (fun d m2 h => wa_nil ?_) fun _ _ h => h))
        obtain ⟨u, e2, us, rfl, hl, h⟩ := h
        rw [g_append e2 hl]
        exact h) fun _ _ h => h))
theorem wlst {pp : List DV → Prop} (h : pp xs) : ∃ us, MO.lst xs = .lst us ∧ pp us := ⟨xs, rfl, h⟩
theorem wlstT : ∃ us, MO.lst xs = .lst us := ⟨xs, rfl⟩
theorem we_pop1 (h : WE fo dl mu (fun x m1 => WObj x fun k => WG (dicR m1 k) fun _ => WE fe dl m1 (fun y m2 => WG (dicAt m2 k) fun kvs => WG (keyOf y) fun ky => WG (valD kvs ky) fun d => P d (m2.set k (.dic (dropD kvs ky)))) X) X) : WE (eDPop1 fo fe) dl mu P X := by
  with_unfolding_all
    exact (wo_bind (wo_imp h (fun x m1 h => by
        obtain ⟨k, rfl, kv0, e1, h⟩ := h
        show WO (if isDic m1 (.obj k) = true then _ else _) P X
        rw [if_pos (isDic_of e1)]
        refine wo_bind (wo_imp h (fun y m2 h => ?_) fun _ _ h => h)
        obtain ⟨kvs, e2, ky, e3, d, e4, h⟩ := h
        rw [e2, e3]
        try dsimp only
        rw [e4]
        exact h) fun _ _ h => h))
theorem winm {pp : List (Str × DV) → Prop} (h : pp fds) : ∃ f, MO.ins cn fds = .ins cn f ∧ pp f := ⟨_, rfl, h⟩
theorem wso_imp {o : SOut} {N' B' C' : KN} {Y' : Ex → Dl → Mu → Prop} (h : WSO o N R B C Y) (h1 : ∀ l m, N l m → N' l m) (h2 : ∀ d m, R d m → R' d m) (h3 : ∀ l m, B l m → B' l m) (h4 : ∀ l m, C l m → C' l m) (h5 : ∀ e l m, Y e l m → Y' e l m) : WSO o N' R' B' C' Y' := by
  with_unfolding_all
    cases o with
    | nx l m => exact h1 l m h
    | rt l m => exact h2 l m h
    | bk l m => exact h3 l m h
    | ct l m => exact h4 l m h
    | exc e l m => exact h5 e l m h
    | bad => exact h
theorem ws_nx (h : WS s dl mu N' R B C Y) (h1 : ∀ l m, N' l m → N l m) : WS s dl mu N R B C Y := by
  with_unfolding_all
    exact (wso_imp h h1 (fun _ _ h => h) (fun _ _ h => h) (fun _ _ h => h) fun _ _ _ h => h)
theorem ws_seq (h : WS s dl mu (fun l m => WS t l m N R B C Y) R B C Y) : WS (sSeq s t) dl mu N R B C Y := by
  with_unfolding_all
    unfold WS sSeq
    unfold WS at h
    cases e : s dl mu <;> (rw [e] at h; exact h)
theorem ws_next (h : N dl mu) : WS sNext dl mu N R B C Y := by
  with_unfolding_all
    exact (h)
theorem ws_set (h : WE f dl mu (fun d m => N (dl.set i (some d)) m) fun e m => Y e dl m) : WS (sSet i f) dl mu N R B C Y := by
  with_unfolding_all
    exact (wo_st h)
theorem ws_drop (h : WE f dl mu (fun d m => N dl m) fun e m => Y e dl m) : WS (sDrop f) dl mu N R B C Y := by
  with_unfolding_all
    exact (wo_st h)
theorem ws_ret (h : WE f dl mu R fun e m => Y e dl m) : WS (sRet f) dl mu N R B C Y := by
  with_unfolding_all
    exact (wo_st h)
theorem ws_if (h : WE f dl mu (fun d m => WB d (WS s dl m N R B C Y) (WS t dl m N R B C Y)) fun e m => Y e dl m) : WS (sIf f s t) dl mu N R B C Y := by
  with_unfolding_all
    exact (wo_st (wo_imp h (fun d m h => by
      obtain ⟨b, rfl, h1, h2⟩ := h
      cases b with
      | true => exact h1 rfl
      | false => exact h2 rfl) fun _ _ h => h))
theorem ws_aug (h1 : dl[i]? = some (some x)) (h : WE f dl mu (fun y m => WG (g x y m) fun z => N (dl.set i (some z)) m) fun e m => Y e dl m) : WS (sAug i g f) dl mu N R B C Y := by
  with_unfolding_all
    unfold WS sAug
    rw [h1]
    refine wo_st (wo_imp h (fun d m h => ?_) fun _ _ h => h)
    obtain ⟨z, e, h⟩ := h
    try dsimp only
    rw [e]
    exact h
theorem ws_raise0 {c : String} (h : Y ⟨c, []⟩ dl mu) : WS (sRaise0 c) dl mu N R B C Y := by
  with_unfolding_all
    exact (h)
theorem wc_run {NN m : Nat} {body : DS} (hl : ds.length = m) (hd : startD NN ds = dl) (h : WS body dl mu (fun _ m => P .non m) P NoN NoN fun e _ m => X e m) : WC (runF NN m body) ds mu P X := by
  with_unfolding_all
    subst hd
    unfold WC runF
    rw [if_pos hl]
    unfold WS at h
    cases e : body (startD NN ds) mu <;> (rw [e] at h; exact h)
theorem wi_it {P : List DV → Mu → Option Nat → Prop} {it : DI} (h : it dl mu = .it xs m1) (hp : P xs m1 none) : WI it dl mu P X := by
  with_unfolding_all
    unfold WI
    rw [h]
    exact hp
theorem wi_rng {P : List DV → Mu → Option Nat → Prop} (h : WA fs dl mu (fun ds m => ∃ j : Nat, ds = [.int j] ∧ (j : Int) < 4611686018427387904 ∧ P ((List.range j).map fun (u : Nat) => .int (u : Int)) m none) X) : WI (iRngA fs) dl mu P X := by
  with_unfolding_all
    unfold WA at h
    cases e : evA fs dl mu with
    | ok ds m =>
      rw [e] at h
      refine Exists.elim h fun j h => ?_
      have e1 := h.1
      subst e1
      have hj := h.2.1
      have h := h.2.2
      have e2 := it_rng e ⟨by omega, hj⟩
      rw [Int.toNat_natCast] at e2
      exact wi_it e2 h
    | exc e' m => rw [e] at h; unfold WI iRngA; rw [e]; exact h
    | bad => rw [e] at h; exact h.elim
theorem wi_seq {P : List DV → Mu → Option Nat → Prop} (h : WE f dl mu (fun d m => WG (seqK m d) fun r => P r.1 m r.2) X) : WI (iSeq f) dl mu P X := by
  with_unfolding_all
    unfold WI iSeq
    unfold WE at h
    cases e : f dl mu with
    | ok d m =>
      rw [e] at h
      have h : WG (seqK m d) fun r => P r.1 m r.2 := h
      obtain ⟨⟨es, o⟩, e1, h⟩ := h
      cases d with
      | lst ds => cases e1; exact h
      | tup ds => cases e1; exact h
      | str ds => cases e1; exact h
      | obj k =>
        have e1 : (match m[k]? with | some (.lst ds) => some (ds, some k) | _ => none) = some (es, o) := e1
        show (match (match m[k]? with | some (.lst _) => IOut.dyn k m | _ => .bad) with | .it ds m => P ds m none | .dyn k m => (∃ es, m[k]? = some (.lst es) ∧ P es m (some k)) | .exc e m => X e m | .bad => False)
        cases em : m[k]? with
        | none => rw [em] at e1; cases e1
        | some u =>
          rw [em] at e1
          cases u <;> cases e1
          exact ⟨_, em, h⟩
      | _ => cases e1
    | exc e' m => rw [e] at h; exact h
    | bad => rw [e] at h; exact h
end
end DM

namespace DM
open PySem PySem.Spec PyProof.Rows L2
section
variable {α : Type} {dl dl1 dl2 : Dl} {mu m1 m2 m3 m4 : Mu} {d x y z : DV} {ds xs es : List DV} {f fa fb fc fo fe ff fv fi elt test : DE} {fs : List DE} {g g' : G2} {gc : GC} {i : Nat} {F : Fn} {b c : Bool} {e : Ex} {s t body : DS} {tg : Tg} {tgl : List Tg} {P P' : KE} {X X' : KX} {N N' B C Q : KN} {R R' : KE} {Y : Ex → Dl → Mu → Prop} {p q : Prop} {dfl : List DV} {cn : String} {fds : List (Str × DV)} {k j : Nat} {it : DI} {l : List α} {dv : α → DV} {fin : List DV → Mu → Out} {vs : List Nat} {kvs : List (Key × DV)} {ky : Key}
theorem wt_n {P : Dl → Prop} (h : P (dl.set i (some d))) : WT (tgN i) d dl P := ⟨_, rfl, h⟩
def Still (o : Option Nat) (p : Nat → Prop) : Prop := ∀ k, o = some k → p k
theorem still_none {p : Nat → Prop} : Still none p := fun _ h => (nomatch h)
theorem forL_w {I : List α → Dl → Mu → Prop} {xs : List α} (hs : ∀ pre a post dl m, xs = pre ++ a :: post → I pre dl m → WT tg (dv a) dl fun dl1 => WS body dl1 m (I (pre ++ [a])) R Q (I (pre ++ [a])) Y) : ∀ (post pre : List α) (dl : Dl) (m : Mu), xs = pre ++ post → I pre dl m → WSO (forL tg body (post.map dv) dl m) (fun dl m => I xs dl m ∨ Q dl m) R B C Y
  | [], pre, dl, m, hx, h => by
    with_unfolding_all
      exact (.inl (by rw [List.append_nil] at hx; rw [hx]; exact h))
  | a :: post, pre, dl, m, hx, h => by
    with_unfolding_all
      obtain ⟨dl1, e1, h1⟩ := hs pre a post dl m hx h
      rw [List.map_cons]
      unfold forL
      rw [e1]
      unfold WS at h1
      dsimp only
      cases e2 : body dl1 m with
      | nx dl2 m2 => rw [e2] at h1; exact forL_w hs post (pre ++ [a]) dl2 m2 (by rw [List.append_assoc]; exact hx) h1
      | ct dl2 m2 => rw [e2] at h1; exact forL_w hs post (pre ++ [a]) dl2 m2 (by rw [List.append_assoc]; exact hx) h1
      | bk dl2 m2 => rw [e2] at h1; exact .inr h1
      | rt d m2 => rw [e2] at h1; exact h1
      | exc e dl2 m2 => rw [e2] at h1; exact h1
      | bad => rw [e2] at h1; exact h1
theorem forM_w {I : List α → Dl → Mu → Prop} {xs : List α} (hk : ∀ pre dl m, I pre dl m → m[k]? = some (.lst (xs.map dv))) (hs : ∀ pre a post dl m, xs = pre ++ a :: post → I pre dl m → WT tg (dv a) dl fun dl1 => WS body dl1 m (I (pre ++ [a])) R Q (I (pre ++ [a])) Y) : ∀ (post pre : List α) (dl : Dl) (m : Mu), xs = pre ++ post → I pre dl m → WSO (forM tg body k post.length pre.length dl m) (fun dl m => I xs dl m ∨ Q dl m) R B C Y
  | [], pre, dl, m, hx, h => by
    with_unfolding_all
      rw [List.append_nil] at hx
      unfold forM
      rw [hk pre dl m h]
      dsimp only
      rw [List.getElem?_eq_none (by rw [List.length_map, hx]; exact Nat.le_refl _)]
      subst hx
      exact .inl h
  | a :: post, pre, dl, m, hx, h => by
    with_unfolding_all
      obtain ⟨dl1, e1, h1⟩ := hs pre a post dl m hx h
      unfold forM
      rw [hk pre dl m h]
      dsimp only
      have e0 : (xs.map dv)[pre.length]? = some (dv a) := by rw [hx]; simp
      rw [e0]
      dsimp only [List.length_cons]
      rw [e1]
      unfold WS at h1
      dsimp only
      have el : pre.length + 1 = (pre ++ [a]).length := by simp
      cases e2 : body dl1 m with
      | nx dl2 m2 => rw [e2] at h1; dsimp only; rw [el]; exact forM_w hk hs post (pre ++ [a]) dl2 m2 (by rw [List.append_assoc]; exact hx) h1
      | ct dl2 m2 => rw [e2] at h1; dsimp only; rw [el]; exact forM_w hk hs post (pre ++ [a]) dl2 m2 (by rw [List.append_assoc]; exact hx) h1
      | bk dl2 m2 => rw [e2] at h1; exact .inr h1
      | rt d m2 => rw [e2] at h1; exact h1
      | exc e dl2 m2 => rw [e2] at h1; exact h1
      | bad => rw [e2] at h1; exact h1
theorem ws_forb {xs : List α} (I : List α → Dl → Mu → Prop) (Q : KN)
    (hit : WI it dl mu (fun ds m o => ds = xs.map dv ∧ I [] dl m ∧ Still o fun k => ∀ pre dl m, I pre dl m → m[k]? = some (.lst (xs.map dv))) fun e m => Y e dl m)
    (hs : ∀ pre a post dl m, xs = pre ++ a :: post → I pre dl m → WT tg (dv a) dl fun dl1 => WS body dl1 m (I (pre ++ [a])) R Q (I (pre ++ [a])) Y)
    (he : ∀ dl m, I xs dl m ∨ Q dl m → N dl m) : WS (sFor it tg body) dl mu N R B C Y := by
  with_unfolding_all
    unfold WI at hit
    unfold WS sFor
    cases e : it dl mu with
    | it es m =>
      rw [e] at hit
      obtain ⟨rfl, h0, _⟩ := hit
      exact wso_imp (forL_w (B := B) (C := C) hs xs [] dl m rfl h0) he (fun _ _ h => h) (fun _ _ h => h) (fun _ _ h => h) fun _ _ _ h => h
    | dyn k m =>
      rw [e] at hit
      obtain ⟨es, e1, rfl, h0, hk⟩ := hit
      dsimp only
      rw [e1]
      dsimp only
      rw [List.length_map]
      exact wso_imp (forM_w (B := B) (C := C) (hk k rfl) hs xs [] dl m rfl h0) he (fun _ _ h => h) (fun _ _ h => h) (fun _ _ h => h) fun _ _ _ h => h
    | exc e' m => rw [e] at hit; exact hit
    | bad => rw [e] at hit; exact hit
theorem ws_for {xs : List α} (I : List α → Dl → Mu → Prop)
    (hit : WI it dl mu (fun ds m o => ds = xs.map dv ∧ I [] dl m ∧ Still o fun k => ∀ pre dl m, I pre dl m → m[k]? = some (.lst (xs.map dv))) fun e m => Y e dl m)
    (hs : ∀ pre a post dl m, xs = pre ++ a :: post → I pre dl m → WT tg (dv a) dl fun dl1 => WS body dl1 m (I (pre ++ [a])) R NoN (I (pre ++ [a])) Y)
    (he : ∀ dl m, I xs dl m → N dl m) : WS (sFor it tg body) dl mu N R B C Y := by
  with_unfolding_all
    exact (ws_forb I NoN hit hs fun dl m h => h.elim (he dl m) fun h => h.elim)
theorem cstep_w {skip : Mu → Out} {take : DV → Mu → Out} (h : WT tg x dl fun dl1 => WE test dl1 mu (fun d m => WB d (WE elt dl1 m (fun d m => WO (take d m) P X) NoX) (WO (skip m) P X)) NoX) : WO (cStep tg test elt dl x mu skip take) P X := by
  with_unfolding_all
    obtain ⟨dl1, e1, h⟩ := h
    unfold cStep
    rw [e1]
    dsimp only
    obtain ⟨d, m, e2, b, rfl, h1, h2⟩ := we_ex h
    rw [e2]
    cases b with
    | true =>
      obtain ⟨d, m2, e3, h3⟩ := we_ex (h1 rfl)
      dsimp only
      rw [e3]
      exact h3
    | false => exact h2 rfl
theorem compL_w {I : List α → List DV → Mu → Prop} {xs : List α} (hs : ∀ pre a post acc m, xs = pre ++ a :: post → I pre acc m → WT tg (dv a) dl fun dl1 => WE test dl1 m (fun d m => WB d (WE elt dl1 m (fun d m => acc.length < 1000000 ∧ I (pre ++ [a]) (acc ++ [d]) m) NoX) (I (pre ++ [a]) acc m)) NoX) (he : ∀ acc m, I xs acc m → WO (fin acc m) P X) : ∀ (post pre : List α) (acc : List DV) (m : Mu), xs = pre ++ post → I pre acc m → WO (compL fin tg test elt dl (post.map dv) acc m) P X
  | [], pre, acc, m, hx, h => by
    with_unfolding_all
      rw [List.append_nil] at hx
      subst hx
      exact he acc m h
  | a :: post, pre, acc, m, hx, h => by
    with_unfolding_all
      rw [List.map_cons]
      unfold compL
      obtain ⟨dl1, e1, h1⟩ := hs pre a post acc m hx h
      refine cstep_w ⟨dl1, e1, we_imp h1 (fun d m h => ?_) fun _ _ h => h⟩
      obtain ⟨b, rfl, h2, h3⟩ := h
      refine ⟨b, rfl, fun eb => we_imp (h2 eb) (fun d m h => ?_) fun _ _ h => h, fun eb => ?_⟩
      · rw [if_pos h.1]
        exact compL_w hs he post (pre ++ [a]) _ m (by rw [List.append_assoc]; exact hx) h.2
      · exact compL_w hs he post (pre ++ [a]) _ m (by rw [List.append_assoc]; exact hx) (h3 eb)
theorem compM_w {I : List α → List DV → Mu → Prop} {xs : List α} (hk : ∀ pre acc m, I pre acc m → m[k]? = some (.lst (xs.map dv))) (hs : ∀ pre a post acc m, xs = pre ++ a :: post → I pre acc m → WT tg (dv a) dl fun dl1 => WE test dl1 m (fun d m => WB d (WE elt dl1 m (fun d m => acc.length < 1000000 ∧ I (pre ++ [a]) (acc ++ [d]) m) NoX) (I (pre ++ [a]) acc m)) NoX) (he : ∀ acc m, I xs acc m → WO (fin acc m) P X) : ∀ (post pre : List α) (acc : List DV) (m : Mu), xs = pre ++ post → I pre acc m → WO (compM fin tg test elt dl k post.length pre.length acc m) P X
  | [], pre, acc, m, hx, h => by
    with_unfolding_all
      rw [List.append_nil] at hx
      unfold compM
      rw [hk pre acc m h]
      dsimp only
      rw [List.getElem?_eq_none (by rw [List.length_map, hx]; exact Nat.le_refl _)]
      subst hx
      exact he acc m h
  | a :: post, pre, acc, m, hx, h => by
    with_unfolding_all
      unfold compM
      rw [hk pre acc m h]
      dsimp only
      have e0 : (xs.map dv)[pre.length]? = some (dv a) := by rw [hx]; simp
      rw [e0]
      dsimp only [List.length_cons]
      have el : pre.length + 1 = (pre ++ [a]).length := by simp
      obtain ⟨dl1, e1, h1⟩ := hs pre a post acc m hx h
      refine cstep_w ⟨dl1, e1, we_imp h1 (fun d m h => ?_) fun _ _ h => h⟩
      obtain ⟨b, rfl, h2, h3⟩ := h
      refine ⟨b, rfl, fun eb => we_imp (h2 eb) (fun d m h => ?_) fun _ _ h => h, fun eb => ?_⟩
      · rw [if_pos h.1, el]
        exact compM_w hk hs he post (pre ++ [a]) _ m (by rw [List.append_assoc]; exact hx) h.2
      · rw [el]
        exact compM_w hk hs he post (pre ++ [a]) _ m (by rw [List.append_assoc]; exact hx) (h3 eb)
theorem wi_known {P : List DV → Mu → Option Nat → Prop} (h : WI it dl mu P X) : WI it dl mu (fun es m o => (∀ k, o = some k → m[k]? = some (.lst es)) ∧ P es m o) X := by
  with_unfolding_all
    unfold WI at h ⊢
    cases e : it dl mu with
    | it es m => rw [e] at h; exact ⟨fun _ h => (nomatch h), h⟩
    | dyn k m =>
      rw [e] at h
      obtain ⟨es, e1, h⟩ := h
      exact ⟨es, e1, fun _ e => by cases e; exact e1, h⟩
    | exc e' m => rw [e] at h; exact h
    | bad => rw [e] at h; exact h
theorem we_comp {xs : List α} (gg : α → DV) (ok : α → Bool)
    (hit : WI it dl mu (fun ds m o => ds = xs.map dv ∧ xs.length ≤ 1000000 ∧ (∀ a, a ∈ xs → WT tg (dv a) (wipeD dl vs) fun dl1 => WE test dl1 m (fun d m' => d = .bl (ok a) ∧ m' = m ∧ (ok a = true → WE elt dl1 m (fun d m' => d = gg a ∧ m' = m) NoX)) NoX) ∧ WO (fin ((xs.filter ok).map gg) m) P X) X) : WE (eCompG fin it tg test elt vs) dl mu P X := by
  with_unfolding_all
    have key : ∀ (m : Mu), (∀ a, a ∈ xs → WT tg (dv a) (wipeD dl vs) fun dl1 => WE test dl1 m (fun d m' => d = .bl (ok a) ∧ m' = m ∧ (ok a = true → WE elt dl1 m (fun d m' => d = gg a ∧ m' = m) NoX)) NoX) → xs.length ≤ 1000000 → ∀ pre a post acc m', xs = pre ++ a :: post → (m' = m ∧ acc = (pre.filter ok).map gg) → WT tg (dv a) (wipeD dl vs) fun dl1 => WE test dl1 m' (fun d m' => WB d (WE elt dl1 m' (fun d m' => acc.length < 1000000 ∧ (m' = m ∧ acc ++ [d] = ((pre ++ [a]).filter ok).map gg)) NoX) (m' = m ∧ acc = ((pre ++ [a]).filter ok).map gg)) NoX := by
      rintro m h hl pre a post acc m' hx ⟨rfl, rfl⟩
      obtain ⟨dl1, e1, h1⟩ := h a (by rw [hx]; simp)
      refine ⟨dl1, e1, we_imp h1 ?_ fun _ _ h => h⟩
      rintro d m2 ⟨rfl, rfl, h2⟩
      refine ⟨_, rfl, fun eb => we_imp (h2 eb) ?_ fun _ _ h => h, fun eb => ?_⟩
      · rintro d m3 ⟨rfl, rfl⟩
        refine ⟨?_, rfl, by simp [eb]⟩
        have : (pre.filter ok).length ≤ pre.length := List.length_filter_le ..
        have : xs.length = pre.length + (post.length + 1) := by rw [hx]; simp
        rw [List.length_map]
        omega
      · exact ⟨rfl, by simp [eb]⟩
    have hit2 := wi_known hit
    unfold WI at hit2
    unfold WE eCompG
    cases e : it dl mu with
    | it es m =>
      rw [e] at hit2
      obtain ⟨_, rfl, hl, h, hf⟩ := hit2
      exact compL_w (I := fun pre acc m' => m' = m ∧ acc = (pre.filter ok).map gg) (key m h hl) (by rintro acc m' ⟨rfl, rfl⟩; exact hf) xs [] [] m rfl ⟨rfl, rfl⟩
    | dyn k m =>
      rw [e] at hit2
      obtain ⟨es, e1, e2, rfl, hl, h, hf⟩ := hit2
      dsimp only
      rw [e1]
      dsimp only
      rw [List.length_map]
      exact compM_w (I := fun pre acc m' => m' = m ∧ acc = (pre.filter ok).map gg) (by rintro pre acc m' ⟨rfl, rfl⟩; exact e1) (key m h hl) (by rintro acc m' ⟨rfl, rfl⟩; exact hf) xs [] [] m rfl ⟨rfl, rfl⟩
    | exc e' m => rw [e] at hit2; exact hit2
    | bad => rw [e] at hit2; exact hit2
theorem filter_all {α : Type} (l : List α) : (l.filter fun _ => true) = l := by simp
theorem wo_finL (h : P (.lst ds) mu) : WO (finL ds mu) P X := by
  with_unfolding_all
    exact (h)
theorem wo_finM (h : P (.obj mu.length) (mu ++ [.lst ds])) : WO (finM ds mu) P X := by
  with_unfolding_all
    exact (h)
theorem we_yes (h : P (.bl true) mu) : WE eYes dl mu P X := by
  with_unfolding_all
    exact (h)
theorem ws_lkn {pick : Pick} (hp : pick dl mu = none) (h : WS s dl mu N R B C Y) : WS (sLk pick s) dl mu N R B C Y := by
  with_unfolding_all
    unfold WS at h ⊢; unfold sLk; rw [hp]; exact h
theorem we_lkn {pick : Pick} (hp : pick dl mu = none) (h : WE f dl mu P X) : WE (eLk pick f) dl mu P X := by
  with_unfolding_all
    unfold WE at h ⊢; unfold eLk; rw [hp]; exact h
theorem pickD_lst (h1 : f dl mu = .ok (.obj j) m1) (h : mu[j]? = some (.lst ds)) : pickD f dl mu = none := by unfold pickD; rw [h1]; dsimp only; rw [h]
theorem pickD_no (h1 : f dl mu = .ok d m1) (h : ∀ j, d ≠ .obj j) : pickD f dl mu = none := by
  unfold pickD; rw [h1]
  cases d with
  | obj j => exact absurd rfl (h j)
  | _ => rfl
theorem wi_aL {P : List DV → Mu → Option Nat → Prop} {r : List DV × Option Nat} (h1 : f dl mu = .ok d mu) (h2 : seqK mu d = some r) (h : P r.1 mu r.2) : WI (iA f) dl mu P X := by
  with_unfolding_all
    have e : isDicE f dl mu = false := by
      unfold isDicE
      rw [h1]
      cases d with
      | obj j =>
        have h2 : (match mu[j]? with | some (.lst ds) => some (ds, some j) | _ => none) = some r := h2
        cases em : mu[j]? with
        | none => rw [em] at h2; cases h2
        | some u =>
          rw [em] at h2
          cases u <;> cases h2
          dsimp only
          rw [dicR_lst em]; rfl
      | _ => rfl
    unfold WI iA
    rw [if_neg (by rw [e]; decide)]
    exact wi_seq (X := X) (we_eq h1 ⟨r, h2, h⟩)
section
variable {pp : DV → Prop} {u v : Int} {a a' : List Nat}
theorem wg_add (h : pp (.int (u + v))) : WG (gAdd (.int u) (.int v) mu) pp := wg_of g_add h
theorem wg_adds (hl : a.length + a'.length ≤ 1000000) (h : pp (.str (a ++ a'))) : WG (gAdd (.str a) (.str a') mu) pp := wg_of (gAdd_str hl) h
theorem wg_pluss (hl : a.length + a'.length ≤ 1000000) (h : pp (.str (a ++ a'))) : WG (gPlus (.str a) (.str a') mu) pp := wg_of (if_pos hl) h
theorem wg_mod (hv : 0 < v) (h : pp (.int (u % v))) : WG (DM.gMod (.int u) (.int v) mu) pp := wg_of (g_mod hv) h
theorem wg_div (hv : 0 < v ∧ v < 1073741824) (h : pp (.int (u / v))) : WG (DM.gDiv (.int u) (.int v) mu) pp := wg_of (g_div hv) h
theorem wg_mul (hv : (-18446744073709551616 < u ∧ u < 18446744073709551616) ∨ (-18446744073709551616 < v ∧ v < 18446744073709551616)) (h : pp (.int (u * v))) : WG (DM.gMul (.int u) (.int v) mu) pp := wg_of (hv.elim g_mul1 g_mul2) h
theorem wg_mulA (hv : (-18446744073709551616 < u ∧ u < 18446744073709551616) ∨ (-18446744073709551616 < v ∧ v < 18446744073709551616)) (h : pp (.int (u * v))) : WG (gMulA (.int u) (.int v) mu) pp := wg_mul (mu := mu) hv h
theorem wg_lt (h : pp (.bl (decide (u < v)))) : WG (DM.gLt0 (.int u) (.int v) mu) pp := wg_of g_lt h
theorem wg_le (h : pp (.bl (decide (u ≤ v)))) : WG (DM.gLe (.int u) (.int v) mu) pp := wg_of g_le h
theorem wg_eq (h : pp (.bl (decide (u = v)))) : WG (DM.gEq (.int u) (.int v) mu) pp := wg_of g_eq h
theorem wg_eqs (h : pp (.bl (decide (a = a')))) : WG (DM.gEq (.str a) (.str a') mu) pp := wg_of rfl h
theorem wg_nes (h : pp (.bl (!decide (a = a')))) : WG (DM.gNe (.str a) (.str a') mu) pp := wg_of rfl h
theorem wg_lenS (hl : a.length ≤ 1000000) (h : pp (.int (a.length : Nat))) : WG (gLen [.str a] mu) pp := wg_of (gLen_str hl) h
theorem wg_lenL (h : pp (.int (ds.length : Nat))) : WG (gLen [.lst ds] mu) pp := wg_of rfl h
theorem wg_ord {c : Nat} (h : pp (.int c)) : WG (gOrd [.str [c]] mu) pp := wg_of rfl h
theorem ixA_lst {n : Nat} (h : ds[n]? = some d) (hp : pp d) : WG (gIxA (.lst ds) (.int n) mu) pp := wg_of ((gIxA_seq (fun _ h => by cases h)).trans (gIx_lst h)) hp
theorem ixA_str {n c : Nat} (hl : a.length ≤ 1000000) (h : a[n]? = some c) (hp : pp (.str [c])) : WG (gIxA (.str a) (.int n) mu) pp := wg_of ((gIxA_seq (fun _ h => by cases h)).trans (gIx_str hl h)) hp
theorem wtr_b {pb : Bool → Prop} (h : pb b) : WG (truth mu (.bl b)) pb := ⟨_, rfl, h⟩
theorem wpart_n {po : Option Int → Prop} (h : po none) : WG (partOf .non) po := ⟨_, rfl, h⟩
theorem wpart_i {po : Option Int → Prop} (h : po (some u)) : WG (partOf (.int u)) po := ⟨_, rfl, h⟩
theorem wsl_s {lo hi : Option Int} (hl : a.length ≤ 1000000) (h : pp (.str ((a.drop (HT.sIx a.length 0 lo)).take (HT.sIx a.length a.length hi - HT.sIx a.length 0 lo)))) : WG (gSl (.str a) lo hi mu) pp := ⟨_, if_pos hl, h⟩
theorem wsl_l {lo hi : Option Int} (h : pp (.lst ((ds.drop (HT.sIx ds.length 0 lo)).take (HT.sIx ds.length ds.length hi - HT.sIx ds.length 0 lo)))) : WG (gSl (.lst ds) lo hi mu) pp := ⟨_, rfl, h⟩
theorem wsl_l_to {n : Nat} (h : pp (.lst (ds.take n))) : WG (gSl (.lst ds) none (some (n : Int)) mu) pp := wsl_l (by rw [sl_to]; exact h)
theorem wseqL {pr : List DV × Option Nat → Prop} (h : pr (ds, none)) : WG (seqK mu (.lst ds)) pr := ⟨_, rfl, h⟩
theorem wlistL {pr : DV → Prop} (h : pr (.lst ds)) : WG (gList [.lst ds] mu) pr := ⟨_, rfl, h⟩
theorem ty_lstM (hm : mu[k]? = some (.lst ds)) : tyName mu (.obj k) = some "list" := by unfold tyName; dsimp only; rw [hm]
end

theorem we_var_0 {r : Dl} (h : P d mu) : WE (eVar 0) (some d :: r) mu P X := by
  with_unfolding_all
    exact (we_var rfl h)
theorem we_var_1 {r : Dl} {a0 : Option DV} (h : P d mu) : WE (eVar 1) (a0 :: some d :: r) mu P X := by
  with_unfolding_all
    exact (we_var rfl h)
theorem ws_set_1 {r : Dl} {ax : Option DV} {a0 : Option DV} (h : WE f (a0 :: ax :: r) mu (fun d m => N (a0 :: some d :: r) m) fun e m => Y e (a0 :: ax :: r) m) : WS (sSet 1 f) (a0 :: ax :: r) mu N R B C Y := by
  with_unfolding_all
    exact (ws_set h)
theorem wt_n_1 {r : Dl} {ax : Option DV} {a0 : Option DV} {P : Dl → Prop} (h : P (a0 :: some d :: r)) : WT (tgN 1) d (a0 :: ax :: r) P := wt_n h
theorem ws_aug_1 {r : Dl} {a0 : Option DV} (h : WE f (a0 :: some x :: r) mu (fun y m => WG (g x y m) fun z => N (a0 :: some z :: r) m) fun e m => Y e (a0 :: some x :: r) m) : WS (sAug 1 g f) (a0 :: some x :: r) mu N R B C Y := by
  with_unfolding_all
    exact (ws_aug rfl h)
theorem we_var_2 {r : Dl} {a0 a1 : Option DV} (h : P d mu) : WE (eVar 2) (a0 :: a1 :: some d :: r) mu P X := by
  with_unfolding_all
    exact (we_var rfl h)
theorem ws_set_2 {r : Dl} {ax : Option DV} {a0 a1 : Option DV} (h : WE f (a0 :: a1 :: ax :: r) mu (fun d m => N (a0 :: a1 :: some d :: r) m) fun e m => Y e (a0 :: a1 :: ax :: r) m) : WS (sSet 2 f) (a0 :: a1 :: ax :: r) mu N R B C Y := by
  with_unfolding_all
    exact (ws_set h)
theorem wt_n_2 {r : Dl} {ax : Option DV} {a0 a1 : Option DV} {P : Dl → Prop} (h : P (a0 :: a1 :: some d :: r)) : WT (tgN 2) d (a0 :: a1 :: ax :: r) P := wt_n h
theorem we_var_3 {r : Dl} {a0 a1 a2 : Option DV} (h : P d mu) : WE (eVar 3) (a0 :: a1 :: a2 :: some d :: r) mu P X := by
  with_unfolding_all
    exact (we_var rfl h)
theorem ws_set_3 {r : Dl} {ax : Option DV} {a0 a1 a2 : Option DV} (h : WE f (a0 :: a1 :: a2 :: ax :: r) mu (fun d m => N (a0 :: a1 :: a2 :: some d :: r) m) fun e m => Y e (a0 :: a1 :: a2 :: ax :: r) m) : WS (sSet 3 f) (a0 :: a1 :: a2 :: ax :: r) mu N R B C Y := by
  with_unfolding_all
    exact (ws_set h)
theorem wt_n_3 {r : Dl} {ax : Option DV} {a0 a1 a2 : Option DV} {P : Dl → Prop} (h : P (a0 :: a1 :: a2 :: some d :: r)) : WT (tgN 3) d (a0 :: a1 :: a2 :: ax :: r) P := wt_n h
theorem we_var_4 {r : Dl} {a0 a1 a2 a3 : Option DV} (h : P d mu) : WE (eVar 4) (a0 :: a1 :: a2 :: a3 :: some d :: r) mu P X := by
  with_unfolding_all
    exact (we_var rfl h)
theorem ws_set_4 {r : Dl} {ax : Option DV} {a0 a1 a2 a3 : Option DV} (h : WE f (a0 :: a1 :: a2 :: a3 :: ax :: r) mu (fun d m => N (a0 :: a1 :: a2 :: a3 :: some d :: r) m) fun e m => Y e (a0 :: a1 :: a2 :: a3 :: ax :: r) m) : WS (sSet 4 f) (a0 :: a1 :: a2 :: a3 :: ax :: r) mu N R B C Y := by
  with_unfolding_all
    exact (ws_set h)
theorem we_var_5 {r : Dl} {a0 a1 a2 a3 a4 : Option DV} (h : P d mu) : WE (eVar 5) (a0 :: a1 :: a2 :: a3 :: a4 :: some d :: r) mu P X := by
  with_unfolding_all
    exact (we_var rfl h)
theorem wt_n_5 {r : Dl} {ax : Option DV} {a0 a1 a2 a3 a4 : Option DV} {P : Dl → Prop} (h : P (a0 :: a1 :: a2 :: a3 :: a4 :: some d :: r)) : WT (tgN 5) d (a0 :: a1 :: a2 :: a3 :: a4 :: ax :: r) P := wt_n h
theorem we_var_6 {r : Dl} {a0 a1 a2 a3 a4 a5 : Option DV} (h : P d mu) : WE (eVar 6) (a0 :: a1 :: a2 :: a3 :: a4 :: a5 :: some d :: r) mu P X := by
  with_unfolding_all
    exact (we_var rfl h)
theorem ws_set_6 {r : Dl} {ax : Option DV} {a0 a1 a2 a3 a4 a5 : Option DV} (h : WE f (a0 :: a1 :: a2 :: a3 :: a4 :: a5 :: ax :: r) mu (fun d m => N (a0 :: a1 :: a2 :: a3 :: a4 :: a5 :: some d :: r) m) fun e m => Y e (a0 :: a1 :: a2 :: a3 :: a4 :: a5 :: ax :: r) m) : WS (sSet 6 f) (a0 :: a1 :: a2 :: a3 :: a4 :: a5 :: ax :: r) mu N R B C Y := by
  with_unfolding_all
    exact (ws_set h)
theorem we_var_7 {r : Dl} {a0 a1 a2 a3 a4 a5 a6 : Option DV} (h : P d mu) : WE (eVar 7) (a0 :: a1 :: a2 :: a3 :: a4 :: a5 :: a6 :: some d :: r) mu P X := by
  with_unfolding_all
    exact (we_var rfl h)
theorem ws_set_7 {r : Dl} {ax : Option DV} {a0 a1 a2 a3 a4 a5 a6 : Option DV} (h : WE f (a0 :: a1 :: a2 :: a3 :: a4 :: a5 :: a6 :: ax :: r) mu (fun d m => N (a0 :: a1 :: a2 :: a3 :: a4 :: a5 :: a6 :: some d :: r) m) fun e m => Y e (a0 :: a1 :: a2 :: a3 :: a4 :: a5 :: a6 :: ax :: r) m) : WS (sSet 7 f) (a0 :: a1 :: a2 :: a3 :: a4 :: a5 :: a6 :: ax :: r) mu N R B C Y := by
  with_unfolding_all
    exact (ws_set h)
end
theorem mem_app {mu l : Mu} {k : Nat} {u : MO} (h : mu[k]? = some u) : (mu ++ l)[k]? = some u := by rw [List.getElem?_append_left (mem_lt h)]; exact h
theorem mem_same' {mu : Mu} {k : Nat} {u w : MO} (h : mu[k]? = some w) : (mu.set k u)[k]? = some u := mem_same (mem_lt h)
theorem mem_ne' {mu : Mu} {j k : Nat} {u v : MO} (ne : k ≠ j) (h : mu[j]? = some v) : (mu.set k u)[j]? = some v := mem_ne h ne
theorem mem_hd {mu l : Mu} {u : MO} : (mu ++ u :: l)[mu.length]? = some u := by simp
theorem wnot_t {pp : DV → Prop} (h : pp (.bl false)) : WNot (.bl true) pp := wnot h
theorem wnot_f {pp : DV → Prop} (h : pp (.bl true)) : WNot (.bl false) pp := wnot h
def Fr (ks : List Nat) (m m' : Mu) : Prop := m.length ≤ m'.length ∧ ∀ k u, k ∉ ks → m[k]? = some u → m'[k]? = some u
theorem Fr.trans {ks : List Nat} {a b c : Mu} (h : Fr ks a b) (g : Fr ks b c) : Fr ks a c := ⟨Nat.le_trans h.1 g.1, fun k u n e => g.2 k u n (h.2 k u n e)⟩
theorem Fr.set {ks : List Nat} {m m' : Mu} {k : Nat} {u : MO} (h : Fr ks m m') (hk : k ∈ ks) : Fr ks m (m'.set k u) := ⟨by rw [List.length_set]; exact h.1, fun j v n e => by rw [List.getElem?_set_ne (fun z : k = j => n (by rw [← z]; exact hk))]; exact h.2 j v n e⟩
theorem Fr.app {ks : List Nat} {m m' l : Mu} (h : Fr ks m m') : Fr ks m (m' ++ l) := ⟨by rw [List.length_append]; have := h.1; omega, fun j v n e => mem_app (h.2 j v n e)⟩
theorem Fr.mono {ks js : List Nat} {m m' : Mu} (h : Fr ks m m') (g : ∀ k, k ∈ ks → k ∈ js) : Fr js m m' := ⟨h.1, fun k u n e => h.2 k u (fun z => n (g k z)) e⟩
theorem Fr.get {ks : List Nat} {m m' : Mu} {k : Nat} {u : MO} (h : Fr ks m m') (e : m[k]? = some u) (n : k ∉ ks) : m'[k]? = some u := h.2 k u n e
theorem wgisiT {mu : Mu} {d : DV} {tb ta : String} {pp : DV → Prop} (h1 : tyName mu d = some ta) (h2 : subTy ta tb = some true) (h : pp (.bl true)) : WG (gIsi [d, .ty tb] mu) pp := ⟨_, gIsi_eq h1 h2, h⟩
theorem wgisiF {mu : Mu} {d : DV} {tb ta : String} {pp : DV → Prop} (h1 : tyName mu d = some ta) (h2 : subTy ta tb = some false) (h : pp (.bl false)) : WG (gIsi [d, .ty tb] mu) pp := ⟨_, gIsi_eq h1 h2, h⟩
theorem id_e {f : DE} {dl : Dl} {mu : Mu} {P : KE} {X : KX} (h : WE f dl mu P X) : WE f dl mu P X := by
  with_unfolding_all
    exact (h)
theorem id_s {s : DS} {dl : Dl} {mu : Mu} {N B C : KN} {R : KE} {Y : Ex → Dl → Mu → Prop} (h : WS s dl mu N R B C Y) : WS s dl mu N R B C Y := by
  with_unfolding_all
    exact (h)
theorem id_a {fs : List DE} {dl : Dl} {mu : Mu} {P : List DV → Mu → Prop} {X : KX} (h : WA fs dl mu P X) : WA fs dl mu P X := by
  with_unfolding_all
    exact (h)
theorem id_g {α : Type} {o : Option α} {P : α → Prop} (h : WG o P) : WG o P := h
theorem id_b {d : DV} {p q : Prop} (h : WB d p q) : WB d p q := h
theorem id_t {t : Tg} {d : DV} {dl : Dl} {P : Dl → Prop} (h : WT t d dl P) : WT t d dl P := h
theorem id_i {f : DI} {dl : Dl} {mu : Mu} {P : List DV → Mu → Option Nat → Prop} {X : KX} (h : WI f dl mu P X) : WI f dl mu P X := by
  with_unfolding_all
    exact (h)
end DM

namespace DM
open PySem PySem.Spec PyProof.Rows L2
local macro_rules | `(tactic| sizeOf_list_dec) => `(tactic| first | assumption | omega | exact Nat.zero_le _ | (simp only [List.length_cons, List.length_nil, List.length_append, List.length_map, List.length_replicate, List.length_range, List.length_take, List.length_drop, List.length_reverse]; omega) | (decide; done))
local macro_rules | `(tactic| array_mem_dec) => `(tactic| (repeat (first | with_reducible assumption | with_reducible exact mem_new | with_reducible apply mem_same' | ((with_reducible apply mem_ne'); (· first | assumption | omega)) | with_reducible apply mem_old | with_reducible exact mem_hd | with_reducible apply mem_app)); done)
local macro_rules | `(tactic| array_get_dec) => `(tactic| first | ((with_reducible refine id_e ?_); first | with_reducible refine we_c ?_ | with_reducible refine we_op ?_ | with_reducible refine we_cb ?_ | with_reducible refine we_call0 ?_ | with_reducible refine we_call ?_ | with_reducible refine we_B ?_ | with_reducible refine we_tru ?_ | with_reducible refine we_not ?_ | with_reducible refine we_and ?_ | with_reducible refine we_or ?_ | with_reducible refine we_if ?_ | with_reducible refine we_neg ?_ | with_reducible refine we_I ?_ | with_reducible refine we_chain ?_ | with_reducible refine we_tup ?_ | with_reducible refine we_lst ?_ | with_reducible refine we_lstM0 ?_ | with_reducible refine we_lstM ?_ | with_reducible refine we_dnew ?_ | with_reducible refine we_sl ?_ | with_reducible refine we_m1 ?_ | with_reducible refine we_isiT ?_ | with_reducible refine we_append ?_ | with_reducible refine we_get1 ?_ | with_reducible refine we_get2 ?_ | with_reducible refine we_pop2 ?_ | with_reducible refine we_pop1 ?_ | with_reducible refine we_cm ?_ | with_reducible refine we_fld ?_ | with_reducible refine we_meth ?_ | with_reducible refine we_make ?_ | with_reducible refine we_yes ?_ | with_reducible refine we_popA ?_ | ((with_reducible apply we_xf); (· exact rfl)) | ((with_reducible apply we_is); (· exact rfl)) | with_reducible refine we_var_0 ?_ | with_reducible refine we_var_1 ?_ | with_reducible refine we_var_2 ?_ | with_reducible refine we_var_3 ?_ | with_reducible refine we_var_4 ?_ | with_reducible refine we_var_5 ?_ | with_reducible refine we_var_6 ?_ | with_reducible refine we_var_7 ?_ | with_reducible refine we_var_8 ?_ | with_reducible refine we_var_9 ?_ | with_reducible refine we_var_10 ?_ | with_reducible refine we_var_11 ?_ | with_reducible refine we_var_12 ?_ | with_reducible refine we_var_13 ?_ | with_reducible refine we_var_14 ?_ | with_reducible refine we_var_15 ?_ | with_reducible refine we_var_16 ?_ | with_reducible refine we_var_17 ?_ | with_reducible refine we_var_18 ?_ | with_reducible refine we_var_19 ?_ | with_reducible refine we_var_20 ?_ | with_reducible refine we_var_21 ?_ | with_reducible refine we_var_22 ?_ | with_reducible refine we_var_23 ?_ | with_reducible refine we_var_24 ?_ | with_reducible refine we_var_25 ?_ | with_reducible refine we_var_26 ?_ | with_reducible refine we_var_27 ?_ | with_reducible refine we_var_28 ?_ | with_reducible refine we_var_29 ?_ | with_reducible refine we_var_30 ?_ | with_reducible refine we_var_31 ?_ | with_reducible refine we_var_32 ?_ | with_reducible refine we_var_33 ?_ | with_reducible refine we_var_34 ?_ | with_reducible refine we_var_35 ?_ | with_reducible refine we_var_36 ?_ | with_reducible refine we_var_37 ?_ | with_reducible refine we_var_38 ?_ | with_reducible refine we_var_39 ?_) | ((with_reducible refine id_s ?_); first | with_reducible refine ws_seq ?_ | with_reducible refine ws_next ?_ | with_reducible refine ws_drop ?_ | with_reducible refine ws_ret ?_ | with_reducible refine ws_retN ?_ | with_reducible refine ws_brk ?_ | with_reducible refine ws_cnt ?_ | with_reducible refine ws_asg ?_ | with_reducible refine ws_if ?_ | with_reducible refine ws_put ?_ | with_reducible refine ws_fldP ?_ | with_reducible refine ws_fldA ?_ | with_reducible refine ws_daug ?_ | with_reducible refine ws_try ?_ | with_reducible refine ws_raise ?_ | with_reducible refine ws_raise0 ?_ | with_reducible refine ws_set_0 ?_ | with_reducible refine ws_set_1 ?_ | with_reducible refine ws_set_2 ?_ | with_reducible refine ws_set_3 ?_ | with_reducible refine ws_set_4 ?_ | with_reducible refine ws_set_5 ?_ | with_reducible refine ws_set_6 ?_ | with_reducible refine ws_set_7 ?_ | with_reducible refine ws_set_8 ?_ | with_reducible refine ws_set_9 ?_ | with_reducible refine ws_set_10 ?_ | with_reducible refine ws_set_11 ?_ | with_reducible refine ws_set_12 ?_ | with_reducible refine ws_set_13 ?_ | with_reducible refine ws_set_14 ?_ | with_reducible refine ws_set_15 ?_ | with_reducible refine ws_set_16 ?_ | with_reducible refine ws_set_17 ?_ | with_reducible refine ws_set_18 ?_ | with_reducible refine ws_set_19 ?_ | with_reducible refine ws_set_20 ?_ | with_reducible refine ws_set_21 ?_ | with_reducible refine ws_set_22 ?_ | with_reducible refine ws_set_23 ?_ | with_reducible refine ws_set_24 ?_ | with_reducible refine ws_set_25 ?_ | with_reducible refine ws_set_26 ?_ | with_reducible refine ws_set_27 ?_ | with_reducible refine ws_set_28 ?_ | with_reducible refine ws_set_29 ?_ | with_reducible refine ws_set_30 ?_ | with_reducible refine ws_set_31 ?_ | with_reducible refine ws_set_32 ?_ | with_reducible refine ws_set_33 ?_ | with_reducible refine ws_set_34 ?_ | with_reducible refine ws_set_35 ?_ | with_reducible refine ws_set_36 ?_ | with_reducible refine ws_set_37 ?_ | with_reducible refine ws_set_38 ?_ | with_reducible refine ws_set_39 ?_ | with_reducible refine ws_aug_0 ?_ | with_reducible refine ws_aug_1 ?_ | with_reducible refine ws_aug_2 ?_ | with_reducible refine ws_aug_3 ?_ | with_reducible refine ws_aug_4 ?_ | with_reducible refine ws_aug_5 ?_ | with_reducible refine ws_aug_6 ?_ | with_reducible refine ws_aug_7 ?_ | with_reducible refine ws_aug_8 ?_ | with_reducible refine ws_aug_9 ?_ | with_reducible refine ws_aug_10 ?_ | with_reducible refine ws_aug_11 ?_ | with_reducible refine ws_aug_12 ?_ | with_reducible refine ws_aug_13 ?_ | with_reducible refine ws_aug_14 ?_ | with_reducible refine ws_aug_15 ?_ | with_reducible refine ws_aug_16 ?_ | with_reducible refine ws_aug_17 ?_ | with_reducible refine ws_aug_18 ?_ | with_reducible refine ws_aug_19 ?_ | with_reducible refine ws_aug_20 ?_ | with_reducible refine ws_aug_21 ?_ | with_reducible refine ws_aug_22 ?_ | with_reducible refine ws_aug_23 ?_ | with_reducible refine ws_aug_24 ?_ | with_reducible refine ws_aug_25 ?_ | with_reducible refine ws_aug_26 ?_ | with_reducible refine ws_aug_27 ?_ | with_reducible refine ws_aug_28 ?_ | with_reducible refine ws_aug_29 ?_ | with_reducible refine ws_aug_30 ?_ | with_reducible refine ws_aug_31 ?_ | with_reducible refine ws_aug_32 ?_ | with_reducible refine ws_aug_33 ?_ | with_reducible refine ws_aug_34 ?_ | with_reducible refine ws_aug_35 ?_ | with_reducible refine ws_aug_36 ?_ | with_reducible refine ws_aug_37 ?_ | with_reducible refine ws_aug_38 ?_ | with_reducible refine ws_aug_39 ?_) | ((with_reducible refine id_a ?_); first | with_reducible refine wa_cons ?_ | with_reducible refine wa_nil ?_) | ((with_reducible refine id_g ?_); first | with_reducible refine wg_add ?_ | ((with_reducible apply wg_adds); (· sizeOf_list_dec)) | ((with_reducible apply wg_addl); (· sizeOf_list_dec)) | with_reducible refine wg_plus ?_ | ((with_reducible apply wg_pluss); (· sizeOf_list_dec)) | with_reducible refine wg_plusI ?_ | with_reducible refine wg_minus ?_ | with_reducible refine wg_sub ?_ | with_reducible refine wg_pow9 ?_ | with_reducible refine wg_pow6 ?_ | with_reducible refine wg_pow3 ?_ | with_reducible refine wg_pow18 ?_ | ((with_reducible apply wg_mod); (· sizeOf_list_dec)) | ((with_reducible apply wg_div); (· sizeOf_list_dec)) | ((with_reducible apply wg_mul); (· sizeOf_list_dec)) | ((with_reducible apply wg_mulA); (· sizeOf_list_dec)) | ((with_reducible apply wg_mulS1); (· sizeOf_list_dec)) | ((with_reducible apply wg_mulS); (· sizeOf_list_dec)) | with_reducible refine wg_lt ?_ | with_reducible refine wg_le ?_ | with_reducible refine wg_gt ?_ | with_reducible refine wg_ge ?_ | with_reducible refine wg_eq ?_ | with_reducible refine wg_ne ?_ | with_reducible refine wg_eqs ?_ | with_reducible refine wg_nes ?_ | with_reducible refine wg_eqnn ?_ | with_reducible refine wg_eqni ?_ | with_reducible refine wg_eqin ?_ | with_reducible refine wg_eqns ?_ | with_reducible refine wg_eqsn ?_ | with_reducible refine wg_nenn ?_ | with_reducible refine wg_neni ?_ | with_reducible refine wg_nein ?_ | with_reducible refine wg_nens ?_ | with_reducible refine wg_nesn ?_ | with_reducible refine wg_isNn ?_ | with_reducible refine wg_isNi ?_ | with_reducible refine wg_isNs ?_ | with_reducible refine wg_isNt ?_ | with_reducible refine wg_isNl ?_ | with_reducible refine wg_isNo ?_ | with_reducible refine wg_notNn ?_ | with_reducible refine wg_notNi ?_ | with_reducible refine wg_notNs ?_ | with_reducible refine wg_notNt ?_ | with_reducible refine wg_notNl ?_ | with_reducible refine wg_notNo ?_ | ((with_reducible apply wg_lenS); (· sizeOf_list_dec)) | with_reducible refine wg_lenL ?_ | with_reducible refine wg_lenT ?_ | ((with_reducible apply wg_lenM); (· array_mem_dec)) | ((with_reducible apply wg_lenD); (· array_mem_dec)) | with_reducible refine wg_intI ?_ | with_reducible refine wg_intB ?_ | with_reducible refine wg_ord ?_ | with_reducible refine wg_max2 ?_ | with_reducible refine wg_min2 ?_ | with_reducible refine key_int ?_ | with_reducible refine key_str ?_ | ((with_reducible apply wg_look); (· exact rfl)) | ((with_reducible apply wdicR); (· array_mem_dec)) | ((with_reducible apply wdicRF); (· array_mem_dec)) | ((with_reducible apply wdicAt); (· array_mem_dec)) | ((with_reducible apply wput_dic); (· array_mem_dec); (· exact rfl); (· sizeOf_list_dec)) | ((with_reducible apply wput_lst); (· array_mem_dec); (· sizeOf_list_dec)) | with_reducible refine wtr_b ?_ | with_reducible refine wtr_n ?_ | with_reducible refine wtr_i ?_ | ((with_reducible apply wtr_s); (· sizeOf_list_dec)) | with_reducible refine wtr_l ?_ | ((with_reducible apply wtr_m); (· array_mem_dec)) | ((with_reducible apply wtr_d); (· array_mem_dec)) | with_reducible refine wpart_n ?_ | with_reducible refine wpart_i ?_ | ((with_reducible apply wsl_s_to); (· sizeOf_list_dec)) | ((with_reducible apply wsl_s_from); (· sizeOf_list_dec)) | ((with_reducible apply wsl_s_mid); (· sizeOf_list_dec)) | with_reducible refine wsl_l_to ?_ | with_reducible refine wsl_l_from ?_ | with_reducible refine wsl_l_mid ?_ | ((with_reducible apply wsl_m_to); (· array_mem_dec)) | ((with_reducible apply wsl_m_from); (· array_mem_dec)) | ((with_reducible apply wsl_m_mid); (· array_mem_dec)) | with_reducible refine wseqL ?_ | with_reducible refine wseqT ?_ | with_reducible refine wseqS ?_ | ((with_reducible apply wseqM); (· array_mem_dec)) | with_reducible refine wstillL ?_ | ((with_reducible apply wstillF); (· array_mem_dec)) | ((with_reducible apply wcopyD); (· array_mem_dec)) | ((with_reducible apply wlistM); (· array_mem_dec)) | with_reducible refine wlistML ?_ | with_reducible refine wlistMT ?_ | with_reducible refine wlistL ?_ | with_reducible refine wlistT ?_ | ((with_reducible apply wlistO); (· array_mem_dec)) | ((with_reducible apply wgisiT); (· exact rfl); (· exact rfl)) | ((with_reducible apply wgisiF); (· exact rfl); (· exact rfl)) | ((with_reducible apply wgisiT); (· exact ty_dic (by array_mem_dec)); (· exact rfl)) | ((with_reducible apply wgisiF); (· exact ty_dic (by array_mem_dec)); (· exact rfl)) | ((with_reducible apply wgisiT); (· exact ty_lstM (by array_mem_dec)); (· exact rfl)) | ((with_reducible apply wgisiF); (· exact ty_lstM (by array_mem_dec)); (· exact rfl)) | ((with_reducible apply ixA_tup); (· exact rfl)) | ((with_reducible apply inA_non); (· array_mem_dec)) | ((with_reducible apply ninA_non); (· array_mem_dec)) | ((with_reducible apply inA_dic); (· array_mem_dec); (· exact rfl)) | ((with_reducible apply inA_dicF); (· array_mem_dec); (· exact rfl)) | ((with_reducible apply ninA_dic); (· array_mem_dec); (· exact rfl)) | ((with_reducible apply ninA_dicF); (· array_mem_dec); (· exact rfl)) ) | ((with_reducible refine id_b ?_); first | with_reducible refine wb_true ?_ | with_reducible refine wb_false ?_ | ((with_reducible apply wb_pos); (· (first | with_reducible exact rfl | assumption | omega | (simp only [List.length_cons, List.length_nil, List.length_map]); (·  omega)))) | ((with_reducible apply wb_neg); (· (first | with_reducible exact rfl | assumption | omega | (simp only [List.length_cons, List.length_nil, List.length_map]); (·  omega)))) | ((with_reducible apply wb_npos); (· (first | with_reducible exact rfl | assumption | omega | (simp only [List.length_cons, List.length_nil, List.length_map]); (·  omega)))) | ((with_reducible apply wb_nneg); (· (first | with_reducible exact rfl | assumption | omega | (simp only [List.length_cons, List.length_nil, List.length_map]); (·  omega)))) | ((with_reducible apply wb_t); (· assumption)) | ((with_reducible apply wb_f); (· assumption)) ) | ((with_reducible refine id_t ?_); first | with_reducible refine wt_T ?_ | with_reducible refine wt_n_0 ?_ | with_reducible refine wt_n_1 ?_ | with_reducible refine wt_n_2 ?_ | with_reducible refine wt_n_3 ?_ | with_reducible refine wt_n_4 ?_ | with_reducible refine wt_n_5 ?_ | with_reducible refine wt_n_6 ?_ | with_reducible refine wt_n_7 ?_ | with_reducible refine wt_n_8 ?_ | with_reducible refine wt_n_9 ?_ | with_reducible refine wt_n_10 ?_ | with_reducible refine wt_n_11 ?_ | with_reducible refine wt_n_12 ?_ | with_reducible refine wt_n_13 ?_ | with_reducible refine wt_n_14 ?_ | with_reducible refine wt_n_15 ?_ | with_reducible refine wt_n_16 ?_ | with_reducible refine wt_n_17 ?_ | with_reducible refine wt_n_18 ?_ | with_reducible refine wt_n_19 ?_ | with_reducible refine wt_n_20 ?_ | with_reducible refine wt_n_21 ?_ | with_reducible refine wt_n_22 ?_ | with_reducible refine wt_n_23 ?_ | with_reducible refine wt_n_24 ?_ | with_reducible refine wt_n_25 ?_ | with_reducible refine wt_n_26 ?_ | with_reducible refine wt_n_27 ?_ | with_reducible refine wt_n_28 ?_ | with_reducible refine wt_n_29 ?_ | with_reducible refine wt_n_30 ?_ | with_reducible refine wt_n_31 ?_ | with_reducible refine wt_n_32 ?_ | with_reducible refine wt_n_33 ?_ | with_reducible refine wt_n_34 ?_ | with_reducible refine wt_n_35 ?_ | with_reducible refine wt_n_36 ?_ | with_reducible refine wt_n_37 ?_ | with_reducible refine wt_n_38 ?_ | with_reducible refine wt_n_39 ?_) | with_reducible refine wts_cons ?_ | with_reducible refine wts_nil ?_ | ((with_reducible refine id_i ?_); first | with_reducible refine wi_rng ?_ | with_reducible refine wi_rng2 ?_ | with_reducible refine wi_seq ?_ | with_reducible refine wi_dic ?_ | with_reducible refine wi_rv ?_ | with_reducible refine wi_en ?_ | with_reducible refine wi_zp ?_) | ((with_reducible refine id_h ?_); first | ((with_reducible apply wh_no); (· exact rfl)) | ((with_reducible apply wh_bare); (· exact rfl)) | ((with_reducible apply wh_yes_0); (· exact rfl)) | ((with_reducible apply wh_yes_1); (· exact rfl)) | ((with_reducible apply wh_yes_2); (· exact rfl)) | ((with_reducible apply wh_yes_3); (· exact rfl)) | ((with_reducible apply wh_yes_4); (· exact rfl)) | ((with_reducible apply wh_yes_5); (· exact rfl)) | ((with_reducible apply wh_yes_6); (· exact rfl)) | ((with_reducible apply wh_yes_7); (· exact rfl)) | ((with_reducible apply wh_yes_8); (· exact rfl)) | ((with_reducible apply wh_yes_9); (· exact rfl)) | ((with_reducible apply wh_yes_10); (· exact rfl)) | ((with_reducible apply wh_yes_11); (· exact rfl)) | ((with_reducible apply wh_yes_12); (· exact rfl)) | ((with_reducible apply wh_yes_13); (· exact rfl)) | ((with_reducible apply wh_yes_14); (· exact rfl)) | ((with_reducible apply wh_yes_15); (· exact rfl)) | ((with_reducible apply wh_yes_16); (· exact rfl)) | ((with_reducible apply wh_yes_17); (· exact rfl)) | ((with_reducible apply wh_yes_18); (· exact rfl)) | ((with_reducible apply wh_yes_19); (· exact rfl)) | ((with_reducible apply wh_yes_20); (· exact rfl)) | ((with_reducible apply wh_yes_21); (· exact rfl)) | ((with_reducible apply wh_yes_22); (· exact rfl)) | ((with_reducible apply wh_yes_23); (· exact rfl)) | ((with_reducible apply wh_yes_24); (· exact rfl)) | ((with_reducible apply wh_yes_25); (· exact rfl)) | ((with_reducible apply wh_yes_26); (· exact rfl)) | ((with_reducible apply wh_yes_27); (· exact rfl)) | ((with_reducible apply wh_yes_28); (· exact rfl)) | ((with_reducible apply wh_yes_29); (· exact rfl)) | ((with_reducible apply wh_yes_30); (· exact rfl)) | ((with_reducible apply wh_yes_31); (· exact rfl)) | ((with_reducible apply wh_yes_32); (· exact rfl)) | ((with_reducible apply wh_yes_33); (· exact rfl)) | ((with_reducible apply wh_yes_34); (· exact rfl)) | ((with_reducible apply wh_yes_35); (· exact rfl)) | ((with_reducible apply wh_yes_36); (· exact rfl)) | ((with_reducible apply wh_yes_37); (· exact rfl)) | ((with_reducible apply wh_yes_38); (· exact rfl)) | ((with_reducible apply wh_yes_39); (· exact rfl)) | with_reducible refine wh_nil ?_) | ((with_reducible refine id_cl ?_); first | with_reducible refine wcl_0 ?_ | with_reducible refine wcl_1 ?_ | with_reducible refine wcl_2 ?_ | with_reducible refine wcl_3 ?_ | with_reducible refine wcl_4 ?_ | with_reducible refine wcl_5 ?_ | with_reducible refine wcl_6 ?_ | with_reducible refine wcl_7 ?_ | with_reducible refine wcl_8 ?_ | with_reducible refine wcl_9 ?_ | with_reducible refine wcl_10 ?_ | with_reducible refine wcl_11 ?_ | with_reducible refine wcl_12 ?_ | with_reducible refine wcl_13 ?_ | with_reducible refine wcl_14 ?_ | with_reducible refine wcl_15 ?_ | with_reducible refine wcl_16 ?_ | with_reducible refine wcl_17 ?_ | with_reducible refine wcl_18 ?_ | with_reducible refine wcl_19 ?_ | with_reducible refine wcl_20 ?_ | with_reducible refine wcl_21 ?_ | with_reducible refine wcl_22 ?_ | with_reducible refine wcl_23 ?_ | with_reducible refine wcl_24 ?_ | with_reducible refine wcl_25 ?_ | with_reducible refine wcl_26 ?_ | with_reducible refine wcl_27 ?_ | with_reducible refine wcl_28 ?_ | with_reducible refine wcl_29 ?_ | with_reducible refine wcl_30 ?_ | with_reducible refine wcl_31 ?_ | with_reducible refine wcl_32 ?_ | with_reducible refine wcl_33 ?_ | with_reducible refine wcl_34 ?_ | with_reducible refine wcl_35 ?_ | with_reducible refine wcl_36 ?_ | with_reducible refine wcl_37 ?_ | with_reducible refine wcl_38 ?_ | with_reducible refine wcl_39 ?_) | with_reducible refine wbl ?_ | with_reducible refine wnot_t ?_ | with_reducible refine wnot_f ?_ | with_reducible refine wnot_n ?_ | with_reducible refine wnot ?_ | with_reducible refine wint ?_ | with_reducible refine wstr ?_ | with_reducible refine wobj ?_ | with_reducible refine wnon ?_ | ((with_reducible apply wat); · array_mem_dec) | ((with_reducible refine wyes_c ?_ ?_); (· exact rfl)) | ((with_reducible refine wyes_k ?_ ?_); (· exact rfl)) | ((with_reducible refine wyes_d ?_ ?_); (· exact ⟨rfl, Nat.le_of_ble_eq_true rfl⟩)) | ((with_reducible refine wyes ?_ ?_); · sizeOf_list_dec) | with_reducible refine wyes wlstT ?_ | with_reducible refine wlst ?_ | with_reducible refine wins ?_ | with_reducible refine winm ?_)
theorem valD_mem : ∀ {kvs : List (Key × DV)} {p : Key × DV}, (keysD kvs).Nodup → p ∈ kvs → valD kvs p.1 = some p.2
  | a :: r, p, hn, hp => by
    have hn : (a.1 :: keysD r).Nodup := hn
    obtain ⟨h1, h2⟩ := List.nodup_cons.mp hn
    rw [valD_cons]
    rcases List.mem_cons.mp hp with e | e
    · rw [e, if_pos rfl]
    · rw [if_neg, valD_mem h2 e]
      intro e2
      exact h1 (by rw [e2]; exact List.mem_map.mpr ⟨p, e, rfl⟩)
theorem map_pick {α β : Type} (l : List α) (f : α → β) (i : Nat) (h : i < l.length) : (l.map f)[i]? = some (f (l[i]'h)) := by rw [List.getElem?_map, List.getElem?_eq_getElem h]; rfl
def mixF : Fn := runF 3 2 mixB
theorem mixF_eq (c k : Int) (mu : Mu) : mixF [.int c, .int k] mu = .ok (.int (mix c k)) mu := mixB_eq c k mu
def s94 : List Nat := [48, 49, 50, 51, 52, 53, 54, 55, 56, 57, 97, 98, 99, 100, 101, 102, 103, 104, 105, 106, 107, 108, 109, 110, 111, 112, 113, 114, 115, 116, 117, 118, 119, 120, 121, 122, 65, 66, 67, 68, 69, 70, 71, 72, 73, 74, 75, 76, 77, 78, 79, 80, 81, 82, 83, 84, 85, 86, 87, 88, 89, 90] ++ [32, 33, 34, 35, 36, 38, 39, 40, 41, 42, 43, 44, 45, 46, 47, 58, 59, 60, 61, 62, 63, 64, 91, 92, 93, 94, 95, 96, 123, 124, 125, 126]
def sig94B : DS := (sSeq (sSet 1 (eC (.str [48, 49, 50, 51, 52, 53, 54, 55, 56, 57, 97, 98, 99, 100, 101, 102, 103, 104, 105, 106, 107, 108, 109, 110, 111, 112, 113, 114, 115, 116, 117, 118, 119, 120, 121, 122, 65, 66, 67, 68, 69, 70, 71, 72, 73, 74, 75, 76, 77, 78, 79, 80, 81, 82, 83, 84, 85, 86, 87, 88, 89, 90])))
  (sSeq (sSet 1 (eOp gAdd (eVar 1) (eC (.str [32, 33, 34, 35, 36, 38, 39, 40, 41, 42, 43, 44, 45, 46, 47, 58, 59, 60, 61, 62, 63, 64, 91, 92, 93, 94, 95, 96, 123, 124, 125, 126]))))
  (sRet (eOp gIxA (eVar 1) (eOp gMod (eVar 0) (eC (.int 94)))))))
def sig94F : Fn := runF 2 1 sig94B
def sg94 (n : Int) : Nat := s94.getD (n % 94).toNat 0
theorem sig94_eq (n : Int) (mu : Mu) : sig94F [.int n] mu = .ok (.str [sg94 n]) mu := by
  have s1 : DM.gMod (.int n) (.int 94) mu = some (.int (n % 94)) := g_mod (by decide)
  have a := Int.emod_nonneg n (by decide : (94 : Int) ≠ 0)
  have b := Int.emod_lt_of_pos n (by decide : (0 : Int) < 94)
  have s2 : gIxA (.str s94) (.int (n % 94)) mu = some (.str [sg94 n]) := (gIxA_seq (fun j h => by cases h)).trans (gIx_mod (by decide) a (by show _ < (94 : Int); omega))
  exact runF_rt rfl (es_seq (m1 := mu) (es_set ev_c) (es_seq (m1 := mu) (es_set (d := .str s94) (ev_op (ev_var rfl) ev_c (gAdd_str (by decide)))) (es_ret (ev_op (ev_var rfl) (ev_op (ev_var rfl) ev_c s1) s2))))
local macro_rules | `(tactic| array_get_dec) => `(tactic| with_reducible refine wc_eq (mixF_eq _ _ _) ?_)
local macro_rules | `(tactic| array_get_dec) => `(tactic| with_reducible refine wc_eq (sig94_eq _ _) ?_)
def cellAB : DS := (sSeq (sIf (eB (eOp gLt0 (eVar 1) (eCB gLen [(eVar 0)])))
  (sRet (eOp gIxA (eVar 0) (eVar 1)))
  sNext)
  (sRet (eC (.int 0))))
theorem cellA_eq (ns : List Int) (k : Nat) (mu : Mu) : runF 2 2 cellAB [.lst (ns.map .int), .int k] mu = .ok (.int (cellI ns k)) mu := by
  refine wc_same ?_
  unfold cellAB
  (refine wc_run rfl (by simp only [startD, List.map_cons, List.map_nil, List.length_cons, List.length_nil, Nat.reduceAdd, Nat.reduceSub, List.replicate, List.cons_append, List.nil_append] <;> exact rfl) ?_; repeat array_get_dec)
  refine wb_dec (fun h => ?_) fun h => ?_
  · rw [List.length_map] at h
    have h : k < ns.length := by omega
    repeat array_get_dec
    refine ixA_lst (map_pick ns DV.int k h) ?_
    refine ⟨?_, rfl⟩
    unfold cellI
    rw [List.getD_eq_getElem?_getD, List.getElem?_eq_getElem h]
    rfl
  · rw [List.length_map] at h
    repeat array_get_dec
    refine ⟨?_, rfl⟩
    unfold cellI
    rw [List.getD_eq_getElem?_getD, List.getElem?_eq_none (by omega)]
    rfl
def keyAt (c : Int) (k : Nat) : List Nat :=
  if mix c 30 % 4 = 0 then List.replicate (k + 1) (sg94 (mix c 31)) else
    (List.range (1 + mix c 1 % 24).toNat).map fun j : Nat => sg94 (mix c (3 + (j : Int)) + 7 * (k : Int) * (if (j : Int) = mix c 2 % (1 + mix c 1 % 24) then 1 else 0))
theorem range_pre {n : Nat} {pre post : List Nat} {a : Nat} (h : List.range n = pre ++ a :: post) : a = pre.length ∧ a < n ∧ pre = List.range a := by
  have e1 : (List.range n)[pre.length]? = some a := by rw [h]; simp
  have e2 : pre.length < n := by
    have := congrArg List.length h
    simp at this
    omega
  rw [List.getElem?_range e2] at e1
  have ea : a = pre.length := by injection e1 with e1; exact e1.symm
  refine ⟨ea, by omega, ?_⟩
  have e3 := congrArg (List.take pre.length) h
  rw [List.take_left, List.take_range] at e3
  rw [← e3, ea, Nat.min_eq_left (by omega)]
structure Ltr where
  pl : Int
  ky : List Nat
  wd : Option (List Nat)
def wdD : Option (List Nat) → DV
  | none => .non
  | some w => .str w
def Ltr.d (l : Ltr) : DV := .tup [.int l.pl, .str l.ky, wdD l.wd]
def fw (ls : List Ltr) (k : Key) : Option (List Nat) := match ls with
  | [] => none
  | a :: r => if Sum.inr (Sx a.ky) = k then a.wd else fw r k
def lw (ls : List Ltr) (k : Key) : Option (List Nat) := fw ls.reverse k
theorem Sx_inj {a b : List Nat} (h : Sx a = Sx b) : a = b := by
  have : (Sx a).cps.toList = (Sx b).cps.toList := by rw [h]
  simpa [SX.S] using this
theorem ky_inj {a b : List Nat} (h : (Sum.inr (Sx a) : Key) = Sum.inr (Sx b)) : a = b := Sx_inj (Sum.inr.inj h)
structure Tab (kvs : List (Key × DV)) (t : Key → Option (List Nat)) : Prop where
  nd : (keysD kvs).Nodup
  val : ∀ k, valD kvs k = (t k).map .str
  len : kvs.length ≤ 1000
theorem len_put {kvs : List (Key × DV)} {k : Key} {d : DV} : (putD kvs k d).length ≤ kvs.length + 1 := by
  unfold putD; split <;> simp
theorem rep_lst {α : Type} {mu : Mu} {f : α → DV} {g : α → PV} (h : ∀ a, Rep mu (f a) (g a)) (l : List α) : Rep mu (.lst (l.map f)) (.lst (l.map g)) := by
  refine .lst (by simp) fun i d p h1 h2 => ?_
  rw [List.getElem?_map] at h1 h2
  cases e : l[i]? with
  | none => rw [e] at h1; cases h1
  | some a => rw [e] at h1 h2; cases h1; cases h2; exact h a
theorem rep_obj {α : Type} {mu : Mu} {f : α → DV} {g : α → PV} {k : Nat} (h : ∀ a, Rep mu (f a) (g a)) (l : List α) (hk : mu[k]? = some (.lst (l.map f))) : Rep mu (.obj k) (.lst (l.map g)) := by
  refine .obj hk (by simp) fun i d p h1 h2 => ?_
  rw [List.getElem?_map] at h1 h2
  cases e : l[i]? with
  | none => rw [e] at h1; cases h1
  | some a => rw [e] at h1 h2; cases h1; cases h2; exact h a
structure Ltr.ok (l : Ltr) : Prop where
  k1 : l.ky.length ≤ 1000
  k2 : ∀ c, c ∈ l.ky → c < 128
  w1 : ∀ w, l.wd = some w → w.length ≤ 1000
  w2 : ∀ w, l.wd = some w → ∀ c, c ∈ w → c < 128
theorem ok_str {l : List Nat} (h : ∀ c, c ∈ l → c < 128) : l.all (· < 1114112) = true := by
  rw [List.all_eq_true]
  intro c hc
  have := h c hc
  exact decide_eq_true (by omega)
abbrev KVs := List (Key × DV)
end DM

namespace DM
open PySem PySem.Spec PyProof.Rows L2
local macro_rules | `(tactic| sizeOf_list_dec) => `(tactic| first | assumption | omega | exact Nat.zero_le _ | (simp only [List.length_cons, List.length_nil, List.length_append, List.length_map, List.length_replicate, List.length_range, List.length_take, List.length_drop, List.length_reverse]; omega) | (decide; done))
local macro_rules | `(tactic| array_mem_dec) => `(tactic| (repeat (first | with_reducible assumption | with_reducible exact mem_new | with_reducible apply mem_same' | ((with_reducible apply mem_ne'); (· first | assumption | omega)) | with_reducible apply mem_old | with_reducible exact mem_hd | with_reducible apply mem_app)); done)
local macro_rules | `(tactic| array_get_dec) => `(tactic| first | ((with_reducible refine id_e ?_); first | with_reducible refine we_c ?_ | with_reducible refine we_op ?_ | with_reducible refine we_cb ?_ | with_reducible refine we_call0 ?_ | with_reducible refine we_call ?_ | with_reducible refine we_B ?_ | with_reducible refine we_tru ?_ | with_reducible refine we_not ?_ | with_reducible refine we_and ?_ | with_reducible refine we_or ?_ | with_reducible refine we_if ?_ | with_reducible refine we_neg ?_ | with_reducible refine we_I ?_ | with_reducible refine we_chain ?_ | with_reducible refine we_tup ?_ | with_reducible refine we_lst ?_ | with_reducible refine we_lstM0 ?_ | with_reducible refine we_lstM ?_ | with_reducible refine we_dnew ?_ | with_reducible refine we_sl ?_ | with_reducible refine we_m1 ?_ | with_reducible refine we_isiT ?_ | with_reducible refine we_append ?_ | with_reducible refine we_get1 ?_ | with_reducible refine we_get2 ?_ | with_reducible refine we_pop2 ?_ | with_reducible refine we_pop1 ?_ | with_reducible refine we_cm ?_ | with_reducible refine we_fld ?_ | with_reducible refine we_meth ?_ | with_reducible refine we_make ?_ | with_reducible refine we_yes ?_ | with_reducible refine we_popA ?_ | ((with_reducible apply we_xf); (· exact rfl)) | ((with_reducible apply we_is); (· exact rfl)) | with_reducible refine we_var_0 ?_ | with_reducible refine we_var_1 ?_ | with_reducible refine we_var_2 ?_ | with_reducible refine we_var_3 ?_ | with_reducible refine we_var_4 ?_ | with_reducible refine we_var_5 ?_ | with_reducible refine we_var_6 ?_ | with_reducible refine we_var_7 ?_ | with_reducible refine we_var_8 ?_ | with_reducible refine we_var_9 ?_ | with_reducible refine we_var_10 ?_ | with_reducible refine we_var_11 ?_ | with_reducible refine we_var_12 ?_ | with_reducible refine we_var_13 ?_ | with_reducible refine we_var_14 ?_ | with_reducible refine we_var_15 ?_ | with_reducible refine we_var_16 ?_ | with_reducible refine we_var_17 ?_ | with_reducible refine we_var_18 ?_ | with_reducible refine we_var_19 ?_ | with_reducible refine we_var_20 ?_ | with_reducible refine we_var_21 ?_ | with_reducible refine we_var_22 ?_ | with_reducible refine we_var_23 ?_ | with_reducible refine we_var_24 ?_ | with_reducible refine we_var_25 ?_ | with_reducible refine we_var_26 ?_ | with_reducible refine we_var_27 ?_ | with_reducible refine we_var_28 ?_ | with_reducible refine we_var_29 ?_ | with_reducible refine we_var_30 ?_ | with_reducible refine we_var_31 ?_ | with_reducible refine we_var_32 ?_ | with_reducible refine we_var_33 ?_ | with_reducible refine we_var_34 ?_ | with_reducible refine we_var_35 ?_ | with_reducible refine we_var_36 ?_ | with_reducible refine we_var_37 ?_ | with_reducible refine we_var_38 ?_ | with_reducible refine we_var_39 ?_) | ((with_reducible refine id_s ?_); first | with_reducible refine ws_seq ?_ | with_reducible refine ws_next ?_ | with_reducible refine ws_drop ?_ | with_reducible refine ws_ret ?_ | with_reducible refine ws_retN ?_ | with_reducible refine ws_brk ?_ | with_reducible refine ws_cnt ?_ | with_reducible refine ws_asg ?_ | with_reducible refine ws_if ?_ | with_reducible refine ws_put ?_ | with_reducible refine ws_fldP ?_ | with_reducible refine ws_fldA ?_ | with_reducible refine ws_daug ?_ | with_reducible refine ws_try ?_ | with_reducible refine ws_raise ?_ | with_reducible refine ws_raise0 ?_ | with_reducible refine ws_set_0 ?_ | with_reducible refine ws_set_1 ?_ | with_reducible refine ws_set_2 ?_ | with_reducible refine ws_set_3 ?_ | with_reducible refine ws_set_4 ?_ | with_reducible refine ws_set_5 ?_ | with_reducible refine ws_set_6 ?_ | with_reducible refine ws_set_7 ?_ | with_reducible refine ws_set_8 ?_ | with_reducible refine ws_set_9 ?_ | with_reducible refine ws_set_10 ?_ | with_reducible refine ws_set_11 ?_ | with_reducible refine ws_set_12 ?_ | with_reducible refine ws_set_13 ?_ | with_reducible refine ws_set_14 ?_ | with_reducible refine ws_set_15 ?_ | with_reducible refine ws_set_16 ?_ | with_reducible refine ws_set_17 ?_ | with_reducible refine ws_set_18 ?_ | with_reducible refine ws_set_19 ?_ | with_reducible refine ws_set_20 ?_ | with_reducible refine ws_set_21 ?_ | with_reducible refine ws_set_22 ?_ | with_reducible refine ws_set_23 ?_ | with_reducible refine ws_set_24 ?_ | with_reducible refine ws_set_25 ?_ | with_reducible refine ws_set_26 ?_ | with_reducible refine ws_set_27 ?_ | with_reducible refine ws_set_28 ?_ | with_reducible refine ws_set_29 ?_ | with_reducible refine ws_set_30 ?_ | with_reducible refine ws_set_31 ?_ | with_reducible refine ws_set_32 ?_ | with_reducible refine ws_set_33 ?_ | with_reducible refine ws_set_34 ?_ | with_reducible refine ws_set_35 ?_ | with_reducible refine ws_set_36 ?_ | with_reducible refine ws_set_37 ?_ | with_reducible refine ws_set_38 ?_ | with_reducible refine ws_set_39 ?_ | with_reducible refine ws_aug_0 ?_ | with_reducible refine ws_aug_1 ?_ | with_reducible refine ws_aug_2 ?_ | with_reducible refine ws_aug_3 ?_ | with_reducible refine ws_aug_4 ?_ | with_reducible refine ws_aug_5 ?_ | with_reducible refine ws_aug_6 ?_ | with_reducible refine ws_aug_7 ?_ | with_reducible refine ws_aug_8 ?_ | with_reducible refine ws_aug_9 ?_ | with_reducible refine ws_aug_10 ?_ | with_reducible refine ws_aug_11 ?_ | with_reducible refine ws_aug_12 ?_ | with_reducible refine ws_aug_13 ?_ | with_reducible refine ws_aug_14 ?_ | with_reducible refine ws_aug_15 ?_ | with_reducible refine ws_aug_16 ?_ | with_reducible refine ws_aug_17 ?_ | with_reducible refine ws_aug_18 ?_ | with_reducible refine ws_aug_19 ?_ | with_reducible refine ws_aug_20 ?_ | with_reducible refine ws_aug_21 ?_ | with_reducible refine ws_aug_22 ?_ | with_reducible refine ws_aug_23 ?_ | with_reducible refine ws_aug_24 ?_ | with_reducible refine ws_aug_25 ?_ | with_reducible refine ws_aug_26 ?_ | with_reducible refine ws_aug_27 ?_ | with_reducible refine ws_aug_28 ?_ | with_reducible refine ws_aug_29 ?_ | with_reducible refine ws_aug_30 ?_ | with_reducible refine ws_aug_31 ?_ | with_reducible refine ws_aug_32 ?_ | with_reducible refine ws_aug_33 ?_ | with_reducible refine ws_aug_34 ?_ | with_reducible refine ws_aug_35 ?_ | with_reducible refine ws_aug_36 ?_ | with_reducible refine ws_aug_37 ?_ | with_reducible refine ws_aug_38 ?_ | with_reducible refine ws_aug_39 ?_) | ((with_reducible refine id_a ?_); first | with_reducible refine wa_cons ?_ | with_reducible refine wa_nil ?_) | ((with_reducible refine id_g ?_); first | with_reducible refine wg_add ?_ | ((with_reducible apply wg_adds); (· sizeOf_list_dec)) | ((with_reducible apply wg_addl); (· sizeOf_list_dec)) | with_reducible refine wg_plus ?_ | ((with_reducible apply wg_pluss); (· sizeOf_list_dec)) | with_reducible refine wg_plusI ?_ | with_reducible refine wg_minus ?_ | with_reducible refine wg_sub ?_ | with_reducible refine wg_pow9 ?_ | with_reducible refine wg_pow6 ?_ | with_reducible refine wg_pow3 ?_ | with_reducible refine wg_pow18 ?_ | ((with_reducible apply wg_mod); (· sizeOf_list_dec)) | ((with_reducible apply wg_div); (· sizeOf_list_dec)) | ((with_reducible apply wg_mul); (· sizeOf_list_dec)) | ((with_reducible apply wg_mulA); (· sizeOf_list_dec)) | ((with_reducible apply wg_mulS1); (· sizeOf_list_dec)) | ((with_reducible apply wg_mulS); (· sizeOf_list_dec)) | with_reducible refine wg_lt ?_ | with_reducible refine wg_le ?_ | with_reducible refine wg_gt ?_ | with_reducible refine wg_ge ?_ | with_reducible refine wg_eq ?_ | with_reducible refine wg_ne ?_ | with_reducible refine wg_eqs ?_ | with_reducible refine wg_nes ?_ | with_reducible refine wg_eqnn ?_ | with_reducible refine wg_eqni ?_ | with_reducible refine wg_eqin ?_ | with_reducible refine wg_eqns ?_ | with_reducible refine wg_eqsn ?_ | with_reducible refine wg_nenn ?_ | with_reducible refine wg_neni ?_ | with_reducible refine wg_nein ?_ | with_reducible refine wg_nens ?_ | with_reducible refine wg_nesn ?_ | with_reducible refine wg_isNn ?_ | with_reducible refine wg_isNi ?_ | with_reducible refine wg_isNs ?_ | with_reducible refine wg_isNt ?_ | with_reducible refine wg_isNl ?_ | with_reducible refine wg_isNo ?_ | with_reducible refine wg_notNn ?_ | with_reducible refine wg_notNi ?_ | with_reducible refine wg_notNs ?_ | with_reducible refine wg_notNt ?_ | with_reducible refine wg_notNl ?_ | with_reducible refine wg_notNo ?_ | ((with_reducible apply wg_lenS); (· sizeOf_list_dec)) | with_reducible refine wg_lenL ?_ | with_reducible refine wg_lenT ?_ | ((with_reducible apply wg_lenM); (· array_mem_dec)) | ((with_reducible apply wg_lenD); (· array_mem_dec)) | with_reducible refine wg_intI ?_ | with_reducible refine wg_intB ?_ | with_reducible refine wg_ord ?_ | with_reducible refine wg_max2 ?_ | with_reducible refine wg_min2 ?_ | with_reducible refine key_int ?_ | with_reducible refine key_str ?_ | ((with_reducible apply wg_look); (· exact rfl)) | ((with_reducible apply wdicR); (· array_mem_dec)) | ((with_reducible apply wdicRF); (· array_mem_dec)) | ((with_reducible apply wdicAt); (· array_mem_dec)) | ((with_reducible apply wput_dic); (· array_mem_dec); (· exact rfl); (· sizeOf_list_dec)) | ((with_reducible apply wput_lst); (· array_mem_dec); (· sizeOf_list_dec)) | with_reducible refine wtr_b ?_ | with_reducible refine wtr_n ?_ | with_reducible refine wtr_i ?_ | ((with_reducible apply wtr_s); (· sizeOf_list_dec)) | with_reducible refine wtr_l ?_ | ((with_reducible apply wtr_m); (· array_mem_dec)) | ((with_reducible apply wtr_d); (· array_mem_dec)) | with_reducible refine wpart_n ?_ | with_reducible refine wpart_i ?_ | ((with_reducible apply wsl_s_to); (· sizeOf_list_dec)) | ((with_reducible apply wsl_s_from); (· sizeOf_list_dec)) | ((with_reducible apply wsl_s_mid); (· sizeOf_list_dec)) | with_reducible refine wsl_l_to ?_ | with_reducible refine wsl_l_from ?_ | with_reducible refine wsl_l_mid ?_ | ((with_reducible apply wsl_m_to); (· array_mem_dec)) | ((with_reducible apply wsl_m_from); (· array_mem_dec)) | ((with_reducible apply wsl_m_mid); (· array_mem_dec)) | with_reducible refine wseqL ?_ | with_reducible refine wseqT ?_ | with_reducible refine wseqS ?_ | ((with_reducible apply wseqM); (· array_mem_dec)) | with_reducible refine wstillL ?_ | ((with_reducible apply wstillF); (· array_mem_dec)) | ((with_reducible apply wcopyD); (· array_mem_dec)) | ((with_reducible apply wlistM); (· array_mem_dec)) | with_reducible refine wlistML ?_ | with_reducible refine wlistMT ?_ | with_reducible refine wlistL ?_ | with_reducible refine wlistT ?_ | ((with_reducible apply wlistO); (· array_mem_dec)) | ((with_reducible apply wgisiT); (· exact rfl); (· exact rfl)) | ((with_reducible apply wgisiF); (· exact rfl); (· exact rfl)) | ((with_reducible apply wgisiT); (· exact ty_dic (by array_mem_dec)); (· exact rfl)) | ((with_reducible apply wgisiF); (· exact ty_dic (by array_mem_dec)); (· exact rfl)) | ((with_reducible apply wgisiT); (· exact ty_lstM (by array_mem_dec)); (· exact rfl)) | ((with_reducible apply wgisiF); (· exact ty_lstM (by array_mem_dec)); (· exact rfl)) | ((with_reducible apply ixA_tup); (· exact rfl)) | ((with_reducible apply inA_non); (· array_mem_dec)) | ((with_reducible apply ninA_non); (· array_mem_dec)) | ((with_reducible apply inA_dic); (· array_mem_dec); (· exact rfl)) | ((with_reducible apply inA_dicF); (· array_mem_dec); (· exact rfl)) | ((with_reducible apply ninA_dic); (· array_mem_dec); (· exact rfl)) | ((with_reducible apply ninA_dicF); (· array_mem_dec); (· exact rfl)) ) | ((with_reducible refine id_b ?_); first | with_reducible refine wb_true ?_ | with_reducible refine wb_false ?_ | ((with_reducible apply wb_pos); (· (first | with_reducible exact rfl | assumption | omega | (simp only [List.length_cons, List.length_nil, List.length_map]); (·  omega)))) | ((with_reducible apply wb_neg); (· (first | with_reducible exact rfl | assumption | omega | (simp only [List.length_cons, List.length_nil, List.length_map]); (·  omega)))) | ((with_reducible apply wb_npos); (· (first | with_reducible exact rfl | assumption | omega | (simp only [List.length_cons, List.length_nil, List.length_map]); (·  omega)))) | ((with_reducible apply wb_nneg); (· (first | with_reducible exact rfl | assumption | omega | (simp only [List.length_cons, List.length_nil, List.length_map]); (·  omega)))) | ((with_reducible apply wb_t); (· assumption)) | ((with_reducible apply wb_f); (· assumption)) ) | ((with_reducible refine id_t ?_); first | with_reducible refine wt_T ?_ | with_reducible refine wt_n_0 ?_ | with_reducible refine wt_n_1 ?_ | with_reducible refine wt_n_2 ?_ | with_reducible refine wt_n_3 ?_ | with_reducible refine wt_n_4 ?_ | with_reducible refine wt_n_5 ?_ | with_reducible refine wt_n_6 ?_ | with_reducible refine wt_n_7 ?_ | with_reducible refine wt_n_8 ?_ | with_reducible refine wt_n_9 ?_ | with_reducible refine wt_n_10 ?_ | with_reducible refine wt_n_11 ?_ | with_reducible refine wt_n_12 ?_ | with_reducible refine wt_n_13 ?_ | with_reducible refine wt_n_14 ?_ | with_reducible refine wt_n_15 ?_ | with_reducible refine wt_n_16 ?_ | with_reducible refine wt_n_17 ?_ | with_reducible refine wt_n_18 ?_ | with_reducible refine wt_n_19 ?_ | with_reducible refine wt_n_20 ?_ | with_reducible refine wt_n_21 ?_ | with_reducible refine wt_n_22 ?_ | with_reducible refine wt_n_23 ?_ | with_reducible refine wt_n_24 ?_ | with_reducible refine wt_n_25 ?_ | with_reducible refine wt_n_26 ?_ | with_reducible refine wt_n_27 ?_ | with_reducible refine wt_n_28 ?_ | with_reducible refine wt_n_29 ?_ | with_reducible refine wt_n_30 ?_ | with_reducible refine wt_n_31 ?_ | with_reducible refine wt_n_32 ?_ | with_reducible refine wt_n_33 ?_ | with_reducible refine wt_n_34 ?_ | with_reducible refine wt_n_35 ?_ | with_reducible refine wt_n_36 ?_ | with_reducible refine wt_n_37 ?_ | with_reducible refine wt_n_38 ?_ | with_reducible refine wt_n_39 ?_) | with_reducible refine wts_cons ?_ | with_reducible refine wts_nil ?_ | ((with_reducible refine id_i ?_); first | with_reducible refine wi_rng ?_ | with_reducible refine wi_rng2 ?_ | with_reducible refine wi_seq ?_ | with_reducible refine wi_dic ?_ | with_reducible refine wi_rv ?_ | with_reducible refine wi_en ?_ | with_reducible refine wi_zp ?_) | ((with_reducible refine id_h ?_); first | ((with_reducible apply wh_no); (· exact rfl)) | ((with_reducible apply wh_bare); (· exact rfl)) | ((with_reducible apply wh_yes_0); (· exact rfl)) | ((with_reducible apply wh_yes_1); (· exact rfl)) | ((with_reducible apply wh_yes_2); (· exact rfl)) | ((with_reducible apply wh_yes_3); (· exact rfl)) | ((with_reducible apply wh_yes_4); (· exact rfl)) | ((with_reducible apply wh_yes_5); (· exact rfl)) | ((with_reducible apply wh_yes_6); (· exact rfl)) | ((with_reducible apply wh_yes_7); (· exact rfl)) | ((with_reducible apply wh_yes_8); (· exact rfl)) | ((with_reducible apply wh_yes_9); (· exact rfl)) | ((with_reducible apply wh_yes_10); (· exact rfl)) | ((with_reducible apply wh_yes_11); (· exact rfl)) | ((with_reducible apply wh_yes_12); (· exact rfl)) | ((with_reducible apply wh_yes_13); (· exact rfl)) | ((with_reducible apply wh_yes_14); (· exact rfl)) | ((with_reducible apply wh_yes_15); (· exact rfl)) | ((with_reducible apply wh_yes_16); (· exact rfl)) | ((with_reducible apply wh_yes_17); (· exact rfl)) | ((with_reducible apply wh_yes_18); (· exact rfl)) | ((with_reducible apply wh_yes_19); (· exact rfl)) | ((with_reducible apply wh_yes_20); (· exact rfl)) | ((with_reducible apply wh_yes_21); (· exact rfl)) | ((with_reducible apply wh_yes_22); (· exact rfl)) | ((with_reducible apply wh_yes_23); (· exact rfl)) | ((with_reducible apply wh_yes_24); (· exact rfl)) | ((with_reducible apply wh_yes_25); (· exact rfl)) | ((with_reducible apply wh_yes_26); (· exact rfl)) | ((with_reducible apply wh_yes_27); (· exact rfl)) | ((with_reducible apply wh_yes_28); (· exact rfl)) | ((with_reducible apply wh_yes_29); (· exact rfl)) | ((with_reducible apply wh_yes_30); (· exact rfl)) | ((with_reducible apply wh_yes_31); (· exact rfl)) | ((with_reducible apply wh_yes_32); (· exact rfl)) | ((with_reducible apply wh_yes_33); (· exact rfl)) | ((with_reducible apply wh_yes_34); (· exact rfl)) | ((with_reducible apply wh_yes_35); (· exact rfl)) | ((with_reducible apply wh_yes_36); (· exact rfl)) | ((with_reducible apply wh_yes_37); (· exact rfl)) | ((with_reducible apply wh_yes_38); (· exact rfl)) | ((with_reducible apply wh_yes_39); (· exact rfl)) | with_reducible refine wh_nil ?_) | ((with_reducible refine id_cl ?_); first | with_reducible refine wcl_0 ?_ | with_reducible refine wcl_1 ?_ | with_reducible refine wcl_2 ?_ | with_reducible refine wcl_3 ?_ | with_reducible refine wcl_4 ?_ | with_reducible refine wcl_5 ?_ | with_reducible refine wcl_6 ?_ | with_reducible refine wcl_7 ?_ | with_reducible refine wcl_8 ?_ | with_reducible refine wcl_9 ?_ | with_reducible refine wcl_10 ?_ | with_reducible refine wcl_11 ?_ | with_reducible refine wcl_12 ?_ | with_reducible refine wcl_13 ?_ | with_reducible refine wcl_14 ?_ | with_reducible refine wcl_15 ?_ | with_reducible refine wcl_16 ?_ | with_reducible refine wcl_17 ?_ | with_reducible refine wcl_18 ?_ | with_reducible refine wcl_19 ?_ | with_reducible refine wcl_20 ?_ | with_reducible refine wcl_21 ?_ | with_reducible refine wcl_22 ?_ | with_reducible refine wcl_23 ?_ | with_reducible refine wcl_24 ?_ | with_reducible refine wcl_25 ?_ | with_reducible refine wcl_26 ?_ | with_reducible refine wcl_27 ?_ | with_reducible refine wcl_28 ?_ | with_reducible refine wcl_29 ?_ | with_reducible refine wcl_30 ?_ | with_reducible refine wcl_31 ?_ | with_reducible refine wcl_32 ?_ | with_reducible refine wcl_33 ?_ | with_reducible refine wcl_34 ?_ | with_reducible refine wcl_35 ?_ | with_reducible refine wcl_36 ?_ | with_reducible refine wcl_37 ?_ | with_reducible refine wcl_38 ?_ | with_reducible refine wcl_39 ?_) | with_reducible refine wbl ?_ | with_reducible refine wnot_t ?_ | with_reducible refine wnot_f ?_ | with_reducible refine wnot_n ?_ | with_reducible refine wnot ?_ | with_reducible refine wint ?_ | with_reducible refine wstr ?_ | with_reducible refine wobj ?_ | with_reducible refine wnon ?_ | ((with_reducible apply wat); · array_mem_dec) | ((with_reducible refine wyes_c ?_ ?_); (· exact rfl)) | ((with_reducible refine wyes_k ?_ ?_); (· exact rfl)) | ((with_reducible refine wyes_d ?_ ?_); (· exact ⟨rfl, Nat.le_of_ble_eq_true rfl⟩)) | ((with_reducible refine wyes ?_ ?_); · sizeOf_list_dec) | with_reducible refine wyes wlstT ?_ | with_reducible refine wlst ?_ | with_reducible refine wins ?_ | with_reducible refine winm ?_)
structure RL extends Ltr where
  dd : Int
def RL.dv (l : RL) : DV := .tup [.str l.ky, wdD l.wd, .int l.dd]
def rl (ls : List RL) : Key → Option DV
  | .inl p => (ls.find? fun l => decide (l.pl = p)).map RL.dv
  | .inr _ => none
def rowF (f e dr : Int) (d : Nat) : List (Str × DV) := [("first", .int f), ("end", .int e), ("drawn", .int dr), ("letters", .obj d)]
structure RowOk (m : Mu) (r d : Nat) (f e dr : Int) (ls : List RL) : Prop where
  ob : m[r]? = some (.ins "Row" (rowF f e dr d))
  di : ∃ kvs : KVs, m[d]? = some (.dic kvs) ∧ (∀ k, valD kvs k = rl ls k) ∧ (kvs.length : Int) ≤ e
  ne : r ≠ d
  srt : ls.Pairwise fun a b => a.pl < b.pl
  rng : ∀ l, l ∈ ls → f ≤ l.pl ∧ l.pl < e
  fe : 0 ≤ f ∧ f ≤ e
section
variable {m m' : Mu} {r d : Nat} {f e dr : Int} {ls : List RL}
def fl (i p : Int) (ls : List RL) : List RL := ls.filter fun l => decide (i ≤ l.pl ∧ l.pl < p)
end
end DM

namespace DM
open PySem PySem.Spec PyProof.Rows L2
local macro_rules | `(tactic| sizeOf_list_dec) => `(tactic| first | assumption | omega | exact Nat.zero_le _ | (simp only [List.length_cons, List.length_nil, List.length_append, List.length_map, List.length_replicate, List.length_range, List.length_take, List.length_drop, List.length_reverse]; omega) | (decide; done))
local macro_rules | `(tactic| array_mem_dec) => `(tactic| (repeat (first | with_reducible assumption | with_reducible exact mem_new | with_reducible apply mem_same' | ((with_reducible apply mem_ne'); (· first | assumption | omega)) | with_reducible apply mem_old | with_reducible exact mem_hd | with_reducible apply mem_app)); done)
local macro_rules | `(tactic| array_get_dec) => `(tactic| first | ((with_reducible refine id_e ?_); first | with_reducible refine we_c ?_ | with_reducible refine we_op ?_ | with_reducible refine we_cb ?_ | with_reducible refine we_call0 ?_ | with_reducible refine we_call ?_ | with_reducible refine we_B ?_ | with_reducible refine we_tru ?_ | with_reducible refine we_not ?_ | with_reducible refine we_and ?_ | with_reducible refine we_or ?_ | with_reducible refine we_if ?_ | with_reducible refine we_neg ?_ | with_reducible refine we_I ?_ | with_reducible refine we_chain ?_ | with_reducible refine we_tup ?_ | with_reducible refine we_lst ?_ | with_reducible refine we_lstM0 ?_ | with_reducible refine we_lstM ?_ | with_reducible refine we_dnew ?_ | with_reducible refine we_sl ?_ | with_reducible refine we_m1 ?_ | with_reducible refine we_isiT ?_ | with_reducible refine we_append ?_ | with_reducible refine we_get1 ?_ | with_reducible refine we_get2 ?_ | with_reducible refine we_pop2 ?_ | with_reducible refine we_pop1 ?_ | with_reducible refine we_cm ?_ | with_reducible refine we_fld ?_ | with_reducible refine we_meth ?_ | with_reducible refine we_make ?_ | with_reducible refine we_yes ?_ | with_reducible refine we_popA ?_ | ((with_reducible apply we_xf); (· exact rfl)) | ((with_reducible apply we_is); (· exact rfl)) | with_reducible refine we_var_0 ?_ | with_reducible refine we_var_1 ?_ | with_reducible refine we_var_2 ?_ | with_reducible refine we_var_3 ?_ | with_reducible refine we_var_4 ?_ | with_reducible refine we_var_5 ?_ | with_reducible refine we_var_6 ?_ | with_reducible refine we_var_7 ?_ | with_reducible refine we_var_8 ?_ | with_reducible refine we_var_9 ?_ | with_reducible refine we_var_10 ?_ | with_reducible refine we_var_11 ?_ | with_reducible refine we_var_12 ?_ | with_reducible refine we_var_13 ?_ | with_reducible refine we_var_14 ?_ | with_reducible refine we_var_15 ?_ | with_reducible refine we_var_16 ?_ | with_reducible refine we_var_17 ?_ | with_reducible refine we_var_18 ?_ | with_reducible refine we_var_19 ?_ | with_reducible refine we_var_20 ?_ | with_reducible refine we_var_21 ?_ | with_reducible refine we_var_22 ?_ | with_reducible refine we_var_23 ?_ | with_reducible refine we_var_24 ?_ | with_reducible refine we_var_25 ?_ | with_reducible refine we_var_26 ?_ | with_reducible refine we_var_27 ?_ | with_reducible refine we_var_28 ?_ | with_reducible refine we_var_29 ?_ | with_reducible refine we_var_30 ?_ | with_reducible refine we_var_31 ?_ | with_reducible refine we_var_32 ?_ | with_reducible refine we_var_33 ?_ | with_reducible refine we_var_34 ?_ | with_reducible refine we_var_35 ?_ | with_reducible refine we_var_36 ?_ | with_reducible refine we_var_37 ?_ | with_reducible refine we_var_38 ?_ | with_reducible refine we_var_39 ?_) | ((with_reducible refine id_s ?_); first | with_reducible refine ws_seq ?_ | with_reducible refine ws_next ?_ | with_reducible refine ws_drop ?_ | with_reducible refine ws_ret ?_ | with_reducible refine ws_retN ?_ | with_reducible refine ws_brk ?_ | with_reducible refine ws_cnt ?_ | with_reducible refine ws_asg ?_ | with_reducible refine ws_if ?_ | with_reducible refine ws_put ?_ | with_reducible refine ws_fldP ?_ | with_reducible refine ws_fldA ?_ | with_reducible refine ws_daug ?_ | with_reducible refine ws_try ?_ | with_reducible refine ws_raise ?_ | with_reducible refine ws_raise0 ?_ | with_reducible refine ws_set_0 ?_ | with_reducible refine ws_set_1 ?_ | with_reducible refine ws_set_2 ?_ | with_reducible refine ws_set_3 ?_ | with_reducible refine ws_set_4 ?_ | with_reducible refine ws_set_5 ?_ | with_reducible refine ws_set_6 ?_ | with_reducible refine ws_set_7 ?_ | with_reducible refine ws_set_8 ?_ | with_reducible refine ws_set_9 ?_ | with_reducible refine ws_set_10 ?_ | with_reducible refine ws_set_11 ?_ | with_reducible refine ws_set_12 ?_ | with_reducible refine ws_set_13 ?_ | with_reducible refine ws_set_14 ?_ | with_reducible refine ws_set_15 ?_ | with_reducible refine ws_set_16 ?_ | with_reducible refine ws_set_17 ?_ | with_reducible refine ws_set_18 ?_ | with_reducible refine ws_set_19 ?_ | with_reducible refine ws_set_20 ?_ | with_reducible refine ws_set_21 ?_ | with_reducible refine ws_set_22 ?_ | with_reducible refine ws_set_23 ?_ | with_reducible refine ws_set_24 ?_ | with_reducible refine ws_set_25 ?_ | with_reducible refine ws_set_26 ?_ | with_reducible refine ws_set_27 ?_ | with_reducible refine ws_set_28 ?_ | with_reducible refine ws_set_29 ?_ | with_reducible refine ws_set_30 ?_ | with_reducible refine ws_set_31 ?_ | with_reducible refine ws_set_32 ?_ | with_reducible refine ws_set_33 ?_ | with_reducible refine ws_set_34 ?_ | with_reducible refine ws_set_35 ?_ | with_reducible refine ws_set_36 ?_ | with_reducible refine ws_set_37 ?_ | with_reducible refine ws_set_38 ?_ | with_reducible refine ws_set_39 ?_ | with_reducible refine ws_aug_0 ?_ | with_reducible refine ws_aug_1 ?_ | with_reducible refine ws_aug_2 ?_ | with_reducible refine ws_aug_3 ?_ | with_reducible refine ws_aug_4 ?_ | with_reducible refine ws_aug_5 ?_ | with_reducible refine ws_aug_6 ?_ | with_reducible refine ws_aug_7 ?_ | with_reducible refine ws_aug_8 ?_ | with_reducible refine ws_aug_9 ?_ | with_reducible refine ws_aug_10 ?_ | with_reducible refine ws_aug_11 ?_ | with_reducible refine ws_aug_12 ?_ | with_reducible refine ws_aug_13 ?_ | with_reducible refine ws_aug_14 ?_ | with_reducible refine ws_aug_15 ?_ | with_reducible refine ws_aug_16 ?_ | with_reducible refine ws_aug_17 ?_ | with_reducible refine ws_aug_18 ?_ | with_reducible refine ws_aug_19 ?_ | with_reducible refine ws_aug_20 ?_ | with_reducible refine ws_aug_21 ?_ | with_reducible refine ws_aug_22 ?_ | with_reducible refine ws_aug_23 ?_ | with_reducible refine ws_aug_24 ?_ | with_reducible refine ws_aug_25 ?_ | with_reducible refine ws_aug_26 ?_ | with_reducible refine ws_aug_27 ?_ | with_reducible refine ws_aug_28 ?_ | with_reducible refine ws_aug_29 ?_ | with_reducible refine ws_aug_30 ?_ | with_reducible refine ws_aug_31 ?_ | with_reducible refine ws_aug_32 ?_ | with_reducible refine ws_aug_33 ?_ | with_reducible refine ws_aug_34 ?_ | with_reducible refine ws_aug_35 ?_ | with_reducible refine ws_aug_36 ?_ | with_reducible refine ws_aug_37 ?_ | with_reducible refine ws_aug_38 ?_ | with_reducible refine ws_aug_39 ?_) | ((with_reducible refine id_a ?_); first | with_reducible refine wa_cons ?_ | with_reducible refine wa_nil ?_) | ((with_reducible refine id_g ?_); first | with_reducible refine wg_add ?_ | ((with_reducible apply wg_adds); (· sizeOf_list_dec)) | ((with_reducible apply wg_addl); (· sizeOf_list_dec)) | with_reducible refine wg_plus ?_ | ((with_reducible apply wg_pluss); (· sizeOf_list_dec)) | with_reducible refine wg_plusI ?_ | with_reducible refine wg_minus ?_ | with_reducible refine wg_sub ?_ | with_reducible refine wg_pow9 ?_ | with_reducible refine wg_pow6 ?_ | with_reducible refine wg_pow3 ?_ | with_reducible refine wg_pow18 ?_ | ((with_reducible apply wg_mod); (· sizeOf_list_dec)) | ((with_reducible apply wg_div); (· sizeOf_list_dec)) | ((with_reducible apply wg_mul); (· sizeOf_list_dec)) | ((with_reducible apply wg_mulA); (· sizeOf_list_dec)) | ((with_reducible apply wg_mulS1); (· sizeOf_list_dec)) | ((with_reducible apply wg_mulS); (· sizeOf_list_dec)) | with_reducible refine wg_lt ?_ | with_reducible refine wg_le ?_ | with_reducible refine wg_gt ?_ | with_reducible refine wg_ge ?_ | with_reducible refine wg_eq ?_ | with_reducible refine wg_ne ?_ | with_reducible refine wg_eqs ?_ | with_reducible refine wg_nes ?_ | with_reducible refine wg_eqnn ?_ | with_reducible refine wg_eqni ?_ | with_reducible refine wg_eqin ?_ | with_reducible refine wg_eqns ?_ | with_reducible refine wg_eqsn ?_ | with_reducible refine wg_nenn ?_ | with_reducible refine wg_neni ?_ | with_reducible refine wg_nein ?_ | with_reducible refine wg_nens ?_ | with_reducible refine wg_nesn ?_ | with_reducible refine wg_isNn ?_ | with_reducible refine wg_isNi ?_ | with_reducible refine wg_isNs ?_ | with_reducible refine wg_isNt ?_ | with_reducible refine wg_isNl ?_ | with_reducible refine wg_isNo ?_ | with_reducible refine wg_notNn ?_ | with_reducible refine wg_notNi ?_ | with_reducible refine wg_notNs ?_ | with_reducible refine wg_notNt ?_ | with_reducible refine wg_notNl ?_ | with_reducible refine wg_notNo ?_ | ((with_reducible apply wg_lenS); (· sizeOf_list_dec)) | with_reducible refine wg_lenL ?_ | with_reducible refine wg_lenT ?_ | ((with_reducible apply wg_lenM); (· array_mem_dec)) | ((with_reducible apply wg_lenD); (· array_mem_dec)) | with_reducible refine wg_intI ?_ | with_reducible refine wg_intB ?_ | with_reducible refine wg_ord ?_ | with_reducible refine wg_max2 ?_ | with_reducible refine wg_min2 ?_ | with_reducible refine key_int ?_ | with_reducible refine key_str ?_ | ((with_reducible apply wg_look); (· exact rfl)) | ((with_reducible apply wdicR); (· array_mem_dec)) | ((with_reducible apply wdicRF); (· array_mem_dec)) | ((with_reducible apply wdicAt); (· array_mem_dec)) | ((with_reducible apply wput_dic); (· array_mem_dec); (· exact rfl); (· sizeOf_list_dec)) | ((with_reducible apply wput_lst); (· array_mem_dec); (· sizeOf_list_dec)) | with_reducible refine wtr_b ?_ | with_reducible refine wtr_n ?_ | with_reducible refine wtr_i ?_ | ((with_reducible apply wtr_s); (· sizeOf_list_dec)) | with_reducible refine wtr_l ?_ | ((with_reducible apply wtr_m); (· array_mem_dec)) | ((with_reducible apply wtr_d); (· array_mem_dec)) | with_reducible refine wpart_n ?_ | with_reducible refine wpart_i ?_ | ((with_reducible apply wsl_s_to); (· sizeOf_list_dec)) | ((with_reducible apply wsl_s_from); (· sizeOf_list_dec)) | ((with_reducible apply wsl_s_mid); (· sizeOf_list_dec)) | with_reducible refine wsl_l_to ?_ | with_reducible refine wsl_l_from ?_ | with_reducible refine wsl_l_mid ?_ | ((with_reducible apply wsl_m_to); (· array_mem_dec)) | ((with_reducible apply wsl_m_from); (· array_mem_dec)) | ((with_reducible apply wsl_m_mid); (· array_mem_dec)) | with_reducible refine wseqL ?_ | with_reducible refine wseqT ?_ | with_reducible refine wseqS ?_ | ((with_reducible apply wseqM); (· array_mem_dec)) | with_reducible refine wstillL ?_ | ((with_reducible apply wstillF); (· array_mem_dec)) | ((with_reducible apply wcopyD); (· array_mem_dec)) | ((with_reducible apply wlistM); (· array_mem_dec)) | with_reducible refine wlistML ?_ | with_reducible refine wlistMT ?_ | with_reducible refine wlistL ?_ | with_reducible refine wlistT ?_ | ((with_reducible apply wlistO); (· array_mem_dec)) | ((with_reducible apply wgisiT); (· exact rfl); (· exact rfl)) | ((with_reducible apply wgisiF); (· exact rfl); (· exact rfl)) | ((with_reducible apply wgisiT); (· exact ty_dic (by array_mem_dec)); (· exact rfl)) | ((with_reducible apply wgisiF); (· exact ty_dic (by array_mem_dec)); (· exact rfl)) | ((with_reducible apply wgisiT); (· exact ty_lstM (by array_mem_dec)); (· exact rfl)) | ((with_reducible apply wgisiF); (· exact ty_lstM (by array_mem_dec)); (· exact rfl)) | ((with_reducible apply ixA_tup); (· exact rfl)) | ((with_reducible apply inA_non); (· array_mem_dec)) | ((with_reducible apply ninA_non); (· array_mem_dec)) | ((with_reducible apply inA_dic); (· array_mem_dec); (· exact rfl)) | ((with_reducible apply inA_dicF); (· array_mem_dec); (· exact rfl)) | ((with_reducible apply ninA_dic); (· array_mem_dec); (· exact rfl)) | ((with_reducible apply ninA_dicF); (· array_mem_dec); (· exact rfl)) ) | ((with_reducible refine id_b ?_); first | with_reducible refine wb_true ?_ | with_reducible refine wb_false ?_ | ((with_reducible apply wb_pos); (· (first | with_reducible exact rfl | assumption | omega | (simp only [List.length_cons, List.length_nil, List.length_map]); (·  omega)))) | ((with_reducible apply wb_neg); (· (first | with_reducible exact rfl | assumption | omega | (simp only [List.length_cons, List.length_nil, List.length_map]); (·  omega)))) | ((with_reducible apply wb_npos); (· (first | with_reducible exact rfl | assumption | omega | (simp only [List.length_cons, List.length_nil, List.length_map]); (·  omega)))) | ((with_reducible apply wb_nneg); (· (first | with_reducible exact rfl | assumption | omega | (simp only [List.length_cons, List.length_nil, List.length_map]); (·  omega)))) | ((with_reducible apply wb_t); (· assumption)) | ((with_reducible apply wb_f); (· assumption)) ) | ((with_reducible refine id_t ?_); first | with_reducible refine wt_T ?_ | with_reducible refine wt_n_0 ?_ | with_reducible refine wt_n_1 ?_ | with_reducible refine wt_n_2 ?_ | with_reducible refine wt_n_3 ?_ | with_reducible refine wt_n_4 ?_ | with_reducible refine wt_n_5 ?_ | with_reducible refine wt_n_6 ?_ | with_reducible refine wt_n_7 ?_ | with_reducible refine wt_n_8 ?_ | with_reducible refine wt_n_9 ?_ | with_reducible refine wt_n_10 ?_ | with_reducible refine wt_n_11 ?_ | with_reducible refine wt_n_12 ?_ | with_reducible refine wt_n_13 ?_ | with_reducible refine wt_n_14 ?_ | with_reducible refine wt_n_15 ?_ | with_reducible refine wt_n_16 ?_ | with_reducible refine wt_n_17 ?_ | with_reducible refine wt_n_18 ?_ | with_reducible refine wt_n_19 ?_ | with_reducible refine wt_n_20 ?_ | with_reducible refine wt_n_21 ?_ | with_reducible refine wt_n_22 ?_ | with_reducible refine wt_n_23 ?_ | with_reducible refine wt_n_24 ?_ | with_reducible refine wt_n_25 ?_ | with_reducible refine wt_n_26 ?_ | with_reducible refine wt_n_27 ?_ | with_reducible refine wt_n_28 ?_ | with_reducible refine wt_n_29 ?_ | with_reducible refine wt_n_30 ?_ | with_reducible refine wt_n_31 ?_ | with_reducible refine wt_n_32 ?_ | with_reducible refine wt_n_33 ?_ | with_reducible refine wt_n_34 ?_ | with_reducible refine wt_n_35 ?_ | with_reducible refine wt_n_36 ?_ | with_reducible refine wt_n_37 ?_ | with_reducible refine wt_n_38 ?_ | with_reducible refine wt_n_39 ?_) | with_reducible refine wts_cons ?_ | with_reducible refine wts_nil ?_ | ((with_reducible refine id_i ?_); first | with_reducible refine wi_rng ?_ | with_reducible refine wi_rng2 ?_ | with_reducible refine wi_seq ?_ | with_reducible refine wi_dic ?_ | with_reducible refine wi_rv ?_ | with_reducible refine wi_en ?_ | with_reducible refine wi_zp ?_) | ((with_reducible refine id_h ?_); first | ((with_reducible apply wh_no); (· exact rfl)) | ((with_reducible apply wh_bare); (· exact rfl)) | ((with_reducible apply wh_yes_0); (· exact rfl)) | ((with_reducible apply wh_yes_1); (· exact rfl)) | ((with_reducible apply wh_yes_2); (· exact rfl)) | ((with_reducible apply wh_yes_3); (· exact rfl)) | ((with_reducible apply wh_yes_4); (· exact rfl)) | ((with_reducible apply wh_yes_5); (· exact rfl)) | ((with_reducible apply wh_yes_6); (· exact rfl)) | ((with_reducible apply wh_yes_7); (· exact rfl)) | ((with_reducible apply wh_yes_8); (· exact rfl)) | ((with_reducible apply wh_yes_9); (· exact rfl)) | ((with_reducible apply wh_yes_10); (· exact rfl)) | ((with_reducible apply wh_yes_11); (· exact rfl)) | ((with_reducible apply wh_yes_12); (· exact rfl)) | ((with_reducible apply wh_yes_13); (· exact rfl)) | ((with_reducible apply wh_yes_14); (· exact rfl)) | ((with_reducible apply wh_yes_15); (· exact rfl)) | ((with_reducible apply wh_yes_16); (· exact rfl)) | ((with_reducible apply wh_yes_17); (· exact rfl)) | ((with_reducible apply wh_yes_18); (· exact rfl)) | ((with_reducible apply wh_yes_19); (· exact rfl)) | ((with_reducible apply wh_yes_20); (· exact rfl)) | ((with_reducible apply wh_yes_21); (· exact rfl)) | ((with_reducible apply wh_yes_22); (· exact rfl)) | ((with_reducible apply wh_yes_23); (· exact rfl)) | ((with_reducible apply wh_yes_24); (· exact rfl)) | ((with_reducible apply wh_yes_25); (· exact rfl)) | ((with_reducible apply wh_yes_26); (· exact rfl)) | ((with_reducible apply wh_yes_27); (· exact rfl)) | ((with_reducible apply wh_yes_28); (· exact rfl)) | ((with_reducible apply wh_yes_29); (· exact rfl)) | ((with_reducible apply wh_yes_30); (· exact rfl)) | ((with_reducible apply wh_yes_31); (· exact rfl)) | ((with_reducible apply wh_yes_32); (· exact rfl)) | ((with_reducible apply wh_yes_33); (· exact rfl)) | ((with_reducible apply wh_yes_34); (· exact rfl)) | ((with_reducible apply wh_yes_35); (· exact rfl)) | ((with_reducible apply wh_yes_36); (· exact rfl)) | ((with_reducible apply wh_yes_37); (· exact rfl)) | ((with_reducible apply wh_yes_38); (· exact rfl)) | ((with_reducible apply wh_yes_39); (· exact rfl)) | with_reducible refine wh_nil ?_) | ((with_reducible refine id_cl ?_); first | with_reducible refine wcl_0 ?_ | with_reducible refine wcl_1 ?_ | with_reducible refine wcl_2 ?_ | with_reducible refine wcl_3 ?_ | with_reducible refine wcl_4 ?_ | with_reducible refine wcl_5 ?_ | with_reducible refine wcl_6 ?_ | with_reducible refine wcl_7 ?_ | with_reducible refine wcl_8 ?_ | with_reducible refine wcl_9 ?_ | with_reducible refine wcl_10 ?_ | with_reducible refine wcl_11 ?_ | with_reducible refine wcl_12 ?_ | with_reducible refine wcl_13 ?_ | with_reducible refine wcl_14 ?_ | with_reducible refine wcl_15 ?_ | with_reducible refine wcl_16 ?_ | with_reducible refine wcl_17 ?_ | with_reducible refine wcl_18 ?_ | with_reducible refine wcl_19 ?_ | with_reducible refine wcl_20 ?_ | with_reducible refine wcl_21 ?_ | with_reducible refine wcl_22 ?_ | with_reducible refine wcl_23 ?_ | with_reducible refine wcl_24 ?_ | with_reducible refine wcl_25 ?_ | with_reducible refine wcl_26 ?_ | with_reducible refine wcl_27 ?_ | with_reducible refine wcl_28 ?_ | with_reducible refine wcl_29 ?_ | with_reducible refine wcl_30 ?_ | with_reducible refine wcl_31 ?_ | with_reducible refine wcl_32 ?_ | with_reducible refine wcl_33 ?_ | with_reducible refine wcl_34 ?_ | with_reducible refine wcl_35 ?_ | with_reducible refine wcl_36 ?_ | with_reducible refine wcl_37 ?_ | with_reducible refine wcl_38 ?_ | with_reducible refine wcl_39 ?_) | with_reducible refine wbl ?_ | with_reducible refine wnot_t ?_ | with_reducible refine wnot_f ?_ | with_reducible refine wnot_n ?_ | with_reducible refine wnot ?_ | with_reducible refine wint ?_ | with_reducible refine wstr ?_ | with_reducible refine wobj ?_ | with_reducible refine wnon ?_ | ((with_reducible apply wat); · array_mem_dec) | ((with_reducible refine wyes_c ?_ ?_); (· exact rfl)) | ((with_reducible refine wyes_k ?_ ?_); (· exact rfl)) | ((with_reducible refine wyes_d ?_ ?_); (· exact ⟨rfl, Nat.le_of_ble_eq_true rfl⟩)) | ((with_reducible refine wyes ?_ ?_); · sizeOf_list_dec) | with_reducible refine wyes wlstT ?_ | with_reducible refine wlst ?_ | with_reducible refine wins ?_ | with_reducible refine winm ?_)
def cellX (ns : List Int) (k : Int) : Int := mix (ns.getD k.toNat (104729 * k + 7)) k
def cellXB : DS := (sSeq (sSet 2 (eOp gAdd (eOp gMulA (eC (.int 104729)) (eVar 1)) (eC (.int 7))))
  (sSeq (sIf (eB (eOp gLt0 (eVar 1) (eCB gLen [(eVar 0)])))
  (sSet 2 (eOp gIxA (eVar 0) (eVar 1)))
  sNext)
  (sSeq (sSet 2 (eOp gMod (eOp gAdd (eOp gAdd (eOp gMulA (eOp gMod (eVar 2) (eC (.int 2147483647))) (eC (.int 48271))) (eOp gMulA (eC (.int 7919)) (eVar 1))) (eC (.int 1))) (eC (.int 2147483647))))
  (sRet (eOp gMod (eOp gMulA (eVar 2) (eVar 2)) (eC (.int 2147483647)))))))
def cellXF : Fn := runF 3 2 cellXB
theorem cellX_eq (ns : List Int) (k : Int) (mu : Mu) (hk : 0 ≤ k) : cellXF [.lst (ns.map .int), .int k] mu = .ok (.int (cellX ns k)) mu := by
  refine wc_same ?_
  obtain ⟨k, rfl⟩ := Int.eq_ofNat_of_zero_le hk
  unfold cellXF cellXB
  (refine wc_run rfl (by simp only [startD, List.map_cons, List.map_nil, List.length_cons, List.length_nil, Nat.reduceAdd, Nat.reduceSub, List.replicate, List.cons_append, List.nil_append] <;> exact rfl) ?_; repeat ((fail_if_success (with_reducible refine ws_if ?_)); array_get_dec))
  refine ws_nx (N' := fun dl m' => m' = mu ∧ dl = [some (.lst (ns.map DV.int)), some (.int (k : Int)), some (.int (ns.getD k (104729 * (k : Int) + 7)))]) ?_ ?_
  · refine ws_if ?_
    repeat array_get_dec
    rw [List.length_map]
    refine wb_dec (fun h => ?_) fun h => ?_
    · have h : k < ns.length := by omega
      repeat array_get_dec
      refine ixA_lst (map_pick ns DV.int k h) ?_
      refine ⟨rfl, ?_⟩
      rw [List.getD_eq_getElem?_getD, List.getElem?_eq_getElem h]
      rfl
    · repeat array_get_dec
      refine ⟨rfl, ?_⟩
      rw [List.getD_eq_getElem?_getD, List.getElem?_eq_none (by omega)]
      rfl
  · rintro _ _ ⟨rfl, rfl⟩
    have h0 : 0 ≤ mixN (ns.getD k (104729 * (k : Int) + 7)) k := Int.emod_nonneg _ (by decide)
    have h1 : mixN (ns.getD k (104729 * (k : Int) + 7)) k < 2147483647 := Int.emod_lt_of_pos _ (by decide)
    repeat array_get_dec
    exact ⟨rfl, rfl⟩
local macro_rules | `(tactic| array_get_dec) => `(tactic| ((with_reducible refine wc_eq (cellX_eq _ _ _ ?_) ?_); (· sizeOf_list_dec)))
def nsT : List Nat := [97, 98, 99, 100, 101, 102, 103, 104, 105, 106, 107, 108, 109, 110, 111, 112, 113, 114, 115, 116, 117, 118, 119, 120, 121, 122, 48, 49, 50, 51, 52, 53, 54, 55, 56, 57]
structure LN where
  p : Int
  n : Int
  t : List Nat
  e : Int
def LN.d (x : LN) : DV := .tup [.int x.n, .str x.t, .int x.e]
def lnK (L : List LN) : KVs := L.map fun x => (.inl x.p, x.d)
def lenF (row st tu tr wd n : Int) (lo co fa : Nat) : List (Str × DV) := [("row", .int row), ("start", .int st), ("turns", .int tu), ("tries", .int tr), ("width", .int wd), ("lent", .int n), ("loans", .obj lo), ("counts", .obj co), ("fates", .obj fa)]
structure LenOk (m : Mu) (q lo co fa : Nat) (row st tu tr wd n : Int) (L : List LN) (C Fk : KVs) : Prop where
  ob : m[q]? = some (.ins "Lending" (lenF row st tu tr wd n lo co fa))
  l : m[lo]? = some (.dic (lnK L))
  c : m[co]? = some (.dic C)
  f : m[fa]? = some (.dic Fk)
  ne : q ≠ lo ∧ q ≠ co ∧ q ≠ fa ∧ lo ≠ co ∧ lo ≠ fa ∧ co ≠ fa
section
variable {m m' : Mu} {q lo co fa : Nat} {row st tu tr wd n : Int} {L : List LN} {C Fk : KVs}
def freeB (L : List LN) (Fk : KVs) (tn p : Int) : Bool := !(valD Fk (.inl p)).isSome && (match L.find? fun x => decide (x.p = p) with | none => true | some x => decide (x.e ≤ tn))
def optD : Option Int → DV
  | none => .non
  | some i => .int i
end
end DM

namespace DM
open PySem PySem.Spec PyProof.Rows L2
local macro_rules | `(tactic| sizeOf_list_dec) => `(tactic| first | assumption | omega | exact Nat.zero_le _ | (simp only [List.length_cons, List.length_nil, List.length_append, List.length_map, List.length_replicate, List.length_range, List.length_take, List.length_drop, List.length_reverse]; omega) | (decide; done))
local macro_rules | `(tactic| array_mem_dec) => `(tactic| (repeat (first | with_reducible assumption | with_reducible exact mem_new | with_reducible apply mem_same' | ((with_reducible apply mem_ne'); (· first | assumption | omega)) | with_reducible apply mem_old | with_reducible exact mem_hd | with_reducible apply mem_app)); done)
local macro_rules | `(tactic| array_get_dec) => `(tactic| first | ((with_reducible refine id_e ?_); first | with_reducible refine we_c ?_ | with_reducible refine we_op ?_ | with_reducible refine we_cb ?_ | with_reducible refine we_call0 ?_ | with_reducible refine we_call ?_ | with_reducible refine we_B ?_ | with_reducible refine we_tru ?_ | with_reducible refine we_not ?_ | with_reducible refine we_and ?_ | with_reducible refine we_or ?_ | with_reducible refine we_if ?_ | with_reducible refine we_neg ?_ | with_reducible refine we_I ?_ | with_reducible refine we_chain ?_ | with_reducible refine we_tup ?_ | with_reducible refine we_lst ?_ | with_reducible refine we_lstM0 ?_ | with_reducible refine we_lstM ?_ | with_reducible refine we_dnew ?_ | with_reducible refine we_sl ?_ | with_reducible refine we_m1 ?_ | with_reducible refine we_isiT ?_ | with_reducible refine we_append ?_ | with_reducible refine we_get1 ?_ | with_reducible refine we_get2 ?_ | with_reducible refine we_pop2 ?_ | with_reducible refine we_pop1 ?_ | with_reducible refine we_cm ?_ | with_reducible refine we_fld ?_ | with_reducible refine we_meth ?_ | with_reducible refine we_make ?_ | with_reducible refine we_yes ?_ | with_reducible refine we_popA ?_ | ((with_reducible apply we_xf); (· exact rfl)) | ((with_reducible apply we_is); (· exact rfl)) | with_reducible refine we_var_0 ?_ | with_reducible refine we_var_1 ?_ | with_reducible refine we_var_2 ?_ | with_reducible refine we_var_3 ?_ | with_reducible refine we_var_4 ?_ | with_reducible refine we_var_5 ?_ | with_reducible refine we_var_6 ?_ | with_reducible refine we_var_7 ?_ | with_reducible refine we_var_8 ?_ | with_reducible refine we_var_9 ?_ | with_reducible refine we_var_10 ?_ | with_reducible refine we_var_11 ?_ | with_reducible refine we_var_12 ?_ | with_reducible refine we_var_13 ?_ | with_reducible refine we_var_14 ?_ | with_reducible refine we_var_15 ?_ | with_reducible refine we_var_16 ?_ | with_reducible refine we_var_17 ?_ | with_reducible refine we_var_18 ?_ | with_reducible refine we_var_19 ?_ | with_reducible refine we_var_20 ?_ | with_reducible refine we_var_21 ?_ | with_reducible refine we_var_22 ?_ | with_reducible refine we_var_23 ?_ | with_reducible refine we_var_24 ?_ | with_reducible refine we_var_25 ?_ | with_reducible refine we_var_26 ?_ | with_reducible refine we_var_27 ?_ | with_reducible refine we_var_28 ?_ | with_reducible refine we_var_29 ?_ | with_reducible refine we_var_30 ?_ | with_reducible refine we_var_31 ?_ | with_reducible refine we_var_32 ?_ | with_reducible refine we_var_33 ?_ | with_reducible refine we_var_34 ?_ | with_reducible refine we_var_35 ?_ | with_reducible refine we_var_36 ?_ | with_reducible refine we_var_37 ?_ | with_reducible refine we_var_38 ?_ | with_reducible refine we_var_39 ?_) | ((with_reducible refine id_s ?_); first | with_reducible refine ws_seq ?_ | with_reducible refine ws_next ?_ | with_reducible refine ws_drop ?_ | with_reducible refine ws_ret ?_ | with_reducible refine ws_retN ?_ | with_reducible refine ws_brk ?_ | with_reducible refine ws_cnt ?_ | with_reducible refine ws_asg ?_ | with_reducible refine ws_if ?_ | with_reducible refine ws_put ?_ | with_reducible refine ws_fldP ?_ | with_reducible refine ws_fldA ?_ | with_reducible refine ws_daug ?_ | with_reducible refine ws_try ?_ | with_reducible refine ws_raise ?_ | with_reducible refine ws_raise0 ?_ | with_reducible refine ws_set_0 ?_ | with_reducible refine ws_set_1 ?_ | with_reducible refine ws_set_2 ?_ | with_reducible refine ws_set_3 ?_ | with_reducible refine ws_set_4 ?_ | with_reducible refine ws_set_5 ?_ | with_reducible refine ws_set_6 ?_ | with_reducible refine ws_set_7 ?_ | with_reducible refine ws_set_8 ?_ | with_reducible refine ws_set_9 ?_ | with_reducible refine ws_set_10 ?_ | with_reducible refine ws_set_11 ?_ | with_reducible refine ws_set_12 ?_ | with_reducible refine ws_set_13 ?_ | with_reducible refine ws_set_14 ?_ | with_reducible refine ws_set_15 ?_ | with_reducible refine ws_set_16 ?_ | with_reducible refine ws_set_17 ?_ | with_reducible refine ws_set_18 ?_ | with_reducible refine ws_set_19 ?_ | with_reducible refine ws_set_20 ?_ | with_reducible refine ws_set_21 ?_ | with_reducible refine ws_set_22 ?_ | with_reducible refine ws_set_23 ?_ | with_reducible refine ws_set_24 ?_ | with_reducible refine ws_set_25 ?_ | with_reducible refine ws_set_26 ?_ | with_reducible refine ws_set_27 ?_ | with_reducible refine ws_set_28 ?_ | with_reducible refine ws_set_29 ?_ | with_reducible refine ws_set_30 ?_ | with_reducible refine ws_set_31 ?_ | with_reducible refine ws_set_32 ?_ | with_reducible refine ws_set_33 ?_ | with_reducible refine ws_set_34 ?_ | with_reducible refine ws_set_35 ?_ | with_reducible refine ws_set_36 ?_ | with_reducible refine ws_set_37 ?_ | with_reducible refine ws_set_38 ?_ | with_reducible refine ws_set_39 ?_ | with_reducible refine ws_aug_0 ?_ | with_reducible refine ws_aug_1 ?_ | with_reducible refine ws_aug_2 ?_ | with_reducible refine ws_aug_3 ?_ | with_reducible refine ws_aug_4 ?_ | with_reducible refine ws_aug_5 ?_ | with_reducible refine ws_aug_6 ?_ | with_reducible refine ws_aug_7 ?_ | with_reducible refine ws_aug_8 ?_ | with_reducible refine ws_aug_9 ?_ | with_reducible refine ws_aug_10 ?_ | with_reducible refine ws_aug_11 ?_ | with_reducible refine ws_aug_12 ?_ | with_reducible refine ws_aug_13 ?_ | with_reducible refine ws_aug_14 ?_ | with_reducible refine ws_aug_15 ?_ | with_reducible refine ws_aug_16 ?_ | with_reducible refine ws_aug_17 ?_ | with_reducible refine ws_aug_18 ?_ | with_reducible refine ws_aug_19 ?_ | with_reducible refine ws_aug_20 ?_ | with_reducible refine ws_aug_21 ?_ | with_reducible refine ws_aug_22 ?_ | with_reducible refine ws_aug_23 ?_ | with_reducible refine ws_aug_24 ?_ | with_reducible refine ws_aug_25 ?_ | with_reducible refine ws_aug_26 ?_ | with_reducible refine ws_aug_27 ?_ | with_reducible refine ws_aug_28 ?_ | with_reducible refine ws_aug_29 ?_ | with_reducible refine ws_aug_30 ?_ | with_reducible refine ws_aug_31 ?_ | with_reducible refine ws_aug_32 ?_ | with_reducible refine ws_aug_33 ?_ | with_reducible refine ws_aug_34 ?_ | with_reducible refine ws_aug_35 ?_ | with_reducible refine ws_aug_36 ?_ | with_reducible refine ws_aug_37 ?_ | with_reducible refine ws_aug_38 ?_ | with_reducible refine ws_aug_39 ?_) | ((with_reducible refine id_a ?_); first | with_reducible refine wa_cons ?_ | with_reducible refine wa_nil ?_) | ((with_reducible refine id_g ?_); first | with_reducible refine wg_add ?_ | ((with_reducible apply wg_adds); (· sizeOf_list_dec)) | ((with_reducible apply wg_addl); (· sizeOf_list_dec)) | with_reducible refine wg_plus ?_ | ((with_reducible apply wg_pluss); (· sizeOf_list_dec)) | with_reducible refine wg_plusI ?_ | with_reducible refine wg_minus ?_ | with_reducible refine wg_sub ?_ | with_reducible refine wg_pow9 ?_ | with_reducible refine wg_pow6 ?_ | with_reducible refine wg_pow3 ?_ | with_reducible refine wg_pow18 ?_ | ((with_reducible apply wg_mod); (· sizeOf_list_dec)) | ((with_reducible apply wg_div); (· sizeOf_list_dec)) | ((with_reducible apply wg_mul); (· sizeOf_list_dec)) | ((with_reducible apply wg_mulA); (· sizeOf_list_dec)) | ((with_reducible apply wg_mulS1); (· sizeOf_list_dec)) | ((with_reducible apply wg_mulS); (· sizeOf_list_dec)) | with_reducible refine wg_lt ?_ | with_reducible refine wg_le ?_ | with_reducible refine wg_gt ?_ | with_reducible refine wg_ge ?_ | with_reducible refine wg_eq ?_ | with_reducible refine wg_ne ?_ | with_reducible refine wg_eqs ?_ | with_reducible refine wg_nes ?_ | with_reducible refine wg_eqnn ?_ | with_reducible refine wg_eqni ?_ | with_reducible refine wg_eqin ?_ | with_reducible refine wg_eqns ?_ | with_reducible refine wg_eqsn ?_ | with_reducible refine wg_nenn ?_ | with_reducible refine wg_neni ?_ | with_reducible refine wg_nein ?_ | with_reducible refine wg_nens ?_ | with_reducible refine wg_nesn ?_ | with_reducible refine wg_isNn ?_ | with_reducible refine wg_isNi ?_ | with_reducible refine wg_isNs ?_ | with_reducible refine wg_isNt ?_ | with_reducible refine wg_isNl ?_ | with_reducible refine wg_isNo ?_ | with_reducible refine wg_notNn ?_ | with_reducible refine wg_notNi ?_ | with_reducible refine wg_notNs ?_ | with_reducible refine wg_notNt ?_ | with_reducible refine wg_notNl ?_ | with_reducible refine wg_notNo ?_ | ((with_reducible apply wg_lenS); (· sizeOf_list_dec)) | with_reducible refine wg_lenL ?_ | with_reducible refine wg_lenT ?_ | ((with_reducible apply wg_lenM); (· array_mem_dec)) | ((with_reducible apply wg_lenD); (· array_mem_dec)) | with_reducible refine wg_intI ?_ | with_reducible refine wg_intB ?_ | with_reducible refine wg_ord ?_ | with_reducible refine wg_max2 ?_ | with_reducible refine wg_min2 ?_ | with_reducible refine key_int ?_ | with_reducible refine key_str ?_ | ((with_reducible apply wg_look); (· exact rfl)) | ((with_reducible apply wdicR); (· array_mem_dec)) | ((with_reducible apply wdicRF); (· array_mem_dec)) | ((with_reducible apply wdicAt); (· array_mem_dec)) | ((with_reducible apply wput_dic); (· array_mem_dec); (· exact rfl); (· sizeOf_list_dec)) | ((with_reducible apply wput_lst); (· array_mem_dec); (· sizeOf_list_dec)) | with_reducible refine wtr_b ?_ | with_reducible refine wtr_n ?_ | with_reducible refine wtr_i ?_ | ((with_reducible apply wtr_s); (· sizeOf_list_dec)) | with_reducible refine wtr_l ?_ | ((with_reducible apply wtr_m); (· array_mem_dec)) | ((with_reducible apply wtr_d); (· array_mem_dec)) | with_reducible refine wpart_n ?_ | with_reducible refine wpart_i ?_ | ((with_reducible apply wsl_s_to); (· sizeOf_list_dec)) | ((with_reducible apply wsl_s_from); (· sizeOf_list_dec)) | ((with_reducible apply wsl_s_mid); (· sizeOf_list_dec)) | with_reducible refine wsl_l_to ?_ | with_reducible refine wsl_l_from ?_ | with_reducible refine wsl_l_mid ?_ | ((with_reducible apply wsl_m_to); (· array_mem_dec)) | ((with_reducible apply wsl_m_from); (· array_mem_dec)) | ((with_reducible apply wsl_m_mid); (· array_mem_dec)) | with_reducible refine wseqL ?_ | with_reducible refine wseqT ?_ | with_reducible refine wseqS ?_ | ((with_reducible apply wseqM); (· array_mem_dec)) | with_reducible refine wstillL ?_ | ((with_reducible apply wstillF); (· array_mem_dec)) | ((with_reducible apply wcopyD); (· array_mem_dec)) | ((with_reducible apply wlistM); (· array_mem_dec)) | with_reducible refine wlistML ?_ | with_reducible refine wlistMT ?_ | with_reducible refine wlistL ?_ | with_reducible refine wlistT ?_ | ((with_reducible apply wlistO); (· array_mem_dec)) | ((with_reducible apply wgisiT); (· exact rfl); (· exact rfl)) | ((with_reducible apply wgisiF); (· exact rfl); (· exact rfl)) | ((with_reducible apply wgisiT); (· exact ty_dic (by array_mem_dec)); (· exact rfl)) | ((with_reducible apply wgisiF); (· exact ty_dic (by array_mem_dec)); (· exact rfl)) | ((with_reducible apply wgisiT); (· exact ty_lstM (by array_mem_dec)); (· exact rfl)) | ((with_reducible apply wgisiF); (· exact ty_lstM (by array_mem_dec)); (· exact rfl)) | ((with_reducible apply ixA_tup); (· exact rfl)) | ((with_reducible apply inA_non); (· array_mem_dec)) | ((with_reducible apply ninA_non); (· array_mem_dec)) | ((with_reducible apply inA_dic); (· array_mem_dec); (· exact rfl)) | ((with_reducible apply inA_dicF); (· array_mem_dec); (· exact rfl)) | ((with_reducible apply ninA_dic); (· array_mem_dec); (· exact rfl)) | ((with_reducible apply ninA_dicF); (· array_mem_dec); (· exact rfl)) ) | ((with_reducible refine id_b ?_); first | with_reducible refine wb_true ?_ | with_reducible refine wb_false ?_ | ((with_reducible apply wb_pos); (· (first | with_reducible exact rfl | assumption | omega | (simp only [List.length_cons, List.length_nil, List.length_map]); (·  omega)))) | ((with_reducible apply wb_neg); (· (first | with_reducible exact rfl | assumption | omega | (simp only [List.length_cons, List.length_nil, List.length_map]); (·  omega)))) | ((with_reducible apply wb_npos); (· (first | with_reducible exact rfl | assumption | omega | (simp only [List.length_cons, List.length_nil, List.length_map]); (·  omega)))) | ((with_reducible apply wb_nneg); (· (first | with_reducible exact rfl | assumption | omega | (simp only [List.length_cons, List.length_nil, List.length_map]); (·  omega)))) | ((with_reducible apply wb_t); (· assumption)) | ((with_reducible apply wb_f); (· assumption)) ) | ((with_reducible refine id_t ?_); first | with_reducible refine wt_T ?_ | with_reducible refine wt_n_0 ?_ | with_reducible refine wt_n_1 ?_ | with_reducible refine wt_n_2 ?_ | with_reducible refine wt_n_3 ?_ | with_reducible refine wt_n_4 ?_ | with_reducible refine wt_n_5 ?_ | with_reducible refine wt_n_6 ?_ | with_reducible refine wt_n_7 ?_ | with_reducible refine wt_n_8 ?_ | with_reducible refine wt_n_9 ?_ | with_reducible refine wt_n_10 ?_ | with_reducible refine wt_n_11 ?_ | with_reducible refine wt_n_12 ?_ | with_reducible refine wt_n_13 ?_ | with_reducible refine wt_n_14 ?_ | with_reducible refine wt_n_15 ?_ | with_reducible refine wt_n_16 ?_ | with_reducible refine wt_n_17 ?_ | with_reducible refine wt_n_18 ?_ | with_reducible refine wt_n_19 ?_ | with_reducible refine wt_n_20 ?_ | with_reducible refine wt_n_21 ?_ | with_reducible refine wt_n_22 ?_ | with_reducible refine wt_n_23 ?_ | with_reducible refine wt_n_24 ?_ | with_reducible refine wt_n_25 ?_ | with_reducible refine wt_n_26 ?_ | with_reducible refine wt_n_27 ?_ | with_reducible refine wt_n_28 ?_ | with_reducible refine wt_n_29 ?_ | with_reducible refine wt_n_30 ?_ | with_reducible refine wt_n_31 ?_ | with_reducible refine wt_n_32 ?_ | with_reducible refine wt_n_33 ?_ | with_reducible refine wt_n_34 ?_ | with_reducible refine wt_n_35 ?_ | with_reducible refine wt_n_36 ?_ | with_reducible refine wt_n_37 ?_ | with_reducible refine wt_n_38 ?_ | with_reducible refine wt_n_39 ?_) | with_reducible refine wts_cons ?_ | with_reducible refine wts_nil ?_ | ((with_reducible refine id_i ?_); first | with_reducible refine wi_rng ?_ | with_reducible refine wi_rng2 ?_ | with_reducible refine wi_seq ?_ | with_reducible refine wi_dic ?_ | with_reducible refine wi_rv ?_ | with_reducible refine wi_en ?_ | with_reducible refine wi_zp ?_) | ((with_reducible refine id_h ?_); first | ((with_reducible apply wh_no); (· exact rfl)) | ((with_reducible apply wh_bare); (· exact rfl)) | ((with_reducible apply wh_yes_0); (· exact rfl)) | ((with_reducible apply wh_yes_1); (· exact rfl)) | ((with_reducible apply wh_yes_2); (· exact rfl)) | ((with_reducible apply wh_yes_3); (· exact rfl)) | ((with_reducible apply wh_yes_4); (· exact rfl)) | ((with_reducible apply wh_yes_5); (· exact rfl)) | ((with_reducible apply wh_yes_6); (· exact rfl)) | ((with_reducible apply wh_yes_7); (· exact rfl)) | ((with_reducible apply wh_yes_8); (· exact rfl)) | ((with_reducible apply wh_yes_9); (· exact rfl)) | ((with_reducible apply wh_yes_10); (· exact rfl)) | ((with_reducible apply wh_yes_11); (· exact rfl)) | ((with_reducible apply wh_yes_12); (· exact rfl)) | ((with_reducible apply wh_yes_13); (· exact rfl)) | ((with_reducible apply wh_yes_14); (· exact rfl)) | ((with_reducible apply wh_yes_15); (· exact rfl)) | ((with_reducible apply wh_yes_16); (· exact rfl)) | ((with_reducible apply wh_yes_17); (· exact rfl)) | ((with_reducible apply wh_yes_18); (· exact rfl)) | ((with_reducible apply wh_yes_19); (· exact rfl)) | ((with_reducible apply wh_yes_20); (· exact rfl)) | ((with_reducible apply wh_yes_21); (· exact rfl)) | ((with_reducible apply wh_yes_22); (· exact rfl)) | ((with_reducible apply wh_yes_23); (· exact rfl)) | ((with_reducible apply wh_yes_24); (· exact rfl)) | ((with_reducible apply wh_yes_25); (· exact rfl)) | ((with_reducible apply wh_yes_26); (· exact rfl)) | ((with_reducible apply wh_yes_27); (· exact rfl)) | ((with_reducible apply wh_yes_28); (· exact rfl)) | ((with_reducible apply wh_yes_29); (· exact rfl)) | ((with_reducible apply wh_yes_30); (· exact rfl)) | ((with_reducible apply wh_yes_31); (· exact rfl)) | ((with_reducible apply wh_yes_32); (· exact rfl)) | ((with_reducible apply wh_yes_33); (· exact rfl)) | ((with_reducible apply wh_yes_34); (· exact rfl)) | ((with_reducible apply wh_yes_35); (· exact rfl)) | ((with_reducible apply wh_yes_36); (· exact rfl)) | ((with_reducible apply wh_yes_37); (· exact rfl)) | ((with_reducible apply wh_yes_38); (· exact rfl)) | ((with_reducible apply wh_yes_39); (· exact rfl)) | with_reducible refine wh_nil ?_) | ((with_reducible refine id_cl ?_); first | with_reducible refine wcl_0 ?_ | with_reducible refine wcl_1 ?_ | with_reducible refine wcl_2 ?_ | with_reducible refine wcl_3 ?_ | with_reducible refine wcl_4 ?_ | with_reducible refine wcl_5 ?_ | with_reducible refine wcl_6 ?_ | with_reducible refine wcl_7 ?_ | with_reducible refine wcl_8 ?_ | with_reducible refine wcl_9 ?_ | with_reducible refine wcl_10 ?_ | with_reducible refine wcl_11 ?_ | with_reducible refine wcl_12 ?_ | with_reducible refine wcl_13 ?_ | with_reducible refine wcl_14 ?_ | with_reducible refine wcl_15 ?_ | with_reducible refine wcl_16 ?_ | with_reducible refine wcl_17 ?_ | with_reducible refine wcl_18 ?_ | with_reducible refine wcl_19 ?_ | with_reducible refine wcl_20 ?_ | with_reducible refine wcl_21 ?_ | with_reducible refine wcl_22 ?_ | with_reducible refine wcl_23 ?_ | with_reducible refine wcl_24 ?_ | with_reducible refine wcl_25 ?_ | with_reducible refine wcl_26 ?_ | with_reducible refine wcl_27 ?_ | with_reducible refine wcl_28 ?_ | with_reducible refine wcl_29 ?_ | with_reducible refine wcl_30 ?_ | with_reducible refine wcl_31 ?_ | with_reducible refine wcl_32 ?_ | with_reducible refine wcl_33 ?_ | with_reducible refine wcl_34 ?_ | with_reducible refine wcl_35 ?_ | with_reducible refine wcl_36 ?_ | with_reducible refine wcl_37 ?_ | with_reducible refine wcl_38 ?_ | with_reducible refine wcl_39 ?_) | with_reducible refine wbl ?_ | with_reducible refine wnot_t ?_ | with_reducible refine wnot_f ?_ | with_reducible refine wnot_n ?_ | with_reducible refine wnot ?_ | with_reducible refine wint ?_ | with_reducible refine wstr ?_ | with_reducible refine wobj ?_ | with_reducible refine wnon ?_ | ((with_reducible apply wat); · array_mem_dec) | ((with_reducible refine wyes_c ?_ ?_); (· exact rfl)) | ((with_reducible refine wyes_k ?_ ?_); (· exact rfl)) | ((with_reducible refine wyes_d ?_ ?_); (· exact ⟨rfl, Nat.le_of_ble_eq_true rfl⟩)) | ((with_reducible refine wyes ?_ ?_); · sizeOf_list_dec) | with_reducible refine wyes wlstT ?_ | with_reducible refine wlst ?_ | with_reducible refine wins ?_ | with_reducible refine winm ?_)
structure SR1 where
  nm : List Nat
  lf : Int
  all : List (Int × Int)
  s : Nat
  sp : Nat
def spD (x : Int × Int) : DV := .tup [.int x.1, .int x.2]
def last8 (l : List (Int × Int)) : List (Int × Int) := l.drop (l.length - 8)
def snF (lf la : Int) (sp : Nat) : List (Str × DV) := [("life", .int lf), ("last", .int la), ("spots", .obj sp)]
def snK (S : List SR1) : KVs := S.map fun r => (.inr (Sx r.nm), .obj r.s)
structure SenOk (m : Mu) (q kd : Nat) (S : List SR1) : Prop where
  ob : m[q]? = some (.ins "Senders" [("known", .obj kd)])
  di : m[kd]? = some (.dic (snK S))
  at_ : ∀ r, r ∈ S → m[r.s]? = some (.ins "Sender" (snF r.lf r.all.length r.sp)) ∧ m[r.sp]? = some (.lst ((last8 r.all).map spD))
  qk : q ≠ kd
  own : ∀ r, r ∈ S → r.s ≠ r.sp ∧ r.s ≠ q ∧ r.s ≠ kd ∧ r.sp ≠ q ∧ r.sp ≠ kd
  sep : ∀ a b, a ∈ S → b ∈ S → a.nm ≠ b.nm → a.s ≠ b.s ∧ a.s ≠ b.sp ∧ a.sp ≠ b.s ∧ a.sp ≠ b.sp
  un : ∀ a b, a ∈ S → b ∈ S → a.nm = b.nm → a = b
def fS (S : List SR1) (z : List Nat) : Option SR1 := S.find? fun r => decide (r.nm = z)
theorem fS_some {S : List SR1} {z : List Nat} {r : SR1} (h : fS S z = some r) : r ∈ S ∧ r.nm = z := ⟨List.mem_of_find?_eq_some h, by simpa using List.find?_some h⟩
def InS (q kd : Nat) (S : List SR1) (k : Nat) : Prop := k = q ∨ k = kd ∨ ∃ r, r ∈ S ∧ (k = r.s ∨ k = r.sp)
abbrev SenL := List Nat → Option (Int × List (Int × Int))
structure Sen (m : Mu) (q c : Nat) (L : SenL) (I : Nat → Prop) : Prop where
  ex : ∃ kd S, SenOk m q kd S ∧ S.length ≤ c ∧ (∀ z, L z = (fS S z).map fun r => (r.lf, r.all)) ∧ ∀ k, I k ↔ InS q kd S k
section
variable {m m' : Mu} {q c kd : Nat} {L : SenL} {I : Nat → Prop} {S : List SR1} {nm : List Nat}
theorem Sen.lt (h : Sen m q c L I) {k : Nat} (hk : I k) : k < m.length := by
  obtain ⟨kd, S, h1, h2, h3, h4⟩ := h.ex
  rcases (h4 k).mp hk with rfl | rfl | ⟨r, hr, rfl | rfl⟩
  · exact mem_lt h1.ob
  · exact mem_lt h1.di
  · exact mem_lt (h1.at_ r hr).1
  · exact mem_lt (h1.at_ r hr).2
def chS (S : List SR1) (nm : List Nat) (lf : Int) (all : List (Int × Int)) : List SR1 := S.map fun x => if x.nm = nm then { x with lf := lf, all := all } else x
theorem chS_mem {lf : Int} {all : List (Int × Int)} {x : SR1} (h : x ∈ chS S nm lf all) : ∃ y, y ∈ S ∧ x.nm = y.nm ∧ x.s = y.s ∧ x.sp = y.sp ∧ (y.nm = nm ∧ x.lf = lf ∧ x.all = all ∨ y.nm ≠ nm ∧ x = y) := by
  obtain ⟨y, hy, e⟩ := List.mem_map.mp h
  refine ⟨y, hy, ?_⟩
  subst e
  by_cases c : y.nm = nm
  · rw [if_pos c]; exact ⟨rfl, rfl, rfl, .inl ⟨c, rfl, rfl⟩⟩
  · rw [if_neg c]; exact ⟨rfl, rfl, rfl, .inr ⟨c, rfl⟩⟩
theorem fS_ch {lf : Int} {all : List (Int × Int)} {z : List Nat} : ∀ {S : List SR1} {r : SR1}, fS S nm = some r → fS (chS S nm lf all) z = if z = nm then some { r with lf := lf, all := all } else fS S z := by
  intro S r hr
  have hm := fS_some hr
  by_cases e : z = nm
  · subst e
    rw [if_pos rfl]
    clear hm
    unfold fS chS at *
    induction S with
    | nil => cases hr
    | cons a S ih =>
      rw [List.find?_cons] at hr
      rw [List.map_cons, List.find?_cons]
      by_cases c : a.nm = z
      · rw [decide_eq_true c] at hr
        cases hr
        rw [if_pos c]
        show (match decide (r.nm = z) with | true => some ({ r with lf := lf, all := all } : SR1) | false => _) = _
        rw [decide_eq_true c]
      · rw [decide_eq_false c] at hr
        rw [if_neg c, decide_eq_false c]
        exact ih hr
  · rw [if_neg e]
    clear hr hm
    unfold fS chS
    induction S with
    | nil => rfl
    | cons a S ih =>
      rw [List.map_cons, List.find?_cons, List.find?_cons]
      by_cases c : a.nm = nm
      · rw [if_pos c, ih]
        show (match decide (a.nm = z) with | true => some ({ a with lf := lf, all := all } : SR1) | false => S.find? fun r => decide (r.nm = z)) = _
        rw [decide_eq_false (fun q => e (q.symm.trans c))]
      · rw [if_neg c, ih]
theorem Sen.ch {r : SR1} {lf : Int} {all : List (Int × Int)} (h1 : SenOk m q kd S) (hl : S.length ≤ c) (hL : ∀ z, L z = (fS S z).map fun r => (r.lf, r.all)) (hI : ∀ k, I k ↔ InS q kd S k) (hr : fS S nm = some r)
    (hm1 : m'[r.s]? = some (.ins "Sender" (snF lf all.length r.sp))) (hm2 : m'[r.sp]? = some (.lst ((last8 all).map spD))) (hfr : ∀ k u, k ≠ r.s → k ≠ r.sp → m[k]? = some u → m'[k]? = some u) : Sen m' q c (fun z => if z = nm then some (lf, all) else L z) I := by
  obtain ⟨hrS, hrn⟩ := fS_some hr
  have ow := h1.own r hrS
  refine ⟨kd, chS S nm lf all, ⟨hfr _ _ (Ne.symm ow.2.1) (Ne.symm ow.2.2.2.1) h1.ob, ?_, fun x hx => ?_, h1.qk, fun x hx => ?_, fun a b ha hb hne => ?_, fun a b ha hb he => ?_⟩, by unfold chS; rw [List.length_map]; exact hl, fun z => ?_, fun k => (hI k).trans ⟨?_, ?_⟩⟩
  · refine (hfr _ _ (Ne.symm ow.2.2.1) (Ne.symm ow.2.2.2.2) h1.di).trans ?_
    unfold chS snK
    rw [List.map_map]
    congr 3
    funext x
    show (Sum.inr (Sx x.nm), DV.obj x.s) = (Sum.inr (Sx (if x.nm = nm then { x with lf := lf, all := all } else x).nm), DV.obj (if x.nm = nm then { x with lf := lf, all := all } else x).s)
    split <;> rfl
  · obtain ⟨y, hy, e1, e2, e3, e4⟩ := chS_mem hx
    rcases e4 with ⟨e5, e6, e7⟩ | ⟨e5, rfl⟩
    · have : y = r := h1.un y r hy hrS (e5.trans hrn.symm)
      subst this
      rw [e2, e3, e6, e7]
      exact ⟨hm1, hm2⟩
    · have s := h1.sep x r hy hrS (fun z => e5 (z.trans hrn))
      exact ⟨hfr _ _ s.1 s.2.1 (h1.at_ x hy).1, hfr _ _ s.2.2.1 s.2.2.2 (h1.at_ x hy).2⟩
  · obtain ⟨y, hy, e1, e2, e3, e4⟩ := chS_mem hx
    rw [e2, e3]
    exact h1.own y hy
  · obtain ⟨y, hy, e1, e2, e3, e4⟩ := chS_mem ha
    obtain ⟨y', hy', e1', e2', e3', e4'⟩ := chS_mem hb
    rw [e2, e3, e2', e3']
    exact h1.sep y y' hy hy' (by rw [← e1, ← e1']; exact hne)
  · obtain ⟨y, hy, e1, e2, e3, e4⟩ := chS_mem ha
    obtain ⟨y', hy', e1', e2', e3', e4'⟩ := chS_mem hb
    have : y = y' := h1.un y y' hy hy' (by rw [← e1, ← e1']; exact he)
    subst this
    rcases e4 with ⟨e5, e6, e7⟩ | ⟨e5, e6⟩
    · rcases e4' with ⟨_, e6', e7'⟩ | ⟨e5', _⟩
      · obtain ⟨a1, a2, a3, a4, a5⟩ := a
        obtain ⟨b1, b2, b3, b4, b5⟩ := b
        simp only at e1 e2 e3 e1' e2' e3' e6 e7 e6' e7'
        rw [e1, e2, e3, e6, e7, e1', e2', e3', e6', e7']
      · exact absurd e5 e5'
    · rcases e4' with ⟨e5', _⟩ | ⟨_, e6'⟩
      · exact absurd e5' e5
      · rw [e6, e6']
  · rw [fS_ch hr]
    by_cases e : z = nm
    · rw [if_pos e, if_pos e]; rfl
    · rw [if_neg e, if_neg e]; exact hL z
  · rintro (z | z | ⟨x, hx, z⟩)
    · exact .inl z
    · exact .inr (.inl z)
    · refine .inr (.inr ⟨if x.nm = nm then { x with lf := lf, all := all } else x, List.mem_map.mpr ⟨x, hx, rfl⟩, ?_⟩)
      split <;> exact z
  · rintro (z | z | ⟨x, hx, z⟩)
    · exact .inl z
    · exact .inr (.inl z)
    · obtain ⟨y, hy, e1, e2, e3, e4⟩ := chS_mem hx
      exact .inr (.inr ⟨y, hy, by rw [← e2, ← e3]; exact z⟩)
theorem str_ok {l : List Nat} (h : ∀ c, c ∈ l → c < 128) (n : Nat) : PV.ok (n + 1) (.str l) := ok_str h
local macro_rules | `(tactic| array_get_dec) => `(tactic| with_reducible refine wc_eq (mixF_eq _ _ _) ?_)
def NmW (c w : Int) (k : Nat) (l : List Nat) : Prop := (w = 0 → l.length = k + 1) ∧ (w = 1 → l[0]? = some (nsT.getD ((mix c 21 + 5 * (k : Int)) % 36).toNat 0)) ∧ (w = 2 → l[0]? = some (nsT.getD ((mix c 21 + (0 + (k : Int)) % 12) % 36).toNat 0)) ∧
  (w ≠ 0 → w ≠ 1 → w ≠ 2 → l[(mix c 2 % (1 + mix c 1 % 12)).toNat]? = some (nsT.getD ((mix c (3 + ((mix c 2 % (1 + mix c 1 % 12)).toNat : Int)) + 5 * (k : Int)) % 36).toNat 0))
theorem nsT_inj : ∀ i, i < 36 → ∀ j, j < 36 → nsT.getD i 0 = nsT.getD j 0 → i = j := by decide +kernel
theorem nsT_injI {x y : Int} (h : nsT.getD (x % 36).toNat 0 = nsT.getD (y % 36).toNat 0) : x % 36 = y % 36 := by
  have := nsT_inj _ (by omega) _ (by omega) h
  omega
theorem NmW.inj {c w : Int} {k k' : Nat} {l : List Nat} (h : NmW c w k l) (h' : NmW c w k' l) (hk : k < 12) (hk' : k' < 12) : k = k' := by
  by_cases e0 : w = 0
  · have a := h.1 e0; have b := h'.1 e0; omega
  by_cases e1 : w = 1
  · have a := h.2.1 e1; rw [h'.2.1 e1] at a
    have := nsT_injI (Option.some.inj a); omega
  by_cases e2 : w = 2
  · have a := h.2.2.1 e2; rw [h'.2.2.1 e2] at a
    have := nsT_injI (Option.some.inj a); omega
  · have a := h.2.2.2 e0 e1 e2; rw [h'.2.2.2 e0 e1 e2] at a
    have := nsT_injI (Option.some.inj a); omega
structure NumD (kvs : KVs) (c : Nat) (lv : List Nat → Int) : Prop where
  val : ∀ z, valD kvs (.inr (Sx z)) = if lv z = 0 then none else some (.int (lv z))
  len : kvs.length ≤ c
theorem NumD.put {kvs : KVs} {c : Nat} {lv : List Nat → Int} (h : NumD kvs c lv) (z : List Nat) (i : Int) (hi : i ≠ 0) : NumD (putD kvs (.inr (Sx z)) (.int i)) (c + 1) (fun y => if y = z then i else lv y) := ⟨fun y => by
  rw [valD_put]
  by_cases e : y = z
  · subst e; rw [if_pos rfl]; simp [hi]
  · rw [if_neg (fun q => e (ky_inj q)), h.val]; simp [e], Nat.le_trans len_put (Nat.succ_le_succ h.len)⟩
theorem NumD.get {kvs : KVs} {c : Nat} {lv : List Nat → Int} (h : NumD kvs c lv) (z : List Nat) : (valD kvs (.inr (Sx z))).getD (.int 0) = .int (lv z) := by
  rw [h.val]
  split
  · rename_i e; rw [e]; rfl
  · rfl
end
end DM

namespace DM
open PySem PySem.Spec PyProof.Rows L2
local macro_rules | `(tactic| sizeOf_list_dec) => `(tactic| first | assumption | omega | exact Nat.zero_le _ | (simp only [List.length_cons, List.length_nil, List.length_append, List.length_map, List.length_replicate, List.length_range, List.length_take, List.length_drop, List.length_reverse]; omega) | (decide; done))
local macro_rules | `(tactic| array_mem_dec) => `(tactic| (repeat (first | with_reducible assumption | with_reducible exact mem_new | with_reducible apply mem_same' | ((with_reducible apply mem_ne'); (· first | assumption | omega)) | with_reducible apply mem_old | with_reducible exact mem_hd | with_reducible apply mem_app)); done)
local macro_rules | `(tactic| array_get_dec) => `(tactic| first | ((with_reducible refine id_e ?_); first | with_reducible refine we_c ?_ | with_reducible refine we_op ?_ | with_reducible refine we_cb ?_ | with_reducible refine we_call0 ?_ | with_reducible refine we_call ?_ | with_reducible refine we_B ?_ | with_reducible refine we_tru ?_ | with_reducible refine we_not ?_ | with_reducible refine we_and ?_ | with_reducible refine we_or ?_ | with_reducible refine we_if ?_ | with_reducible refine we_neg ?_ | with_reducible refine we_I ?_ | with_reducible refine we_chain ?_ | with_reducible refine we_tup ?_ | with_reducible refine we_lst ?_ | with_reducible refine we_lstM0 ?_ | with_reducible refine we_lstM ?_ | with_reducible refine we_dnew ?_ | with_reducible refine we_sl ?_ | with_reducible refine we_m1 ?_ | with_reducible refine we_isiT ?_ | with_reducible refine we_append ?_ | with_reducible refine we_get1 ?_ | with_reducible refine we_get2 ?_ | with_reducible refine we_pop2 ?_ | with_reducible refine we_pop1 ?_ | with_reducible refine we_cm ?_ | with_reducible refine we_fld ?_ | with_reducible refine we_meth ?_ | with_reducible refine we_make ?_ | with_reducible refine we_yes ?_ | with_reducible refine we_popA ?_ | ((with_reducible apply we_xf); (· exact rfl)) | ((with_reducible apply we_is); (· exact rfl)) | with_reducible refine we_var_0 ?_ | with_reducible refine we_var_1 ?_ | with_reducible refine we_var_2 ?_ | with_reducible refine we_var_3 ?_ | with_reducible refine we_var_4 ?_ | with_reducible refine we_var_5 ?_ | with_reducible refine we_var_6 ?_ | with_reducible refine we_var_7 ?_ | with_reducible refine we_var_8 ?_ | with_reducible refine we_var_9 ?_ | with_reducible refine we_var_10 ?_ | with_reducible refine we_var_11 ?_ | with_reducible refine we_var_12 ?_ | with_reducible refine we_var_13 ?_ | with_reducible refine we_var_14 ?_ | with_reducible refine we_var_15 ?_ | with_reducible refine we_var_16 ?_ | with_reducible refine we_var_17 ?_ | with_reducible refine we_var_18 ?_ | with_reducible refine we_var_19 ?_ | with_reducible refine we_var_20 ?_ | with_reducible refine we_var_21 ?_ | with_reducible refine we_var_22 ?_ | with_reducible refine we_var_23 ?_ | with_reducible refine we_var_24 ?_ | with_reducible refine we_var_25 ?_ | with_reducible refine we_var_26 ?_ | with_reducible refine we_var_27 ?_ | with_reducible refine we_var_28 ?_ | with_reducible refine we_var_29 ?_ | with_reducible refine we_var_30 ?_ | with_reducible refine we_var_31 ?_ | with_reducible refine we_var_32 ?_ | with_reducible refine we_var_33 ?_ | with_reducible refine we_var_34 ?_ | with_reducible refine we_var_35 ?_ | with_reducible refine we_var_36 ?_ | with_reducible refine we_var_37 ?_ | with_reducible refine we_var_38 ?_ | with_reducible refine we_var_39 ?_) | ((with_reducible refine id_s ?_); first | with_reducible refine ws_seq ?_ | with_reducible refine ws_next ?_ | with_reducible refine ws_drop ?_ | with_reducible refine ws_ret ?_ | with_reducible refine ws_retN ?_ | with_reducible refine ws_brk ?_ | with_reducible refine ws_cnt ?_ | with_reducible refine ws_asg ?_ | with_reducible refine ws_if ?_ | with_reducible refine ws_put ?_ | with_reducible refine ws_fldP ?_ | with_reducible refine ws_fldA ?_ | with_reducible refine ws_daug ?_ | with_reducible refine ws_try ?_ | with_reducible refine ws_raise ?_ | with_reducible refine ws_raise0 ?_ | with_reducible refine ws_set_0 ?_ | with_reducible refine ws_set_1 ?_ | with_reducible refine ws_set_2 ?_ | with_reducible refine ws_set_3 ?_ | with_reducible refine ws_set_4 ?_ | with_reducible refine ws_set_5 ?_ | with_reducible refine ws_set_6 ?_ | with_reducible refine ws_set_7 ?_ | with_reducible refine ws_set_8 ?_ | with_reducible refine ws_set_9 ?_ | with_reducible refine ws_set_10 ?_ | with_reducible refine ws_set_11 ?_ | with_reducible refine ws_set_12 ?_ | with_reducible refine ws_set_13 ?_ | with_reducible refine ws_set_14 ?_ | with_reducible refine ws_set_15 ?_ | with_reducible refine ws_set_16 ?_ | with_reducible refine ws_set_17 ?_ | with_reducible refine ws_set_18 ?_ | with_reducible refine ws_set_19 ?_ | with_reducible refine ws_set_20 ?_ | with_reducible refine ws_set_21 ?_ | with_reducible refine ws_set_22 ?_ | with_reducible refine ws_set_23 ?_ | with_reducible refine ws_set_24 ?_ | with_reducible refine ws_set_25 ?_ | with_reducible refine ws_set_26 ?_ | with_reducible refine ws_set_27 ?_ | with_reducible refine ws_set_28 ?_ | with_reducible refine ws_set_29 ?_ | with_reducible refine ws_set_30 ?_ | with_reducible refine ws_set_31 ?_ | with_reducible refine ws_set_32 ?_ | with_reducible refine ws_set_33 ?_ | with_reducible refine ws_set_34 ?_ | with_reducible refine ws_set_35 ?_ | with_reducible refine ws_set_36 ?_ | with_reducible refine ws_set_37 ?_ | with_reducible refine ws_set_38 ?_ | with_reducible refine ws_set_39 ?_ | with_reducible refine ws_aug_0 ?_ | with_reducible refine ws_aug_1 ?_ | with_reducible refine ws_aug_2 ?_ | with_reducible refine ws_aug_3 ?_ | with_reducible refine ws_aug_4 ?_ | with_reducible refine ws_aug_5 ?_ | with_reducible refine ws_aug_6 ?_ | with_reducible refine ws_aug_7 ?_ | with_reducible refine ws_aug_8 ?_ | with_reducible refine ws_aug_9 ?_ | with_reducible refine ws_aug_10 ?_ | with_reducible refine ws_aug_11 ?_ | with_reducible refine ws_aug_12 ?_ | with_reducible refine ws_aug_13 ?_ | with_reducible refine ws_aug_14 ?_ | with_reducible refine ws_aug_15 ?_ | with_reducible refine ws_aug_16 ?_ | with_reducible refine ws_aug_17 ?_ | with_reducible refine ws_aug_18 ?_ | with_reducible refine ws_aug_19 ?_ | with_reducible refine ws_aug_20 ?_ | with_reducible refine ws_aug_21 ?_ | with_reducible refine ws_aug_22 ?_ | with_reducible refine ws_aug_23 ?_ | with_reducible refine ws_aug_24 ?_ | with_reducible refine ws_aug_25 ?_ | with_reducible refine ws_aug_26 ?_ | with_reducible refine ws_aug_27 ?_ | with_reducible refine ws_aug_28 ?_ | with_reducible refine ws_aug_29 ?_ | with_reducible refine ws_aug_30 ?_ | with_reducible refine ws_aug_31 ?_ | with_reducible refine ws_aug_32 ?_ | with_reducible refine ws_aug_33 ?_ | with_reducible refine ws_aug_34 ?_ | with_reducible refine ws_aug_35 ?_ | with_reducible refine ws_aug_36 ?_ | with_reducible refine ws_aug_37 ?_ | with_reducible refine ws_aug_38 ?_ | with_reducible refine ws_aug_39 ?_) | ((with_reducible refine id_a ?_); first | with_reducible refine wa_cons ?_ | with_reducible refine wa_nil ?_) | ((with_reducible refine id_g ?_); first | with_reducible refine wg_add ?_ | ((with_reducible apply wg_adds); (· sizeOf_list_dec)) | ((with_reducible apply wg_addl); (· sizeOf_list_dec)) | with_reducible refine wg_plus ?_ | ((with_reducible apply wg_pluss); (· sizeOf_list_dec)) | with_reducible refine wg_plusI ?_ | with_reducible refine wg_minus ?_ | with_reducible refine wg_sub ?_ | with_reducible refine wg_pow9 ?_ | with_reducible refine wg_pow6 ?_ | with_reducible refine wg_pow3 ?_ | with_reducible refine wg_pow18 ?_ | ((with_reducible apply wg_mod); (· sizeOf_list_dec)) | ((with_reducible apply wg_div); (· sizeOf_list_dec)) | ((with_reducible apply wg_mul); (· sizeOf_list_dec)) | ((with_reducible apply wg_mulA); (· sizeOf_list_dec)) | ((with_reducible apply wg_mulS1); (· sizeOf_list_dec)) | ((with_reducible apply wg_mulS); (· sizeOf_list_dec)) | with_reducible refine wg_lt ?_ | with_reducible refine wg_le ?_ | with_reducible refine wg_gt ?_ | with_reducible refine wg_ge ?_ | with_reducible refine wg_eq ?_ | with_reducible refine wg_ne ?_ | with_reducible refine wg_eqs ?_ | with_reducible refine wg_nes ?_ | with_reducible refine wg_eqnn ?_ | with_reducible refine wg_eqni ?_ | with_reducible refine wg_eqin ?_ | with_reducible refine wg_eqns ?_ | with_reducible refine wg_eqsn ?_ | with_reducible refine wg_nenn ?_ | with_reducible refine wg_neni ?_ | with_reducible refine wg_nein ?_ | with_reducible refine wg_nens ?_ | with_reducible refine wg_nesn ?_ | with_reducible refine wg_isNn ?_ | with_reducible refine wg_isNi ?_ | with_reducible refine wg_isNs ?_ | with_reducible refine wg_isNt ?_ | with_reducible refine wg_isNl ?_ | with_reducible refine wg_isNo ?_ | with_reducible refine wg_notNn ?_ | with_reducible refine wg_notNi ?_ | with_reducible refine wg_notNs ?_ | with_reducible refine wg_notNt ?_ | with_reducible refine wg_notNl ?_ | with_reducible refine wg_notNo ?_ | ((with_reducible apply wg_lenS); (· sizeOf_list_dec)) | with_reducible refine wg_lenL ?_ | with_reducible refine wg_lenT ?_ | ((with_reducible apply wg_lenM); (· array_mem_dec)) | ((with_reducible apply wg_lenD); (· array_mem_dec)) | with_reducible refine wg_intI ?_ | with_reducible refine wg_intB ?_ | with_reducible refine wg_ord ?_ | with_reducible refine wg_max2 ?_ | with_reducible refine wg_min2 ?_ | with_reducible refine key_int ?_ | with_reducible refine key_str ?_ | ((with_reducible apply wg_look); (· exact rfl)) | ((with_reducible apply wdicR); (· array_mem_dec)) | ((with_reducible apply wdicRF); (· array_mem_dec)) | ((with_reducible apply wdicAt); (· array_mem_dec)) | ((with_reducible apply wput_dic); (· array_mem_dec); (· exact rfl); (· sizeOf_list_dec)) | ((with_reducible apply wput_lst); (· array_mem_dec); (· sizeOf_list_dec)) | with_reducible refine wtr_b ?_ | with_reducible refine wtr_n ?_ | with_reducible refine wtr_i ?_ | ((with_reducible apply wtr_s); (· sizeOf_list_dec)) | with_reducible refine wtr_l ?_ | ((with_reducible apply wtr_m); (· array_mem_dec)) | ((with_reducible apply wtr_d); (· array_mem_dec)) | with_reducible refine wpart_n ?_ | with_reducible refine wpart_i ?_ | ((with_reducible apply wsl_s_to); (· sizeOf_list_dec)) | ((with_reducible apply wsl_s_from); (· sizeOf_list_dec)) | ((with_reducible apply wsl_s_mid); (· sizeOf_list_dec)) | with_reducible refine wsl_l_to ?_ | with_reducible refine wsl_l_from ?_ | with_reducible refine wsl_l_mid ?_ | ((with_reducible apply wsl_m_to); (· array_mem_dec)) | ((with_reducible apply wsl_m_from); (· array_mem_dec)) | ((with_reducible apply wsl_m_mid); (· array_mem_dec)) | with_reducible refine wseqL ?_ | with_reducible refine wseqT ?_ | with_reducible refine wseqS ?_ | ((with_reducible apply wseqM); (· array_mem_dec)) | with_reducible refine wstillL ?_ | ((with_reducible apply wstillF); (· array_mem_dec)) | ((with_reducible apply wcopyD); (· array_mem_dec)) | ((with_reducible apply wlistM); (· array_mem_dec)) | with_reducible refine wlistML ?_ | with_reducible refine wlistMT ?_ | with_reducible refine wlistL ?_ | with_reducible refine wlistT ?_ | ((with_reducible apply wlistO); (· array_mem_dec)) | ((with_reducible apply wgisiT); (· exact rfl); (· exact rfl)) | ((with_reducible apply wgisiF); (· exact rfl); (· exact rfl)) | ((with_reducible apply wgisiT); (· exact ty_dic (by array_mem_dec)); (· exact rfl)) | ((with_reducible apply wgisiF); (· exact ty_dic (by array_mem_dec)); (· exact rfl)) | ((with_reducible apply wgisiT); (· exact ty_lstM (by array_mem_dec)); (· exact rfl)) | ((with_reducible apply wgisiF); (· exact ty_lstM (by array_mem_dec)); (· exact rfl)) | ((with_reducible apply ixA_tup); (· exact rfl)) | ((with_reducible apply inA_non); (· array_mem_dec)) | ((with_reducible apply ninA_non); (· array_mem_dec)) | ((with_reducible apply inA_dic); (· array_mem_dec); (· exact rfl)) | ((with_reducible apply inA_dicF); (· array_mem_dec); (· exact rfl)) | ((with_reducible apply ninA_dic); (· array_mem_dec); (· exact rfl)) | ((with_reducible apply ninA_dicF); (· array_mem_dec); (· exact rfl)) ) | ((with_reducible refine id_b ?_); first | with_reducible refine wb_true ?_ | with_reducible refine wb_false ?_ | ((with_reducible apply wb_pos); (· (first | with_reducible exact rfl | assumption | omega | (simp only [List.length_cons, List.length_nil, List.length_map]); (·  omega)))) | ((with_reducible apply wb_neg); (· (first | with_reducible exact rfl | assumption | omega | (simp only [List.length_cons, List.length_nil, List.length_map]); (·  omega)))) | ((with_reducible apply wb_npos); (· (first | with_reducible exact rfl | assumption | omega | (simp only [List.length_cons, List.length_nil, List.length_map]); (·  omega)))) | ((with_reducible apply wb_nneg); (· (first | with_reducible exact rfl | assumption | omega | (simp only [List.length_cons, List.length_nil, List.length_map]); (·  omega)))) | ((with_reducible apply wb_t); (· assumption)) | ((with_reducible apply wb_f); (· assumption)) ) | ((with_reducible refine id_t ?_); first | with_reducible refine wt_T ?_ | with_reducible refine wt_n_0 ?_ | with_reducible refine wt_n_1 ?_ | with_reducible refine wt_n_2 ?_ | with_reducible refine wt_n_3 ?_ | with_reducible refine wt_n_4 ?_ | with_reducible refine wt_n_5 ?_ | with_reducible refine wt_n_6 ?_ | with_reducible refine wt_n_7 ?_ | with_reducible refine wt_n_8 ?_ | with_reducible refine wt_n_9 ?_ | with_reducible refine wt_n_10 ?_ | with_reducible refine wt_n_11 ?_ | with_reducible refine wt_n_12 ?_ | with_reducible refine wt_n_13 ?_ | with_reducible refine wt_n_14 ?_ | with_reducible refine wt_n_15 ?_ | with_reducible refine wt_n_16 ?_ | with_reducible refine wt_n_17 ?_ | with_reducible refine wt_n_18 ?_ | with_reducible refine wt_n_19 ?_ | with_reducible refine wt_n_20 ?_ | with_reducible refine wt_n_21 ?_ | with_reducible refine wt_n_22 ?_ | with_reducible refine wt_n_23 ?_ | with_reducible refine wt_n_24 ?_ | with_reducible refine wt_n_25 ?_ | with_reducible refine wt_n_26 ?_ | with_reducible refine wt_n_27 ?_ | with_reducible refine wt_n_28 ?_ | with_reducible refine wt_n_29 ?_ | with_reducible refine wt_n_30 ?_ | with_reducible refine wt_n_31 ?_ | with_reducible refine wt_n_32 ?_ | with_reducible refine wt_n_33 ?_ | with_reducible refine wt_n_34 ?_ | with_reducible refine wt_n_35 ?_ | with_reducible refine wt_n_36 ?_ | with_reducible refine wt_n_37 ?_ | with_reducible refine wt_n_38 ?_ | with_reducible refine wt_n_39 ?_) | with_reducible refine wts_cons ?_ | with_reducible refine wts_nil ?_ | ((with_reducible refine id_i ?_); first | with_reducible refine wi_rng ?_ | with_reducible refine wi_rng2 ?_ | with_reducible refine wi_seq ?_ | with_reducible refine wi_dic ?_ | with_reducible refine wi_rv ?_ | with_reducible refine wi_en ?_ | with_reducible refine wi_zp ?_) | ((with_reducible refine id_h ?_); first | ((with_reducible apply wh_no); (· exact rfl)) | ((with_reducible apply wh_bare); (· exact rfl)) | ((with_reducible apply wh_yes_0); (· exact rfl)) | ((with_reducible apply wh_yes_1); (· exact rfl)) | ((with_reducible apply wh_yes_2); (· exact rfl)) | ((with_reducible apply wh_yes_3); (· exact rfl)) | ((with_reducible apply wh_yes_4); (· exact rfl)) | ((with_reducible apply wh_yes_5); (· exact rfl)) | ((with_reducible apply wh_yes_6); (· exact rfl)) | ((with_reducible apply wh_yes_7); (· exact rfl)) | ((with_reducible apply wh_yes_8); (· exact rfl)) | ((with_reducible apply wh_yes_9); (· exact rfl)) | ((with_reducible apply wh_yes_10); (· exact rfl)) | ((with_reducible apply wh_yes_11); (· exact rfl)) | ((with_reducible apply wh_yes_12); (· exact rfl)) | ((with_reducible apply wh_yes_13); (· exact rfl)) | ((with_reducible apply wh_yes_14); (· exact rfl)) | ((with_reducible apply wh_yes_15); (· exact rfl)) | ((with_reducible apply wh_yes_16); (· exact rfl)) | ((with_reducible apply wh_yes_17); (· exact rfl)) | ((with_reducible apply wh_yes_18); (· exact rfl)) | ((with_reducible apply wh_yes_19); (· exact rfl)) | ((with_reducible apply wh_yes_20); (· exact rfl)) | ((with_reducible apply wh_yes_21); (· exact rfl)) | ((with_reducible apply wh_yes_22); (· exact rfl)) | ((with_reducible apply wh_yes_23); (· exact rfl)) | ((with_reducible apply wh_yes_24); (· exact rfl)) | ((with_reducible apply wh_yes_25); (· exact rfl)) | ((with_reducible apply wh_yes_26); (· exact rfl)) | ((with_reducible apply wh_yes_27); (· exact rfl)) | ((with_reducible apply wh_yes_28); (· exact rfl)) | ((with_reducible apply wh_yes_29); (· exact rfl)) | ((with_reducible apply wh_yes_30); (· exact rfl)) | ((with_reducible apply wh_yes_31); (· exact rfl)) | ((with_reducible apply wh_yes_32); (· exact rfl)) | ((with_reducible apply wh_yes_33); (· exact rfl)) | ((with_reducible apply wh_yes_34); (· exact rfl)) | ((with_reducible apply wh_yes_35); (· exact rfl)) | ((with_reducible apply wh_yes_36); (· exact rfl)) | ((with_reducible apply wh_yes_37); (· exact rfl)) | ((with_reducible apply wh_yes_38); (· exact rfl)) | ((with_reducible apply wh_yes_39); (· exact rfl)) | with_reducible refine wh_nil ?_) | ((with_reducible refine id_cl ?_); first | with_reducible refine wcl_0 ?_ | with_reducible refine wcl_1 ?_ | with_reducible refine wcl_2 ?_ | with_reducible refine wcl_3 ?_ | with_reducible refine wcl_4 ?_ | with_reducible refine wcl_5 ?_ | with_reducible refine wcl_6 ?_ | with_reducible refine wcl_7 ?_ | with_reducible refine wcl_8 ?_ | with_reducible refine wcl_9 ?_ | with_reducible refine wcl_10 ?_ | with_reducible refine wcl_11 ?_ | with_reducible refine wcl_12 ?_ | with_reducible refine wcl_13 ?_ | with_reducible refine wcl_14 ?_ | with_reducible refine wcl_15 ?_ | with_reducible refine wcl_16 ?_ | with_reducible refine wcl_17 ?_ | with_reducible refine wcl_18 ?_ | with_reducible refine wcl_19 ?_ | with_reducible refine wcl_20 ?_ | with_reducible refine wcl_21 ?_ | with_reducible refine wcl_22 ?_ | with_reducible refine wcl_23 ?_ | with_reducible refine wcl_24 ?_ | with_reducible refine wcl_25 ?_ | with_reducible refine wcl_26 ?_ | with_reducible refine wcl_27 ?_ | with_reducible refine wcl_28 ?_ | with_reducible refine wcl_29 ?_ | with_reducible refine wcl_30 ?_ | with_reducible refine wcl_31 ?_ | with_reducible refine wcl_32 ?_ | with_reducible refine wcl_33 ?_ | with_reducible refine wcl_34 ?_ | with_reducible refine wcl_35 ?_ | with_reducible refine wcl_36 ?_ | with_reducible refine wcl_37 ?_ | with_reducible refine wcl_38 ?_ | with_reducible refine wcl_39 ?_) | with_reducible refine wbl ?_ | with_reducible refine wnot_t ?_ | with_reducible refine wnot_f ?_ | with_reducible refine wnot_n ?_ | with_reducible refine wnot ?_ | with_reducible refine wint ?_ | with_reducible refine wstr ?_ | with_reducible refine wobj ?_ | with_reducible refine wnon ?_ | ((with_reducible apply wat); · array_mem_dec) | ((with_reducible refine wyes_c ?_ ?_); (· exact rfl)) | ((with_reducible refine wyes_k ?_ ?_); (· exact rfl)) | ((with_reducible refine wyes_d ?_ ?_); (· exact ⟨rfl, Nat.le_of_ble_eq_true rfl⟩)) | ((with_reducible refine wyes ?_ ?_); · sizeOf_list_dec) | with_reducible refine wyes wlstT ?_ | with_reducible refine wlst ?_ | with_reducible refine wins ?_ | with_reducible refine winm ?_)
theorem wb_some {v : DV} {p q : Prop} (h : p) : WB (.bl (some v).isSome) p q := wb_t rfl h
theorem wb_none {p q : Prop} (h : q) : WB (.bl (none : Option DV).isSome) p q := wb_f rfl h
theorem wb_nsome {v : DV} {p q : Prop} (h : q) : WB (.bl (!(some v).isSome)) p q := wb_f rfl h
theorem wb_nnone {p q : Prop} (h : p) : WB (.bl (!(none : Option DV).isSome)) p q := wb_t rfl h
theorem ixA_l0 {a : DV} {r : List DV} {mu : Mu} {pp : DV → Prop} (hp : pp a) : WG (gIxA (.lst (a :: r)) (.int 0) mu) pp := ixA_lst (n := 0) rfl hp
theorem ixA_l1 {a b : DV} {r : List DV} {mu : Mu} {pp : DV → Prop} (hp : pp b) : WG (gIxA (.lst (a :: b :: r)) (.int 1) mu) pp := ixA_lst (n := 1) rfl hp
theorem ixA_l2 {a b c : DV} {r : List DV} {mu : Mu} {pp : DV → Prop} (hp : pp c) : WG (gIxA (.lst (a :: b :: c :: r)) (.int 2) mu) pp := ixA_lst (n := 2) rfl hp
theorem ixA_l3 {a b c d : DV} {r : List DV} {mu : Mu} {pp : DV → Prop} (hp : pp d) : WG (gIxA (.lst (a :: b :: c :: d :: r)) (.int 3) mu) pp := ixA_lst (n := 3) rfl hp
theorem ixA_l4 {a b c d e : DV} {r : List DV} {mu : Mu} {pp : DV → Prop} (hp : pp e) : WG (gIxA (.lst (a :: b :: c :: d :: e :: r)) (.int 4) mu) pp := ixA_lst (n := 4) rfl hp
theorem ixA_l5 {a b c d e f : DV} {r : List DV} {mu : Mu} {pp : DV → Prop} (hp : pp f) : WG (gIxA (.lst (a :: b :: c :: d :: e :: f :: r)) (.int 5) mu) pp := ixA_lst (n := 5) rfl hp
theorem ixA_l6 {a b c d e f g : DV} {r : List DV} {mu : Mu} {pp : DV → Prop} (hp : pp g) : WG (gIxA (.lst (a :: b :: c :: d :: e :: f :: g :: r)) (.int 6) mu) pp := ixA_lst (n := 6) rfl hp
theorem ixA_l7 {a b c d e f g h : DV} {r : List DV} {mu : Mu} {pp : DV → Prop} (hp : pp h) : WG (gIxA (.lst (a :: b :: c :: d :: e :: f :: g :: h :: r)) (.int 7) mu) pp := ixA_lst (n := 7) rfl hp
section
variable {m m' : Mu} {q lo co fa : Nat} {row st tu tr wd n : Int} {L : List LN} {C Fk : KVs}
theorem wg_str {i : Int} {pp : DV → Prop} (hi : 0 ≤ i ∧ i < 18446744073709551616) (h : pp (.str (TL.numL i.toNat))) : WG (gStr [.int i] m) pp := ⟨_, if_pos hi, h⟩
end
end DM

namespace DM
open PySem PySem.Spec PyProof.Rows L2
local macro_rules | `(tactic| sizeOf_list_dec) => `(tactic| first | assumption | omega | exact Nat.zero_le _ | (simp only [List.length_cons, List.length_nil, List.length_append, List.length_map, List.length_replicate, List.length_range, List.length_take, List.length_drop, List.length_reverse]; omega) | (decide; done))
local macro_rules | `(tactic| array_mem_dec) => `(tactic| (repeat (first | with_reducible assumption | with_reducible exact mem_new | with_reducible apply mem_same' | ((with_reducible apply mem_ne'); (· first | assumption | omega)) | with_reducible apply mem_old | with_reducible exact mem_hd | with_reducible apply mem_app)); done)
local macro_rules | `(tactic| array_get_dec) => `(tactic| first | ((with_reducible refine id_e ?_); first | with_reducible refine we_c ?_ | with_reducible refine we_op ?_ | with_reducible refine we_cb ?_ | with_reducible refine we_call0 ?_ | with_reducible refine we_call ?_ | with_reducible refine we_B ?_ | with_reducible refine we_tru ?_ | with_reducible refine we_not ?_ | with_reducible refine we_and ?_ | with_reducible refine we_or ?_ | with_reducible refine we_if ?_ | with_reducible refine we_neg ?_ | with_reducible refine we_I ?_ | with_reducible refine we_chain ?_ | with_reducible refine we_tup ?_ | with_reducible refine we_lst ?_ | with_reducible refine we_lstM0 ?_ | with_reducible refine we_lstM ?_ | with_reducible refine we_dnew ?_ | with_reducible refine we_sl ?_ | with_reducible refine we_m1 ?_ | with_reducible refine we_isiT ?_ | with_reducible refine we_append ?_ | with_reducible refine we_get1 ?_ | with_reducible refine we_get2 ?_ | with_reducible refine we_pop2 ?_ | with_reducible refine we_pop1 ?_ | with_reducible refine we_cm ?_ | with_reducible refine we_fld ?_ | with_reducible refine we_meth ?_ | with_reducible refine we_make ?_ | with_reducible refine we_yes ?_ | with_reducible refine we_popA ?_ | ((with_reducible apply we_xf); (· exact rfl)) | ((with_reducible apply we_is); (· exact rfl)) | with_reducible refine we_var_0 ?_ | with_reducible refine we_var_1 ?_ | with_reducible refine we_var_2 ?_ | with_reducible refine we_var_3 ?_ | with_reducible refine we_var_4 ?_ | with_reducible refine we_var_5 ?_ | with_reducible refine we_var_6 ?_ | with_reducible refine we_var_7 ?_ | with_reducible refine we_var_8 ?_ | with_reducible refine we_var_9 ?_ | with_reducible refine we_var_10 ?_ | with_reducible refine we_var_11 ?_ | with_reducible refine we_var_12 ?_ | with_reducible refine we_var_13 ?_ | with_reducible refine we_var_14 ?_ | with_reducible refine we_var_15 ?_ | with_reducible refine we_var_16 ?_ | with_reducible refine we_var_17 ?_ | with_reducible refine we_var_18 ?_ | with_reducible refine we_var_19 ?_ | with_reducible refine we_var_20 ?_ | with_reducible refine we_var_21 ?_ | with_reducible refine we_var_22 ?_ | with_reducible refine we_var_23 ?_ | with_reducible refine we_var_24 ?_ | with_reducible refine we_var_25 ?_ | with_reducible refine we_var_26 ?_ | with_reducible refine we_var_27 ?_ | with_reducible refine we_var_28 ?_ | with_reducible refine we_var_29 ?_ | with_reducible refine we_var_30 ?_ | with_reducible refine we_var_31 ?_ | with_reducible refine we_var_32 ?_ | with_reducible refine we_var_33 ?_ | with_reducible refine we_var_34 ?_ | with_reducible refine we_var_35 ?_ | with_reducible refine we_var_36 ?_ | with_reducible refine we_var_37 ?_ | with_reducible refine we_var_38 ?_ | with_reducible refine we_var_39 ?_) | ((with_reducible refine id_s ?_); first | with_reducible refine ws_seq ?_ | with_reducible refine ws_next ?_ | with_reducible refine ws_drop ?_ | with_reducible refine ws_ret ?_ | with_reducible refine ws_retN ?_ | with_reducible refine ws_brk ?_ | with_reducible refine ws_cnt ?_ | with_reducible refine ws_asg ?_ | with_reducible refine ws_if ?_ | with_reducible refine ws_put ?_ | with_reducible refine ws_fldP ?_ | with_reducible refine ws_fldA ?_ | with_reducible refine ws_daug ?_ | with_reducible refine ws_try ?_ | with_reducible refine ws_raise ?_ | with_reducible refine ws_raise0 ?_ | with_reducible refine ws_set_0 ?_ | with_reducible refine ws_set_1 ?_ | with_reducible refine ws_set_2 ?_ | with_reducible refine ws_set_3 ?_ | with_reducible refine ws_set_4 ?_ | with_reducible refine ws_set_5 ?_ | with_reducible refine ws_set_6 ?_ | with_reducible refine ws_set_7 ?_ | with_reducible refine ws_set_8 ?_ | with_reducible refine ws_set_9 ?_ | with_reducible refine ws_set_10 ?_ | with_reducible refine ws_set_11 ?_ | with_reducible refine ws_set_12 ?_ | with_reducible refine ws_set_13 ?_ | with_reducible refine ws_set_14 ?_ | with_reducible refine ws_set_15 ?_ | with_reducible refine ws_set_16 ?_ | with_reducible refine ws_set_17 ?_ | with_reducible refine ws_set_18 ?_ | with_reducible refine ws_set_19 ?_ | with_reducible refine ws_set_20 ?_ | with_reducible refine ws_set_21 ?_ | with_reducible refine ws_set_22 ?_ | with_reducible refine ws_set_23 ?_ | with_reducible refine ws_set_24 ?_ | with_reducible refine ws_set_25 ?_ | with_reducible refine ws_set_26 ?_ | with_reducible refine ws_set_27 ?_ | with_reducible refine ws_set_28 ?_ | with_reducible refine ws_set_29 ?_ | with_reducible refine ws_set_30 ?_ | with_reducible refine ws_set_31 ?_ | with_reducible refine ws_set_32 ?_ | with_reducible refine ws_set_33 ?_ | with_reducible refine ws_set_34 ?_ | with_reducible refine ws_set_35 ?_ | with_reducible refine ws_set_36 ?_ | with_reducible refine ws_set_37 ?_ | with_reducible refine ws_set_38 ?_ | with_reducible refine ws_set_39 ?_ | with_reducible refine ws_aug_0 ?_ | with_reducible refine ws_aug_1 ?_ | with_reducible refine ws_aug_2 ?_ | with_reducible refine ws_aug_3 ?_ | with_reducible refine ws_aug_4 ?_ | with_reducible refine ws_aug_5 ?_ | with_reducible refine ws_aug_6 ?_ | with_reducible refine ws_aug_7 ?_ | with_reducible refine ws_aug_8 ?_ | with_reducible refine ws_aug_9 ?_ | with_reducible refine ws_aug_10 ?_ | with_reducible refine ws_aug_11 ?_ | with_reducible refine ws_aug_12 ?_ | with_reducible refine ws_aug_13 ?_ | with_reducible refine ws_aug_14 ?_ | with_reducible refine ws_aug_15 ?_ | with_reducible refine ws_aug_16 ?_ | with_reducible refine ws_aug_17 ?_ | with_reducible refine ws_aug_18 ?_ | with_reducible refine ws_aug_19 ?_ | with_reducible refine ws_aug_20 ?_ | with_reducible refine ws_aug_21 ?_ | with_reducible refine ws_aug_22 ?_ | with_reducible refine ws_aug_23 ?_ | with_reducible refine ws_aug_24 ?_ | with_reducible refine ws_aug_25 ?_ | with_reducible refine ws_aug_26 ?_ | with_reducible refine ws_aug_27 ?_ | with_reducible refine ws_aug_28 ?_ | with_reducible refine ws_aug_29 ?_ | with_reducible refine ws_aug_30 ?_ | with_reducible refine ws_aug_31 ?_ | with_reducible refine ws_aug_32 ?_ | with_reducible refine ws_aug_33 ?_ | with_reducible refine ws_aug_34 ?_ | with_reducible refine ws_aug_35 ?_ | with_reducible refine ws_aug_36 ?_ | with_reducible refine ws_aug_37 ?_ | with_reducible refine ws_aug_38 ?_ | with_reducible refine ws_aug_39 ?_) | ((with_reducible refine id_a ?_); first | with_reducible refine wa_cons ?_ | with_reducible refine wa_nil ?_) | ((with_reducible refine id_g ?_); first | with_reducible refine wg_add ?_ | ((with_reducible apply wg_adds); (· sizeOf_list_dec)) | ((with_reducible apply wg_addl); (· sizeOf_list_dec)) | with_reducible refine wg_plus ?_ | ((with_reducible apply wg_pluss); (· sizeOf_list_dec)) | with_reducible refine wg_plusI ?_ | with_reducible refine wg_minus ?_ | with_reducible refine wg_sub ?_ | with_reducible refine wg_pow9 ?_ | with_reducible refine wg_pow6 ?_ | with_reducible refine wg_pow3 ?_ | with_reducible refine wg_pow18 ?_ | ((with_reducible apply wg_mod); (· sizeOf_list_dec)) | ((with_reducible apply wg_div); (· sizeOf_list_dec)) | ((with_reducible apply wg_mul); (· sizeOf_list_dec)) | ((with_reducible apply wg_mulA); (· sizeOf_list_dec)) | ((with_reducible apply wg_mulS1); (· sizeOf_list_dec)) | ((with_reducible apply wg_mulS); (· sizeOf_list_dec)) | with_reducible refine wg_lt ?_ | with_reducible refine wg_le ?_ | with_reducible refine wg_gt ?_ | with_reducible refine wg_ge ?_ | with_reducible refine wg_eq ?_ | with_reducible refine wg_ne ?_ | with_reducible refine wg_eqs ?_ | with_reducible refine wg_nes ?_ | with_reducible refine wg_eqnn ?_ | with_reducible refine wg_eqni ?_ | with_reducible refine wg_eqin ?_ | with_reducible refine wg_eqns ?_ | with_reducible refine wg_eqsn ?_ | with_reducible refine wg_nenn ?_ | with_reducible refine wg_neni ?_ | with_reducible refine wg_nein ?_ | with_reducible refine wg_nens ?_ | with_reducible refine wg_nesn ?_ | with_reducible refine wg_isNn ?_ | with_reducible refine wg_isNi ?_ | with_reducible refine wg_isNs ?_ | with_reducible refine wg_isNt ?_ | with_reducible refine wg_isNl ?_ | with_reducible refine wg_isNo ?_ | with_reducible refine wg_notNn ?_ | with_reducible refine wg_notNi ?_ | with_reducible refine wg_notNs ?_ | with_reducible refine wg_notNt ?_ | with_reducible refine wg_notNl ?_ | with_reducible refine wg_notNo ?_ | ((with_reducible apply wg_lenS); (· sizeOf_list_dec)) | with_reducible refine wg_lenL ?_ | with_reducible refine wg_lenT ?_ | ((with_reducible apply wg_lenM); (· array_mem_dec)) | ((with_reducible apply wg_lenD); (· array_mem_dec)) | with_reducible refine wg_intI ?_ | with_reducible refine wg_intB ?_ | with_reducible refine wg_ord ?_ | with_reducible refine wg_max2 ?_ | with_reducible refine wg_min2 ?_ | with_reducible refine key_int ?_ | with_reducible refine key_str ?_ | ((with_reducible apply wg_look); (· exact rfl)) | ((with_reducible apply wdicR); (· array_mem_dec)) | ((with_reducible apply wdicRF); (· array_mem_dec)) | ((with_reducible apply wdicAt); (· array_mem_dec)) | ((with_reducible apply wput_dic); (· array_mem_dec); (· exact rfl); (· sizeOf_list_dec)) | ((with_reducible apply wput_lst); (· array_mem_dec); (· sizeOf_list_dec)) | with_reducible refine wtr_b ?_ | with_reducible refine wtr_n ?_ | with_reducible refine wtr_i ?_ | ((with_reducible apply wtr_s); (· sizeOf_list_dec)) | with_reducible refine wtr_l ?_ | ((with_reducible apply wtr_m); (· array_mem_dec)) | ((with_reducible apply wtr_d); (· array_mem_dec)) | with_reducible refine wpart_n ?_ | with_reducible refine wpart_i ?_ | ((with_reducible apply wsl_s_to); (· sizeOf_list_dec)) | ((with_reducible apply wsl_s_from); (· sizeOf_list_dec)) | ((with_reducible apply wsl_s_mid); (· sizeOf_list_dec)) | with_reducible refine wsl_l_to ?_ | with_reducible refine wsl_l_from ?_ | with_reducible refine wsl_l_mid ?_ | ((with_reducible apply wsl_m_to); (· array_mem_dec)) | ((with_reducible apply wsl_m_from); (· array_mem_dec)) | ((with_reducible apply wsl_m_mid); (· array_mem_dec)) | with_reducible refine wseqL ?_ | with_reducible refine wseqT ?_ | with_reducible refine wseqS ?_ | ((with_reducible apply wseqM); (· array_mem_dec)) | with_reducible refine wstillL ?_ | ((with_reducible apply wstillF); (· array_mem_dec)) | ((with_reducible apply wcopyD); (· array_mem_dec)) | ((with_reducible apply wlistM); (· array_mem_dec)) | with_reducible refine wlistML ?_ | with_reducible refine wlistMT ?_ | with_reducible refine wlistL ?_ | with_reducible refine wlistT ?_ | ((with_reducible apply wlistO); (· array_mem_dec)) | ((with_reducible apply wgisiT); (· exact rfl); (· exact rfl)) | ((with_reducible apply wgisiF); (· exact rfl); (· exact rfl)) | ((with_reducible apply wgisiT); (· exact ty_dic (by array_mem_dec)); (· exact rfl)) | ((with_reducible apply wgisiF); (· exact ty_dic (by array_mem_dec)); (· exact rfl)) | ((with_reducible apply wgisiT); (· exact ty_lstM (by array_mem_dec)); (· exact rfl)) | ((with_reducible apply wgisiF); (· exact ty_lstM (by array_mem_dec)); (· exact rfl)) | ((with_reducible apply ixA_tup); (· exact rfl)) | ((with_reducible apply inA_non); (· array_mem_dec)) | ((with_reducible apply ninA_non); (· array_mem_dec)) | ((with_reducible apply inA_dic); (· array_mem_dec); (· exact rfl)) | ((with_reducible apply inA_dicF); (· array_mem_dec); (· exact rfl)) | ((with_reducible apply ninA_dic); (· array_mem_dec); (· exact rfl)) | ((with_reducible apply ninA_dicF); (· array_mem_dec); (· exact rfl)) ) | ((with_reducible refine id_b ?_); first | with_reducible refine wb_true ?_ | with_reducible refine wb_false ?_ | ((with_reducible apply wb_pos); (· (first | with_reducible exact rfl | assumption | omega | (simp only [List.length_cons, List.length_nil, List.length_map]); (·  omega)))) | ((with_reducible apply wb_neg); (· (first | with_reducible exact rfl | assumption | omega | (simp only [List.length_cons, List.length_nil, List.length_map]); (·  omega)))) | ((with_reducible apply wb_npos); (· (first | with_reducible exact rfl | assumption | omega | (simp only [List.length_cons, List.length_nil, List.length_map]); (·  omega)))) | ((with_reducible apply wb_nneg); (· (first | with_reducible exact rfl | assumption | omega | (simp only [List.length_cons, List.length_nil, List.length_map]); (·  omega)))) | ((with_reducible apply wb_t); (· assumption)) | ((with_reducible apply wb_f); (· assumption)) ) | ((with_reducible refine id_t ?_); first | with_reducible refine wt_T ?_ | with_reducible refine wt_n_0 ?_ | with_reducible refine wt_n_1 ?_ | with_reducible refine wt_n_2 ?_ | with_reducible refine wt_n_3 ?_ | with_reducible refine wt_n_4 ?_ | with_reducible refine wt_n_5 ?_ | with_reducible refine wt_n_6 ?_ | with_reducible refine wt_n_7 ?_ | with_reducible refine wt_n_8 ?_ | with_reducible refine wt_n_9 ?_ | with_reducible refine wt_n_10 ?_ | with_reducible refine wt_n_11 ?_ | with_reducible refine wt_n_12 ?_ | with_reducible refine wt_n_13 ?_ | with_reducible refine wt_n_14 ?_ | with_reducible refine wt_n_15 ?_ | with_reducible refine wt_n_16 ?_ | with_reducible refine wt_n_17 ?_ | with_reducible refine wt_n_18 ?_ | with_reducible refine wt_n_19 ?_ | with_reducible refine wt_n_20 ?_ | with_reducible refine wt_n_21 ?_ | with_reducible refine wt_n_22 ?_ | with_reducible refine wt_n_23 ?_ | with_reducible refine wt_n_24 ?_ | with_reducible refine wt_n_25 ?_ | with_reducible refine wt_n_26 ?_ | with_reducible refine wt_n_27 ?_ | with_reducible refine wt_n_28 ?_ | with_reducible refine wt_n_29 ?_ | with_reducible refine wt_n_30 ?_ | with_reducible refine wt_n_31 ?_ | with_reducible refine wt_n_32 ?_ | with_reducible refine wt_n_33 ?_ | with_reducible refine wt_n_34 ?_ | with_reducible refine wt_n_35 ?_ | with_reducible refine wt_n_36 ?_ | with_reducible refine wt_n_37 ?_ | with_reducible refine wt_n_38 ?_ | with_reducible refine wt_n_39 ?_) | with_reducible refine wts_cons ?_ | with_reducible refine wts_nil ?_ | ((with_reducible refine id_i ?_); first | with_reducible refine wi_rng ?_ | with_reducible refine wi_rng2 ?_ | with_reducible refine wi_seq ?_ | with_reducible refine wi_dic ?_ | with_reducible refine wi_rv ?_ | with_reducible refine wi_en ?_ | with_reducible refine wi_zp ?_) | ((with_reducible refine id_h ?_); first | ((with_reducible apply wh_no); (· exact rfl)) | ((with_reducible apply wh_bare); (· exact rfl)) | ((with_reducible apply wh_yes_0); (· exact rfl)) | ((with_reducible apply wh_yes_1); (· exact rfl)) | ((with_reducible apply wh_yes_2); (· exact rfl)) | ((with_reducible apply wh_yes_3); (· exact rfl)) | ((with_reducible apply wh_yes_4); (· exact rfl)) | ((with_reducible apply wh_yes_5); (· exact rfl)) | ((with_reducible apply wh_yes_6); (· exact rfl)) | ((with_reducible apply wh_yes_7); (· exact rfl)) | ((with_reducible apply wh_yes_8); (· exact rfl)) | ((with_reducible apply wh_yes_9); (· exact rfl)) | ((with_reducible apply wh_yes_10); (· exact rfl)) | ((with_reducible apply wh_yes_11); (· exact rfl)) | ((with_reducible apply wh_yes_12); (· exact rfl)) | ((with_reducible apply wh_yes_13); (· exact rfl)) | ((with_reducible apply wh_yes_14); (· exact rfl)) | ((with_reducible apply wh_yes_15); (· exact rfl)) | ((with_reducible apply wh_yes_16); (· exact rfl)) | ((with_reducible apply wh_yes_17); (· exact rfl)) | ((with_reducible apply wh_yes_18); (· exact rfl)) | ((with_reducible apply wh_yes_19); (· exact rfl)) | ((with_reducible apply wh_yes_20); (· exact rfl)) | ((with_reducible apply wh_yes_21); (· exact rfl)) | ((with_reducible apply wh_yes_22); (· exact rfl)) | ((with_reducible apply wh_yes_23); (· exact rfl)) | ((with_reducible apply wh_yes_24); (· exact rfl)) | ((with_reducible apply wh_yes_25); (· exact rfl)) | ((with_reducible apply wh_yes_26); (· exact rfl)) | ((with_reducible apply wh_yes_27); (· exact rfl)) | ((with_reducible apply wh_yes_28); (· exact rfl)) | ((with_reducible apply wh_yes_29); (· exact rfl)) | ((with_reducible apply wh_yes_30); (· exact rfl)) | ((with_reducible apply wh_yes_31); (· exact rfl)) | ((with_reducible apply wh_yes_32); (· exact rfl)) | ((with_reducible apply wh_yes_33); (· exact rfl)) | ((with_reducible apply wh_yes_34); (· exact rfl)) | ((with_reducible apply wh_yes_35); (· exact rfl)) | ((with_reducible apply wh_yes_36); (· exact rfl)) | ((with_reducible apply wh_yes_37); (· exact rfl)) | ((with_reducible apply wh_yes_38); (· exact rfl)) | ((with_reducible apply wh_yes_39); (· exact rfl)) | with_reducible refine wh_nil ?_) | ((with_reducible refine id_cl ?_); first | with_reducible refine wcl_0 ?_ | with_reducible refine wcl_1 ?_ | with_reducible refine wcl_2 ?_ | with_reducible refine wcl_3 ?_ | with_reducible refine wcl_4 ?_ | with_reducible refine wcl_5 ?_ | with_reducible refine wcl_6 ?_ | with_reducible refine wcl_7 ?_ | with_reducible refine wcl_8 ?_ | with_reducible refine wcl_9 ?_ | with_reducible refine wcl_10 ?_ | with_reducible refine wcl_11 ?_ | with_reducible refine wcl_12 ?_ | with_reducible refine wcl_13 ?_ | with_reducible refine wcl_14 ?_ | with_reducible refine wcl_15 ?_ | with_reducible refine wcl_16 ?_ | with_reducible refine wcl_17 ?_ | with_reducible refine wcl_18 ?_ | with_reducible refine wcl_19 ?_ | with_reducible refine wcl_20 ?_ | with_reducible refine wcl_21 ?_ | with_reducible refine wcl_22 ?_ | with_reducible refine wcl_23 ?_ | with_reducible refine wcl_24 ?_ | with_reducible refine wcl_25 ?_ | with_reducible refine wcl_26 ?_ | with_reducible refine wcl_27 ?_ | with_reducible refine wcl_28 ?_ | with_reducible refine wcl_29 ?_ | with_reducible refine wcl_30 ?_ | with_reducible refine wcl_31 ?_ | with_reducible refine wcl_32 ?_ | with_reducible refine wcl_33 ?_ | with_reducible refine wcl_34 ?_ | with_reducible refine wcl_35 ?_ | with_reducible refine wcl_36 ?_ | with_reducible refine wcl_37 ?_ | with_reducible refine wcl_38 ?_ | with_reducible refine wcl_39 ?_) | with_reducible refine wbl ?_ | with_reducible refine wnot_t ?_ | with_reducible refine wnot_f ?_ | with_reducible refine wnot_n ?_ | with_reducible refine wnot ?_ | with_reducible refine wint ?_ | with_reducible refine wstr ?_ | with_reducible refine wobj ?_ | with_reducible refine wnon ?_ | ((with_reducible apply wat); · array_mem_dec) | ((with_reducible refine wyes_c ?_ ?_); (· exact rfl)) | ((with_reducible refine wyes_k ?_ ?_); (· exact rfl)) | ((with_reducible refine wyes_d ?_ ?_); (· exact ⟨rfl, Nat.le_of_ble_eq_true rfl⟩)) | ((with_reducible refine wyes ?_ ?_); · sizeOf_list_dec) | with_reducible refine wyes wlstT ?_ | with_reducible refine wlst ?_ | with_reducible refine wins ?_ | with_reducible refine winm ?_)
local macro_rules | `(tactic| array_get_dec) => `(tactic| with_reducible refine ixA_l0 ?_)
local macro_rules | `(tactic| array_get_dec) => `(tactic| with_reducible refine ixA_l1 ?_)
local macro_rules | `(tactic| array_get_dec) => `(tactic| with_reducible refine ixA_l2 ?_)
local macro_rules | `(tactic| array_get_dec) => `(tactic| with_reducible refine ixA_l3 ?_)
local macro_rules | `(tactic| array_get_dec) => `(tactic| with_reducible refine ixA_l4 ?_)
local macro_rules | `(tactic| array_get_dec) => `(tactic| with_reducible refine ixA_l5 ?_)
local macro_rules | `(tactic| array_get_dec) => `(tactic| with_reducible refine ixA_l6 ?_)
local macro_rules | `(tactic| array_get_dec) => `(tactic| with_reducible refine ixA_l7 ?_)
local macro_rules | `(tactic| array_get_dec) => `(tactic| with_reducible refine wb_some ?_)
local macro_rules | `(tactic| array_get_dec) => `(tactic| with_reducible refine wb_none ?_)
local macro_rules | `(tactic| array_get_dec) => `(tactic| with_reducible refine wb_nsome ?_)
local macro_rules | `(tactic| array_get_dec) => `(tactic| with_reducible refine wb_nnone ?_)
theorem popA_dic {m : Mu} {k : Nat} {kvs : KVs} {fo fe : DE} {dl : Dl} {P : KE} {X : KX} {y : DV} {ky : L2.Key} {d : DV} (h1 : fo dl m = .ok (.obj k) m) (g : m[k]? = some (.dic kvs)) (h2 : fe dl m = .ok y m) (h3 : keyOf y = some ky) (h4 : valD kvs ky = some d) (hp : P d (m.set k (.dic (dropD kvs ky)))) : WE (eDPopA fo fe) dl m P X := by
  have e0 : eDPopA fo fe dl m = eDPop1 fo fe dl m := by
    unfold eDPopA
    rw [h1]
    dsimp only
    rw [if_neg]
    intro z
    cases e : lstAt m k with
    | none => rw [e] at z; cases z
    | some ds => have := lstAt_some e; rw [g] at this; cases this
  have h5 : WE (eDPop1 fo fe) dl m (fun d' m' => d' = d ∧ m' = m.set k (.dic (dropD kvs ky))) NoX := by
    refine we_pop1 ?_
    refine we_eq h1 ?_
    refine ⟨k, rfl, kvs, dicR_of g, ?_⟩
    refine we_eq h2 ?_
    refine ⟨kvs, dicAt_of g, ky, h3, d, h4, rfl, rfl⟩
  obtain ⟨d', m', e, rfl, rfl⟩ := we_ex h5
  exact we_eq (e0.trans e) hp
structure DR where
  nm : List Nat
  en : Int
  ft : List Nat
  d : Nat
  sps : List (Int × Int)
  pls : List (List Nat × Int × Int)
def plgD (x : List Nat × Int × Int) : DV := .tup [.str x.1, .int x.2.1, .int x.2.2]
def drF (x : DR) : List (Str × DV) := [("sender", .str x.nm), ("ends", .int x.en), ("fate", .str x.ft), ("spots", .obj (x.d + 1)), ("pledges", .obj (x.d + 2))]
def dsF (k : Int) (dd od : Nat) : List (Str × DV) := [("many", .int k), ("deeds", .obj dd), ("open_by", .obj od)]
def drK : Nat → List DR → KVs
  | _, [] => []
  | k, x :: r => (.inl ((k : Int) + 1), .obj x.d) :: drK (k + 1) r
theorem drK_set : ∀ (D : List DR) (k i : Nat) (x y : DR), D[i]? = some x → y.d = x.d → drK k (D.set i y) = drK k D
  | [], _, _, _, _, h, _ => by simp at h
  | z :: D, k, 0, x, y, h, e => by
    simp at h
    subst h
    show (_, DV.obj y.d) :: _ = (_, DV.obj z.d) :: _
    rw [e]
  | z :: D, k, i + 1, x, y, h, e => by
    rw [List.getElem?_cons_succ] at h
    show _ :: drK (k + 1) (D.set i y) = _ :: drK (k + 1) D
    rw [drK_set D (k + 1) i x y h e]
structure DsOk (m : Mu) (q : Nat) (D : List DR) (KA : KVs) : Prop where
  ob : m[q]? = some (.ins "Deeds" (dsF (D.length : Nat) (q + 1) (q + 2)))
  de : m[q + 1]? = some (.dic (drK 0 D))
  op : m[q + 2]? = some (.dic KA)
  at_ : ∀ x, x ∈ D → m[x.d]? = some (.ins "Deed" (drF x)) ∧ m[x.d + 1]? = some (.lst (x.sps.map spD)) ∧ m[x.d + 2]? = some (.lst (x.pls.map plgD)) ∧ q + 2 < x.d
  srt : D.Pairwise fun a b => a.d + 2 < b.d
section
variable {m m' : Mu} {q : Nat} {D : List DR} {KA : KVs} {x : DR} {i : Nat} {n : Int}
def InD (q : Nat) (D : List DR) (k : Nat) : Prop := k = q ∨ k = q + 1 ∨ k = q + 2 ∨ ∃ x, x ∈ D ∧ (k = x.d ∨ k = x.d + 1 ∨ k = x.d + 2)
theorem DsOk.lt (h : DsOk m q D KA) {k : Nat} (hk : InD q D k) : q ≤ k ∧ k < m.length := by
  rcases hk with rfl | rfl | rfl | ⟨x, hx, rfl | rfl | rfl⟩
  · exact ⟨Nat.le_refl _, mem_lt h.ob⟩
  · exact ⟨by omega, mem_lt h.de⟩
  · exact ⟨by omega, mem_lt h.op⟩
  · have := h.at_ x hx; exact ⟨by omega, mem_lt this.1⟩
  · have := h.at_ x hx; exact ⟨by omega, mem_lt this.2.1⟩
  · have := h.at_ x hx; exact ⟨by omega, mem_lt this.2.2.1⟩
abbrev openS : List Nat := [111, 112, 101, 110]
theorem dr_apart (h : DsOk m q D KA) {i j : Nat} {x y : DR} (hi : D[i]? = some x) (hj : D[j]? = some y) (ne : i ≠ j) : x.d + 2 < y.d ∨ y.d + 2 < x.d := by
  obtain ⟨hi1, hi2⟩ := List.getElem?_eq_some_iff.mp hi
  obtain ⟨hj1, hj2⟩ := List.getElem?_eq_some_iff.mp hj
  have hp := List.pairwise_iff_getElem.mp h.srt
  rcases Nat.lt_or_gt_of_ne ne with c | c
  · left
    have := hp i j hi1 hj1 c
    rw [hi2, hj2] at this
    exact this
  · right
    have := hp j i hj1 hi1 c
    rw [hi2, hj2] at this
    exact this
theorem DsOk.ch (h : DsOk m q D KA) (hi : D[i]? = some x) {y : DR} (ed : y.d = x.d) {KA' : KVs} (g0 : m'[q + 2]? = some (.dic KA')) (g1 : m'[x.d]? = some (.ins "Deed" (drF y))) (g2 : m'[x.d + 1]? = some (.lst (y.sps.map spD))) (g3 : m'[x.d + 2]? = some (.lst (y.pls.map plgD)))
    (g : ∀ k u, k ≠ q + 2 → k ≠ x.d → k ≠ x.d + 1 → k ≠ x.d + 2 → m[k]? = some u → m'[k]? = some u) : DsOk m' q (D.set i y) KA' := by
  have hx := h.at_ x (List.mem_of_getElem? hi)
  refine ⟨?_, ?_, g0, ?_, ?_⟩
  · rw [List.length_set]
    exact g _ _ (by omega) (by omega) (by omega) (by omega) h.ob
  · rw [drK_set D 0 i x y hi ed]
    exact g _ _ (by omega) (by omega) (by omega) (by omega) h.de
  · intro z hz
    obtain ⟨j, hj, ez⟩ := List.getElem_of_mem hz
    rw [List.length_set] at hj
    rw [List.getElem_set] at ez
    split at ez
    · subst ez
      rw [ed]
      exact ⟨g1, g2, g3, hx.2.2.2⟩
    · rename_i c
      have hjj : D[j]? = some z := by rw [List.getElem?_eq_getElem hj, ez]
      have ap := dr_apart h hi hjj c
      have hz2 := h.at_ z (List.mem_of_getElem? hjj)
      exact ⟨g _ _ (by omega) (by omega) (by omega) (by omega) hz2.1, g _ _ (by omega) (by omega) (by omega) (by omega) hz2.2.1, g _ _ (by omega) (by omega) (by omega) (by omega) hz2.2.2.1, hz2.2.2.2⟩
  · rw [List.pairwise_iff_getElem]
    intro a b ha hb hab
    rw [List.length_set] at ha hb
    have hp := List.pairwise_iff_getElem.mp h.srt a b ha hb hab
    obtain ⟨hi1, hi2⟩ := List.getElem?_eq_some_iff.mp hi
    rw [List.getElem_set, List.getElem_set]
    split <;> split
    · omega
    · rename_i c _; subst c; rw [ed, ← hi2]; exact hp
    · rename_i _ c; subst c; rw [ed, ← hi2]; exact hp
    · exact hp
end
end DM

namespace DM
open PySem PySem.Spec PyProof.Rows L2
local macro_rules | `(tactic| sizeOf_list_dec) => `(tactic| first | assumption | omega | exact Nat.zero_le _ | (simp only [List.length_cons, List.length_nil, List.length_append, List.length_map, List.length_replicate, List.length_range, List.length_take, List.length_drop, List.length_reverse]; omega) | (decide; done))
local macro_rules | `(tactic| array_mem_dec) => `(tactic| (repeat (first | with_reducible assumption | with_reducible exact mem_new | with_reducible apply mem_same' | ((with_reducible apply mem_ne'); (· first | assumption | omega)) | with_reducible apply mem_old | with_reducible exact mem_hd | with_reducible apply mem_app)); done)
local macro_rules | `(tactic| array_get_dec) => `(tactic| first | ((with_reducible refine id_e ?_); first | with_reducible refine we_c ?_ | with_reducible refine we_op ?_ | with_reducible refine we_cb ?_ | with_reducible refine we_call0 ?_ | with_reducible refine we_call ?_ | with_reducible refine we_B ?_ | with_reducible refine we_tru ?_ | with_reducible refine we_not ?_ | with_reducible refine we_and ?_ | with_reducible refine we_or ?_ | with_reducible refine we_if ?_ | with_reducible refine we_neg ?_ | with_reducible refine we_I ?_ | with_reducible refine we_chain ?_ | with_reducible refine we_tup ?_ | with_reducible refine we_lst ?_ | with_reducible refine we_lstM0 ?_ | with_reducible refine we_lstM ?_ | with_reducible refine we_dnew ?_ | with_reducible refine we_sl ?_ | with_reducible refine we_m1 ?_ | with_reducible refine we_isiT ?_ | with_reducible refine we_append ?_ | with_reducible refine we_get1 ?_ | with_reducible refine we_get2 ?_ | with_reducible refine we_pop2 ?_ | with_reducible refine we_pop1 ?_ | with_reducible refine we_cm ?_ | with_reducible refine we_fld ?_ | with_reducible refine we_meth ?_ | with_reducible refine we_make ?_ | with_reducible refine we_yes ?_ | with_reducible refine we_popA ?_ | ((with_reducible apply we_xf); (· exact rfl)) | ((with_reducible apply we_is); (· exact rfl)) | with_reducible refine we_var_0 ?_ | with_reducible refine we_var_1 ?_ | with_reducible refine we_var_2 ?_ | with_reducible refine we_var_3 ?_ | with_reducible refine we_var_4 ?_ | with_reducible refine we_var_5 ?_ | with_reducible refine we_var_6 ?_ | with_reducible refine we_var_7 ?_ | with_reducible refine we_var_8 ?_ | with_reducible refine we_var_9 ?_ | with_reducible refine we_var_10 ?_ | with_reducible refine we_var_11 ?_ | with_reducible refine we_var_12 ?_ | with_reducible refine we_var_13 ?_ | with_reducible refine we_var_14 ?_ | with_reducible refine we_var_15 ?_ | with_reducible refine we_var_16 ?_ | with_reducible refine we_var_17 ?_ | with_reducible refine we_var_18 ?_ | with_reducible refine we_var_19 ?_ | with_reducible refine we_var_20 ?_ | with_reducible refine we_var_21 ?_ | with_reducible refine we_var_22 ?_ | with_reducible refine we_var_23 ?_ | with_reducible refine we_var_24 ?_ | with_reducible refine we_var_25 ?_ | with_reducible refine we_var_26 ?_ | with_reducible refine we_var_27 ?_ | with_reducible refine we_var_28 ?_ | with_reducible refine we_var_29 ?_ | with_reducible refine we_var_30 ?_ | with_reducible refine we_var_31 ?_ | with_reducible refine we_var_32 ?_ | with_reducible refine we_var_33 ?_ | with_reducible refine we_var_34 ?_ | with_reducible refine we_var_35 ?_ | with_reducible refine we_var_36 ?_ | with_reducible refine we_var_37 ?_ | with_reducible refine we_var_38 ?_ | with_reducible refine we_var_39 ?_) | ((with_reducible refine id_s ?_); first | with_reducible refine ws_seq ?_ | with_reducible refine ws_next ?_ | with_reducible refine ws_drop ?_ | with_reducible refine ws_ret ?_ | with_reducible refine ws_retN ?_ | with_reducible refine ws_brk ?_ | with_reducible refine ws_cnt ?_ | with_reducible refine ws_asg ?_ | with_reducible refine ws_if ?_ | with_reducible refine ws_put ?_ | with_reducible refine ws_fldP ?_ | with_reducible refine ws_fldA ?_ | with_reducible refine ws_daug ?_ | with_reducible refine ws_try ?_ | with_reducible refine ws_raise ?_ | with_reducible refine ws_raise0 ?_ | with_reducible refine ws_set_0 ?_ | with_reducible refine ws_set_1 ?_ | with_reducible refine ws_set_2 ?_ | with_reducible refine ws_set_3 ?_ | with_reducible refine ws_set_4 ?_ | with_reducible refine ws_set_5 ?_ | with_reducible refine ws_set_6 ?_ | with_reducible refine ws_set_7 ?_ | with_reducible refine ws_set_8 ?_ | with_reducible refine ws_set_9 ?_ | with_reducible refine ws_set_10 ?_ | with_reducible refine ws_set_11 ?_ | with_reducible refine ws_set_12 ?_ | with_reducible refine ws_set_13 ?_ | with_reducible refine ws_set_14 ?_ | with_reducible refine ws_set_15 ?_ | with_reducible refine ws_set_16 ?_ | with_reducible refine ws_set_17 ?_ | with_reducible refine ws_set_18 ?_ | with_reducible refine ws_set_19 ?_ | with_reducible refine ws_set_20 ?_ | with_reducible refine ws_set_21 ?_ | with_reducible refine ws_set_22 ?_ | with_reducible refine ws_set_23 ?_ | with_reducible refine ws_set_24 ?_ | with_reducible refine ws_set_25 ?_ | with_reducible refine ws_set_26 ?_ | with_reducible refine ws_set_27 ?_ | with_reducible refine ws_set_28 ?_ | with_reducible refine ws_set_29 ?_ | with_reducible refine ws_set_30 ?_ | with_reducible refine ws_set_31 ?_ | with_reducible refine ws_set_32 ?_ | with_reducible refine ws_set_33 ?_ | with_reducible refine ws_set_34 ?_ | with_reducible refine ws_set_35 ?_ | with_reducible refine ws_set_36 ?_ | with_reducible refine ws_set_37 ?_ | with_reducible refine ws_set_38 ?_ | with_reducible refine ws_set_39 ?_ | with_reducible refine ws_aug_0 ?_ | with_reducible refine ws_aug_1 ?_ | with_reducible refine ws_aug_2 ?_ | with_reducible refine ws_aug_3 ?_ | with_reducible refine ws_aug_4 ?_ | with_reducible refine ws_aug_5 ?_ | with_reducible refine ws_aug_6 ?_ | with_reducible refine ws_aug_7 ?_ | with_reducible refine ws_aug_8 ?_ | with_reducible refine ws_aug_9 ?_ | with_reducible refine ws_aug_10 ?_ | with_reducible refine ws_aug_11 ?_ | with_reducible refine ws_aug_12 ?_ | with_reducible refine ws_aug_13 ?_ | with_reducible refine ws_aug_14 ?_ | with_reducible refine ws_aug_15 ?_ | with_reducible refine ws_aug_16 ?_ | with_reducible refine ws_aug_17 ?_ | with_reducible refine ws_aug_18 ?_ | with_reducible refine ws_aug_19 ?_ | with_reducible refine ws_aug_20 ?_ | with_reducible refine ws_aug_21 ?_ | with_reducible refine ws_aug_22 ?_ | with_reducible refine ws_aug_23 ?_ | with_reducible refine ws_aug_24 ?_ | with_reducible refine ws_aug_25 ?_ | with_reducible refine ws_aug_26 ?_ | with_reducible refine ws_aug_27 ?_ | with_reducible refine ws_aug_28 ?_ | with_reducible refine ws_aug_29 ?_ | with_reducible refine ws_aug_30 ?_ | with_reducible refine ws_aug_31 ?_ | with_reducible refine ws_aug_32 ?_ | with_reducible refine ws_aug_33 ?_ | with_reducible refine ws_aug_34 ?_ | with_reducible refine ws_aug_35 ?_ | with_reducible refine ws_aug_36 ?_ | with_reducible refine ws_aug_37 ?_ | with_reducible refine ws_aug_38 ?_ | with_reducible refine ws_aug_39 ?_) | ((with_reducible refine id_a ?_); first | with_reducible refine wa_cons ?_ | with_reducible refine wa_nil ?_) | ((with_reducible refine id_g ?_); first | with_reducible refine wg_add ?_ | ((with_reducible apply wg_adds); (· sizeOf_list_dec)) | ((with_reducible apply wg_addl); (· sizeOf_list_dec)) | with_reducible refine wg_plus ?_ | ((with_reducible apply wg_pluss); (· sizeOf_list_dec)) | with_reducible refine wg_plusI ?_ | with_reducible refine wg_minus ?_ | with_reducible refine wg_sub ?_ | with_reducible refine wg_pow9 ?_ | with_reducible refine wg_pow6 ?_ | with_reducible refine wg_pow3 ?_ | with_reducible refine wg_pow18 ?_ | ((with_reducible apply wg_mod); (· sizeOf_list_dec)) | ((with_reducible apply wg_div); (· sizeOf_list_dec)) | ((with_reducible apply wg_mul); (· sizeOf_list_dec)) | ((with_reducible apply wg_mulA); (· sizeOf_list_dec)) | ((with_reducible apply wg_mulS1); (· sizeOf_list_dec)) | ((with_reducible apply wg_mulS); (· sizeOf_list_dec)) | with_reducible refine wg_lt ?_ | with_reducible refine wg_le ?_ | with_reducible refine wg_gt ?_ | with_reducible refine wg_ge ?_ | with_reducible refine wg_eq ?_ | with_reducible refine wg_ne ?_ | with_reducible refine wg_eqs ?_ | with_reducible refine wg_nes ?_ | with_reducible refine wg_eqnn ?_ | with_reducible refine wg_eqni ?_ | with_reducible refine wg_eqin ?_ | with_reducible refine wg_eqns ?_ | with_reducible refine wg_eqsn ?_ | with_reducible refine wg_nenn ?_ | with_reducible refine wg_neni ?_ | with_reducible refine wg_nein ?_ | with_reducible refine wg_nens ?_ | with_reducible refine wg_nesn ?_ | with_reducible refine wg_isNn ?_ | with_reducible refine wg_isNi ?_ | with_reducible refine wg_isNs ?_ | with_reducible refine wg_isNt ?_ | with_reducible refine wg_isNl ?_ | with_reducible refine wg_isNo ?_ | with_reducible refine wg_notNn ?_ | with_reducible refine wg_notNi ?_ | with_reducible refine wg_notNs ?_ | with_reducible refine wg_notNt ?_ | with_reducible refine wg_notNl ?_ | with_reducible refine wg_notNo ?_ | ((with_reducible apply wg_lenS); (· sizeOf_list_dec)) | with_reducible refine wg_lenL ?_ | with_reducible refine wg_lenT ?_ | ((with_reducible apply wg_lenM); (· array_mem_dec)) | ((with_reducible apply wg_lenD); (· array_mem_dec)) | with_reducible refine wg_intI ?_ | with_reducible refine wg_intB ?_ | with_reducible refine wg_ord ?_ | with_reducible refine wg_max2 ?_ | with_reducible refine wg_min2 ?_ | with_reducible refine key_int ?_ | with_reducible refine key_str ?_ | ((with_reducible apply wg_look); (· exact rfl)) | ((with_reducible apply wdicR); (· array_mem_dec)) | ((with_reducible apply wdicRF); (· array_mem_dec)) | ((with_reducible apply wdicAt); (· array_mem_dec)) | ((with_reducible apply wput_dic); (· array_mem_dec); (· exact rfl); (· sizeOf_list_dec)) | ((with_reducible apply wput_lst); (· array_mem_dec); (· sizeOf_list_dec)) | with_reducible refine wtr_b ?_ | with_reducible refine wtr_n ?_ | with_reducible refine wtr_i ?_ | ((with_reducible apply wtr_s); (· sizeOf_list_dec)) | with_reducible refine wtr_l ?_ | ((with_reducible apply wtr_m); (· array_mem_dec)) | ((with_reducible apply wtr_d); (· array_mem_dec)) | with_reducible refine wpart_n ?_ | with_reducible refine wpart_i ?_ | ((with_reducible apply wsl_s_to); (· sizeOf_list_dec)) | ((with_reducible apply wsl_s_from); (· sizeOf_list_dec)) | ((with_reducible apply wsl_s_mid); (· sizeOf_list_dec)) | with_reducible refine wsl_l_to ?_ | with_reducible refine wsl_l_from ?_ | with_reducible refine wsl_l_mid ?_ | ((with_reducible apply wsl_m_to); (· array_mem_dec)) | ((with_reducible apply wsl_m_from); (· array_mem_dec)) | ((with_reducible apply wsl_m_mid); (· array_mem_dec)) | with_reducible refine wseqL ?_ | with_reducible refine wseqT ?_ | with_reducible refine wseqS ?_ | ((with_reducible apply wseqM); (· array_mem_dec)) | with_reducible refine wstillL ?_ | ((with_reducible apply wstillF); (· array_mem_dec)) | ((with_reducible apply wcopyD); (· array_mem_dec)) | ((with_reducible apply wlistM); (· array_mem_dec)) | with_reducible refine wlistML ?_ | with_reducible refine wlistMT ?_ | with_reducible refine wlistL ?_ | with_reducible refine wlistT ?_ | ((with_reducible apply wlistO); (· array_mem_dec)) | ((with_reducible apply wgisiT); (· exact rfl); (· exact rfl)) | ((with_reducible apply wgisiF); (· exact rfl); (· exact rfl)) | ((with_reducible apply wgisiT); (· exact ty_dic (by array_mem_dec)); (· exact rfl)) | ((with_reducible apply wgisiF); (· exact ty_dic (by array_mem_dec)); (· exact rfl)) | ((with_reducible apply wgisiT); (· exact ty_lstM (by array_mem_dec)); (· exact rfl)) | ((with_reducible apply wgisiF); (· exact ty_lstM (by array_mem_dec)); (· exact rfl)) | ((with_reducible apply ixA_tup); (· exact rfl)) | ((with_reducible apply inA_non); (· array_mem_dec)) | ((with_reducible apply ninA_non); (· array_mem_dec)) | ((with_reducible apply inA_dic); (· array_mem_dec); (· exact rfl)) | ((with_reducible apply inA_dicF); (· array_mem_dec); (· exact rfl)) | ((with_reducible apply ninA_dic); (· array_mem_dec); (· exact rfl)) | ((with_reducible apply ninA_dicF); (· array_mem_dec); (· exact rfl)) ) | ((with_reducible refine id_b ?_); first | with_reducible refine wb_true ?_ | with_reducible refine wb_false ?_ | ((with_reducible apply wb_pos); (· (first | with_reducible exact rfl | assumption | omega | (simp only [List.length_cons, List.length_nil, List.length_map]); (·  omega)))) | ((with_reducible apply wb_neg); (· (first | with_reducible exact rfl | assumption | omega | (simp only [List.length_cons, List.length_nil, List.length_map]); (·  omega)))) | ((with_reducible apply wb_npos); (· (first | with_reducible exact rfl | assumption | omega | (simp only [List.length_cons, List.length_nil, List.length_map]); (·  omega)))) | ((with_reducible apply wb_nneg); (· (first | with_reducible exact rfl | assumption | omega | (simp only [List.length_cons, List.length_nil, List.length_map]); (·  omega)))) | ((with_reducible apply wb_t); (· assumption)) | ((with_reducible apply wb_f); (· assumption)) ) | ((with_reducible refine id_t ?_); first | with_reducible refine wt_T ?_ | with_reducible refine wt_n_0 ?_ | with_reducible refine wt_n_1 ?_ | with_reducible refine wt_n_2 ?_ | with_reducible refine wt_n_3 ?_ | with_reducible refine wt_n_4 ?_ | with_reducible refine wt_n_5 ?_ | with_reducible refine wt_n_6 ?_ | with_reducible refine wt_n_7 ?_ | with_reducible refine wt_n_8 ?_ | with_reducible refine wt_n_9 ?_ | with_reducible refine wt_n_10 ?_ | with_reducible refine wt_n_11 ?_ | with_reducible refine wt_n_12 ?_ | with_reducible refine wt_n_13 ?_ | with_reducible refine wt_n_14 ?_ | with_reducible refine wt_n_15 ?_ | with_reducible refine wt_n_16 ?_ | with_reducible refine wt_n_17 ?_ | with_reducible refine wt_n_18 ?_ | with_reducible refine wt_n_19 ?_ | with_reducible refine wt_n_20 ?_ | with_reducible refine wt_n_21 ?_ | with_reducible refine wt_n_22 ?_ | with_reducible refine wt_n_23 ?_ | with_reducible refine wt_n_24 ?_ | with_reducible refine wt_n_25 ?_ | with_reducible refine wt_n_26 ?_ | with_reducible refine wt_n_27 ?_ | with_reducible refine wt_n_28 ?_ | with_reducible refine wt_n_29 ?_ | with_reducible refine wt_n_30 ?_ | with_reducible refine wt_n_31 ?_ | with_reducible refine wt_n_32 ?_ | with_reducible refine wt_n_33 ?_ | with_reducible refine wt_n_34 ?_ | with_reducible refine wt_n_35 ?_ | with_reducible refine wt_n_36 ?_ | with_reducible refine wt_n_37 ?_ | with_reducible refine wt_n_38 ?_ | with_reducible refine wt_n_39 ?_) | with_reducible refine wts_cons ?_ | with_reducible refine wts_nil ?_ | ((with_reducible refine id_i ?_); first | with_reducible refine wi_rng ?_ | with_reducible refine wi_rng2 ?_ | with_reducible refine wi_seq ?_ | with_reducible refine wi_dic ?_ | with_reducible refine wi_rv ?_ | with_reducible refine wi_en ?_ | with_reducible refine wi_zp ?_) | ((with_reducible refine id_h ?_); first | ((with_reducible apply wh_no); (· exact rfl)) | ((with_reducible apply wh_bare); (· exact rfl)) | ((with_reducible apply wh_yes_0); (· exact rfl)) | ((with_reducible apply wh_yes_1); (· exact rfl)) | ((with_reducible apply wh_yes_2); (· exact rfl)) | ((with_reducible apply wh_yes_3); (· exact rfl)) | ((with_reducible apply wh_yes_4); (· exact rfl)) | ((with_reducible apply wh_yes_5); (· exact rfl)) | ((with_reducible apply wh_yes_6); (· exact rfl)) | ((with_reducible apply wh_yes_7); (· exact rfl)) | ((with_reducible apply wh_yes_8); (· exact rfl)) | ((with_reducible apply wh_yes_9); (· exact rfl)) | ((with_reducible apply wh_yes_10); (· exact rfl)) | ((with_reducible apply wh_yes_11); (· exact rfl)) | ((with_reducible apply wh_yes_12); (· exact rfl)) | ((with_reducible apply wh_yes_13); (· exact rfl)) | ((with_reducible apply wh_yes_14); (· exact rfl)) | ((with_reducible apply wh_yes_15); (· exact rfl)) | ((with_reducible apply wh_yes_16); (· exact rfl)) | ((with_reducible apply wh_yes_17); (· exact rfl)) | ((with_reducible apply wh_yes_18); (· exact rfl)) | ((with_reducible apply wh_yes_19); (· exact rfl)) | ((with_reducible apply wh_yes_20); (· exact rfl)) | ((with_reducible apply wh_yes_21); (· exact rfl)) | ((with_reducible apply wh_yes_22); (· exact rfl)) | ((with_reducible apply wh_yes_23); (· exact rfl)) | ((with_reducible apply wh_yes_24); (· exact rfl)) | ((with_reducible apply wh_yes_25); (· exact rfl)) | ((with_reducible apply wh_yes_26); (· exact rfl)) | ((with_reducible apply wh_yes_27); (· exact rfl)) | ((with_reducible apply wh_yes_28); (· exact rfl)) | ((with_reducible apply wh_yes_29); (· exact rfl)) | ((with_reducible apply wh_yes_30); (· exact rfl)) | ((with_reducible apply wh_yes_31); (· exact rfl)) | ((with_reducible apply wh_yes_32); (· exact rfl)) | ((with_reducible apply wh_yes_33); (· exact rfl)) | ((with_reducible apply wh_yes_34); (· exact rfl)) | ((with_reducible apply wh_yes_35); (· exact rfl)) | ((with_reducible apply wh_yes_36); (· exact rfl)) | ((with_reducible apply wh_yes_37); (· exact rfl)) | ((with_reducible apply wh_yes_38); (· exact rfl)) | ((with_reducible apply wh_yes_39); (· exact rfl)) | with_reducible refine wh_nil ?_) | ((with_reducible refine id_cl ?_); first | with_reducible refine wcl_0 ?_ | with_reducible refine wcl_1 ?_ | with_reducible refine wcl_2 ?_ | with_reducible refine wcl_3 ?_ | with_reducible refine wcl_4 ?_ | with_reducible refine wcl_5 ?_ | with_reducible refine wcl_6 ?_ | with_reducible refine wcl_7 ?_ | with_reducible refine wcl_8 ?_ | with_reducible refine wcl_9 ?_ | with_reducible refine wcl_10 ?_ | with_reducible refine wcl_11 ?_ | with_reducible refine wcl_12 ?_ | with_reducible refine wcl_13 ?_ | with_reducible refine wcl_14 ?_ | with_reducible refine wcl_15 ?_ | with_reducible refine wcl_16 ?_ | with_reducible refine wcl_17 ?_ | with_reducible refine wcl_18 ?_ | with_reducible refine wcl_19 ?_ | with_reducible refine wcl_20 ?_ | with_reducible refine wcl_21 ?_ | with_reducible refine wcl_22 ?_ | with_reducible refine wcl_23 ?_ | with_reducible refine wcl_24 ?_ | with_reducible refine wcl_25 ?_ | with_reducible refine wcl_26 ?_ | with_reducible refine wcl_27 ?_ | with_reducible refine wcl_28 ?_ | with_reducible refine wcl_29 ?_ | with_reducible refine wcl_30 ?_ | with_reducible refine wcl_31 ?_ | with_reducible refine wcl_32 ?_ | with_reducible refine wcl_33 ?_ | with_reducible refine wcl_34 ?_ | with_reducible refine wcl_35 ?_ | with_reducible refine wcl_36 ?_ | with_reducible refine wcl_37 ?_ | with_reducible refine wcl_38 ?_ | with_reducible refine wcl_39 ?_) | with_reducible refine wbl ?_ | with_reducible refine wnot_t ?_ | with_reducible refine wnot_f ?_ | with_reducible refine wnot_n ?_ | with_reducible refine wnot ?_ | with_reducible refine wint ?_ | with_reducible refine wstr ?_ | with_reducible refine wobj ?_ | with_reducible refine wnon ?_ | ((with_reducible apply wat); · array_mem_dec) | ((with_reducible refine wyes_c ?_ ?_); (· exact rfl)) | ((with_reducible refine wyes_k ?_ ?_); (· exact rfl)) | ((with_reducible refine wyes_d ?_ ?_); (· exact ⟨rfl, Nat.le_of_ble_eq_true rfl⟩)) | ((with_reducible refine wyes ?_ ?_); · sizeOf_list_dec) | with_reducible refine wyes wlstT ?_ | with_reducible refine wlst ?_ | with_reducible refine wins ?_ | with_reducible refine winm ?_)
local macro_rules | `(tactic| array_get_dec) => `(tactic| with_reducible refine ixA_l0 ?_)
local macro_rules | `(tactic| array_get_dec) => `(tactic| with_reducible refine ixA_l1 ?_)
local macro_rules | `(tactic| array_get_dec) => `(tactic| with_reducible refine ixA_l2 ?_)
local macro_rules | `(tactic| array_get_dec) => `(tactic| with_reducible refine ixA_l3 ?_)
local macro_rules | `(tactic| array_get_dec) => `(tactic| with_reducible refine ixA_l4 ?_)
local macro_rules | `(tactic| array_get_dec) => `(tactic| with_reducible refine ixA_l5 ?_)
local macro_rules | `(tactic| array_get_dec) => `(tactic| with_reducible refine ixA_l6 ?_)
local macro_rules | `(tactic| array_get_dec) => `(tactic| with_reducible refine ixA_l7 ?_)
local macro_rules | `(tactic| array_get_dec) => `(tactic| with_reducible refine wb_some ?_)
local macro_rules | `(tactic| array_get_dec) => `(tactic| with_reducible refine wb_none ?_)
local macro_rules | `(tactic| array_get_dec) => `(tactic| with_reducible refine wb_nsome ?_)
local macro_rules | `(tactic| array_get_dec) => `(tactic| with_reducible refine wb_nnone ?_)
local macro_rules | `(tactic| array_get_dec) => `(tactic| ((with_reducible apply popA_dic); (· exact ev_var rfl); (· array_mem_dec); (· exact ev_var rfl); (· exact rfl); (· assumption)))
structure RR where
  nm : List Nat
  row : Int
  pl : Int
def RR.d (r : RR) : DV := .tup [.int r.row, .int r.pl]
def rsK (R : List RR) : KVs := R.map fun r => (.inr (Sx r.nm), r.d)
structure RdOk (m : Mu) (q sd : Nat) (R : List RR) : Prop where
  ob : m[q]? = some (.ins "Readers" [("spots", .obj sd)])
  sp : m[sd]? = some (.dic (rsK R))
  ne : q ≠ sd
section
variable {m m' : Mu} {q sd : Nat} {R : List RR} {r : RR} {z : List Nat}
end
end DM

namespace DM
open PySem PySem.Spec PyProof.Rows L2
local macro_rules | `(tactic| sizeOf_list_dec) => `(tactic| first | assumption | omega | exact Nat.zero_le _ | (simp only [List.length_cons, List.length_nil, List.length_append, List.length_map, List.length_replicate, List.length_range, List.length_take, List.length_drop, List.length_reverse]; omega) | (decide; done))
local macro_rules | `(tactic| array_mem_dec) => `(tactic| (repeat (first | with_reducible assumption | with_reducible exact mem_new | with_reducible apply mem_same' | ((with_reducible apply mem_ne'); (· first | assumption | omega)) | with_reducible apply mem_old | with_reducible exact mem_hd | with_reducible apply mem_app)); done)
local macro_rules | `(tactic| array_get_dec) => `(tactic| first | ((with_reducible refine id_e ?_); first | with_reducible refine we_c ?_ | with_reducible refine we_op ?_ | with_reducible refine we_cb ?_ | with_reducible refine we_call0 ?_ | with_reducible refine we_call ?_ | with_reducible refine we_B ?_ | with_reducible refine we_tru ?_ | with_reducible refine we_not ?_ | with_reducible refine we_and ?_ | with_reducible refine we_or ?_ | with_reducible refine we_if ?_ | with_reducible refine we_neg ?_ | with_reducible refine we_I ?_ | with_reducible refine we_chain ?_ | with_reducible refine we_tup ?_ | with_reducible refine we_lst ?_ | with_reducible refine we_lstM0 ?_ | with_reducible refine we_lstM ?_ | with_reducible refine we_dnew ?_ | with_reducible refine we_sl ?_ | with_reducible refine we_m1 ?_ | with_reducible refine we_isiT ?_ | with_reducible refine we_append ?_ | with_reducible refine we_get1 ?_ | with_reducible refine we_get2 ?_ | with_reducible refine we_pop2 ?_ | with_reducible refine we_pop1 ?_ | with_reducible refine we_cm ?_ | with_reducible refine we_fld ?_ | with_reducible refine we_meth ?_ | with_reducible refine we_make ?_ | with_reducible refine we_yes ?_ | with_reducible refine we_popA ?_ | ((with_reducible apply we_xf); (· exact rfl)) | ((with_reducible apply we_is); (· exact rfl)) | with_reducible refine we_var_0 ?_ | with_reducible refine we_var_1 ?_ | with_reducible refine we_var_2 ?_ | with_reducible refine we_var_3 ?_ | with_reducible refine we_var_4 ?_ | with_reducible refine we_var_5 ?_ | with_reducible refine we_var_6 ?_ | with_reducible refine we_var_7 ?_ | with_reducible refine we_var_8 ?_ | with_reducible refine we_var_9 ?_ | with_reducible refine we_var_10 ?_ | with_reducible refine we_var_11 ?_ | with_reducible refine we_var_12 ?_ | with_reducible refine we_var_13 ?_ | with_reducible refine we_var_14 ?_ | with_reducible refine we_var_15 ?_ | with_reducible refine we_var_16 ?_ | with_reducible refine we_var_17 ?_ | with_reducible refine we_var_18 ?_ | with_reducible refine we_var_19 ?_ | with_reducible refine we_var_20 ?_ | with_reducible refine we_var_21 ?_ | with_reducible refine we_var_22 ?_ | with_reducible refine we_var_23 ?_ | with_reducible refine we_var_24 ?_ | with_reducible refine we_var_25 ?_ | with_reducible refine we_var_26 ?_ | with_reducible refine we_var_27 ?_ | with_reducible refine we_var_28 ?_ | with_reducible refine we_var_29 ?_ | with_reducible refine we_var_30 ?_ | with_reducible refine we_var_31 ?_ | with_reducible refine we_var_32 ?_ | with_reducible refine we_var_33 ?_ | with_reducible refine we_var_34 ?_ | with_reducible refine we_var_35 ?_ | with_reducible refine we_var_36 ?_ | with_reducible refine we_var_37 ?_ | with_reducible refine we_var_38 ?_ | with_reducible refine we_var_39 ?_) | ((with_reducible refine id_s ?_); first | with_reducible refine ws_seq ?_ | with_reducible refine ws_next ?_ | with_reducible refine ws_drop ?_ | with_reducible refine ws_ret ?_ | with_reducible refine ws_retN ?_ | with_reducible refine ws_brk ?_ | with_reducible refine ws_cnt ?_ | with_reducible refine ws_asg ?_ | with_reducible refine ws_if ?_ | with_reducible refine ws_put ?_ | with_reducible refine ws_fldP ?_ | with_reducible refine ws_fldA ?_ | with_reducible refine ws_daug ?_ | with_reducible refine ws_try ?_ | with_reducible refine ws_raise ?_ | with_reducible refine ws_raise0 ?_ | with_reducible refine ws_set_0 ?_ | with_reducible refine ws_set_1 ?_ | with_reducible refine ws_set_2 ?_ | with_reducible refine ws_set_3 ?_ | with_reducible refine ws_set_4 ?_ | with_reducible refine ws_set_5 ?_ | with_reducible refine ws_set_6 ?_ | with_reducible refine ws_set_7 ?_ | with_reducible refine ws_set_8 ?_ | with_reducible refine ws_set_9 ?_ | with_reducible refine ws_set_10 ?_ | with_reducible refine ws_set_11 ?_ | with_reducible refine ws_set_12 ?_ | with_reducible refine ws_set_13 ?_ | with_reducible refine ws_set_14 ?_ | with_reducible refine ws_set_15 ?_ | with_reducible refine ws_set_16 ?_ | with_reducible refine ws_set_17 ?_ | with_reducible refine ws_set_18 ?_ | with_reducible refine ws_set_19 ?_ | with_reducible refine ws_set_20 ?_ | with_reducible refine ws_set_21 ?_ | with_reducible refine ws_set_22 ?_ | with_reducible refine ws_set_23 ?_ | with_reducible refine ws_set_24 ?_ | with_reducible refine ws_set_25 ?_ | with_reducible refine ws_set_26 ?_ | with_reducible refine ws_set_27 ?_ | with_reducible refine ws_set_28 ?_ | with_reducible refine ws_set_29 ?_ | with_reducible refine ws_set_30 ?_ | with_reducible refine ws_set_31 ?_ | with_reducible refine ws_set_32 ?_ | with_reducible refine ws_set_33 ?_ | with_reducible refine ws_set_34 ?_ | with_reducible refine ws_set_35 ?_ | with_reducible refine ws_set_36 ?_ | with_reducible refine ws_set_37 ?_ | with_reducible refine ws_set_38 ?_ | with_reducible refine ws_set_39 ?_ | with_reducible refine ws_aug_0 ?_ | with_reducible refine ws_aug_1 ?_ | with_reducible refine ws_aug_2 ?_ | with_reducible refine ws_aug_3 ?_ | with_reducible refine ws_aug_4 ?_ | with_reducible refine ws_aug_5 ?_ | with_reducible refine ws_aug_6 ?_ | with_reducible refine ws_aug_7 ?_ | with_reducible refine ws_aug_8 ?_ | with_reducible refine ws_aug_9 ?_ | with_reducible refine ws_aug_10 ?_ | with_reducible refine ws_aug_11 ?_ | with_reducible refine ws_aug_12 ?_ | with_reducible refine ws_aug_13 ?_ | with_reducible refine ws_aug_14 ?_ | with_reducible refine ws_aug_15 ?_ | with_reducible refine ws_aug_16 ?_ | with_reducible refine ws_aug_17 ?_ | with_reducible refine ws_aug_18 ?_ | with_reducible refine ws_aug_19 ?_ | with_reducible refine ws_aug_20 ?_ | with_reducible refine ws_aug_21 ?_ | with_reducible refine ws_aug_22 ?_ | with_reducible refine ws_aug_23 ?_ | with_reducible refine ws_aug_24 ?_ | with_reducible refine ws_aug_25 ?_ | with_reducible refine ws_aug_26 ?_ | with_reducible refine ws_aug_27 ?_ | with_reducible refine ws_aug_28 ?_ | with_reducible refine ws_aug_29 ?_ | with_reducible refine ws_aug_30 ?_ | with_reducible refine ws_aug_31 ?_ | with_reducible refine ws_aug_32 ?_ | with_reducible refine ws_aug_33 ?_ | with_reducible refine ws_aug_34 ?_ | with_reducible refine ws_aug_35 ?_ | with_reducible refine ws_aug_36 ?_ | with_reducible refine ws_aug_37 ?_ | with_reducible refine ws_aug_38 ?_ | with_reducible refine ws_aug_39 ?_) | ((with_reducible refine id_a ?_); first | with_reducible refine wa_cons ?_ | with_reducible refine wa_nil ?_) | ((with_reducible refine id_g ?_); first | with_reducible refine wg_add ?_ | ((with_reducible apply wg_adds); (· sizeOf_list_dec)) | ((with_reducible apply wg_addl); (· sizeOf_list_dec)) | with_reducible refine wg_plus ?_ | ((with_reducible apply wg_pluss); (· sizeOf_list_dec)) | with_reducible refine wg_plusI ?_ | with_reducible refine wg_minus ?_ | with_reducible refine wg_sub ?_ | with_reducible refine wg_pow9 ?_ | with_reducible refine wg_pow6 ?_ | with_reducible refine wg_pow3 ?_ | with_reducible refine wg_pow18 ?_ | ((with_reducible apply wg_mod); (· sizeOf_list_dec)) | ((with_reducible apply wg_div); (· sizeOf_list_dec)) | ((with_reducible apply wg_mul); (· sizeOf_list_dec)) | ((with_reducible apply wg_mulA); (· sizeOf_list_dec)) | ((with_reducible apply wg_mulS1); (· sizeOf_list_dec)) | ((with_reducible apply wg_mulS); (· sizeOf_list_dec)) | with_reducible refine wg_lt ?_ | with_reducible refine wg_le ?_ | with_reducible refine wg_gt ?_ | with_reducible refine wg_ge ?_ | with_reducible refine wg_eq ?_ | with_reducible refine wg_ne ?_ | with_reducible refine wg_eqs ?_ | with_reducible refine wg_nes ?_ | with_reducible refine wg_eqnn ?_ | with_reducible refine wg_eqni ?_ | with_reducible refine wg_eqin ?_ | with_reducible refine wg_eqns ?_ | with_reducible refine wg_eqsn ?_ | with_reducible refine wg_nenn ?_ | with_reducible refine wg_neni ?_ | with_reducible refine wg_nein ?_ | with_reducible refine wg_nens ?_ | with_reducible refine wg_nesn ?_ | with_reducible refine wg_isNn ?_ | with_reducible refine wg_isNi ?_ | with_reducible refine wg_isNs ?_ | with_reducible refine wg_isNt ?_ | with_reducible refine wg_isNl ?_ | with_reducible refine wg_isNo ?_ | with_reducible refine wg_notNn ?_ | with_reducible refine wg_notNi ?_ | with_reducible refine wg_notNs ?_ | with_reducible refine wg_notNt ?_ | with_reducible refine wg_notNl ?_ | with_reducible refine wg_notNo ?_ | ((with_reducible apply wg_lenS); (· sizeOf_list_dec)) | with_reducible refine wg_lenL ?_ | with_reducible refine wg_lenT ?_ | ((with_reducible apply wg_lenM); (· array_mem_dec)) | ((with_reducible apply wg_lenD); (· array_mem_dec)) | with_reducible refine wg_intI ?_ | with_reducible refine wg_intB ?_ | with_reducible refine wg_ord ?_ | with_reducible refine wg_max2 ?_ | with_reducible refine wg_min2 ?_ | with_reducible refine key_int ?_ | with_reducible refine key_str ?_ | ((with_reducible apply wg_look); (· exact rfl)) | ((with_reducible apply wdicR); (· array_mem_dec)) | ((with_reducible apply wdicRF); (· array_mem_dec)) | ((with_reducible apply wdicAt); (· array_mem_dec)) | ((with_reducible apply wput_dic); (· array_mem_dec); (· exact rfl); (· sizeOf_list_dec)) | ((with_reducible apply wput_lst); (· array_mem_dec); (· sizeOf_list_dec)) | with_reducible refine wtr_b ?_ | with_reducible refine wtr_n ?_ | with_reducible refine wtr_i ?_ | ((with_reducible apply wtr_s); (· sizeOf_list_dec)) | with_reducible refine wtr_l ?_ | ((with_reducible apply wtr_m); (· array_mem_dec)) | ((with_reducible apply wtr_d); (· array_mem_dec)) | with_reducible refine wpart_n ?_ | with_reducible refine wpart_i ?_ | ((with_reducible apply wsl_s_to); (· sizeOf_list_dec)) | ((with_reducible apply wsl_s_from); (· sizeOf_list_dec)) | ((with_reducible apply wsl_s_mid); (· sizeOf_list_dec)) | with_reducible refine wsl_l_to ?_ | with_reducible refine wsl_l_from ?_ | with_reducible refine wsl_l_mid ?_ | ((with_reducible apply wsl_m_to); (· array_mem_dec)) | ((with_reducible apply wsl_m_from); (· array_mem_dec)) | ((with_reducible apply wsl_m_mid); (· array_mem_dec)) | with_reducible refine wseqL ?_ | with_reducible refine wseqT ?_ | with_reducible refine wseqS ?_ | ((with_reducible apply wseqM); (· array_mem_dec)) | with_reducible refine wstillL ?_ | ((with_reducible apply wstillF); (· array_mem_dec)) | ((with_reducible apply wcopyD); (· array_mem_dec)) | ((with_reducible apply wlistM); (· array_mem_dec)) | with_reducible refine wlistML ?_ | with_reducible refine wlistMT ?_ | with_reducible refine wlistL ?_ | with_reducible refine wlistT ?_ | ((with_reducible apply wlistO); (· array_mem_dec)) | ((with_reducible apply wgisiT); (· exact rfl); (· exact rfl)) | ((with_reducible apply wgisiF); (· exact rfl); (· exact rfl)) | ((with_reducible apply wgisiT); (· exact ty_dic (by array_mem_dec)); (· exact rfl)) | ((with_reducible apply wgisiF); (· exact ty_dic (by array_mem_dec)); (· exact rfl)) | ((with_reducible apply wgisiT); (· exact ty_lstM (by array_mem_dec)); (· exact rfl)) | ((with_reducible apply wgisiF); (· exact ty_lstM (by array_mem_dec)); (· exact rfl)) | ((with_reducible apply ixA_tup); (· exact rfl)) | ((with_reducible apply inA_non); (· array_mem_dec)) | ((with_reducible apply ninA_non); (· array_mem_dec)) | ((with_reducible apply inA_dic); (· array_mem_dec); (· exact rfl)) | ((with_reducible apply inA_dicF); (· array_mem_dec); (· exact rfl)) | ((with_reducible apply ninA_dic); (· array_mem_dec); (· exact rfl)) | ((with_reducible apply ninA_dicF); (· array_mem_dec); (· exact rfl)) ) | ((with_reducible refine id_b ?_); first | with_reducible refine wb_true ?_ | with_reducible refine wb_false ?_ | ((with_reducible apply wb_pos); (· (first | with_reducible exact rfl | assumption | omega | (simp only [List.length_cons, List.length_nil, List.length_map]); (·  omega)))) | ((with_reducible apply wb_neg); (· (first | with_reducible exact rfl | assumption | omega | (simp only [List.length_cons, List.length_nil, List.length_map]); (·  omega)))) | ((with_reducible apply wb_npos); (· (first | with_reducible exact rfl | assumption | omega | (simp only [List.length_cons, List.length_nil, List.length_map]); (·  omega)))) | ((with_reducible apply wb_nneg); (· (first | with_reducible exact rfl | assumption | omega | (simp only [List.length_cons, List.length_nil, List.length_map]); (·  omega)))) | ((with_reducible apply wb_t); (· assumption)) | ((with_reducible apply wb_f); (· assumption)) ) | ((with_reducible refine id_t ?_); first | with_reducible refine wt_T ?_ | with_reducible refine wt_n_0 ?_ | with_reducible refine wt_n_1 ?_ | with_reducible refine wt_n_2 ?_ | with_reducible refine wt_n_3 ?_ | with_reducible refine wt_n_4 ?_ | with_reducible refine wt_n_5 ?_ | with_reducible refine wt_n_6 ?_ | with_reducible refine wt_n_7 ?_ | with_reducible refine wt_n_8 ?_ | with_reducible refine wt_n_9 ?_ | with_reducible refine wt_n_10 ?_ | with_reducible refine wt_n_11 ?_ | with_reducible refine wt_n_12 ?_ | with_reducible refine wt_n_13 ?_ | with_reducible refine wt_n_14 ?_ | with_reducible refine wt_n_15 ?_ | with_reducible refine wt_n_16 ?_ | with_reducible refine wt_n_17 ?_ | with_reducible refine wt_n_18 ?_ | with_reducible refine wt_n_19 ?_ | with_reducible refine wt_n_20 ?_ | with_reducible refine wt_n_21 ?_ | with_reducible refine wt_n_22 ?_ | with_reducible refine wt_n_23 ?_ | with_reducible refine wt_n_24 ?_ | with_reducible refine wt_n_25 ?_ | with_reducible refine wt_n_26 ?_ | with_reducible refine wt_n_27 ?_ | with_reducible refine wt_n_28 ?_ | with_reducible refine wt_n_29 ?_ | with_reducible refine wt_n_30 ?_ | with_reducible refine wt_n_31 ?_ | with_reducible refine wt_n_32 ?_ | with_reducible refine wt_n_33 ?_ | with_reducible refine wt_n_34 ?_ | with_reducible refine wt_n_35 ?_ | with_reducible refine wt_n_36 ?_ | with_reducible refine wt_n_37 ?_ | with_reducible refine wt_n_38 ?_ | with_reducible refine wt_n_39 ?_) | with_reducible refine wts_cons ?_ | with_reducible refine wts_nil ?_ | ((with_reducible refine id_i ?_); first | with_reducible refine wi_rng ?_ | with_reducible refine wi_rng2 ?_ | with_reducible refine wi_seq ?_ | with_reducible refine wi_dic ?_ | with_reducible refine wi_rv ?_ | with_reducible refine wi_en ?_ | with_reducible refine wi_zp ?_) | ((with_reducible refine id_h ?_); first | ((with_reducible apply wh_no); (· exact rfl)) | ((with_reducible apply wh_bare); (· exact rfl)) | ((with_reducible apply wh_yes_0); (· exact rfl)) | ((with_reducible apply wh_yes_1); (· exact rfl)) | ((with_reducible apply wh_yes_2); (· exact rfl)) | ((with_reducible apply wh_yes_3); (· exact rfl)) | ((with_reducible apply wh_yes_4); (· exact rfl)) | ((with_reducible apply wh_yes_5); (· exact rfl)) | ((with_reducible apply wh_yes_6); (· exact rfl)) | ((with_reducible apply wh_yes_7); (· exact rfl)) | ((with_reducible apply wh_yes_8); (· exact rfl)) | ((with_reducible apply wh_yes_9); (· exact rfl)) | ((with_reducible apply wh_yes_10); (· exact rfl)) | ((with_reducible apply wh_yes_11); (· exact rfl)) | ((with_reducible apply wh_yes_12); (· exact rfl)) | ((with_reducible apply wh_yes_13); (· exact rfl)) | ((with_reducible apply wh_yes_14); (· exact rfl)) | ((with_reducible apply wh_yes_15); (· exact rfl)) | ((with_reducible apply wh_yes_16); (· exact rfl)) | ((with_reducible apply wh_yes_17); (· exact rfl)) | ((with_reducible apply wh_yes_18); (· exact rfl)) | ((with_reducible apply wh_yes_19); (· exact rfl)) | ((with_reducible apply wh_yes_20); (· exact rfl)) | ((with_reducible apply wh_yes_21); (· exact rfl)) | ((with_reducible apply wh_yes_22); (· exact rfl)) | ((with_reducible apply wh_yes_23); (· exact rfl)) | ((with_reducible apply wh_yes_24); (· exact rfl)) | ((with_reducible apply wh_yes_25); (· exact rfl)) | ((with_reducible apply wh_yes_26); (· exact rfl)) | ((with_reducible apply wh_yes_27); (· exact rfl)) | ((with_reducible apply wh_yes_28); (· exact rfl)) | ((with_reducible apply wh_yes_29); (· exact rfl)) | ((with_reducible apply wh_yes_30); (· exact rfl)) | ((with_reducible apply wh_yes_31); (· exact rfl)) | ((with_reducible apply wh_yes_32); (· exact rfl)) | ((with_reducible apply wh_yes_33); (· exact rfl)) | ((with_reducible apply wh_yes_34); (· exact rfl)) | ((with_reducible apply wh_yes_35); (· exact rfl)) | ((with_reducible apply wh_yes_36); (· exact rfl)) | ((with_reducible apply wh_yes_37); (· exact rfl)) | ((with_reducible apply wh_yes_38); (· exact rfl)) | ((with_reducible apply wh_yes_39); (· exact rfl)) | with_reducible refine wh_nil ?_) | ((with_reducible refine id_cl ?_); first | with_reducible refine wcl_0 ?_ | with_reducible refine wcl_1 ?_ | with_reducible refine wcl_2 ?_ | with_reducible refine wcl_3 ?_ | with_reducible refine wcl_4 ?_ | with_reducible refine wcl_5 ?_ | with_reducible refine wcl_6 ?_ | with_reducible refine wcl_7 ?_ | with_reducible refine wcl_8 ?_ | with_reducible refine wcl_9 ?_ | with_reducible refine wcl_10 ?_ | with_reducible refine wcl_11 ?_ | with_reducible refine wcl_12 ?_ | with_reducible refine wcl_13 ?_ | with_reducible refine wcl_14 ?_ | with_reducible refine wcl_15 ?_ | with_reducible refine wcl_16 ?_ | with_reducible refine wcl_17 ?_ | with_reducible refine wcl_18 ?_ | with_reducible refine wcl_19 ?_ | with_reducible refine wcl_20 ?_ | with_reducible refine wcl_21 ?_ | with_reducible refine wcl_22 ?_ | with_reducible refine wcl_23 ?_ | with_reducible refine wcl_24 ?_ | with_reducible refine wcl_25 ?_ | with_reducible refine wcl_26 ?_ | with_reducible refine wcl_27 ?_ | with_reducible refine wcl_28 ?_ | with_reducible refine wcl_29 ?_ | with_reducible refine wcl_30 ?_ | with_reducible refine wcl_31 ?_ | with_reducible refine wcl_32 ?_ | with_reducible refine wcl_33 ?_ | with_reducible refine wcl_34 ?_ | with_reducible refine wcl_35 ?_ | with_reducible refine wcl_36 ?_ | with_reducible refine wcl_37 ?_ | with_reducible refine wcl_38 ?_ | with_reducible refine wcl_39 ?_) | with_reducible refine wbl ?_ | with_reducible refine wnot_t ?_ | with_reducible refine wnot_f ?_ | with_reducible refine wnot_n ?_ | with_reducible refine wnot ?_ | with_reducible refine wint ?_ | with_reducible refine wstr ?_ | with_reducible refine wobj ?_ | with_reducible refine wnon ?_ | ((with_reducible apply wat); · array_mem_dec) | ((with_reducible refine wyes_c ?_ ?_); (· exact rfl)) | ((with_reducible refine wyes_k ?_ ?_); (· exact rfl)) | ((with_reducible refine wyes_d ?_ ?_); (· exact ⟨rfl, Nat.le_of_ble_eq_true rfl⟩)) | ((with_reducible refine wyes ?_ ?_); · sizeOf_list_dec) | with_reducible refine wyes wlstT ?_ | with_reducible refine wlst ?_ | with_reducible refine wins ?_ | with_reducible refine winm ?_)
local macro_rules | `(tactic| array_get_dec) => `(tactic| with_reducible refine ixA_l0 ?_)
local macro_rules | `(tactic| array_get_dec) => `(tactic| with_reducible refine ixA_l1 ?_)
local macro_rules | `(tactic| array_get_dec) => `(tactic| with_reducible refine ixA_l2 ?_)
local macro_rules | `(tactic| array_get_dec) => `(tactic| with_reducible refine ixA_l3 ?_)
local macro_rules | `(tactic| array_get_dec) => `(tactic| with_reducible refine ixA_l4 ?_)
local macro_rules | `(tactic| array_get_dec) => `(tactic| with_reducible refine ixA_l5 ?_)
local macro_rules | `(tactic| array_get_dec) => `(tactic| with_reducible refine ixA_l6 ?_)
local macro_rules | `(tactic| array_get_dec) => `(tactic| with_reducible refine ixA_l7 ?_)
local macro_rules | `(tactic| array_get_dec) => `(tactic| with_reducible refine wb_some ?_)
local macro_rules | `(tactic| array_get_dec) => `(tactic| with_reducible refine wb_none ?_)
local macro_rules | `(tactic| array_get_dec) => `(tactic| with_reducible refine wb_nsome ?_)
local macro_rules | `(tactic| array_get_dec) => `(tactic| with_reducible refine wb_nnone ?_)
local macro_rules | `(tactic| array_get_dec) => `(tactic| with_reducible refine wc_eq (mixF_eq _ _ _) ?_)
def SeqAt' (m : Mu) (x : DV) (ds : List DV) : Prop := (∃ o, x = .obj o ∧ m[o]? = some (.lst ds)) ∨ x = .lst ds
section
variable {m m' : Mu} {x : DV} {ds : List DV}
theorem SeqAt'.lst (h : SeqAt' m x ds) : lstOf m x = some ds := by
  rcases h with ⟨o, rfl, h⟩ | rfl
  · exact lstOf_of h
  · rfl
theorem SeqAt'.k (h : SeqAt' m x ds) : ∃ o, seqK m x = some (ds, o) ∧ ∀ j, o = some j → m[j]? = some (.lst ds) := by
  rcases h with ⟨o, rfl, h⟩ | rfl
  · exact ⟨some o, by unfold seqK; dsimp only; rw [h], fun j e => by cases e; exact h⟩
  · exact ⟨none, rfl, fun j e => by cases e⟩
theorem SeqAt'.pick (h : SeqAt' m x ds) {f : DE} {dl : Dl} (e : f dl m = .ok x m) : pickD f dl m = none := by
  rcases h with ⟨o, rfl, h⟩ | rfl
  · exact pickD_lst e h
  · exact pickD_no e fun j z => by cases z
theorem SeqAt'.len (h : SeqAt' m x ds) {pp : DV → Prop} (hp : pp (.int (ds.length : Nat))) : WG (gLen [x] m) pp := by
  rcases h with ⟨o, rfl, h⟩ | rfl
  · exact wg_of (gLen_lstM h) hp
  · exact wg_of gLen_lst hp
theorem we_catM {fa fb : DE} {dl : Dl} {mu : Mu} {P : KE} {X : KX} (h : WE fa dl mu (fun x m1 => WE fb dl m1 (fun y m2 => ∃ (as bs : List DV), lstOf m2 x = some as ∧ lstOf m2 y = some bs ∧ as.length + bs.length ≤ 1000000 ∧ P (.obj m2.length) (m2 ++ [MO.lst (as ++ bs)])) NoX) NoX) : WE (eCatM fa fb) dl mu P X := by
  obtain ⟨x, m1, e1, h⟩ := we_ex h
  obtain ⟨y, m2, e2, as, bs, e3, e4, hl, h⟩ := we_ex h
  refine we_eq (d := .obj m2.length) (m1 := m2 ++ [MO.lst (as ++ bs)]) ?_ h
  unfold eCatM
  rw [e1]
  show Out.bind (fb dl m1) _ = _
  rw [e2]
  show (match lstOf m2 x, lstOf m2 y with
    | some as, some bs => if as.length + bs.length ≤ 1000000 then Out.ok (.obj m2.length) (m2 ++ [MO.lst (as ++ bs)]) else .bad
    | _, _ => .bad) = _
  rw [e3, e4]
  exact if_pos hl
end
abbrev Nm := List Nat
def hadIs (HK : KVs) (r : Int) (t : Nm) : Bool := match valD HK (.inl r) with
  | some (.str z) => decide (z = t)
  | _ => false
structure HadOk (HK : KVs) : Prop where
  nd : (keysD HK).Nodup
  fl : ∀ kv, kv ∈ HK → kv.2 = .non ∨ ∃ z, kv.2 = .str z
theorem valD_in : ∀ {kvs : KVs} {k : L2.Key} {v : DV}, valD kvs k = some v → (k, v) ∈ kvs
  | [], _, _, e => by cases e
  | (a, b) :: r, k, v, e => by
    rw [valD_cons] at e
    by_cases c : a = k
    · rw [if_pos c] at e
      cases e
      rw [← c]
      exact List.mem_cons_self
    · rw [if_neg c] at e
      exact List.mem_cons_of_mem _ (valD_in e)
theorem HadOk.get {HK : KVs} (h : HadOk HK) (r : Int) : (valD HK (.inl r)).getD .non = .non ∧ (∀ t, hadIs HK r t = false) ∨ ∃ z, (valD HK (.inl r)).getD .non = .str z ∧ ∀ t, hadIs HK r t = decide (z = t) := by
  cases e : valD HK (.inl r) with
  | none => exact .inl ⟨rfl, fun t => by unfold hadIs; rw [e]⟩
  | some v =>
    rcases h.fl _ (valD_in e) with rfl | ⟨z, rfl⟩
    · exact .inl ⟨rfl, fun t => by unfold hadIs; rw [e]⟩
    · exact .inr ⟨z, rfl, fun t => by unfold hadIs; rw [e]⟩
section
variable {m m' : Mu} {xr xt : DV} {ho : Nat} {R : List Int} {T : List Nm} {HK : KVs}
end
end DM

namespace DM
open PySem PySem.Spec PyProof.Rows L2
local macro_rules | `(tactic| sizeOf_list_dec) => `(tactic| first | assumption | omega | exact Nat.zero_le _ | (simp only [List.length_cons, List.length_nil, List.length_append, List.length_map, List.length_replicate, List.length_range, List.length_take, List.length_drop, List.length_reverse]; omega) | (decide; done))
local macro_rules | `(tactic| array_mem_dec) => `(tactic| (repeat (first | with_reducible assumption | with_reducible exact mem_new | with_reducible apply mem_same' | ((with_reducible apply mem_ne'); (· first | assumption | omega)) | with_reducible apply mem_old | with_reducible exact mem_hd | with_reducible apply mem_app)); done)
local macro_rules | `(tactic| array_get_dec) => `(tactic| first | ((with_reducible refine id_e ?_); first | with_reducible refine we_c ?_ | with_reducible refine we_op ?_ | with_reducible refine we_cb ?_ | with_reducible refine we_call0 ?_ | with_reducible refine we_call ?_ | with_reducible refine we_B ?_ | with_reducible refine we_tru ?_ | with_reducible refine we_not ?_ | with_reducible refine we_and ?_ | with_reducible refine we_or ?_ | with_reducible refine we_if ?_ | with_reducible refine we_neg ?_ | with_reducible refine we_I ?_ | with_reducible refine we_chain ?_ | with_reducible refine we_tup ?_ | with_reducible refine we_lst ?_ | with_reducible refine we_lstM0 ?_ | with_reducible refine we_lstM ?_ | with_reducible refine we_dnew ?_ | with_reducible refine we_sl ?_ | with_reducible refine we_m1 ?_ | with_reducible refine we_isiT ?_ | with_reducible refine we_append ?_ | with_reducible refine we_get1 ?_ | with_reducible refine we_get2 ?_ | with_reducible refine we_pop2 ?_ | with_reducible refine we_pop1 ?_ | with_reducible refine we_cm ?_ | with_reducible refine we_fld ?_ | with_reducible refine we_meth ?_ | with_reducible refine we_make ?_ | with_reducible refine we_yes ?_ | with_reducible refine we_popA ?_ | ((with_reducible apply we_xf); (· exact rfl)) | ((with_reducible apply we_is); (· exact rfl)) | with_reducible refine we_var_0 ?_ | with_reducible refine we_var_1 ?_ | with_reducible refine we_var_2 ?_ | with_reducible refine we_var_3 ?_ | with_reducible refine we_var_4 ?_ | with_reducible refine we_var_5 ?_ | with_reducible refine we_var_6 ?_ | with_reducible refine we_var_7 ?_ | with_reducible refine we_var_8 ?_ | with_reducible refine we_var_9 ?_ | with_reducible refine we_var_10 ?_ | with_reducible refine we_var_11 ?_ | with_reducible refine we_var_12 ?_ | with_reducible refine we_var_13 ?_ | with_reducible refine we_var_14 ?_ | with_reducible refine we_var_15 ?_ | with_reducible refine we_var_16 ?_ | with_reducible refine we_var_17 ?_ | with_reducible refine we_var_18 ?_ | with_reducible refine we_var_19 ?_ | with_reducible refine we_var_20 ?_ | with_reducible refine we_var_21 ?_ | with_reducible refine we_var_22 ?_ | with_reducible refine we_var_23 ?_ | with_reducible refine we_var_24 ?_ | with_reducible refine we_var_25 ?_ | with_reducible refine we_var_26 ?_ | with_reducible refine we_var_27 ?_ | with_reducible refine we_var_28 ?_ | with_reducible refine we_var_29 ?_ | with_reducible refine we_var_30 ?_ | with_reducible refine we_var_31 ?_ | with_reducible refine we_var_32 ?_ | with_reducible refine we_var_33 ?_ | with_reducible refine we_var_34 ?_ | with_reducible refine we_var_35 ?_ | with_reducible refine we_var_36 ?_ | with_reducible refine we_var_37 ?_ | with_reducible refine we_var_38 ?_ | with_reducible refine we_var_39 ?_) | ((with_reducible refine id_s ?_); first | with_reducible refine ws_seq ?_ | with_reducible refine ws_next ?_ | with_reducible refine ws_drop ?_ | with_reducible refine ws_ret ?_ | with_reducible refine ws_retN ?_ | with_reducible refine ws_brk ?_ | with_reducible refine ws_cnt ?_ | with_reducible refine ws_asg ?_ | with_reducible refine ws_if ?_ | with_reducible refine ws_put ?_ | with_reducible refine ws_fldP ?_ | with_reducible refine ws_fldA ?_ | with_reducible refine ws_daug ?_ | with_reducible refine ws_try ?_ | with_reducible refine ws_raise ?_ | with_reducible refine ws_raise0 ?_ | with_reducible refine ws_set_0 ?_ | with_reducible refine ws_set_1 ?_ | with_reducible refine ws_set_2 ?_ | with_reducible refine ws_set_3 ?_ | with_reducible refine ws_set_4 ?_ | with_reducible refine ws_set_5 ?_ | with_reducible refine ws_set_6 ?_ | with_reducible refine ws_set_7 ?_ | with_reducible refine ws_set_8 ?_ | with_reducible refine ws_set_9 ?_ | with_reducible refine ws_set_10 ?_ | with_reducible refine ws_set_11 ?_ | with_reducible refine ws_set_12 ?_ | with_reducible refine ws_set_13 ?_ | with_reducible refine ws_set_14 ?_ | with_reducible refine ws_set_15 ?_ | with_reducible refine ws_set_16 ?_ | with_reducible refine ws_set_17 ?_ | with_reducible refine ws_set_18 ?_ | with_reducible refine ws_set_19 ?_ | with_reducible refine ws_set_20 ?_ | with_reducible refine ws_set_21 ?_ | with_reducible refine ws_set_22 ?_ | with_reducible refine ws_set_23 ?_ | with_reducible refine ws_set_24 ?_ | with_reducible refine ws_set_25 ?_ | with_reducible refine ws_set_26 ?_ | with_reducible refine ws_set_27 ?_ | with_reducible refine ws_set_28 ?_ | with_reducible refine ws_set_29 ?_ | with_reducible refine ws_set_30 ?_ | with_reducible refine ws_set_31 ?_ | with_reducible refine ws_set_32 ?_ | with_reducible refine ws_set_33 ?_ | with_reducible refine ws_set_34 ?_ | with_reducible refine ws_set_35 ?_ | with_reducible refine ws_set_36 ?_ | with_reducible refine ws_set_37 ?_ | with_reducible refine ws_set_38 ?_ | with_reducible refine ws_set_39 ?_ | with_reducible refine ws_aug_0 ?_ | with_reducible refine ws_aug_1 ?_ | with_reducible refine ws_aug_2 ?_ | with_reducible refine ws_aug_3 ?_ | with_reducible refine ws_aug_4 ?_ | with_reducible refine ws_aug_5 ?_ | with_reducible refine ws_aug_6 ?_ | with_reducible refine ws_aug_7 ?_ | with_reducible refine ws_aug_8 ?_ | with_reducible refine ws_aug_9 ?_ | with_reducible refine ws_aug_10 ?_ | with_reducible refine ws_aug_11 ?_ | with_reducible refine ws_aug_12 ?_ | with_reducible refine ws_aug_13 ?_ | with_reducible refine ws_aug_14 ?_ | with_reducible refine ws_aug_15 ?_ | with_reducible refine ws_aug_16 ?_ | with_reducible refine ws_aug_17 ?_ | with_reducible refine ws_aug_18 ?_ | with_reducible refine ws_aug_19 ?_ | with_reducible refine ws_aug_20 ?_ | with_reducible refine ws_aug_21 ?_ | with_reducible refine ws_aug_22 ?_ | with_reducible refine ws_aug_23 ?_ | with_reducible refine ws_aug_24 ?_ | with_reducible refine ws_aug_25 ?_ | with_reducible refine ws_aug_26 ?_ | with_reducible refine ws_aug_27 ?_ | with_reducible refine ws_aug_28 ?_ | with_reducible refine ws_aug_29 ?_ | with_reducible refine ws_aug_30 ?_ | with_reducible refine ws_aug_31 ?_ | with_reducible refine ws_aug_32 ?_ | with_reducible refine ws_aug_33 ?_ | with_reducible refine ws_aug_34 ?_ | with_reducible refine ws_aug_35 ?_ | with_reducible refine ws_aug_36 ?_ | with_reducible refine ws_aug_37 ?_ | with_reducible refine ws_aug_38 ?_ | with_reducible refine ws_aug_39 ?_) | ((with_reducible refine id_a ?_); first | with_reducible refine wa_cons ?_ | with_reducible refine wa_nil ?_) | ((with_reducible refine id_g ?_); first | with_reducible refine wg_add ?_ | ((with_reducible apply wg_adds); (· sizeOf_list_dec)) | ((with_reducible apply wg_addl); (· sizeOf_list_dec)) | with_reducible refine wg_plus ?_ | ((with_reducible apply wg_pluss); (· sizeOf_list_dec)) | with_reducible refine wg_plusI ?_ | with_reducible refine wg_minus ?_ | with_reducible refine wg_sub ?_ | with_reducible refine wg_pow9 ?_ | with_reducible refine wg_pow6 ?_ | with_reducible refine wg_pow3 ?_ | with_reducible refine wg_pow18 ?_ | ((with_reducible apply wg_mod); (· sizeOf_list_dec)) | ((with_reducible apply wg_div); (· sizeOf_list_dec)) | ((with_reducible apply wg_mul); (· sizeOf_list_dec)) | ((with_reducible apply wg_mulA); (· sizeOf_list_dec)) | ((with_reducible apply wg_mulS1); (· sizeOf_list_dec)) | ((with_reducible apply wg_mulS); (· sizeOf_list_dec)) | with_reducible refine wg_lt ?_ | with_reducible refine wg_le ?_ | with_reducible refine wg_gt ?_ | with_reducible refine wg_ge ?_ | with_reducible refine wg_eq ?_ | with_reducible refine wg_ne ?_ | with_reducible refine wg_eqs ?_ | with_reducible refine wg_nes ?_ | with_reducible refine wg_eqnn ?_ | with_reducible refine wg_eqni ?_ | with_reducible refine wg_eqin ?_ | with_reducible refine wg_eqns ?_ | with_reducible refine wg_eqsn ?_ | with_reducible refine wg_nenn ?_ | with_reducible refine wg_neni ?_ | with_reducible refine wg_nein ?_ | with_reducible refine wg_nens ?_ | with_reducible refine wg_nesn ?_ | with_reducible refine wg_isNn ?_ | with_reducible refine wg_isNi ?_ | with_reducible refine wg_isNs ?_ | with_reducible refine wg_isNt ?_ | with_reducible refine wg_isNl ?_ | with_reducible refine wg_isNo ?_ | with_reducible refine wg_notNn ?_ | with_reducible refine wg_notNi ?_ | with_reducible refine wg_notNs ?_ | with_reducible refine wg_notNt ?_ | with_reducible refine wg_notNl ?_ | with_reducible refine wg_notNo ?_ | ((with_reducible apply wg_lenS); (· sizeOf_list_dec)) | with_reducible refine wg_lenL ?_ | with_reducible refine wg_lenT ?_ | ((with_reducible apply wg_lenM); (· array_mem_dec)) | ((with_reducible apply wg_lenD); (· array_mem_dec)) | with_reducible refine wg_intI ?_ | with_reducible refine wg_intB ?_ | with_reducible refine wg_ord ?_ | with_reducible refine wg_max2 ?_ | with_reducible refine wg_min2 ?_ | with_reducible refine key_int ?_ | with_reducible refine key_str ?_ | ((with_reducible apply wg_look); (· exact rfl)) | ((with_reducible apply wdicR); (· array_mem_dec)) | ((with_reducible apply wdicRF); (· array_mem_dec)) | ((with_reducible apply wdicAt); (· array_mem_dec)) | ((with_reducible apply wput_dic); (· array_mem_dec); (· exact rfl); (· sizeOf_list_dec)) | ((with_reducible apply wput_lst); (· array_mem_dec); (· sizeOf_list_dec)) | with_reducible refine wtr_b ?_ | with_reducible refine wtr_n ?_ | with_reducible refine wtr_i ?_ | ((with_reducible apply wtr_s); (· sizeOf_list_dec)) | with_reducible refine wtr_l ?_ | ((with_reducible apply wtr_m); (· array_mem_dec)) | ((with_reducible apply wtr_d); (· array_mem_dec)) | with_reducible refine wpart_n ?_ | with_reducible refine wpart_i ?_ | ((with_reducible apply wsl_s_to); (· sizeOf_list_dec)) | ((with_reducible apply wsl_s_from); (· sizeOf_list_dec)) | ((with_reducible apply wsl_s_mid); (· sizeOf_list_dec)) | with_reducible refine wsl_l_to ?_ | with_reducible refine wsl_l_from ?_ | with_reducible refine wsl_l_mid ?_ | ((with_reducible apply wsl_m_to); (· array_mem_dec)) | ((with_reducible apply wsl_m_from); (· array_mem_dec)) | ((with_reducible apply wsl_m_mid); (· array_mem_dec)) | with_reducible refine wseqL ?_ | with_reducible refine wseqT ?_ | with_reducible refine wseqS ?_ | ((with_reducible apply wseqM); (· array_mem_dec)) | with_reducible refine wstillL ?_ | ((with_reducible apply wstillF); (· array_mem_dec)) | ((with_reducible apply wcopyD); (· array_mem_dec)) | ((with_reducible apply wlistM); (· array_mem_dec)) | with_reducible refine wlistML ?_ | with_reducible refine wlistMT ?_ | with_reducible refine wlistL ?_ | with_reducible refine wlistT ?_ | ((with_reducible apply wlistO); (· array_mem_dec)) | ((with_reducible apply wgisiT); (· exact rfl); (· exact rfl)) | ((with_reducible apply wgisiF); (· exact rfl); (· exact rfl)) | ((with_reducible apply wgisiT); (· exact ty_dic (by array_mem_dec)); (· exact rfl)) | ((with_reducible apply wgisiF); (· exact ty_dic (by array_mem_dec)); (· exact rfl)) | ((with_reducible apply wgisiT); (· exact ty_lstM (by array_mem_dec)); (· exact rfl)) | ((with_reducible apply wgisiF); (· exact ty_lstM (by array_mem_dec)); (· exact rfl)) | ((with_reducible apply ixA_tup); (· exact rfl)) | ((with_reducible apply inA_non); (· array_mem_dec)) | ((with_reducible apply ninA_non); (· array_mem_dec)) | ((with_reducible apply inA_dic); (· array_mem_dec); (· exact rfl)) | ((with_reducible apply inA_dicF); (· array_mem_dec); (· exact rfl)) | ((with_reducible apply ninA_dic); (· array_mem_dec); (· exact rfl)) | ((with_reducible apply ninA_dicF); (· array_mem_dec); (· exact rfl)) ) | ((with_reducible refine id_b ?_); first | with_reducible refine wb_true ?_ | with_reducible refine wb_false ?_ | ((with_reducible apply wb_pos); (· (first | with_reducible exact rfl | assumption | omega | (simp only [List.length_cons, List.length_nil, List.length_map]); (·  omega)))) | ((with_reducible apply wb_neg); (· (first | with_reducible exact rfl | assumption | omega | (simp only [List.length_cons, List.length_nil, List.length_map]); (·  omega)))) | ((with_reducible apply wb_npos); (· (first | with_reducible exact rfl | assumption | omega | (simp only [List.length_cons, List.length_nil, List.length_map]); (·  omega)))) | ((with_reducible apply wb_nneg); (· (first | with_reducible exact rfl | assumption | omega | (simp only [List.length_cons, List.length_nil, List.length_map]); (·  omega)))) | ((with_reducible apply wb_t); (· assumption)) | ((with_reducible apply wb_f); (· assumption)) ) | ((with_reducible refine id_t ?_); first | with_reducible refine wt_T ?_ | with_reducible refine wt_n_0 ?_ | with_reducible refine wt_n_1 ?_ | with_reducible refine wt_n_2 ?_ | with_reducible refine wt_n_3 ?_ | with_reducible refine wt_n_4 ?_ | with_reducible refine wt_n_5 ?_ | with_reducible refine wt_n_6 ?_ | with_reducible refine wt_n_7 ?_ | with_reducible refine wt_n_8 ?_ | with_reducible refine wt_n_9 ?_ | with_reducible refine wt_n_10 ?_ | with_reducible refine wt_n_11 ?_ | with_reducible refine wt_n_12 ?_ | with_reducible refine wt_n_13 ?_ | with_reducible refine wt_n_14 ?_ | with_reducible refine wt_n_15 ?_ | with_reducible refine wt_n_16 ?_ | with_reducible refine wt_n_17 ?_ | with_reducible refine wt_n_18 ?_ | with_reducible refine wt_n_19 ?_ | with_reducible refine wt_n_20 ?_ | with_reducible refine wt_n_21 ?_ | with_reducible refine wt_n_22 ?_ | with_reducible refine wt_n_23 ?_ | with_reducible refine wt_n_24 ?_ | with_reducible refine wt_n_25 ?_ | with_reducible refine wt_n_26 ?_ | with_reducible refine wt_n_27 ?_ | with_reducible refine wt_n_28 ?_ | with_reducible refine wt_n_29 ?_ | with_reducible refine wt_n_30 ?_ | with_reducible refine wt_n_31 ?_ | with_reducible refine wt_n_32 ?_ | with_reducible refine wt_n_33 ?_ | with_reducible refine wt_n_34 ?_ | with_reducible refine wt_n_35 ?_ | with_reducible refine wt_n_36 ?_ | with_reducible refine wt_n_37 ?_ | with_reducible refine wt_n_38 ?_ | with_reducible refine wt_n_39 ?_) | with_reducible refine wts_cons ?_ | with_reducible refine wts_nil ?_ | ((with_reducible refine id_i ?_); first | with_reducible refine wi_rng ?_ | with_reducible refine wi_rng2 ?_ | with_reducible refine wi_seq ?_ | with_reducible refine wi_dic ?_ | with_reducible refine wi_rv ?_ | with_reducible refine wi_en ?_ | with_reducible refine wi_zp ?_) | ((with_reducible refine id_h ?_); first | ((with_reducible apply wh_no); (· exact rfl)) | ((with_reducible apply wh_bare); (· exact rfl)) | ((with_reducible apply wh_yes_0); (· exact rfl)) | ((with_reducible apply wh_yes_1); (· exact rfl)) | ((with_reducible apply wh_yes_2); (· exact rfl)) | ((with_reducible apply wh_yes_3); (· exact rfl)) | ((with_reducible apply wh_yes_4); (· exact rfl)) | ((with_reducible apply wh_yes_5); (· exact rfl)) | ((with_reducible apply wh_yes_6); (· exact rfl)) | ((with_reducible apply wh_yes_7); (· exact rfl)) | ((with_reducible apply wh_yes_8); (· exact rfl)) | ((with_reducible apply wh_yes_9); (· exact rfl)) | ((with_reducible apply wh_yes_10); (· exact rfl)) | ((with_reducible apply wh_yes_11); (· exact rfl)) | ((with_reducible apply wh_yes_12); (· exact rfl)) | ((with_reducible apply wh_yes_13); (· exact rfl)) | ((with_reducible apply wh_yes_14); (· exact rfl)) | ((with_reducible apply wh_yes_15); (· exact rfl)) | ((with_reducible apply wh_yes_16); (· exact rfl)) | ((with_reducible apply wh_yes_17); (· exact rfl)) | ((with_reducible apply wh_yes_18); (· exact rfl)) | ((with_reducible apply wh_yes_19); (· exact rfl)) | ((with_reducible apply wh_yes_20); (· exact rfl)) | ((with_reducible apply wh_yes_21); (· exact rfl)) | ((with_reducible apply wh_yes_22); (· exact rfl)) | ((with_reducible apply wh_yes_23); (· exact rfl)) | ((with_reducible apply wh_yes_24); (· exact rfl)) | ((with_reducible apply wh_yes_25); (· exact rfl)) | ((with_reducible apply wh_yes_26); (· exact rfl)) | ((with_reducible apply wh_yes_27); (· exact rfl)) | ((with_reducible apply wh_yes_28); (· exact rfl)) | ((with_reducible apply wh_yes_29); (· exact rfl)) | ((with_reducible apply wh_yes_30); (· exact rfl)) | ((with_reducible apply wh_yes_31); (· exact rfl)) | ((with_reducible apply wh_yes_32); (· exact rfl)) | ((with_reducible apply wh_yes_33); (· exact rfl)) | ((with_reducible apply wh_yes_34); (· exact rfl)) | ((with_reducible apply wh_yes_35); (· exact rfl)) | ((with_reducible apply wh_yes_36); (· exact rfl)) | ((with_reducible apply wh_yes_37); (· exact rfl)) | ((with_reducible apply wh_yes_38); (· exact rfl)) | ((with_reducible apply wh_yes_39); (· exact rfl)) | with_reducible refine wh_nil ?_) | ((with_reducible refine id_cl ?_); first | with_reducible refine wcl_0 ?_ | with_reducible refine wcl_1 ?_ | with_reducible refine wcl_2 ?_ | with_reducible refine wcl_3 ?_ | with_reducible refine wcl_4 ?_ | with_reducible refine wcl_5 ?_ | with_reducible refine wcl_6 ?_ | with_reducible refine wcl_7 ?_ | with_reducible refine wcl_8 ?_ | with_reducible refine wcl_9 ?_ | with_reducible refine wcl_10 ?_ | with_reducible refine wcl_11 ?_ | with_reducible refine wcl_12 ?_ | with_reducible refine wcl_13 ?_ | with_reducible refine wcl_14 ?_ | with_reducible refine wcl_15 ?_ | with_reducible refine wcl_16 ?_ | with_reducible refine wcl_17 ?_ | with_reducible refine wcl_18 ?_ | with_reducible refine wcl_19 ?_ | with_reducible refine wcl_20 ?_ | with_reducible refine wcl_21 ?_ | with_reducible refine wcl_22 ?_ | with_reducible refine wcl_23 ?_ | with_reducible refine wcl_24 ?_ | with_reducible refine wcl_25 ?_ | with_reducible refine wcl_26 ?_ | with_reducible refine wcl_27 ?_ | with_reducible refine wcl_28 ?_ | with_reducible refine wcl_29 ?_ | with_reducible refine wcl_30 ?_ | with_reducible refine wcl_31 ?_ | with_reducible refine wcl_32 ?_ | with_reducible refine wcl_33 ?_ | with_reducible refine wcl_34 ?_ | with_reducible refine wcl_35 ?_ | with_reducible refine wcl_36 ?_ | with_reducible refine wcl_37 ?_ | with_reducible refine wcl_38 ?_ | with_reducible refine wcl_39 ?_) | with_reducible refine wbl ?_ | with_reducible refine wnot_t ?_ | with_reducible refine wnot_f ?_ | with_reducible refine wnot_n ?_ | with_reducible refine wnot ?_ | with_reducible refine wint ?_ | with_reducible refine wstr ?_ | with_reducible refine wobj ?_ | with_reducible refine wnon ?_ | ((with_reducible apply wat); · array_mem_dec) | ((with_reducible refine wyes_c ?_ ?_); (· exact rfl)) | ((with_reducible refine wyes_k ?_ ?_); (· exact rfl)) | ((with_reducible refine wyes_d ?_ ?_); (· exact ⟨rfl, Nat.le_of_ble_eq_true rfl⟩)) | ((with_reducible refine wyes ?_ ?_); · sizeOf_list_dec) | with_reducible refine wyes wlstT ?_ | with_reducible refine wlst ?_ | with_reducible refine wins ?_ | with_reducible refine winm ?_)
section
variable {m m' : Mu} {r d : Nat} {f e dr : Int} {ls : List RL}
end
section
variable {m m' : Mu} {q lo co fa : Nat} {row st tu tr wd n : Int} {L : List LN} {C Fk : KVs}
end
end DM

namespace DM
open PySem PySem.Spec PyProof.Rows L2
local macro_rules | `(tactic| sizeOf_list_dec) => `(tactic| first | assumption | omega | exact Nat.zero_le _ | (simp only [List.length_cons, List.length_nil, List.length_append, List.length_map, List.length_replicate, List.length_range, List.length_take, List.length_drop, List.length_reverse]; omega) | (decide; done))
local macro_rules | `(tactic| array_mem_dec) => `(tactic| (repeat (first | with_reducible assumption | with_reducible exact mem_new | with_reducible apply mem_same' | ((with_reducible apply mem_ne'); (· first | assumption | omega)) | with_reducible apply mem_old | with_reducible exact mem_hd | with_reducible apply mem_app)); done)
local macro_rules | `(tactic| array_get_dec) => `(tactic| first | ((with_reducible refine id_e ?_); first | with_reducible refine we_c ?_ | with_reducible refine we_op ?_ | with_reducible refine we_cb ?_ | with_reducible refine we_call0 ?_ | with_reducible refine we_call ?_ | with_reducible refine we_B ?_ | with_reducible refine we_tru ?_ | with_reducible refine we_not ?_ | with_reducible refine we_and ?_ | with_reducible refine we_or ?_ | with_reducible refine we_if ?_ | with_reducible refine we_neg ?_ | with_reducible refine we_I ?_ | with_reducible refine we_chain ?_ | with_reducible refine we_tup ?_ | with_reducible refine we_lst ?_ | with_reducible refine we_lstM0 ?_ | with_reducible refine we_lstM ?_ | with_reducible refine we_dnew ?_ | with_reducible refine we_sl ?_ | with_reducible refine we_m1 ?_ | with_reducible refine we_isiT ?_ | with_reducible refine we_append ?_ | with_reducible refine we_get1 ?_ | with_reducible refine we_get2 ?_ | with_reducible refine we_pop2 ?_ | with_reducible refine we_pop1 ?_ | with_reducible refine we_cm ?_ | with_reducible refine we_fld ?_ | with_reducible refine we_meth ?_ | with_reducible refine we_make ?_ | with_reducible refine we_yes ?_ | with_reducible refine we_popA ?_ | ((with_reducible apply we_xf); (· exact rfl)) | ((with_reducible apply we_is); (· exact rfl)) | with_reducible refine we_var_0 ?_ | with_reducible refine we_var_1 ?_ | with_reducible refine we_var_2 ?_ | with_reducible refine we_var_3 ?_ | with_reducible refine we_var_4 ?_ | with_reducible refine we_var_5 ?_ | with_reducible refine we_var_6 ?_ | with_reducible refine we_var_7 ?_ | with_reducible refine we_var_8 ?_ | with_reducible refine we_var_9 ?_ | with_reducible refine we_var_10 ?_ | with_reducible refine we_var_11 ?_ | with_reducible refine we_var_12 ?_ | with_reducible refine we_var_13 ?_ | with_reducible refine we_var_14 ?_ | with_reducible refine we_var_15 ?_ | with_reducible refine we_var_16 ?_ | with_reducible refine we_var_17 ?_ | with_reducible refine we_var_18 ?_ | with_reducible refine we_var_19 ?_ | with_reducible refine we_var_20 ?_ | with_reducible refine we_var_21 ?_ | with_reducible refine we_var_22 ?_ | with_reducible refine we_var_23 ?_ | with_reducible refine we_var_24 ?_ | with_reducible refine we_var_25 ?_ | with_reducible refine we_var_26 ?_ | with_reducible refine we_var_27 ?_ | with_reducible refine we_var_28 ?_ | with_reducible refine we_var_29 ?_ | with_reducible refine we_var_30 ?_ | with_reducible refine we_var_31 ?_ | with_reducible refine we_var_32 ?_ | with_reducible refine we_var_33 ?_ | with_reducible refine we_var_34 ?_ | with_reducible refine we_var_35 ?_ | with_reducible refine we_var_36 ?_ | with_reducible refine we_var_37 ?_ | with_reducible refine we_var_38 ?_ | with_reducible refine we_var_39 ?_) | ((with_reducible refine id_s ?_); first | with_reducible refine ws_seq ?_ | with_reducible refine ws_next ?_ | with_reducible refine ws_drop ?_ | with_reducible refine ws_ret ?_ | with_reducible refine ws_retN ?_ | with_reducible refine ws_brk ?_ | with_reducible refine ws_cnt ?_ | with_reducible refine ws_asg ?_ | with_reducible refine ws_if ?_ | with_reducible refine ws_put ?_ | with_reducible refine ws_fldP ?_ | with_reducible refine ws_fldA ?_ | with_reducible refine ws_daug ?_ | with_reducible refine ws_try ?_ | with_reducible refine ws_raise ?_ | with_reducible refine ws_raise0 ?_ | with_reducible refine ws_set_0 ?_ | with_reducible refine ws_set_1 ?_ | with_reducible refine ws_set_2 ?_ | with_reducible refine ws_set_3 ?_ | with_reducible refine ws_set_4 ?_ | with_reducible refine ws_set_5 ?_ | with_reducible refine ws_set_6 ?_ | with_reducible refine ws_set_7 ?_ | with_reducible refine ws_set_8 ?_ | with_reducible refine ws_set_9 ?_ | with_reducible refine ws_set_10 ?_ | with_reducible refine ws_set_11 ?_ | with_reducible refine ws_set_12 ?_ | with_reducible refine ws_set_13 ?_ | with_reducible refine ws_set_14 ?_ | with_reducible refine ws_set_15 ?_ | with_reducible refine ws_set_16 ?_ | with_reducible refine ws_set_17 ?_ | with_reducible refine ws_set_18 ?_ | with_reducible refine ws_set_19 ?_ | with_reducible refine ws_set_20 ?_ | with_reducible refine ws_set_21 ?_ | with_reducible refine ws_set_22 ?_ | with_reducible refine ws_set_23 ?_ | with_reducible refine ws_set_24 ?_ | with_reducible refine ws_set_25 ?_ | with_reducible refine ws_set_26 ?_ | with_reducible refine ws_set_27 ?_ | with_reducible refine ws_set_28 ?_ | with_reducible refine ws_set_29 ?_ | with_reducible refine ws_set_30 ?_ | with_reducible refine ws_set_31 ?_ | with_reducible refine ws_set_32 ?_ | with_reducible refine ws_set_33 ?_ | with_reducible refine ws_set_34 ?_ | with_reducible refine ws_set_35 ?_ | with_reducible refine ws_set_36 ?_ | with_reducible refine ws_set_37 ?_ | with_reducible refine ws_set_38 ?_ | with_reducible refine ws_set_39 ?_ | with_reducible refine ws_aug_0 ?_ | with_reducible refine ws_aug_1 ?_ | with_reducible refine ws_aug_2 ?_ | with_reducible refine ws_aug_3 ?_ | with_reducible refine ws_aug_4 ?_ | with_reducible refine ws_aug_5 ?_ | with_reducible refine ws_aug_6 ?_ | with_reducible refine ws_aug_7 ?_ | with_reducible refine ws_aug_8 ?_ | with_reducible refine ws_aug_9 ?_ | with_reducible refine ws_aug_10 ?_ | with_reducible refine ws_aug_11 ?_ | with_reducible refine ws_aug_12 ?_ | with_reducible refine ws_aug_13 ?_ | with_reducible refine ws_aug_14 ?_ | with_reducible refine ws_aug_15 ?_ | with_reducible refine ws_aug_16 ?_ | with_reducible refine ws_aug_17 ?_ | with_reducible refine ws_aug_18 ?_ | with_reducible refine ws_aug_19 ?_ | with_reducible refine ws_aug_20 ?_ | with_reducible refine ws_aug_21 ?_ | with_reducible refine ws_aug_22 ?_ | with_reducible refine ws_aug_23 ?_ | with_reducible refine ws_aug_24 ?_ | with_reducible refine ws_aug_25 ?_ | with_reducible refine ws_aug_26 ?_ | with_reducible refine ws_aug_27 ?_ | with_reducible refine ws_aug_28 ?_ | with_reducible refine ws_aug_29 ?_ | with_reducible refine ws_aug_30 ?_ | with_reducible refine ws_aug_31 ?_ | with_reducible refine ws_aug_32 ?_ | with_reducible refine ws_aug_33 ?_ | with_reducible refine ws_aug_34 ?_ | with_reducible refine ws_aug_35 ?_ | with_reducible refine ws_aug_36 ?_ | with_reducible refine ws_aug_37 ?_ | with_reducible refine ws_aug_38 ?_ | with_reducible refine ws_aug_39 ?_) | ((with_reducible refine id_a ?_); first | with_reducible refine wa_cons ?_ | with_reducible refine wa_nil ?_) | ((with_reducible refine id_g ?_); first | with_reducible refine wg_add ?_ | ((with_reducible apply wg_adds); (· sizeOf_list_dec)) | ((with_reducible apply wg_addl); (· sizeOf_list_dec)) | with_reducible refine wg_plus ?_ | ((with_reducible apply wg_pluss); (· sizeOf_list_dec)) | with_reducible refine wg_plusI ?_ | with_reducible refine wg_minus ?_ | with_reducible refine wg_sub ?_ | with_reducible refine wg_pow9 ?_ | with_reducible refine wg_pow6 ?_ | with_reducible refine wg_pow3 ?_ | with_reducible refine wg_pow18 ?_ | ((with_reducible apply wg_mod); (· sizeOf_list_dec)) | ((with_reducible apply wg_div); (· sizeOf_list_dec)) | ((with_reducible apply wg_mul); (· sizeOf_list_dec)) | ((with_reducible apply wg_mulA); (· sizeOf_list_dec)) | ((with_reducible apply wg_mulS1); (· sizeOf_list_dec)) | ((with_reducible apply wg_mulS); (· sizeOf_list_dec)) | with_reducible refine wg_lt ?_ | with_reducible refine wg_le ?_ | with_reducible refine wg_gt ?_ | with_reducible refine wg_ge ?_ | with_reducible refine wg_eq ?_ | with_reducible refine wg_ne ?_ | with_reducible refine wg_eqs ?_ | with_reducible refine wg_nes ?_ | with_reducible refine wg_eqnn ?_ | with_reducible refine wg_eqni ?_ | with_reducible refine wg_eqin ?_ | with_reducible refine wg_eqns ?_ | with_reducible refine wg_eqsn ?_ | with_reducible refine wg_nenn ?_ | with_reducible refine wg_neni ?_ | with_reducible refine wg_nein ?_ | with_reducible refine wg_nens ?_ | with_reducible refine wg_nesn ?_ | with_reducible refine wg_isNn ?_ | with_reducible refine wg_isNi ?_ | with_reducible refine wg_isNs ?_ | with_reducible refine wg_isNt ?_ | with_reducible refine wg_isNl ?_ | with_reducible refine wg_isNo ?_ | with_reducible refine wg_notNn ?_ | with_reducible refine wg_notNi ?_ | with_reducible refine wg_notNs ?_ | with_reducible refine wg_notNt ?_ | with_reducible refine wg_notNl ?_ | with_reducible refine wg_notNo ?_ | ((with_reducible apply wg_lenS); (· sizeOf_list_dec)) | with_reducible refine wg_lenL ?_ | with_reducible refine wg_lenT ?_ | ((with_reducible apply wg_lenM); (· array_mem_dec)) | ((with_reducible apply wg_lenD); (· array_mem_dec)) | with_reducible refine wg_intI ?_ | with_reducible refine wg_intB ?_ | with_reducible refine wg_ord ?_ | with_reducible refine wg_max2 ?_ | with_reducible refine wg_min2 ?_ | with_reducible refine key_int ?_ | with_reducible refine key_str ?_ | ((with_reducible apply wg_look); (· exact rfl)) | ((with_reducible apply wdicR); (· array_mem_dec)) | ((with_reducible apply wdicRF); (· array_mem_dec)) | ((with_reducible apply wdicAt); (· array_mem_dec)) | ((with_reducible apply wput_dic); (· array_mem_dec); (· exact rfl); (· sizeOf_list_dec)) | ((with_reducible apply wput_lst); (· array_mem_dec); (· sizeOf_list_dec)) | with_reducible refine wtr_b ?_ | with_reducible refine wtr_n ?_ | with_reducible refine wtr_i ?_ | ((with_reducible apply wtr_s); (· sizeOf_list_dec)) | with_reducible refine wtr_l ?_ | ((with_reducible apply wtr_m); (· array_mem_dec)) | ((with_reducible apply wtr_d); (· array_mem_dec)) | with_reducible refine wpart_n ?_ | with_reducible refine wpart_i ?_ | ((with_reducible apply wsl_s_to); (· sizeOf_list_dec)) | ((with_reducible apply wsl_s_from); (· sizeOf_list_dec)) | ((with_reducible apply wsl_s_mid); (· sizeOf_list_dec)) | with_reducible refine wsl_l_to ?_ | with_reducible refine wsl_l_from ?_ | with_reducible refine wsl_l_mid ?_ | ((with_reducible apply wsl_m_to); (· array_mem_dec)) | ((with_reducible apply wsl_m_from); (· array_mem_dec)) | ((with_reducible apply wsl_m_mid); (· array_mem_dec)) | with_reducible refine wseqL ?_ | with_reducible refine wseqT ?_ | with_reducible refine wseqS ?_ | ((with_reducible apply wseqM); (· array_mem_dec)) | with_reducible refine wstillL ?_ | ((with_reducible apply wstillF); (· array_mem_dec)) | ((with_reducible apply wcopyD); (· array_mem_dec)) | ((with_reducible apply wlistM); (· array_mem_dec)) | with_reducible refine wlistML ?_ | with_reducible refine wlistMT ?_ | with_reducible refine wlistL ?_ | with_reducible refine wlistT ?_ | ((with_reducible apply wlistO); (· array_mem_dec)) | ((with_reducible apply wgisiT); (· exact rfl); (· exact rfl)) | ((with_reducible apply wgisiF); (· exact rfl); (· exact rfl)) | ((with_reducible apply wgisiT); (· exact ty_dic (by array_mem_dec)); (· exact rfl)) | ((with_reducible apply wgisiF); (· exact ty_dic (by array_mem_dec)); (· exact rfl)) | ((with_reducible apply wgisiT); (· exact ty_lstM (by array_mem_dec)); (· exact rfl)) | ((with_reducible apply wgisiF); (· exact ty_lstM (by array_mem_dec)); (· exact rfl)) | ((with_reducible apply ixA_tup); (· exact rfl)) | ((with_reducible apply inA_non); (· array_mem_dec)) | ((with_reducible apply ninA_non); (· array_mem_dec)) | ((with_reducible apply inA_dic); (· array_mem_dec); (· exact rfl)) | ((with_reducible apply inA_dicF); (· array_mem_dec); (· exact rfl)) | ((with_reducible apply ninA_dic); (· array_mem_dec); (· exact rfl)) | ((with_reducible apply ninA_dicF); (· array_mem_dec); (· exact rfl)) ) | ((with_reducible refine id_b ?_); first | with_reducible refine wb_true ?_ | with_reducible refine wb_false ?_ | ((with_reducible apply wb_pos); (· (first | with_reducible exact rfl | assumption | omega | (simp only [List.length_cons, List.length_nil, List.length_map]); (·  omega)))) | ((with_reducible apply wb_neg); (· (first | with_reducible exact rfl | assumption | omega | (simp only [List.length_cons, List.length_nil, List.length_map]); (·  omega)))) | ((with_reducible apply wb_npos); (· (first | with_reducible exact rfl | assumption | omega | (simp only [List.length_cons, List.length_nil, List.length_map]); (·  omega)))) | ((with_reducible apply wb_nneg); (· (first | with_reducible exact rfl | assumption | omega | (simp only [List.length_cons, List.length_nil, List.length_map]); (·  omega)))) | ((with_reducible apply wb_t); (· assumption)) | ((with_reducible apply wb_f); (· assumption)) ) | ((with_reducible refine id_t ?_); first | with_reducible refine wt_T ?_ | with_reducible refine wt_n_0 ?_ | with_reducible refine wt_n_1 ?_ | with_reducible refine wt_n_2 ?_ | with_reducible refine wt_n_3 ?_ | with_reducible refine wt_n_4 ?_ | with_reducible refine wt_n_5 ?_ | with_reducible refine wt_n_6 ?_ | with_reducible refine wt_n_7 ?_ | with_reducible refine wt_n_8 ?_ | with_reducible refine wt_n_9 ?_ | with_reducible refine wt_n_10 ?_ | with_reducible refine wt_n_11 ?_ | with_reducible refine wt_n_12 ?_ | with_reducible refine wt_n_13 ?_ | with_reducible refine wt_n_14 ?_ | with_reducible refine wt_n_15 ?_ | with_reducible refine wt_n_16 ?_ | with_reducible refine wt_n_17 ?_ | with_reducible refine wt_n_18 ?_ | with_reducible refine wt_n_19 ?_ | with_reducible refine wt_n_20 ?_ | with_reducible refine wt_n_21 ?_ | with_reducible refine wt_n_22 ?_ | with_reducible refine wt_n_23 ?_ | with_reducible refine wt_n_24 ?_ | with_reducible refine wt_n_25 ?_ | with_reducible refine wt_n_26 ?_ | with_reducible refine wt_n_27 ?_ | with_reducible refine wt_n_28 ?_ | with_reducible refine wt_n_29 ?_ | with_reducible refine wt_n_30 ?_ | with_reducible refine wt_n_31 ?_ | with_reducible refine wt_n_32 ?_ | with_reducible refine wt_n_33 ?_ | with_reducible refine wt_n_34 ?_ | with_reducible refine wt_n_35 ?_ | with_reducible refine wt_n_36 ?_ | with_reducible refine wt_n_37 ?_ | with_reducible refine wt_n_38 ?_ | with_reducible refine wt_n_39 ?_) | with_reducible refine wts_cons ?_ | with_reducible refine wts_nil ?_ | ((with_reducible refine id_i ?_); first | with_reducible refine wi_rng ?_ | with_reducible refine wi_rng2 ?_ | with_reducible refine wi_seq ?_ | with_reducible refine wi_dic ?_ | with_reducible refine wi_rv ?_ | with_reducible refine wi_en ?_ | with_reducible refine wi_zp ?_) | ((with_reducible refine id_h ?_); first | ((with_reducible apply wh_no); (· exact rfl)) | ((with_reducible apply wh_bare); (· exact rfl)) | ((with_reducible apply wh_yes_0); (· exact rfl)) | ((with_reducible apply wh_yes_1); (· exact rfl)) | ((with_reducible apply wh_yes_2); (· exact rfl)) | ((with_reducible apply wh_yes_3); (· exact rfl)) | ((with_reducible apply wh_yes_4); (· exact rfl)) | ((with_reducible apply wh_yes_5); (· exact rfl)) | ((with_reducible apply wh_yes_6); (· exact rfl)) | ((with_reducible apply wh_yes_7); (· exact rfl)) | ((with_reducible apply wh_yes_8); (· exact rfl)) | ((with_reducible apply wh_yes_9); (· exact rfl)) | ((with_reducible apply wh_yes_10); (· exact rfl)) | ((with_reducible apply wh_yes_11); (· exact rfl)) | ((with_reducible apply wh_yes_12); (· exact rfl)) | ((with_reducible apply wh_yes_13); (· exact rfl)) | ((with_reducible apply wh_yes_14); (· exact rfl)) | ((with_reducible apply wh_yes_15); (· exact rfl)) | ((with_reducible apply wh_yes_16); (· exact rfl)) | ((with_reducible apply wh_yes_17); (· exact rfl)) | ((with_reducible apply wh_yes_18); (· exact rfl)) | ((with_reducible apply wh_yes_19); (· exact rfl)) | ((with_reducible apply wh_yes_20); (· exact rfl)) | ((with_reducible apply wh_yes_21); (· exact rfl)) | ((with_reducible apply wh_yes_22); (· exact rfl)) | ((with_reducible apply wh_yes_23); (· exact rfl)) | ((with_reducible apply wh_yes_24); (· exact rfl)) | ((with_reducible apply wh_yes_25); (· exact rfl)) | ((with_reducible apply wh_yes_26); (· exact rfl)) | ((with_reducible apply wh_yes_27); (· exact rfl)) | ((with_reducible apply wh_yes_28); (· exact rfl)) | ((with_reducible apply wh_yes_29); (· exact rfl)) | ((with_reducible apply wh_yes_30); (· exact rfl)) | ((with_reducible apply wh_yes_31); (· exact rfl)) | ((with_reducible apply wh_yes_32); (· exact rfl)) | ((with_reducible apply wh_yes_33); (· exact rfl)) | ((with_reducible apply wh_yes_34); (· exact rfl)) | ((with_reducible apply wh_yes_35); (· exact rfl)) | ((with_reducible apply wh_yes_36); (· exact rfl)) | ((with_reducible apply wh_yes_37); (· exact rfl)) | ((with_reducible apply wh_yes_38); (· exact rfl)) | ((with_reducible apply wh_yes_39); (· exact rfl)) | with_reducible refine wh_nil ?_) | ((with_reducible refine id_cl ?_); first | with_reducible refine wcl_0 ?_ | with_reducible refine wcl_1 ?_ | with_reducible refine wcl_2 ?_ | with_reducible refine wcl_3 ?_ | with_reducible refine wcl_4 ?_ | with_reducible refine wcl_5 ?_ | with_reducible refine wcl_6 ?_ | with_reducible refine wcl_7 ?_ | with_reducible refine wcl_8 ?_ | with_reducible refine wcl_9 ?_ | with_reducible refine wcl_10 ?_ | with_reducible refine wcl_11 ?_ | with_reducible refine wcl_12 ?_ | with_reducible refine wcl_13 ?_ | with_reducible refine wcl_14 ?_ | with_reducible refine wcl_15 ?_ | with_reducible refine wcl_16 ?_ | with_reducible refine wcl_17 ?_ | with_reducible refine wcl_18 ?_ | with_reducible refine wcl_19 ?_ | with_reducible refine wcl_20 ?_ | with_reducible refine wcl_21 ?_ | with_reducible refine wcl_22 ?_ | with_reducible refine wcl_23 ?_ | with_reducible refine wcl_24 ?_ | with_reducible refine wcl_25 ?_ | with_reducible refine wcl_26 ?_ | with_reducible refine wcl_27 ?_ | with_reducible refine wcl_28 ?_ | with_reducible refine wcl_29 ?_ | with_reducible refine wcl_30 ?_ | with_reducible refine wcl_31 ?_ | with_reducible refine wcl_32 ?_ | with_reducible refine wcl_33 ?_ | with_reducible refine wcl_34 ?_ | with_reducible refine wcl_35 ?_ | with_reducible refine wcl_36 ?_ | with_reducible refine wcl_37 ?_ | with_reducible refine wcl_38 ?_ | with_reducible refine wcl_39 ?_) | with_reducible refine wbl ?_ | with_reducible refine wnot_t ?_ | with_reducible refine wnot_f ?_ | with_reducible refine wnot_n ?_ | with_reducible refine wnot ?_ | with_reducible refine wint ?_ | with_reducible refine wstr ?_ | with_reducible refine wobj ?_ | with_reducible refine wnon ?_ | ((with_reducible apply wat); · array_mem_dec) | ((with_reducible refine wyes_c ?_ ?_); (· exact rfl)) | ((with_reducible refine wyes_k ?_ ?_); (· exact rfl)) | ((with_reducible refine wyes_d ?_ ?_); (· exact ⟨rfl, Nat.le_of_ble_eq_true rfl⟩)) | ((with_reducible refine wyes ?_ ?_); · sizeOf_list_dec) | with_reducible refine wyes wlstT ?_ | with_reducible refine wlst ?_ | with_reducible refine wins ?_ | with_reducible refine winm ?_)
local macro_rules | `(tactic| array_get_dec) => `(tactic| with_reducible refine ixA_l0 ?_)
local macro_rules | `(tactic| array_get_dec) => `(tactic| with_reducible refine ixA_l1 ?_)
local macro_rules | `(tactic| array_get_dec) => `(tactic| with_reducible refine ixA_l2 ?_)
local macro_rules | `(tactic| array_get_dec) => `(tactic| with_reducible refine ixA_l3 ?_)
local macro_rules | `(tactic| array_get_dec) => `(tactic| with_reducible refine ixA_l4 ?_)
local macro_rules | `(tactic| array_get_dec) => `(tactic| with_reducible refine ixA_l5 ?_)
local macro_rules | `(tactic| array_get_dec) => `(tactic| with_reducible refine ixA_l6 ?_)
local macro_rules | `(tactic| array_get_dec) => `(tactic| with_reducible refine ixA_l7 ?_)
local macro_rules | `(tactic| array_get_dec) => `(tactic| with_reducible refine wb_some ?_)
local macro_rules | `(tactic| array_get_dec) => `(tactic| with_reducible refine wb_none ?_)
local macro_rules | `(tactic| array_get_dec) => `(tactic| with_reducible refine wb_nsome ?_)
local macro_rules | `(tactic| array_get_dec) => `(tactic| with_reducible refine wb_nnone ?_)
section
variable {m m' : Mu} {q : Nat} {D : List DR} {KA : KVs} {x : DR} {i : Nat} {n : Int}
def OpenT (D : List DR) (T : List (List Nat × Nat)) : Prop := ∀ t, t ∈ T → ∃ x, D[t.2]? = some x ∧ x.nm = t.1 ∧ x.ft = openS
theorem OpenT.fin {T : List (List Nat × Nat)} (h : OpenT D T) {i : Nat} (hi : D[i]? = some x) (y : DR) : OpenT (D.set i y) (T.filter fun t => decide (t.1 ≠ x.nm)) := by
  intro t ht
  obtain ⟨ht1, ht2⟩ := List.mem_filter.mp ht
  obtain ⟨x', h1, h2, h3⟩ := h t ht1
  refine ⟨x', ?_, h2, h3⟩
  rw [List.getElem?_set_ne]
  · exact h1
  · intro e
    rw [← e, hi] at h1
    cases h1
    exact of_decide_eq_true ht2 h2.symm
theorem OpenT.same {T : List (List Nat × Nat)} (h : OpenT D T) {i : Nat} (hi : D[i]? = some x) {y : DR} (e1 : y.nm = x.nm) (e2 : y.ft = x.ft) : OpenT (D.set i y) T := by
  intro t ht
  obtain ⟨x', h1, h2, h3⟩ := h t ht
  by_cases e : i = t.2
  · subst e
    rw [hi] at h1
    cases h1
    exact ⟨y, List.getElem?_set_self (List.getElem?_eq_some_iff.mp hi).1, e1.trans h2, e2.trans h3⟩
  · exact ⟨x', by rw [List.getElem?_set_ne e]; exact h1, h2, h3⟩
end
section
variable {m m' : Mu} {q : Nat} {D : List DR} {KA : KVs} {x : DR} {i : Nat} {n : Int}
def pairsD : Nat → List DR → List DV
  | _, [] => []
  | o, x :: r => .tup [.str x.ft, .obj o] :: pairsD (o + 1) r
end
end DM

namespace DM
open PySem PySem.Spec PyProof.Rows L2
local macro_rules | `(tactic| sizeOf_list_dec) => `(tactic| first | assumption | omega | exact Nat.zero_le _ | (simp only [List.length_cons, List.length_nil, List.length_append, List.length_map, List.length_replicate, List.length_range, List.length_take, List.length_drop, List.length_reverse]; omega) | (decide; done))
local macro_rules | `(tactic| array_mem_dec) => `(tactic| (repeat (first | with_reducible assumption | with_reducible exact mem_new | with_reducible apply mem_same' | ((with_reducible apply mem_ne'); (· first | assumption | omega)) | with_reducible apply mem_old | with_reducible exact mem_hd | with_reducible apply mem_app)); done)
local macro_rules | `(tactic| array_get_dec) => `(tactic| first | ((with_reducible refine id_e ?_); first | with_reducible refine we_c ?_ | with_reducible refine we_op ?_ | with_reducible refine we_cb ?_ | with_reducible refine we_call0 ?_ | with_reducible refine we_call ?_ | with_reducible refine we_B ?_ | with_reducible refine we_tru ?_ | with_reducible refine we_not ?_ | with_reducible refine we_and ?_ | with_reducible refine we_or ?_ | with_reducible refine we_if ?_ | with_reducible refine we_neg ?_ | with_reducible refine we_I ?_ | with_reducible refine we_chain ?_ | with_reducible refine we_tup ?_ | with_reducible refine we_lst ?_ | with_reducible refine we_lstM0 ?_ | with_reducible refine we_lstM ?_ | with_reducible refine we_dnew ?_ | with_reducible refine we_sl ?_ | with_reducible refine we_m1 ?_ | with_reducible refine we_isiT ?_ | with_reducible refine we_append ?_ | with_reducible refine we_get1 ?_ | with_reducible refine we_get2 ?_ | with_reducible refine we_pop2 ?_ | with_reducible refine we_pop1 ?_ | with_reducible refine we_cm ?_ | with_reducible refine we_fld ?_ | with_reducible refine we_meth ?_ | with_reducible refine we_make ?_ | with_reducible refine we_yes ?_ | with_reducible refine we_popA ?_ | ((with_reducible apply we_xf); (· exact rfl)) | ((with_reducible apply we_is); (· exact rfl)) | with_reducible refine we_var_0 ?_ | with_reducible refine we_var_1 ?_ | with_reducible refine we_var_2 ?_ | with_reducible refine we_var_3 ?_ | with_reducible refine we_var_4 ?_ | with_reducible refine we_var_5 ?_ | with_reducible refine we_var_6 ?_ | with_reducible refine we_var_7 ?_ | with_reducible refine we_var_8 ?_ | with_reducible refine we_var_9 ?_ | with_reducible refine we_var_10 ?_ | with_reducible refine we_var_11 ?_ | with_reducible refine we_var_12 ?_ | with_reducible refine we_var_13 ?_ | with_reducible refine we_var_14 ?_ | with_reducible refine we_var_15 ?_ | with_reducible refine we_var_16 ?_ | with_reducible refine we_var_17 ?_ | with_reducible refine we_var_18 ?_ | with_reducible refine we_var_19 ?_ | with_reducible refine we_var_20 ?_ | with_reducible refine we_var_21 ?_ | with_reducible refine we_var_22 ?_ | with_reducible refine we_var_23 ?_ | with_reducible refine we_var_24 ?_ | with_reducible refine we_var_25 ?_ | with_reducible refine we_var_26 ?_ | with_reducible refine we_var_27 ?_ | with_reducible refine we_var_28 ?_ | with_reducible refine we_var_29 ?_ | with_reducible refine we_var_30 ?_ | with_reducible refine we_var_31 ?_ | with_reducible refine we_var_32 ?_ | with_reducible refine we_var_33 ?_ | with_reducible refine we_var_34 ?_ | with_reducible refine we_var_35 ?_ | with_reducible refine we_var_36 ?_ | with_reducible refine we_var_37 ?_ | with_reducible refine we_var_38 ?_ | with_reducible refine we_var_39 ?_) | ((with_reducible refine id_s ?_); first | with_reducible refine ws_seq ?_ | with_reducible refine ws_next ?_ | with_reducible refine ws_drop ?_ | with_reducible refine ws_ret ?_ | with_reducible refine ws_retN ?_ | with_reducible refine ws_brk ?_ | with_reducible refine ws_cnt ?_ | with_reducible refine ws_asg ?_ | with_reducible refine ws_if ?_ | with_reducible refine ws_put ?_ | with_reducible refine ws_fldP ?_ | with_reducible refine ws_fldA ?_ | with_reducible refine ws_daug ?_ | with_reducible refine ws_try ?_ | with_reducible refine ws_raise ?_ | with_reducible refine ws_raise0 ?_ | with_reducible refine ws_set_0 ?_ | with_reducible refine ws_set_1 ?_ | with_reducible refine ws_set_2 ?_ | with_reducible refine ws_set_3 ?_ | with_reducible refine ws_set_4 ?_ | with_reducible refine ws_set_5 ?_ | with_reducible refine ws_set_6 ?_ | with_reducible refine ws_set_7 ?_ | with_reducible refine ws_set_8 ?_ | with_reducible refine ws_set_9 ?_ | with_reducible refine ws_set_10 ?_ | with_reducible refine ws_set_11 ?_ | with_reducible refine ws_set_12 ?_ | with_reducible refine ws_set_13 ?_ | with_reducible refine ws_set_14 ?_ | with_reducible refine ws_set_15 ?_ | with_reducible refine ws_set_16 ?_ | with_reducible refine ws_set_17 ?_ | with_reducible refine ws_set_18 ?_ | with_reducible refine ws_set_19 ?_ | with_reducible refine ws_set_20 ?_ | with_reducible refine ws_set_21 ?_ | with_reducible refine ws_set_22 ?_ | with_reducible refine ws_set_23 ?_ | with_reducible refine ws_set_24 ?_ | with_reducible refine ws_set_25 ?_ | with_reducible refine ws_set_26 ?_ | with_reducible refine ws_set_27 ?_ | with_reducible refine ws_set_28 ?_ | with_reducible refine ws_set_29 ?_ | with_reducible refine ws_set_30 ?_ | with_reducible refine ws_set_31 ?_ | with_reducible refine ws_set_32 ?_ | with_reducible refine ws_set_33 ?_ | with_reducible refine ws_set_34 ?_ | with_reducible refine ws_set_35 ?_ | with_reducible refine ws_set_36 ?_ | with_reducible refine ws_set_37 ?_ | with_reducible refine ws_set_38 ?_ | with_reducible refine ws_set_39 ?_ | with_reducible refine ws_aug_0 ?_ | with_reducible refine ws_aug_1 ?_ | with_reducible refine ws_aug_2 ?_ | with_reducible refine ws_aug_3 ?_ | with_reducible refine ws_aug_4 ?_ | with_reducible refine ws_aug_5 ?_ | with_reducible refine ws_aug_6 ?_ | with_reducible refine ws_aug_7 ?_ | with_reducible refine ws_aug_8 ?_ | with_reducible refine ws_aug_9 ?_ | with_reducible refine ws_aug_10 ?_ | with_reducible refine ws_aug_11 ?_ | with_reducible refine ws_aug_12 ?_ | with_reducible refine ws_aug_13 ?_ | with_reducible refine ws_aug_14 ?_ | with_reducible refine ws_aug_15 ?_ | with_reducible refine ws_aug_16 ?_ | with_reducible refine ws_aug_17 ?_ | with_reducible refine ws_aug_18 ?_ | with_reducible refine ws_aug_19 ?_ | with_reducible refine ws_aug_20 ?_ | with_reducible refine ws_aug_21 ?_ | with_reducible refine ws_aug_22 ?_ | with_reducible refine ws_aug_23 ?_ | with_reducible refine ws_aug_24 ?_ | with_reducible refine ws_aug_25 ?_ | with_reducible refine ws_aug_26 ?_ | with_reducible refine ws_aug_27 ?_ | with_reducible refine ws_aug_28 ?_ | with_reducible refine ws_aug_29 ?_ | with_reducible refine ws_aug_30 ?_ | with_reducible refine ws_aug_31 ?_ | with_reducible refine ws_aug_32 ?_ | with_reducible refine ws_aug_33 ?_ | with_reducible refine ws_aug_34 ?_ | with_reducible refine ws_aug_35 ?_ | with_reducible refine ws_aug_36 ?_ | with_reducible refine ws_aug_37 ?_ | with_reducible refine ws_aug_38 ?_ | with_reducible refine ws_aug_39 ?_) | ((with_reducible refine id_a ?_); first | with_reducible refine wa_cons ?_ | with_reducible refine wa_nil ?_) | ((with_reducible refine id_g ?_); first | with_reducible refine wg_add ?_ | ((with_reducible apply wg_adds); (· sizeOf_list_dec)) | ((with_reducible apply wg_addl); (· sizeOf_list_dec)) | with_reducible refine wg_plus ?_ | ((with_reducible apply wg_pluss); (· sizeOf_list_dec)) | with_reducible refine wg_plusI ?_ | with_reducible refine wg_minus ?_ | with_reducible refine wg_sub ?_ | with_reducible refine wg_pow9 ?_ | with_reducible refine wg_pow6 ?_ | with_reducible refine wg_pow3 ?_ | with_reducible refine wg_pow18 ?_ | ((with_reducible apply wg_mod); (· sizeOf_list_dec)) | ((with_reducible apply wg_div); (· sizeOf_list_dec)) | ((with_reducible apply wg_mul); (· sizeOf_list_dec)) | ((with_reducible apply wg_mulA); (· sizeOf_list_dec)) | ((with_reducible apply wg_mulS1); (· sizeOf_list_dec)) | ((with_reducible apply wg_mulS); (· sizeOf_list_dec)) | with_reducible refine wg_lt ?_ | with_reducible refine wg_le ?_ | with_reducible refine wg_gt ?_ | with_reducible refine wg_ge ?_ | with_reducible refine wg_eq ?_ | with_reducible refine wg_ne ?_ | with_reducible refine wg_eqs ?_ | with_reducible refine wg_nes ?_ | with_reducible refine wg_eqnn ?_ | with_reducible refine wg_eqni ?_ | with_reducible refine wg_eqin ?_ | with_reducible refine wg_eqns ?_ | with_reducible refine wg_eqsn ?_ | with_reducible refine wg_nenn ?_ | with_reducible refine wg_neni ?_ | with_reducible refine wg_nein ?_ | with_reducible refine wg_nens ?_ | with_reducible refine wg_nesn ?_ | with_reducible refine wg_isNn ?_ | with_reducible refine wg_isNi ?_ | with_reducible refine wg_isNs ?_ | with_reducible refine wg_isNt ?_ | with_reducible refine wg_isNl ?_ | with_reducible refine wg_isNo ?_ | with_reducible refine wg_notNn ?_ | with_reducible refine wg_notNi ?_ | with_reducible refine wg_notNs ?_ | with_reducible refine wg_notNt ?_ | with_reducible refine wg_notNl ?_ | with_reducible refine wg_notNo ?_ | ((with_reducible apply wg_lenS); (· sizeOf_list_dec)) | with_reducible refine wg_lenL ?_ | with_reducible refine wg_lenT ?_ | ((with_reducible apply wg_lenM); (· array_mem_dec)) | ((with_reducible apply wg_lenD); (· array_mem_dec)) | with_reducible refine wg_intI ?_ | with_reducible refine wg_intB ?_ | with_reducible refine wg_ord ?_ | with_reducible refine wg_max2 ?_ | with_reducible refine wg_min2 ?_ | with_reducible refine key_int ?_ | with_reducible refine key_str ?_ | ((with_reducible apply wg_look); (· exact rfl)) | ((with_reducible apply wdicR); (· array_mem_dec)) | ((with_reducible apply wdicRF); (· array_mem_dec)) | ((with_reducible apply wdicAt); (· array_mem_dec)) | ((with_reducible apply wput_dic); (· array_mem_dec); (· exact rfl); (· sizeOf_list_dec)) | ((with_reducible apply wput_lst); (· array_mem_dec); (· sizeOf_list_dec)) | with_reducible refine wtr_b ?_ | with_reducible refine wtr_n ?_ | with_reducible refine wtr_i ?_ | ((with_reducible apply wtr_s); (· sizeOf_list_dec)) | with_reducible refine wtr_l ?_ | ((with_reducible apply wtr_m); (· array_mem_dec)) | ((with_reducible apply wtr_d); (· array_mem_dec)) | with_reducible refine wpart_n ?_ | with_reducible refine wpart_i ?_ | ((with_reducible apply wsl_s_to); (· sizeOf_list_dec)) | ((with_reducible apply wsl_s_from); (· sizeOf_list_dec)) | ((with_reducible apply wsl_s_mid); (· sizeOf_list_dec)) | with_reducible refine wsl_l_to ?_ | with_reducible refine wsl_l_from ?_ | with_reducible refine wsl_l_mid ?_ | ((with_reducible apply wsl_m_to); (· array_mem_dec)) | ((with_reducible apply wsl_m_from); (· array_mem_dec)) | ((with_reducible apply wsl_m_mid); (· array_mem_dec)) | with_reducible refine wseqL ?_ | with_reducible refine wseqT ?_ | with_reducible refine wseqS ?_ | ((with_reducible apply wseqM); (· array_mem_dec)) | with_reducible refine wstillL ?_ | ((with_reducible apply wstillF); (· array_mem_dec)) | ((with_reducible apply wcopyD); (· array_mem_dec)) | ((with_reducible apply wlistM); (· array_mem_dec)) | with_reducible refine wlistML ?_ | with_reducible refine wlistMT ?_ | with_reducible refine wlistL ?_ | with_reducible refine wlistT ?_ | ((with_reducible apply wlistO); (· array_mem_dec)) | ((with_reducible apply wgisiT); (· exact rfl); (· exact rfl)) | ((with_reducible apply wgisiF); (· exact rfl); (· exact rfl)) | ((with_reducible apply wgisiT); (· exact ty_dic (by array_mem_dec)); (· exact rfl)) | ((with_reducible apply wgisiF); (· exact ty_dic (by array_mem_dec)); (· exact rfl)) | ((with_reducible apply wgisiT); (· exact ty_lstM (by array_mem_dec)); (· exact rfl)) | ((with_reducible apply wgisiF); (· exact ty_lstM (by array_mem_dec)); (· exact rfl)) | ((with_reducible apply ixA_tup); (· exact rfl)) | ((with_reducible apply inA_non); (· array_mem_dec)) | ((with_reducible apply ninA_non); (· array_mem_dec)) | ((with_reducible apply inA_dic); (· array_mem_dec); (· exact rfl)) | ((with_reducible apply inA_dicF); (· array_mem_dec); (· exact rfl)) | ((with_reducible apply ninA_dic); (· array_mem_dec); (· exact rfl)) | ((with_reducible apply ninA_dicF); (· array_mem_dec); (· exact rfl)) ) | ((with_reducible refine id_b ?_); first | with_reducible refine wb_true ?_ | with_reducible refine wb_false ?_ | ((with_reducible apply wb_pos); (· (first | with_reducible exact rfl | assumption | omega | (simp only [List.length_cons, List.length_nil, List.length_map]); (·  omega)))) | ((with_reducible apply wb_neg); (· (first | with_reducible exact rfl | assumption | omega | (simp only [List.length_cons, List.length_nil, List.length_map]); (·  omega)))) | ((with_reducible apply wb_npos); (· (first | with_reducible exact rfl | assumption | omega | (simp only [List.length_cons, List.length_nil, List.length_map]); (·  omega)))) | ((with_reducible apply wb_nneg); (· (first | with_reducible exact rfl | assumption | omega | (simp only [List.length_cons, List.length_nil, List.length_map]); (·  omega)))) | ((with_reducible apply wb_t); (· assumption)) | ((with_reducible apply wb_f); (· assumption)) ) | ((with_reducible refine id_t ?_); first | with_reducible refine wt_T ?_ | with_reducible refine wt_n_0 ?_ | with_reducible refine wt_n_1 ?_ | with_reducible refine wt_n_2 ?_ | with_reducible refine wt_n_3 ?_ | with_reducible refine wt_n_4 ?_ | with_reducible refine wt_n_5 ?_ | with_reducible refine wt_n_6 ?_ | with_reducible refine wt_n_7 ?_ | with_reducible refine wt_n_8 ?_ | with_reducible refine wt_n_9 ?_ | with_reducible refine wt_n_10 ?_ | with_reducible refine wt_n_11 ?_ | with_reducible refine wt_n_12 ?_ | with_reducible refine wt_n_13 ?_ | with_reducible refine wt_n_14 ?_ | with_reducible refine wt_n_15 ?_ | with_reducible refine wt_n_16 ?_ | with_reducible refine wt_n_17 ?_ | with_reducible refine wt_n_18 ?_ | with_reducible refine wt_n_19 ?_ | with_reducible refine wt_n_20 ?_ | with_reducible refine wt_n_21 ?_ | with_reducible refine wt_n_22 ?_ | with_reducible refine wt_n_23 ?_ | with_reducible refine wt_n_24 ?_ | with_reducible refine wt_n_25 ?_ | with_reducible refine wt_n_26 ?_ | with_reducible refine wt_n_27 ?_ | with_reducible refine wt_n_28 ?_ | with_reducible refine wt_n_29 ?_ | with_reducible refine wt_n_30 ?_ | with_reducible refine wt_n_31 ?_ | with_reducible refine wt_n_32 ?_ | with_reducible refine wt_n_33 ?_ | with_reducible refine wt_n_34 ?_ | with_reducible refine wt_n_35 ?_ | with_reducible refine wt_n_36 ?_ | with_reducible refine wt_n_37 ?_ | with_reducible refine wt_n_38 ?_ | with_reducible refine wt_n_39 ?_) | with_reducible refine wts_cons ?_ | with_reducible refine wts_nil ?_ | ((with_reducible refine id_i ?_); first | with_reducible refine wi_rng ?_ | with_reducible refine wi_rng2 ?_ | with_reducible refine wi_seq ?_ | with_reducible refine wi_dic ?_ | with_reducible refine wi_rv ?_ | with_reducible refine wi_en ?_ | with_reducible refine wi_zp ?_) | ((with_reducible refine id_h ?_); first | ((with_reducible apply wh_no); (· exact rfl)) | ((with_reducible apply wh_bare); (· exact rfl)) | ((with_reducible apply wh_yes_0); (· exact rfl)) | ((with_reducible apply wh_yes_1); (· exact rfl)) | ((with_reducible apply wh_yes_2); (· exact rfl)) | ((with_reducible apply wh_yes_3); (· exact rfl)) | ((with_reducible apply wh_yes_4); (· exact rfl)) | ((with_reducible apply wh_yes_5); (· exact rfl)) | ((with_reducible apply wh_yes_6); (· exact rfl)) | ((with_reducible apply wh_yes_7); (· exact rfl)) | ((with_reducible apply wh_yes_8); (· exact rfl)) | ((with_reducible apply wh_yes_9); (· exact rfl)) | ((with_reducible apply wh_yes_10); (· exact rfl)) | ((with_reducible apply wh_yes_11); (· exact rfl)) | ((with_reducible apply wh_yes_12); (· exact rfl)) | ((with_reducible apply wh_yes_13); (· exact rfl)) | ((with_reducible apply wh_yes_14); (· exact rfl)) | ((with_reducible apply wh_yes_15); (· exact rfl)) | ((with_reducible apply wh_yes_16); (· exact rfl)) | ((with_reducible apply wh_yes_17); (· exact rfl)) | ((with_reducible apply wh_yes_18); (· exact rfl)) | ((with_reducible apply wh_yes_19); (· exact rfl)) | ((with_reducible apply wh_yes_20); (· exact rfl)) | ((with_reducible apply wh_yes_21); (· exact rfl)) | ((with_reducible apply wh_yes_22); (· exact rfl)) | ((with_reducible apply wh_yes_23); (· exact rfl)) | ((with_reducible apply wh_yes_24); (· exact rfl)) | ((with_reducible apply wh_yes_25); (· exact rfl)) | ((with_reducible apply wh_yes_26); (· exact rfl)) | ((with_reducible apply wh_yes_27); (· exact rfl)) | ((with_reducible apply wh_yes_28); (· exact rfl)) | ((with_reducible apply wh_yes_29); (· exact rfl)) | ((with_reducible apply wh_yes_30); (· exact rfl)) | ((with_reducible apply wh_yes_31); (· exact rfl)) | ((with_reducible apply wh_yes_32); (· exact rfl)) | ((with_reducible apply wh_yes_33); (· exact rfl)) | ((with_reducible apply wh_yes_34); (· exact rfl)) | ((with_reducible apply wh_yes_35); (· exact rfl)) | ((with_reducible apply wh_yes_36); (· exact rfl)) | ((with_reducible apply wh_yes_37); (· exact rfl)) | ((with_reducible apply wh_yes_38); (· exact rfl)) | ((with_reducible apply wh_yes_39); (· exact rfl)) | with_reducible refine wh_nil ?_) | ((with_reducible refine id_cl ?_); first | with_reducible refine wcl_0 ?_ | with_reducible refine wcl_1 ?_ | with_reducible refine wcl_2 ?_ | with_reducible refine wcl_3 ?_ | with_reducible refine wcl_4 ?_ | with_reducible refine wcl_5 ?_ | with_reducible refine wcl_6 ?_ | with_reducible refine wcl_7 ?_ | with_reducible refine wcl_8 ?_ | with_reducible refine wcl_9 ?_ | with_reducible refine wcl_10 ?_ | with_reducible refine wcl_11 ?_ | with_reducible refine wcl_12 ?_ | with_reducible refine wcl_13 ?_ | with_reducible refine wcl_14 ?_ | with_reducible refine wcl_15 ?_ | with_reducible refine wcl_16 ?_ | with_reducible refine wcl_17 ?_ | with_reducible refine wcl_18 ?_ | with_reducible refine wcl_19 ?_ | with_reducible refine wcl_20 ?_ | with_reducible refine wcl_21 ?_ | with_reducible refine wcl_22 ?_ | with_reducible refine wcl_23 ?_ | with_reducible refine wcl_24 ?_ | with_reducible refine wcl_25 ?_ | with_reducible refine wcl_26 ?_ | with_reducible refine wcl_27 ?_ | with_reducible refine wcl_28 ?_ | with_reducible refine wcl_29 ?_ | with_reducible refine wcl_30 ?_ | with_reducible refine wcl_31 ?_ | with_reducible refine wcl_32 ?_ | with_reducible refine wcl_33 ?_ | with_reducible refine wcl_34 ?_ | with_reducible refine wcl_35 ?_ | with_reducible refine wcl_36 ?_ | with_reducible refine wcl_37 ?_ | with_reducible refine wcl_38 ?_ | with_reducible refine wcl_39 ?_) | with_reducible refine wbl ?_ | with_reducible refine wnot_t ?_ | with_reducible refine wnot_f ?_ | with_reducible refine wnot_n ?_ | with_reducible refine wnot ?_ | with_reducible refine wint ?_ | with_reducible refine wstr ?_ | with_reducible refine wobj ?_ | with_reducible refine wnon ?_ | ((with_reducible apply wat); · array_mem_dec) | ((with_reducible refine wyes_c ?_ ?_); (· exact rfl)) | ((with_reducible refine wyes_k ?_ ?_); (· exact rfl)) | ((with_reducible refine wyes_d ?_ ?_); (· exact ⟨rfl, Nat.le_of_ble_eq_true rfl⟩)) | ((with_reducible refine wyes ?_ ?_); · sizeOf_list_dec) | with_reducible refine wyes wlstT ?_ | with_reducible refine wlst ?_ | with_reducible refine wins ?_ | with_reducible refine winm ?_)
local macro_rules | `(tactic| array_get_dec) => `(tactic| with_reducible refine ixA_l0 ?_)
local macro_rules | `(tactic| array_get_dec) => `(tactic| with_reducible refine ixA_l1 ?_)
local macro_rules | `(tactic| array_get_dec) => `(tactic| with_reducible refine ixA_l2 ?_)
local macro_rules | `(tactic| array_get_dec) => `(tactic| with_reducible refine ixA_l3 ?_)
local macro_rules | `(tactic| array_get_dec) => `(tactic| with_reducible refine ixA_l4 ?_)
local macro_rules | `(tactic| array_get_dec) => `(tactic| with_reducible refine ixA_l5 ?_)
local macro_rules | `(tactic| array_get_dec) => `(tactic| with_reducible refine ixA_l6 ?_)
local macro_rules | `(tactic| array_get_dec) => `(tactic| with_reducible refine ixA_l7 ?_)
local macro_rules | `(tactic| array_get_dec) => `(tactic| with_reducible refine wb_some ?_)
local macro_rules | `(tactic| array_get_dec) => `(tactic| with_reducible refine wb_none ?_)
local macro_rules | `(tactic| array_get_dec) => `(tactic| with_reducible refine wb_nsome ?_)
local macro_rules | `(tactic| array_get_dec) => `(tactic| with_reducible refine wb_nnone ?_)
local macro_rules | `(tactic| array_get_dec) => `(tactic| with_reducible refine wc_eq (mixF_eq _ _ _) ?_)
local macro_rules | `(tactic| array_get_dec) => `(tactic| with_reducible refine wc_eq (cellA_eq _ _ _) ?_)
section
variable {m m' : Mu}
theorem HadOk.put {HK : KVs} (h : HadOk HK) (k : L2.Key) {v : DV} (hv : v = .non ∨ ∃ z, v = .str z) : HadOk (putD HK k v) := ⟨nodup_put h.nd, fun kv hkv => by
  have e := valD_mem (nodup_put (ky := k) (d := v) h.nd) hkv
  rw [valD_put] at e
  split at e
  · cases e; exact hv
  · exact h.fl _ (valD_in e)⟩
variable {xr xt : DV} {ho : Nat} {R : List Int} {T : List Nm} {HK : KVs}
end
section
variable {mu : Mu} {x y : DV} {n i j : Nat}
end
end DM

namespace DM
open PySem PySem.Spec PyProof.Rows L2
local macro_rules | `(tactic| sizeOf_list_dec) => `(tactic| first | assumption | omega | exact Nat.zero_le _ | (simp only [List.length_cons, List.length_nil, List.length_append, List.length_map, List.length_replicate, List.length_range, List.length_take, List.length_drop, List.length_reverse]; omega) | (decide; done))
local macro_rules | `(tactic| array_mem_dec) => `(tactic| (repeat (first | with_reducible assumption | with_reducible exact mem_new | with_reducible apply mem_same' | ((with_reducible apply mem_ne'); (· first | assumption | omega)) | with_reducible apply mem_old | with_reducible exact mem_hd | with_reducible apply mem_app)); done)
local macro_rules | `(tactic| array_get_dec) => `(tactic| first | ((with_reducible refine id_e ?_); first | with_reducible refine we_c ?_ | with_reducible refine we_op ?_ | with_reducible refine we_cb ?_ | with_reducible refine we_call0 ?_ | with_reducible refine we_call ?_ | with_reducible refine we_B ?_ | with_reducible refine we_tru ?_ | with_reducible refine we_not ?_ | with_reducible refine we_and ?_ | with_reducible refine we_or ?_ | with_reducible refine we_if ?_ | with_reducible refine we_neg ?_ | with_reducible refine we_I ?_ | with_reducible refine we_chain ?_ | with_reducible refine we_tup ?_ | with_reducible refine we_lst ?_ | with_reducible refine we_lstM0 ?_ | with_reducible refine we_lstM ?_ | with_reducible refine we_dnew ?_ | with_reducible refine we_sl ?_ | with_reducible refine we_m1 ?_ | with_reducible refine we_isiT ?_ | with_reducible refine we_append ?_ | with_reducible refine we_get1 ?_ | with_reducible refine we_get2 ?_ | with_reducible refine we_pop2 ?_ | with_reducible refine we_pop1 ?_ | with_reducible refine we_cm ?_ | with_reducible refine we_fld ?_ | with_reducible refine we_meth ?_ | with_reducible refine we_make ?_ | with_reducible refine we_yes ?_ | with_reducible refine we_popA ?_ | ((with_reducible apply we_xf); (· exact rfl)) | ((with_reducible apply we_is); (· exact rfl)) | with_reducible refine we_var_0 ?_ | with_reducible refine we_var_1 ?_ | with_reducible refine we_var_2 ?_ | with_reducible refine we_var_3 ?_ | with_reducible refine we_var_4 ?_ | with_reducible refine we_var_5 ?_ | with_reducible refine we_var_6 ?_ | with_reducible refine we_var_7 ?_ | with_reducible refine we_var_8 ?_ | with_reducible refine we_var_9 ?_ | with_reducible refine we_var_10 ?_ | with_reducible refine we_var_11 ?_ | with_reducible refine we_var_12 ?_ | with_reducible refine we_var_13 ?_ | with_reducible refine we_var_14 ?_ | with_reducible refine we_var_15 ?_ | with_reducible refine we_var_16 ?_ | with_reducible refine we_var_17 ?_ | with_reducible refine we_var_18 ?_ | with_reducible refine we_var_19 ?_ | with_reducible refine we_var_20 ?_ | with_reducible refine we_var_21 ?_ | with_reducible refine we_var_22 ?_ | with_reducible refine we_var_23 ?_ | with_reducible refine we_var_24 ?_ | with_reducible refine we_var_25 ?_ | with_reducible refine we_var_26 ?_ | with_reducible refine we_var_27 ?_ | with_reducible refine we_var_28 ?_ | with_reducible refine we_var_29 ?_ | with_reducible refine we_var_30 ?_ | with_reducible refine we_var_31 ?_ | with_reducible refine we_var_32 ?_ | with_reducible refine we_var_33 ?_ | with_reducible refine we_var_34 ?_ | with_reducible refine we_var_35 ?_ | with_reducible refine we_var_36 ?_ | with_reducible refine we_var_37 ?_ | with_reducible refine we_var_38 ?_ | with_reducible refine we_var_39 ?_) | ((with_reducible refine id_s ?_); first | with_reducible refine ws_seq ?_ | with_reducible refine ws_next ?_ | with_reducible refine ws_drop ?_ | with_reducible refine ws_ret ?_ | with_reducible refine ws_retN ?_ | with_reducible refine ws_brk ?_ | with_reducible refine ws_cnt ?_ | with_reducible refine ws_asg ?_ | with_reducible refine ws_if ?_ | with_reducible refine ws_put ?_ | with_reducible refine ws_fldP ?_ | with_reducible refine ws_fldA ?_ | with_reducible refine ws_daug ?_ | with_reducible refine ws_try ?_ | with_reducible refine ws_raise ?_ | with_reducible refine ws_raise0 ?_ | with_reducible refine ws_set_0 ?_ | with_reducible refine ws_set_1 ?_ | with_reducible refine ws_set_2 ?_ | with_reducible refine ws_set_3 ?_ | with_reducible refine ws_set_4 ?_ | with_reducible refine ws_set_5 ?_ | with_reducible refine ws_set_6 ?_ | with_reducible refine ws_set_7 ?_ | with_reducible refine ws_set_8 ?_ | with_reducible refine ws_set_9 ?_ | with_reducible refine ws_set_10 ?_ | with_reducible refine ws_set_11 ?_ | with_reducible refine ws_set_12 ?_ | with_reducible refine ws_set_13 ?_ | with_reducible refine ws_set_14 ?_ | with_reducible refine ws_set_15 ?_ | with_reducible refine ws_set_16 ?_ | with_reducible refine ws_set_17 ?_ | with_reducible refine ws_set_18 ?_ | with_reducible refine ws_set_19 ?_ | with_reducible refine ws_set_20 ?_ | with_reducible refine ws_set_21 ?_ | with_reducible refine ws_set_22 ?_ | with_reducible refine ws_set_23 ?_ | with_reducible refine ws_set_24 ?_ | with_reducible refine ws_set_25 ?_ | with_reducible refine ws_set_26 ?_ | with_reducible refine ws_set_27 ?_ | with_reducible refine ws_set_28 ?_ | with_reducible refine ws_set_29 ?_ | with_reducible refine ws_set_30 ?_ | with_reducible refine ws_set_31 ?_ | with_reducible refine ws_set_32 ?_ | with_reducible refine ws_set_33 ?_ | with_reducible refine ws_set_34 ?_ | with_reducible refine ws_set_35 ?_ | with_reducible refine ws_set_36 ?_ | with_reducible refine ws_set_37 ?_ | with_reducible refine ws_set_38 ?_ | with_reducible refine ws_set_39 ?_ | with_reducible refine ws_aug_0 ?_ | with_reducible refine ws_aug_1 ?_ | with_reducible refine ws_aug_2 ?_ | with_reducible refine ws_aug_3 ?_ | with_reducible refine ws_aug_4 ?_ | with_reducible refine ws_aug_5 ?_ | with_reducible refine ws_aug_6 ?_ | with_reducible refine ws_aug_7 ?_ | with_reducible refine ws_aug_8 ?_ | with_reducible refine ws_aug_9 ?_ | with_reducible refine ws_aug_10 ?_ | with_reducible refine ws_aug_11 ?_ | with_reducible refine ws_aug_12 ?_ | with_reducible refine ws_aug_13 ?_ | with_reducible refine ws_aug_14 ?_ | with_reducible refine ws_aug_15 ?_ | with_reducible refine ws_aug_16 ?_ | with_reducible refine ws_aug_17 ?_ | with_reducible refine ws_aug_18 ?_ | with_reducible refine ws_aug_19 ?_ | with_reducible refine ws_aug_20 ?_ | with_reducible refine ws_aug_21 ?_ | with_reducible refine ws_aug_22 ?_ | with_reducible refine ws_aug_23 ?_ | with_reducible refine ws_aug_24 ?_ | with_reducible refine ws_aug_25 ?_ | with_reducible refine ws_aug_26 ?_ | with_reducible refine ws_aug_27 ?_ | with_reducible refine ws_aug_28 ?_ | with_reducible refine ws_aug_29 ?_ | with_reducible refine ws_aug_30 ?_ | with_reducible refine ws_aug_31 ?_ | with_reducible refine ws_aug_32 ?_ | with_reducible refine ws_aug_33 ?_ | with_reducible refine ws_aug_34 ?_ | with_reducible refine ws_aug_35 ?_ | with_reducible refine ws_aug_36 ?_ | with_reducible refine ws_aug_37 ?_ | with_reducible refine ws_aug_38 ?_ | with_reducible refine ws_aug_39 ?_) | ((with_reducible refine id_a ?_); first | with_reducible refine wa_cons ?_ | with_reducible refine wa_nil ?_) | ((with_reducible refine id_g ?_); first | with_reducible refine wg_add ?_ | ((with_reducible apply wg_adds); (· sizeOf_list_dec)) | ((with_reducible apply wg_addl); (· sizeOf_list_dec)) | with_reducible refine wg_plus ?_ | ((with_reducible apply wg_pluss); (· sizeOf_list_dec)) | with_reducible refine wg_plusI ?_ | with_reducible refine wg_minus ?_ | with_reducible refine wg_sub ?_ | with_reducible refine wg_pow9 ?_ | with_reducible refine wg_pow6 ?_ | with_reducible refine wg_pow3 ?_ | with_reducible refine wg_pow18 ?_ | ((with_reducible apply wg_mod); (· sizeOf_list_dec)) | ((with_reducible apply wg_div); (· sizeOf_list_dec)) | ((with_reducible apply wg_mul); (· sizeOf_list_dec)) | ((with_reducible apply wg_mulA); (· sizeOf_list_dec)) | ((with_reducible apply wg_mulS1); (· sizeOf_list_dec)) | ((with_reducible apply wg_mulS); (· sizeOf_list_dec)) | with_reducible refine wg_lt ?_ | with_reducible refine wg_le ?_ | with_reducible refine wg_gt ?_ | with_reducible refine wg_ge ?_ | with_reducible refine wg_eq ?_ | with_reducible refine wg_ne ?_ | with_reducible refine wg_eqs ?_ | with_reducible refine wg_nes ?_ | with_reducible refine wg_eqnn ?_ | with_reducible refine wg_eqni ?_ | with_reducible refine wg_eqin ?_ | with_reducible refine wg_eqns ?_ | with_reducible refine wg_eqsn ?_ | with_reducible refine wg_nenn ?_ | with_reducible refine wg_neni ?_ | with_reducible refine wg_nein ?_ | with_reducible refine wg_nens ?_ | with_reducible refine wg_nesn ?_ | with_reducible refine wg_isNn ?_ | with_reducible refine wg_isNi ?_ | with_reducible refine wg_isNs ?_ | with_reducible refine wg_isNt ?_ | with_reducible refine wg_isNl ?_ | with_reducible refine wg_isNo ?_ | with_reducible refine wg_notNn ?_ | with_reducible refine wg_notNi ?_ | with_reducible refine wg_notNs ?_ | with_reducible refine wg_notNt ?_ | with_reducible refine wg_notNl ?_ | with_reducible refine wg_notNo ?_ | ((with_reducible apply wg_lenS); (· sizeOf_list_dec)) | with_reducible refine wg_lenL ?_ | with_reducible refine wg_lenT ?_ | ((with_reducible apply wg_lenM); (· array_mem_dec)) | ((with_reducible apply wg_lenD); (· array_mem_dec)) | with_reducible refine wg_intI ?_ | with_reducible refine wg_intB ?_ | with_reducible refine wg_ord ?_ | with_reducible refine wg_max2 ?_ | with_reducible refine wg_min2 ?_ | with_reducible refine key_int ?_ | with_reducible refine key_str ?_ | ((with_reducible apply wg_look); (· exact rfl)) | ((with_reducible apply wdicR); (· array_mem_dec)) | ((with_reducible apply wdicRF); (· array_mem_dec)) | ((with_reducible apply wdicAt); (· array_mem_dec)) | ((with_reducible apply wput_dic); (· array_mem_dec); (· exact rfl); (· sizeOf_list_dec)) | ((with_reducible apply wput_lst); (· array_mem_dec); (· sizeOf_list_dec)) | with_reducible refine wtr_b ?_ | with_reducible refine wtr_n ?_ | with_reducible refine wtr_i ?_ | ((with_reducible apply wtr_s); (· sizeOf_list_dec)) | with_reducible refine wtr_l ?_ | ((with_reducible apply wtr_m); (· array_mem_dec)) | ((with_reducible apply wtr_d); (· array_mem_dec)) | with_reducible refine wpart_n ?_ | with_reducible refine wpart_i ?_ | ((with_reducible apply wsl_s_to); (· sizeOf_list_dec)) | ((with_reducible apply wsl_s_from); (· sizeOf_list_dec)) | ((with_reducible apply wsl_s_mid); (· sizeOf_list_dec)) | with_reducible refine wsl_l_to ?_ | with_reducible refine wsl_l_from ?_ | with_reducible refine wsl_l_mid ?_ | ((with_reducible apply wsl_m_to); (· array_mem_dec)) | ((with_reducible apply wsl_m_from); (· array_mem_dec)) | ((with_reducible apply wsl_m_mid); (· array_mem_dec)) | with_reducible refine wseqL ?_ | with_reducible refine wseqT ?_ | with_reducible refine wseqS ?_ | ((with_reducible apply wseqM); (· array_mem_dec)) | with_reducible refine wstillL ?_ | ((with_reducible apply wstillF); (· array_mem_dec)) | ((with_reducible apply wcopyD); (· array_mem_dec)) | ((with_reducible apply wlistM); (· array_mem_dec)) | with_reducible refine wlistML ?_ | with_reducible refine wlistMT ?_ | with_reducible refine wlistL ?_ | with_reducible refine wlistT ?_ | ((with_reducible apply wlistO); (· array_mem_dec)) | ((with_reducible apply wgisiT); (· exact rfl); (· exact rfl)) | ((with_reducible apply wgisiF); (· exact rfl); (· exact rfl)) | ((with_reducible apply wgisiT); (· exact ty_dic (by array_mem_dec)); (· exact rfl)) | ((with_reducible apply wgisiF); (· exact ty_dic (by array_mem_dec)); (· exact rfl)) | ((with_reducible apply wgisiT); (· exact ty_lstM (by array_mem_dec)); (· exact rfl)) | ((with_reducible apply wgisiF); (· exact ty_lstM (by array_mem_dec)); (· exact rfl)) | ((with_reducible apply ixA_tup); (· exact rfl)) | ((with_reducible apply inA_non); (· array_mem_dec)) | ((with_reducible apply ninA_non); (· array_mem_dec)) | ((with_reducible apply inA_dic); (· array_mem_dec); (· exact rfl)) | ((with_reducible apply inA_dicF); (· array_mem_dec); (· exact rfl)) | ((with_reducible apply ninA_dic); (· array_mem_dec); (· exact rfl)) | ((with_reducible apply ninA_dicF); (· array_mem_dec); (· exact rfl)) ) | ((with_reducible refine id_b ?_); first | with_reducible refine wb_true ?_ | with_reducible refine wb_false ?_ | ((with_reducible apply wb_pos); (· (first | with_reducible exact rfl | assumption | omega | (simp only [List.length_cons, List.length_nil, List.length_map]); (·  omega)))) | ((with_reducible apply wb_neg); (· (first | with_reducible exact rfl | assumption | omega | (simp only [List.length_cons, List.length_nil, List.length_map]); (·  omega)))) | ((with_reducible apply wb_npos); (· (first | with_reducible exact rfl | assumption | omega | (simp only [List.length_cons, List.length_nil, List.length_map]); (·  omega)))) | ((with_reducible apply wb_nneg); (· (first | with_reducible exact rfl | assumption | omega | (simp only [List.length_cons, List.length_nil, List.length_map]); (·  omega)))) | ((with_reducible apply wb_t); (· assumption)) | ((with_reducible apply wb_f); (· assumption)) ) | ((with_reducible refine id_t ?_); first | with_reducible refine wt_T ?_ | with_reducible refine wt_n_0 ?_ | with_reducible refine wt_n_1 ?_ | with_reducible refine wt_n_2 ?_ | with_reducible refine wt_n_3 ?_ | with_reducible refine wt_n_4 ?_ | with_reducible refine wt_n_5 ?_ | with_reducible refine wt_n_6 ?_ | with_reducible refine wt_n_7 ?_ | with_reducible refine wt_n_8 ?_ | with_reducible refine wt_n_9 ?_ | with_reducible refine wt_n_10 ?_ | with_reducible refine wt_n_11 ?_ | with_reducible refine wt_n_12 ?_ | with_reducible refine wt_n_13 ?_ | with_reducible refine wt_n_14 ?_ | with_reducible refine wt_n_15 ?_ | with_reducible refine wt_n_16 ?_ | with_reducible refine wt_n_17 ?_ | with_reducible refine wt_n_18 ?_ | with_reducible refine wt_n_19 ?_ | with_reducible refine wt_n_20 ?_ | with_reducible refine wt_n_21 ?_ | with_reducible refine wt_n_22 ?_ | with_reducible refine wt_n_23 ?_ | with_reducible refine wt_n_24 ?_ | with_reducible refine wt_n_25 ?_ | with_reducible refine wt_n_26 ?_ | with_reducible refine wt_n_27 ?_ | with_reducible refine wt_n_28 ?_ | with_reducible refine wt_n_29 ?_ | with_reducible refine wt_n_30 ?_ | with_reducible refine wt_n_31 ?_ | with_reducible refine wt_n_32 ?_ | with_reducible refine wt_n_33 ?_ | with_reducible refine wt_n_34 ?_ | with_reducible refine wt_n_35 ?_ | with_reducible refine wt_n_36 ?_ | with_reducible refine wt_n_37 ?_ | with_reducible refine wt_n_38 ?_ | with_reducible refine wt_n_39 ?_) | with_reducible refine wts_cons ?_ | with_reducible refine wts_nil ?_ | ((with_reducible refine id_i ?_); first | with_reducible refine wi_rng ?_ | with_reducible refine wi_rng2 ?_ | with_reducible refine wi_seq ?_ | with_reducible refine wi_dic ?_ | with_reducible refine wi_rv ?_ | with_reducible refine wi_en ?_ | with_reducible refine wi_zp ?_) | ((with_reducible refine id_h ?_); first | ((with_reducible apply wh_no); (· exact rfl)) | ((with_reducible apply wh_bare); (· exact rfl)) | ((with_reducible apply wh_yes_0); (· exact rfl)) | ((with_reducible apply wh_yes_1); (· exact rfl)) | ((with_reducible apply wh_yes_2); (· exact rfl)) | ((with_reducible apply wh_yes_3); (· exact rfl)) | ((with_reducible apply wh_yes_4); (· exact rfl)) | ((with_reducible apply wh_yes_5); (· exact rfl)) | ((with_reducible apply wh_yes_6); (· exact rfl)) | ((with_reducible apply wh_yes_7); (· exact rfl)) | ((with_reducible apply wh_yes_8); (· exact rfl)) | ((with_reducible apply wh_yes_9); (· exact rfl)) | ((with_reducible apply wh_yes_10); (· exact rfl)) | ((with_reducible apply wh_yes_11); (· exact rfl)) | ((with_reducible apply wh_yes_12); (· exact rfl)) | ((with_reducible apply wh_yes_13); (· exact rfl)) | ((with_reducible apply wh_yes_14); (· exact rfl)) | ((with_reducible apply wh_yes_15); (· exact rfl)) | ((with_reducible apply wh_yes_16); (· exact rfl)) | ((with_reducible apply wh_yes_17); (· exact rfl)) | ((with_reducible apply wh_yes_18); (· exact rfl)) | ((with_reducible apply wh_yes_19); (· exact rfl)) | ((with_reducible apply wh_yes_20); (· exact rfl)) | ((with_reducible apply wh_yes_21); (· exact rfl)) | ((with_reducible apply wh_yes_22); (· exact rfl)) | ((with_reducible apply wh_yes_23); (· exact rfl)) | ((with_reducible apply wh_yes_24); (· exact rfl)) | ((with_reducible apply wh_yes_25); (· exact rfl)) | ((with_reducible apply wh_yes_26); (· exact rfl)) | ((with_reducible apply wh_yes_27); (· exact rfl)) | ((with_reducible apply wh_yes_28); (· exact rfl)) | ((with_reducible apply wh_yes_29); (· exact rfl)) | ((with_reducible apply wh_yes_30); (· exact rfl)) | ((with_reducible apply wh_yes_31); (· exact rfl)) | ((with_reducible apply wh_yes_32); (· exact rfl)) | ((with_reducible apply wh_yes_33); (· exact rfl)) | ((with_reducible apply wh_yes_34); (· exact rfl)) | ((with_reducible apply wh_yes_35); (· exact rfl)) | ((with_reducible apply wh_yes_36); (· exact rfl)) | ((with_reducible apply wh_yes_37); (· exact rfl)) | ((with_reducible apply wh_yes_38); (· exact rfl)) | ((with_reducible apply wh_yes_39); (· exact rfl)) | with_reducible refine wh_nil ?_) | ((with_reducible refine id_cl ?_); first | with_reducible refine wcl_0 ?_ | with_reducible refine wcl_1 ?_ | with_reducible refine wcl_2 ?_ | with_reducible refine wcl_3 ?_ | with_reducible refine wcl_4 ?_ | with_reducible refine wcl_5 ?_ | with_reducible refine wcl_6 ?_ | with_reducible refine wcl_7 ?_ | with_reducible refine wcl_8 ?_ | with_reducible refine wcl_9 ?_ | with_reducible refine wcl_10 ?_ | with_reducible refine wcl_11 ?_ | with_reducible refine wcl_12 ?_ | with_reducible refine wcl_13 ?_ | with_reducible refine wcl_14 ?_ | with_reducible refine wcl_15 ?_ | with_reducible refine wcl_16 ?_ | with_reducible refine wcl_17 ?_ | with_reducible refine wcl_18 ?_ | with_reducible refine wcl_19 ?_ | with_reducible refine wcl_20 ?_ | with_reducible refine wcl_21 ?_ | with_reducible refine wcl_22 ?_ | with_reducible refine wcl_23 ?_ | with_reducible refine wcl_24 ?_ | with_reducible refine wcl_25 ?_ | with_reducible refine wcl_26 ?_ | with_reducible refine wcl_27 ?_ | with_reducible refine wcl_28 ?_ | with_reducible refine wcl_29 ?_ | with_reducible refine wcl_30 ?_ | with_reducible refine wcl_31 ?_ | with_reducible refine wcl_32 ?_ | with_reducible refine wcl_33 ?_ | with_reducible refine wcl_34 ?_ | with_reducible refine wcl_35 ?_ | with_reducible refine wcl_36 ?_ | with_reducible refine wcl_37 ?_ | with_reducible refine wcl_38 ?_ | with_reducible refine wcl_39 ?_) | with_reducible refine wbl ?_ | with_reducible refine wnot_t ?_ | with_reducible refine wnot_f ?_ | with_reducible refine wnot_n ?_ | with_reducible refine wnot ?_ | with_reducible refine wint ?_ | with_reducible refine wstr ?_ | with_reducible refine wobj ?_ | with_reducible refine wnon ?_ | ((with_reducible apply wat); · array_mem_dec) | ((with_reducible refine wyes_c ?_ ?_); (· exact rfl)) | ((with_reducible refine wyes_k ?_ ?_); (· exact rfl)) | ((with_reducible refine wyes_d ?_ ?_); (· exact ⟨rfl, Nat.le_of_ble_eq_true rfl⟩)) | ((with_reducible refine wyes ?_ ?_); · sizeOf_list_dec) | with_reducible refine wyes wlstT ?_ | with_reducible refine wlst ?_ | with_reducible refine wins ?_ | with_reducible refine winm ?_)
local macro_rules | `(tactic| array_get_dec) => `(tactic| with_reducible refine ixA_l0 ?_)
local macro_rules | `(tactic| array_get_dec) => `(tactic| with_reducible refine ixA_l1 ?_)
local macro_rules | `(tactic| array_get_dec) => `(tactic| with_reducible refine ixA_l2 ?_)
local macro_rules | `(tactic| array_get_dec) => `(tactic| with_reducible refine ixA_l3 ?_)
local macro_rules | `(tactic| array_get_dec) => `(tactic| with_reducible refine ixA_l4 ?_)
local macro_rules | `(tactic| array_get_dec) => `(tactic| with_reducible refine ixA_l5 ?_)
local macro_rules | `(tactic| array_get_dec) => `(tactic| with_reducible refine ixA_l6 ?_)
local macro_rules | `(tactic| array_get_dec) => `(tactic| with_reducible refine ixA_l7 ?_)
local macro_rules | `(tactic| array_get_dec) => `(tactic| with_reducible refine wb_some ?_)
local macro_rules | `(tactic| array_get_dec) => `(tactic| with_reducible refine wb_none ?_)
local macro_rules | `(tactic| array_get_dec) => `(tactic| with_reducible refine wb_nsome ?_)
local macro_rules | `(tactic| array_get_dec) => `(tactic| with_reducible refine wb_nnone ?_)
def oD : Option Nm → DV
  | none => .non
  | some z => .str z
def ownO (HK : KVs) (r : Int) : Option Nm := match valD HK (.inl r) with
  | some (.str z) => some z
  | _ => none
theorem HadOk.own {HK : KVs} (h : HadOk HK) (r : Int) : (valD HK (.inl r)).getD .non = oD (ownO HK r) := by
  unfold ownO
  cases e : valD HK (.inl r) with
  | none => rfl
  | some v =>
    rcases h.fl _ (valD_in e) with rfl | ⟨z, rfl⟩ <;> rfl
section
variable (T : List Nm) (own : Int → Option Nm)
def decL (l : Nm → Int) (r : Int) : Option Nm := match own r with
  | some t => if t ∈ T ∧ 0 < l t then some t else none
  | none => none
def stepL (l : Nm → Int) (r : Int) : Nm → Int := match decL T own l r with
  | some t => fun y => if y = t then l t - 1 else l y
  | none => l
def keepL : (Nm → Int) → List Int → List (Int × Option Nm)
  | _, [] => []
  | l, r :: rs => (r, decL T own l r) :: keepL (stepL T own l r) rs
variable {T own}
end
end DM

namespace DM
open PySem PySem.Spec PyProof.Rows L2
local macro_rules | `(tactic| sizeOf_list_dec) => `(tactic| first | assumption | omega | exact Nat.zero_le _ | (simp only [List.length_cons, List.length_nil, List.length_append, List.length_map, List.length_replicate, List.length_range, List.length_take, List.length_drop, List.length_reverse]; omega) | (decide; done))
local macro_rules | `(tactic| array_mem_dec) => `(tactic| (repeat (first | with_reducible assumption | with_reducible exact mem_new | with_reducible apply mem_same' | ((with_reducible apply mem_ne'); (· first | assumption | omega)) | with_reducible apply mem_old | with_reducible exact mem_hd | with_reducible apply mem_app)); done)
local macro_rules | `(tactic| array_get_dec) => `(tactic| first | ((with_reducible refine id_e ?_); first | with_reducible refine we_c ?_ | with_reducible refine we_op ?_ | with_reducible refine we_cb ?_ | with_reducible refine we_call0 ?_ | with_reducible refine we_call ?_ | with_reducible refine we_B ?_ | with_reducible refine we_tru ?_ | with_reducible refine we_not ?_ | with_reducible refine we_and ?_ | with_reducible refine we_or ?_ | with_reducible refine we_if ?_ | with_reducible refine we_neg ?_ | with_reducible refine we_I ?_ | with_reducible refine we_chain ?_ | with_reducible refine we_tup ?_ | with_reducible refine we_lst ?_ | with_reducible refine we_lstM0 ?_ | with_reducible refine we_lstM ?_ | with_reducible refine we_dnew ?_ | with_reducible refine we_sl ?_ | with_reducible refine we_m1 ?_ | with_reducible refine we_isiT ?_ | with_reducible refine we_append ?_ | with_reducible refine we_get1 ?_ | with_reducible refine we_get2 ?_ | with_reducible refine we_pop2 ?_ | with_reducible refine we_pop1 ?_ | with_reducible refine we_cm ?_ | with_reducible refine we_fld ?_ | with_reducible refine we_meth ?_ | with_reducible refine we_make ?_ | with_reducible refine we_yes ?_ | with_reducible refine we_popA ?_ | ((with_reducible apply we_xf); (· exact rfl)) | ((with_reducible apply we_is); (· exact rfl)) | with_reducible refine we_var_0 ?_ | with_reducible refine we_var_1 ?_ | with_reducible refine we_var_2 ?_ | with_reducible refine we_var_3 ?_ | with_reducible refine we_var_4 ?_ | with_reducible refine we_var_5 ?_ | with_reducible refine we_var_6 ?_ | with_reducible refine we_var_7 ?_ | with_reducible refine we_var_8 ?_ | with_reducible refine we_var_9 ?_ | with_reducible refine we_var_10 ?_ | with_reducible refine we_var_11 ?_ | with_reducible refine we_var_12 ?_ | with_reducible refine we_var_13 ?_ | with_reducible refine we_var_14 ?_ | with_reducible refine we_var_15 ?_ | with_reducible refine we_var_16 ?_ | with_reducible refine we_var_17 ?_ | with_reducible refine we_var_18 ?_ | with_reducible refine we_var_19 ?_ | with_reducible refine we_var_20 ?_ | with_reducible refine we_var_21 ?_ | with_reducible refine we_var_22 ?_ | with_reducible refine we_var_23 ?_ | with_reducible refine we_var_24 ?_ | with_reducible refine we_var_25 ?_ | with_reducible refine we_var_26 ?_ | with_reducible refine we_var_27 ?_ | with_reducible refine we_var_28 ?_ | with_reducible refine we_var_29 ?_ | with_reducible refine we_var_30 ?_ | with_reducible refine we_var_31 ?_ | with_reducible refine we_var_32 ?_ | with_reducible refine we_var_33 ?_ | with_reducible refine we_var_34 ?_ | with_reducible refine we_var_35 ?_ | with_reducible refine we_var_36 ?_ | with_reducible refine we_var_37 ?_ | with_reducible refine we_var_38 ?_ | with_reducible refine we_var_39 ?_) | ((with_reducible refine id_s ?_); first | with_reducible refine ws_seq ?_ | with_reducible refine ws_next ?_ | with_reducible refine ws_drop ?_ | with_reducible refine ws_ret ?_ | with_reducible refine ws_retN ?_ | with_reducible refine ws_brk ?_ | with_reducible refine ws_cnt ?_ | with_reducible refine ws_asg ?_ | with_reducible refine ws_if ?_ | with_reducible refine ws_put ?_ | with_reducible refine ws_fldP ?_ | with_reducible refine ws_fldA ?_ | with_reducible refine ws_daug ?_ | with_reducible refine ws_try ?_ | with_reducible refine ws_raise ?_ | with_reducible refine ws_raise0 ?_ | with_reducible refine ws_set_0 ?_ | with_reducible refine ws_set_1 ?_ | with_reducible refine ws_set_2 ?_ | with_reducible refine ws_set_3 ?_ | with_reducible refine ws_set_4 ?_ | with_reducible refine ws_set_5 ?_ | with_reducible refine ws_set_6 ?_ | with_reducible refine ws_set_7 ?_ | with_reducible refine ws_set_8 ?_ | with_reducible refine ws_set_9 ?_ | with_reducible refine ws_set_10 ?_ | with_reducible refine ws_set_11 ?_ | with_reducible refine ws_set_12 ?_ | with_reducible refine ws_set_13 ?_ | with_reducible refine ws_set_14 ?_ | with_reducible refine ws_set_15 ?_ | with_reducible refine ws_set_16 ?_ | with_reducible refine ws_set_17 ?_ | with_reducible refine ws_set_18 ?_ | with_reducible refine ws_set_19 ?_ | with_reducible refine ws_set_20 ?_ | with_reducible refine ws_set_21 ?_ | with_reducible refine ws_set_22 ?_ | with_reducible refine ws_set_23 ?_ | with_reducible refine ws_set_24 ?_ | with_reducible refine ws_set_25 ?_ | with_reducible refine ws_set_26 ?_ | with_reducible refine ws_set_27 ?_ | with_reducible refine ws_set_28 ?_ | with_reducible refine ws_set_29 ?_ | with_reducible refine ws_set_30 ?_ | with_reducible refine ws_set_31 ?_ | with_reducible refine ws_set_32 ?_ | with_reducible refine ws_set_33 ?_ | with_reducible refine ws_set_34 ?_ | with_reducible refine ws_set_35 ?_ | with_reducible refine ws_set_36 ?_ | with_reducible refine ws_set_37 ?_ | with_reducible refine ws_set_38 ?_ | with_reducible refine ws_set_39 ?_ | with_reducible refine ws_aug_0 ?_ | with_reducible refine ws_aug_1 ?_ | with_reducible refine ws_aug_2 ?_ | with_reducible refine ws_aug_3 ?_ | with_reducible refine ws_aug_4 ?_ | with_reducible refine ws_aug_5 ?_ | with_reducible refine ws_aug_6 ?_ | with_reducible refine ws_aug_7 ?_ | with_reducible refine ws_aug_8 ?_ | with_reducible refine ws_aug_9 ?_ | with_reducible refine ws_aug_10 ?_ | with_reducible refine ws_aug_11 ?_ | with_reducible refine ws_aug_12 ?_ | with_reducible refine ws_aug_13 ?_ | with_reducible refine ws_aug_14 ?_ | with_reducible refine ws_aug_15 ?_ | with_reducible refine ws_aug_16 ?_ | with_reducible refine ws_aug_17 ?_ | with_reducible refine ws_aug_18 ?_ | with_reducible refine ws_aug_19 ?_ | with_reducible refine ws_aug_20 ?_ | with_reducible refine ws_aug_21 ?_ | with_reducible refine ws_aug_22 ?_ | with_reducible refine ws_aug_23 ?_ | with_reducible refine ws_aug_24 ?_ | with_reducible refine ws_aug_25 ?_ | with_reducible refine ws_aug_26 ?_ | with_reducible refine ws_aug_27 ?_ | with_reducible refine ws_aug_28 ?_ | with_reducible refine ws_aug_29 ?_ | with_reducible refine ws_aug_30 ?_ | with_reducible refine ws_aug_31 ?_ | with_reducible refine ws_aug_32 ?_ | with_reducible refine ws_aug_33 ?_ | with_reducible refine ws_aug_34 ?_ | with_reducible refine ws_aug_35 ?_ | with_reducible refine ws_aug_36 ?_ | with_reducible refine ws_aug_37 ?_ | with_reducible refine ws_aug_38 ?_ | with_reducible refine ws_aug_39 ?_) | ((with_reducible refine id_a ?_); first | with_reducible refine wa_cons ?_ | with_reducible refine wa_nil ?_) | ((with_reducible refine id_g ?_); first | with_reducible refine wg_add ?_ | ((with_reducible apply wg_adds); (· sizeOf_list_dec)) | ((with_reducible apply wg_addl); (· sizeOf_list_dec)) | with_reducible refine wg_plus ?_ | ((with_reducible apply wg_pluss); (· sizeOf_list_dec)) | with_reducible refine wg_plusI ?_ | with_reducible refine wg_minus ?_ | with_reducible refine wg_sub ?_ | with_reducible refine wg_pow9 ?_ | with_reducible refine wg_pow6 ?_ | with_reducible refine wg_pow3 ?_ | with_reducible refine wg_pow18 ?_ | ((with_reducible apply wg_mod); (· sizeOf_list_dec)) | ((with_reducible apply wg_div); (· sizeOf_list_dec)) | ((with_reducible apply wg_mul); (· sizeOf_list_dec)) | ((with_reducible apply wg_mulA); (· sizeOf_list_dec)) | ((with_reducible apply wg_mulS1); (· sizeOf_list_dec)) | ((with_reducible apply wg_mulS); (· sizeOf_list_dec)) | with_reducible refine wg_lt ?_ | with_reducible refine wg_le ?_ | with_reducible refine wg_gt ?_ | with_reducible refine wg_ge ?_ | with_reducible refine wg_eq ?_ | with_reducible refine wg_ne ?_ | with_reducible refine wg_eqs ?_ | with_reducible refine wg_nes ?_ | with_reducible refine wg_eqnn ?_ | with_reducible refine wg_eqni ?_ | with_reducible refine wg_eqin ?_ | with_reducible refine wg_eqns ?_ | with_reducible refine wg_eqsn ?_ | with_reducible refine wg_nenn ?_ | with_reducible refine wg_neni ?_ | with_reducible refine wg_nein ?_ | with_reducible refine wg_nens ?_ | with_reducible refine wg_nesn ?_ | with_reducible refine wg_isNn ?_ | with_reducible refine wg_isNi ?_ | with_reducible refine wg_isNs ?_ | with_reducible refine wg_isNt ?_ | with_reducible refine wg_isNl ?_ | with_reducible refine wg_isNo ?_ | with_reducible refine wg_notNn ?_ | with_reducible refine wg_notNi ?_ | with_reducible refine wg_notNs ?_ | with_reducible refine wg_notNt ?_ | with_reducible refine wg_notNl ?_ | with_reducible refine wg_notNo ?_ | ((with_reducible apply wg_lenS); (· sizeOf_list_dec)) | with_reducible refine wg_lenL ?_ | with_reducible refine wg_lenT ?_ | ((with_reducible apply wg_lenM); (· array_mem_dec)) | ((with_reducible apply wg_lenD); (· array_mem_dec)) | with_reducible refine wg_intI ?_ | with_reducible refine wg_intB ?_ | with_reducible refine wg_ord ?_ | with_reducible refine wg_max2 ?_ | with_reducible refine wg_min2 ?_ | with_reducible refine key_int ?_ | with_reducible refine key_str ?_ | ((with_reducible apply wg_look); (· exact rfl)) | ((with_reducible apply wdicR); (· array_mem_dec)) | ((with_reducible apply wdicRF); (· array_mem_dec)) | ((with_reducible apply wdicAt); (· array_mem_dec)) | ((with_reducible apply wput_dic); (· array_mem_dec); (· exact rfl); (· sizeOf_list_dec)) | ((with_reducible apply wput_lst); (· array_mem_dec); (· sizeOf_list_dec)) | with_reducible refine wtr_b ?_ | with_reducible refine wtr_n ?_ | with_reducible refine wtr_i ?_ | ((with_reducible apply wtr_s); (· sizeOf_list_dec)) | with_reducible refine wtr_l ?_ | ((with_reducible apply wtr_m); (· array_mem_dec)) | ((with_reducible apply wtr_d); (· array_mem_dec)) | with_reducible refine wpart_n ?_ | with_reducible refine wpart_i ?_ | ((with_reducible apply wsl_s_to); (· sizeOf_list_dec)) | ((with_reducible apply wsl_s_from); (· sizeOf_list_dec)) | ((with_reducible apply wsl_s_mid); (· sizeOf_list_dec)) | with_reducible refine wsl_l_to ?_ | with_reducible refine wsl_l_from ?_ | with_reducible refine wsl_l_mid ?_ | ((with_reducible apply wsl_m_to); (· array_mem_dec)) | ((with_reducible apply wsl_m_from); (· array_mem_dec)) | ((with_reducible apply wsl_m_mid); (· array_mem_dec)) | with_reducible refine wseqL ?_ | with_reducible refine wseqT ?_ | with_reducible refine wseqS ?_ | ((with_reducible apply wseqM); (· array_mem_dec)) | with_reducible refine wstillL ?_ | ((with_reducible apply wstillF); (· array_mem_dec)) | ((with_reducible apply wcopyD); (· array_mem_dec)) | ((with_reducible apply wlistM); (· array_mem_dec)) | with_reducible refine wlistML ?_ | with_reducible refine wlistMT ?_ | with_reducible refine wlistL ?_ | with_reducible refine wlistT ?_ | ((with_reducible apply wlistO); (· array_mem_dec)) | ((with_reducible apply wgisiT); (· exact rfl); (· exact rfl)) | ((with_reducible apply wgisiF); (· exact rfl); (· exact rfl)) | ((with_reducible apply wgisiT); (· exact ty_dic (by array_mem_dec)); (· exact rfl)) | ((with_reducible apply wgisiF); (· exact ty_dic (by array_mem_dec)); (· exact rfl)) | ((with_reducible apply wgisiT); (· exact ty_lstM (by array_mem_dec)); (· exact rfl)) | ((with_reducible apply wgisiF); (· exact ty_lstM (by array_mem_dec)); (· exact rfl)) | ((with_reducible apply ixA_tup); (· exact rfl)) | ((with_reducible apply inA_non); (· array_mem_dec)) | ((with_reducible apply ninA_non); (· array_mem_dec)) | ((with_reducible apply inA_dic); (· array_mem_dec); (· exact rfl)) | ((with_reducible apply inA_dicF); (· array_mem_dec); (· exact rfl)) | ((with_reducible apply ninA_dic); (· array_mem_dec); (· exact rfl)) | ((with_reducible apply ninA_dicF); (· array_mem_dec); (· exact rfl)) ) | ((with_reducible refine id_b ?_); first | with_reducible refine wb_true ?_ | with_reducible refine wb_false ?_ | ((with_reducible apply wb_pos); (· (first | with_reducible exact rfl | assumption | omega | (simp only [List.length_cons, List.length_nil, List.length_map]); (·  omega)))) | ((with_reducible apply wb_neg); (· (first | with_reducible exact rfl | assumption | omega | (simp only [List.length_cons, List.length_nil, List.length_map]); (·  omega)))) | ((with_reducible apply wb_npos); (· (first | with_reducible exact rfl | assumption | omega | (simp only [List.length_cons, List.length_nil, List.length_map]); (·  omega)))) | ((with_reducible apply wb_nneg); (· (first | with_reducible exact rfl | assumption | omega | (simp only [List.length_cons, List.length_nil, List.length_map]); (·  omega)))) | ((with_reducible apply wb_t); (· assumption)) | ((with_reducible apply wb_f); (· assumption)) ) | ((with_reducible refine id_t ?_); first | with_reducible refine wt_T ?_ | with_reducible refine wt_n_0 ?_ | with_reducible refine wt_n_1 ?_ | with_reducible refine wt_n_2 ?_ | with_reducible refine wt_n_3 ?_ | with_reducible refine wt_n_4 ?_ | with_reducible refine wt_n_5 ?_ | with_reducible refine wt_n_6 ?_ | with_reducible refine wt_n_7 ?_ | with_reducible refine wt_n_8 ?_ | with_reducible refine wt_n_9 ?_ | with_reducible refine wt_n_10 ?_ | with_reducible refine wt_n_11 ?_ | with_reducible refine wt_n_12 ?_ | with_reducible refine wt_n_13 ?_ | with_reducible refine wt_n_14 ?_ | with_reducible refine wt_n_15 ?_ | with_reducible refine wt_n_16 ?_ | with_reducible refine wt_n_17 ?_ | with_reducible refine wt_n_18 ?_ | with_reducible refine wt_n_19 ?_ | with_reducible refine wt_n_20 ?_ | with_reducible refine wt_n_21 ?_ | with_reducible refine wt_n_22 ?_ | with_reducible refine wt_n_23 ?_ | with_reducible refine wt_n_24 ?_ | with_reducible refine wt_n_25 ?_ | with_reducible refine wt_n_26 ?_ | with_reducible refine wt_n_27 ?_ | with_reducible refine wt_n_28 ?_ | with_reducible refine wt_n_29 ?_ | with_reducible refine wt_n_30 ?_ | with_reducible refine wt_n_31 ?_ | with_reducible refine wt_n_32 ?_ | with_reducible refine wt_n_33 ?_ | with_reducible refine wt_n_34 ?_ | with_reducible refine wt_n_35 ?_ | with_reducible refine wt_n_36 ?_ | with_reducible refine wt_n_37 ?_ | with_reducible refine wt_n_38 ?_ | with_reducible refine wt_n_39 ?_) | with_reducible refine wts_cons ?_ | with_reducible refine wts_nil ?_ | ((with_reducible refine id_i ?_); first | with_reducible refine wi_rng ?_ | with_reducible refine wi_rng2 ?_ | with_reducible refine wi_seq ?_ | with_reducible refine wi_dic ?_ | with_reducible refine wi_rv ?_ | with_reducible refine wi_en ?_ | with_reducible refine wi_zp ?_) | ((with_reducible refine id_h ?_); first | ((with_reducible apply wh_no); (· exact rfl)) | ((with_reducible apply wh_bare); (· exact rfl)) | ((with_reducible apply wh_yes_0); (· exact rfl)) | ((with_reducible apply wh_yes_1); (· exact rfl)) | ((with_reducible apply wh_yes_2); (· exact rfl)) | ((with_reducible apply wh_yes_3); (· exact rfl)) | ((with_reducible apply wh_yes_4); (· exact rfl)) | ((with_reducible apply wh_yes_5); (· exact rfl)) | ((with_reducible apply wh_yes_6); (· exact rfl)) | ((with_reducible apply wh_yes_7); (· exact rfl)) | ((with_reducible apply wh_yes_8); (· exact rfl)) | ((with_reducible apply wh_yes_9); (· exact rfl)) | ((with_reducible apply wh_yes_10); (· exact rfl)) | ((with_reducible apply wh_yes_11); (· exact rfl)) | ((with_reducible apply wh_yes_12); (· exact rfl)) | ((with_reducible apply wh_yes_13); (· exact rfl)) | ((with_reducible apply wh_yes_14); (· exact rfl)) | ((with_reducible apply wh_yes_15); (· exact rfl)) | ((with_reducible apply wh_yes_16); (· exact rfl)) | ((with_reducible apply wh_yes_17); (· exact rfl)) | ((with_reducible apply wh_yes_18); (· exact rfl)) | ((with_reducible apply wh_yes_19); (· exact rfl)) | ((with_reducible apply wh_yes_20); (· exact rfl)) | ((with_reducible apply wh_yes_21); (· exact rfl)) | ((with_reducible apply wh_yes_22); (· exact rfl)) | ((with_reducible apply wh_yes_23); (· exact rfl)) | ((with_reducible apply wh_yes_24); (· exact rfl)) | ((with_reducible apply wh_yes_25); (· exact rfl)) | ((with_reducible apply wh_yes_26); (· exact rfl)) | ((with_reducible apply wh_yes_27); (· exact rfl)) | ((with_reducible apply wh_yes_28); (· exact rfl)) | ((with_reducible apply wh_yes_29); (· exact rfl)) | ((with_reducible apply wh_yes_30); (· exact rfl)) | ((with_reducible apply wh_yes_31); (· exact rfl)) | ((with_reducible apply wh_yes_32); (· exact rfl)) | ((with_reducible apply wh_yes_33); (· exact rfl)) | ((with_reducible apply wh_yes_34); (· exact rfl)) | ((with_reducible apply wh_yes_35); (· exact rfl)) | ((with_reducible apply wh_yes_36); (· exact rfl)) | ((with_reducible apply wh_yes_37); (· exact rfl)) | ((with_reducible apply wh_yes_38); (· exact rfl)) | ((with_reducible apply wh_yes_39); (· exact rfl)) | with_reducible refine wh_nil ?_) | ((with_reducible refine id_cl ?_); first | with_reducible refine wcl_0 ?_ | with_reducible refine wcl_1 ?_ | with_reducible refine wcl_2 ?_ | with_reducible refine wcl_3 ?_ | with_reducible refine wcl_4 ?_ | with_reducible refine wcl_5 ?_ | with_reducible refine wcl_6 ?_ | with_reducible refine wcl_7 ?_ | with_reducible refine wcl_8 ?_ | with_reducible refine wcl_9 ?_ | with_reducible refine wcl_10 ?_ | with_reducible refine wcl_11 ?_ | with_reducible refine wcl_12 ?_ | with_reducible refine wcl_13 ?_ | with_reducible refine wcl_14 ?_ | with_reducible refine wcl_15 ?_ | with_reducible refine wcl_16 ?_ | with_reducible refine wcl_17 ?_ | with_reducible refine wcl_18 ?_ | with_reducible refine wcl_19 ?_ | with_reducible refine wcl_20 ?_ | with_reducible refine wcl_21 ?_ | with_reducible refine wcl_22 ?_ | with_reducible refine wcl_23 ?_ | with_reducible refine wcl_24 ?_ | with_reducible refine wcl_25 ?_ | with_reducible refine wcl_26 ?_ | with_reducible refine wcl_27 ?_ | with_reducible refine wcl_28 ?_ | with_reducible refine wcl_29 ?_ | with_reducible refine wcl_30 ?_ | with_reducible refine wcl_31 ?_ | with_reducible refine wcl_32 ?_ | with_reducible refine wcl_33 ?_ | with_reducible refine wcl_34 ?_ | with_reducible refine wcl_35 ?_ | with_reducible refine wcl_36 ?_ | with_reducible refine wcl_37 ?_ | with_reducible refine wcl_38 ?_ | with_reducible refine wcl_39 ?_) | with_reducible refine wbl ?_ | with_reducible refine wnot_t ?_ | with_reducible refine wnot_f ?_ | with_reducible refine wnot_n ?_ | with_reducible refine wnot ?_ | with_reducible refine wint ?_ | with_reducible refine wstr ?_ | with_reducible refine wobj ?_ | with_reducible refine wnon ?_ | ((with_reducible apply wat); · array_mem_dec) | ((with_reducible refine wyes_c ?_ ?_); (· exact rfl)) | ((with_reducible refine wyes_k ?_ ?_); (· exact rfl)) | ((with_reducible refine wyes_d ?_ ?_); (· exact ⟨rfl, Nat.le_of_ble_eq_true rfl⟩)) | ((with_reducible refine wyes ?_ ?_); · sizeOf_list_dec) | with_reducible refine wyes wlstT ?_ | with_reducible refine wlst ?_ | with_reducible refine wins ?_ | with_reducible refine winm ?_)
local macro_rules | `(tactic| array_get_dec) => `(tactic| with_reducible refine ixA_l0 ?_)
local macro_rules | `(tactic| array_get_dec) => `(tactic| with_reducible refine ixA_l1 ?_)
local macro_rules | `(tactic| array_get_dec) => `(tactic| with_reducible refine ixA_l2 ?_)
local macro_rules | `(tactic| array_get_dec) => `(tactic| with_reducible refine ixA_l3 ?_)
local macro_rules | `(tactic| array_get_dec) => `(tactic| with_reducible refine ixA_l4 ?_)
local macro_rules | `(tactic| array_get_dec) => `(tactic| with_reducible refine ixA_l5 ?_)
local macro_rules | `(tactic| array_get_dec) => `(tactic| with_reducible refine ixA_l6 ?_)
local macro_rules | `(tactic| array_get_dec) => `(tactic| with_reducible refine ixA_l7 ?_)
local macro_rules | `(tactic| array_get_dec) => `(tactic| with_reducible refine wb_some ?_)
local macro_rules | `(tactic| array_get_dec) => `(tactic| with_reducible refine wb_none ?_)
local macro_rules | `(tactic| array_get_dec) => `(tactic| with_reducible refine wb_nsome ?_)
local macro_rules | `(tactic| array_get_dec) => `(tactic| with_reducible refine wb_nnone ?_)
variable {R : List Int} {T : List Nm} {HK : KVs} {m : Mu} {xr xt : DV} {ho : Nat}
end DM

namespace DM
open PySem PySem.Spec PyProof.Rows L2
local macro_rules | `(tactic| sizeOf_list_dec) => `(tactic| first | assumption | omega | exact Nat.zero_le _ | (simp only [List.length_cons, List.length_nil, List.length_append, List.length_map, List.length_replicate, List.length_range, List.length_take, List.length_drop, List.length_reverse]; omega) | (decide; done))
local macro_rules | `(tactic| array_mem_dec) => `(tactic| (repeat (first | with_reducible assumption | with_reducible exact mem_new | with_reducible apply mem_same' | ((with_reducible apply mem_ne'); (· first | assumption | omega)) | with_reducible apply mem_old | with_reducible exact mem_hd | with_reducible apply mem_app)); done)
local macro_rules | `(tactic| array_get_dec) => `(tactic| first | ((with_reducible refine id_e ?_); first | with_reducible refine we_c ?_ | with_reducible refine we_op ?_ | with_reducible refine we_cb ?_ | with_reducible refine we_call0 ?_ | with_reducible refine we_call ?_ | with_reducible refine we_B ?_ | with_reducible refine we_tru ?_ | with_reducible refine we_not ?_ | with_reducible refine we_and ?_ | with_reducible refine we_or ?_ | with_reducible refine we_if ?_ | with_reducible refine we_neg ?_ | with_reducible refine we_I ?_ | with_reducible refine we_chain ?_ | with_reducible refine we_tup ?_ | with_reducible refine we_lst ?_ | with_reducible refine we_lstM0 ?_ | with_reducible refine we_lstM ?_ | with_reducible refine we_dnew ?_ | with_reducible refine we_sl ?_ | with_reducible refine we_m1 ?_ | with_reducible refine we_isiT ?_ | with_reducible refine we_append ?_ | with_reducible refine we_get1 ?_ | with_reducible refine we_get2 ?_ | with_reducible refine we_pop2 ?_ | with_reducible refine we_pop1 ?_ | with_reducible refine we_cm ?_ | with_reducible refine we_fld ?_ | with_reducible refine we_meth ?_ | with_reducible refine we_make ?_ | with_reducible refine we_yes ?_ | with_reducible refine we_popA ?_ | ((with_reducible apply we_xf); (· exact rfl)) | ((with_reducible apply we_is); (· exact rfl)) | with_reducible refine we_var_0 ?_ | with_reducible refine we_var_1 ?_ | with_reducible refine we_var_2 ?_ | with_reducible refine we_var_3 ?_ | with_reducible refine we_var_4 ?_ | with_reducible refine we_var_5 ?_ | with_reducible refine we_var_6 ?_ | with_reducible refine we_var_7 ?_ | with_reducible refine we_var_8 ?_ | with_reducible refine we_var_9 ?_ | with_reducible refine we_var_10 ?_ | with_reducible refine we_var_11 ?_ | with_reducible refine we_var_12 ?_ | with_reducible refine we_var_13 ?_ | with_reducible refine we_var_14 ?_ | with_reducible refine we_var_15 ?_ | with_reducible refine we_var_16 ?_ | with_reducible refine we_var_17 ?_ | with_reducible refine we_var_18 ?_ | with_reducible refine we_var_19 ?_ | with_reducible refine we_var_20 ?_ | with_reducible refine we_var_21 ?_ | with_reducible refine we_var_22 ?_ | with_reducible refine we_var_23 ?_ | with_reducible refine we_var_24 ?_ | with_reducible refine we_var_25 ?_ | with_reducible refine we_var_26 ?_ | with_reducible refine we_var_27 ?_ | with_reducible refine we_var_28 ?_ | with_reducible refine we_var_29 ?_ | with_reducible refine we_var_30 ?_ | with_reducible refine we_var_31 ?_ | with_reducible refine we_var_32 ?_ | with_reducible refine we_var_33 ?_ | with_reducible refine we_var_34 ?_ | with_reducible refine we_var_35 ?_ | with_reducible refine we_var_36 ?_ | with_reducible refine we_var_37 ?_ | with_reducible refine we_var_38 ?_ | with_reducible refine we_var_39 ?_) | ((with_reducible refine id_s ?_); first | with_reducible refine ws_seq ?_ | with_reducible refine ws_next ?_ | with_reducible refine ws_drop ?_ | with_reducible refine ws_ret ?_ | with_reducible refine ws_retN ?_ | with_reducible refine ws_brk ?_ | with_reducible refine ws_cnt ?_ | with_reducible refine ws_asg ?_ | with_reducible refine ws_if ?_ | with_reducible refine ws_put ?_ | with_reducible refine ws_fldP ?_ | with_reducible refine ws_fldA ?_ | with_reducible refine ws_daug ?_ | with_reducible refine ws_try ?_ | with_reducible refine ws_raise ?_ | with_reducible refine ws_raise0 ?_ | with_reducible refine ws_set_0 ?_ | with_reducible refine ws_set_1 ?_ | with_reducible refine ws_set_2 ?_ | with_reducible refine ws_set_3 ?_ | with_reducible refine ws_set_4 ?_ | with_reducible refine ws_set_5 ?_ | with_reducible refine ws_set_6 ?_ | with_reducible refine ws_set_7 ?_ | with_reducible refine ws_set_8 ?_ | with_reducible refine ws_set_9 ?_ | with_reducible refine ws_set_10 ?_ | with_reducible refine ws_set_11 ?_ | with_reducible refine ws_set_12 ?_ | with_reducible refine ws_set_13 ?_ | with_reducible refine ws_set_14 ?_ | with_reducible refine ws_set_15 ?_ | with_reducible refine ws_set_16 ?_ | with_reducible refine ws_set_17 ?_ | with_reducible refine ws_set_18 ?_ | with_reducible refine ws_set_19 ?_ | with_reducible refine ws_set_20 ?_ | with_reducible refine ws_set_21 ?_ | with_reducible refine ws_set_22 ?_ | with_reducible refine ws_set_23 ?_ | with_reducible refine ws_set_24 ?_ | with_reducible refine ws_set_25 ?_ | with_reducible refine ws_set_26 ?_ | with_reducible refine ws_set_27 ?_ | with_reducible refine ws_set_28 ?_ | with_reducible refine ws_set_29 ?_ | with_reducible refine ws_set_30 ?_ | with_reducible refine ws_set_31 ?_ | with_reducible refine ws_set_32 ?_ | with_reducible refine ws_set_33 ?_ | with_reducible refine ws_set_34 ?_ | with_reducible refine ws_set_35 ?_ | with_reducible refine ws_set_36 ?_ | with_reducible refine ws_set_37 ?_ | with_reducible refine ws_set_38 ?_ | with_reducible refine ws_set_39 ?_ | with_reducible refine ws_aug_0 ?_ | with_reducible refine ws_aug_1 ?_ | with_reducible refine ws_aug_2 ?_ | with_reducible refine ws_aug_3 ?_ | with_reducible refine ws_aug_4 ?_ | with_reducible refine ws_aug_5 ?_ | with_reducible refine ws_aug_6 ?_ | with_reducible refine ws_aug_7 ?_ | with_reducible refine ws_aug_8 ?_ | with_reducible refine ws_aug_9 ?_ | with_reducible refine ws_aug_10 ?_ | with_reducible refine ws_aug_11 ?_ | with_reducible refine ws_aug_12 ?_ | with_reducible refine ws_aug_13 ?_ | with_reducible refine ws_aug_14 ?_ | with_reducible refine ws_aug_15 ?_ | with_reducible refine ws_aug_16 ?_ | with_reducible refine ws_aug_17 ?_ | with_reducible refine ws_aug_18 ?_ | with_reducible refine ws_aug_19 ?_ | with_reducible refine ws_aug_20 ?_ | with_reducible refine ws_aug_21 ?_ | with_reducible refine ws_aug_22 ?_ | with_reducible refine ws_aug_23 ?_ | with_reducible refine ws_aug_24 ?_ | with_reducible refine ws_aug_25 ?_ | with_reducible refine ws_aug_26 ?_ | with_reducible refine ws_aug_27 ?_ | with_reducible refine ws_aug_28 ?_ | with_reducible refine ws_aug_29 ?_ | with_reducible refine ws_aug_30 ?_ | with_reducible refine ws_aug_31 ?_ | with_reducible refine ws_aug_32 ?_ | with_reducible refine ws_aug_33 ?_ | with_reducible refine ws_aug_34 ?_ | with_reducible refine ws_aug_35 ?_ | with_reducible refine ws_aug_36 ?_ | with_reducible refine ws_aug_37 ?_ | with_reducible refine ws_aug_38 ?_ | with_reducible refine ws_aug_39 ?_) | ((with_reducible refine id_a ?_); first | with_reducible refine wa_cons ?_ | with_reducible refine wa_nil ?_) | ((with_reducible refine id_g ?_); first | with_reducible refine wg_add ?_ | ((with_reducible apply wg_adds); (· sizeOf_list_dec)) | ((with_reducible apply wg_addl); (· sizeOf_list_dec)) | with_reducible refine wg_plus ?_ | ((with_reducible apply wg_pluss); (· sizeOf_list_dec)) | with_reducible refine wg_plusI ?_ | with_reducible refine wg_minus ?_ | with_reducible refine wg_sub ?_ | with_reducible refine wg_pow9 ?_ | with_reducible refine wg_pow6 ?_ | with_reducible refine wg_pow3 ?_ | with_reducible refine wg_pow18 ?_ | ((with_reducible apply wg_mod); (· sizeOf_list_dec)) | ((with_reducible apply wg_div); (· sizeOf_list_dec)) | ((with_reducible apply wg_mul); (· sizeOf_list_dec)) | ((with_reducible apply wg_mulA); (· sizeOf_list_dec)) | ((with_reducible apply wg_mulS1); (· sizeOf_list_dec)) | ((with_reducible apply wg_mulS); (· sizeOf_list_dec)) | with_reducible refine wg_lt ?_ | with_reducible refine wg_le ?_ | with_reducible refine wg_gt ?_ | with_reducible refine wg_ge ?_ | with_reducible refine wg_eq ?_ | with_reducible refine wg_ne ?_ | with_reducible refine wg_eqs ?_ | with_reducible refine wg_nes ?_ | with_reducible refine wg_eqnn ?_ | with_reducible refine wg_eqni ?_ | with_reducible refine wg_eqin ?_ | with_reducible refine wg_eqns ?_ | with_reducible refine wg_eqsn ?_ | with_reducible refine wg_nenn ?_ | with_reducible refine wg_neni ?_ | with_reducible refine wg_nein ?_ | with_reducible refine wg_nens ?_ | with_reducible refine wg_nesn ?_ | with_reducible refine wg_isNn ?_ | with_reducible refine wg_isNi ?_ | with_reducible refine wg_isNs ?_ | with_reducible refine wg_isNt ?_ | with_reducible refine wg_isNl ?_ | with_reducible refine wg_isNo ?_ | with_reducible refine wg_notNn ?_ | with_reducible refine wg_notNi ?_ | with_reducible refine wg_notNs ?_ | with_reducible refine wg_notNt ?_ | with_reducible refine wg_notNl ?_ | with_reducible refine wg_notNo ?_ | ((with_reducible apply wg_lenS); (· sizeOf_list_dec)) | with_reducible refine wg_lenL ?_ | with_reducible refine wg_lenT ?_ | ((with_reducible apply wg_lenM); (· array_mem_dec)) | ((with_reducible apply wg_lenD); (· array_mem_dec)) | with_reducible refine wg_intI ?_ | with_reducible refine wg_intB ?_ | with_reducible refine wg_ord ?_ | with_reducible refine wg_max2 ?_ | with_reducible refine wg_min2 ?_ | with_reducible refine key_int ?_ | with_reducible refine key_str ?_ | ((with_reducible apply wg_look); (· exact rfl)) | ((with_reducible apply wdicR); (· array_mem_dec)) | ((with_reducible apply wdicRF); (· array_mem_dec)) | ((with_reducible apply wdicAt); (· array_mem_dec)) | ((with_reducible apply wput_dic); (· array_mem_dec); (· exact rfl); (· sizeOf_list_dec)) | ((with_reducible apply wput_lst); (· array_mem_dec); (· sizeOf_list_dec)) | with_reducible refine wtr_b ?_ | with_reducible refine wtr_n ?_ | with_reducible refine wtr_i ?_ | ((with_reducible apply wtr_s); (· sizeOf_list_dec)) | with_reducible refine wtr_l ?_ | ((with_reducible apply wtr_m); (· array_mem_dec)) | ((with_reducible apply wtr_d); (· array_mem_dec)) | with_reducible refine wpart_n ?_ | with_reducible refine wpart_i ?_ | ((with_reducible apply wsl_s_to); (· sizeOf_list_dec)) | ((with_reducible apply wsl_s_from); (· sizeOf_list_dec)) | ((with_reducible apply wsl_s_mid); (· sizeOf_list_dec)) | with_reducible refine wsl_l_to ?_ | with_reducible refine wsl_l_from ?_ | with_reducible refine wsl_l_mid ?_ | ((with_reducible apply wsl_m_to); (· array_mem_dec)) | ((with_reducible apply wsl_m_from); (· array_mem_dec)) | ((with_reducible apply wsl_m_mid); (· array_mem_dec)) | with_reducible refine wseqL ?_ | with_reducible refine wseqT ?_ | with_reducible refine wseqS ?_ | ((with_reducible apply wseqM); (· array_mem_dec)) | with_reducible refine wstillL ?_ | ((with_reducible apply wstillF); (· array_mem_dec)) | ((with_reducible apply wcopyD); (· array_mem_dec)) | ((with_reducible apply wlistM); (· array_mem_dec)) | with_reducible refine wlistML ?_ | with_reducible refine wlistMT ?_ | with_reducible refine wlistL ?_ | with_reducible refine wlistT ?_ | ((with_reducible apply wlistO); (· array_mem_dec)) | ((with_reducible apply wgisiT); (· exact rfl); (· exact rfl)) | ((with_reducible apply wgisiF); (· exact rfl); (· exact rfl)) | ((with_reducible apply wgisiT); (· exact ty_dic (by array_mem_dec)); (· exact rfl)) | ((with_reducible apply wgisiF); (· exact ty_dic (by array_mem_dec)); (· exact rfl)) | ((with_reducible apply wgisiT); (· exact ty_lstM (by array_mem_dec)); (· exact rfl)) | ((with_reducible apply wgisiF); (· exact ty_lstM (by array_mem_dec)); (· exact rfl)) | ((with_reducible apply ixA_tup); (· exact rfl)) | ((with_reducible apply inA_non); (· array_mem_dec)) | ((with_reducible apply ninA_non); (· array_mem_dec)) | ((with_reducible apply inA_dic); (· array_mem_dec); (· exact rfl)) | ((with_reducible apply inA_dicF); (· array_mem_dec); (· exact rfl)) | ((with_reducible apply ninA_dic); (· array_mem_dec); (· exact rfl)) | ((with_reducible apply ninA_dicF); (· array_mem_dec); (· exact rfl)) ) | ((with_reducible refine id_b ?_); first | with_reducible refine wb_true ?_ | with_reducible refine wb_false ?_ | ((with_reducible apply wb_pos); (· (first | with_reducible exact rfl | assumption | omega | (simp only [List.length_cons, List.length_nil, List.length_map]); (·  omega)))) | ((with_reducible apply wb_neg); (· (first | with_reducible exact rfl | assumption | omega | (simp only [List.length_cons, List.length_nil, List.length_map]); (·  omega)))) | ((with_reducible apply wb_npos); (· (first | with_reducible exact rfl | assumption | omega | (simp only [List.length_cons, List.length_nil, List.length_map]); (·  omega)))) | ((with_reducible apply wb_nneg); (· (first | with_reducible exact rfl | assumption | omega | (simp only [List.length_cons, List.length_nil, List.length_map]); (·  omega)))) | ((with_reducible apply wb_t); (· assumption)) | ((with_reducible apply wb_f); (· assumption)) ) | ((with_reducible refine id_t ?_); first | with_reducible refine wt_T ?_ | with_reducible refine wt_n_0 ?_ | with_reducible refine wt_n_1 ?_ | with_reducible refine wt_n_2 ?_ | with_reducible refine wt_n_3 ?_ | with_reducible refine wt_n_4 ?_ | with_reducible refine wt_n_5 ?_ | with_reducible refine wt_n_6 ?_ | with_reducible refine wt_n_7 ?_ | with_reducible refine wt_n_8 ?_ | with_reducible refine wt_n_9 ?_ | with_reducible refine wt_n_10 ?_ | with_reducible refine wt_n_11 ?_ | with_reducible refine wt_n_12 ?_ | with_reducible refine wt_n_13 ?_ | with_reducible refine wt_n_14 ?_ | with_reducible refine wt_n_15 ?_ | with_reducible refine wt_n_16 ?_ | with_reducible refine wt_n_17 ?_ | with_reducible refine wt_n_18 ?_ | with_reducible refine wt_n_19 ?_ | with_reducible refine wt_n_20 ?_ | with_reducible refine wt_n_21 ?_ | with_reducible refine wt_n_22 ?_ | with_reducible refine wt_n_23 ?_ | with_reducible refine wt_n_24 ?_ | with_reducible refine wt_n_25 ?_ | with_reducible refine wt_n_26 ?_ | with_reducible refine wt_n_27 ?_ | with_reducible refine wt_n_28 ?_ | with_reducible refine wt_n_29 ?_ | with_reducible refine wt_n_30 ?_ | with_reducible refine wt_n_31 ?_ | with_reducible refine wt_n_32 ?_ | with_reducible refine wt_n_33 ?_ | with_reducible refine wt_n_34 ?_ | with_reducible refine wt_n_35 ?_ | with_reducible refine wt_n_36 ?_ | with_reducible refine wt_n_37 ?_ | with_reducible refine wt_n_38 ?_ | with_reducible refine wt_n_39 ?_) | with_reducible refine wts_cons ?_ | with_reducible refine wts_nil ?_ | ((with_reducible refine id_i ?_); first | with_reducible refine wi_rng ?_ | with_reducible refine wi_rng2 ?_ | with_reducible refine wi_seq ?_ | with_reducible refine wi_dic ?_ | with_reducible refine wi_rv ?_ | with_reducible refine wi_en ?_ | with_reducible refine wi_zp ?_) | ((with_reducible refine id_h ?_); first | ((with_reducible apply wh_no); (· exact rfl)) | ((with_reducible apply wh_bare); (· exact rfl)) | ((with_reducible apply wh_yes_0); (· exact rfl)) | ((with_reducible apply wh_yes_1); (· exact rfl)) | ((with_reducible apply wh_yes_2); (· exact rfl)) | ((with_reducible apply wh_yes_3); (· exact rfl)) | ((with_reducible apply wh_yes_4); (· exact rfl)) | ((with_reducible apply wh_yes_5); (· exact rfl)) | ((with_reducible apply wh_yes_6); (· exact rfl)) | ((with_reducible apply wh_yes_7); (· exact rfl)) | ((with_reducible apply wh_yes_8); (· exact rfl)) | ((with_reducible apply wh_yes_9); (· exact rfl)) | ((with_reducible apply wh_yes_10); (· exact rfl)) | ((with_reducible apply wh_yes_11); (· exact rfl)) | ((with_reducible apply wh_yes_12); (· exact rfl)) | ((with_reducible apply wh_yes_13); (· exact rfl)) | ((with_reducible apply wh_yes_14); (· exact rfl)) | ((with_reducible apply wh_yes_15); (· exact rfl)) | ((with_reducible apply wh_yes_16); (· exact rfl)) | ((with_reducible apply wh_yes_17); (· exact rfl)) | ((with_reducible apply wh_yes_18); (· exact rfl)) | ((with_reducible apply wh_yes_19); (· exact rfl)) | ((with_reducible apply wh_yes_20); (· exact rfl)) | ((with_reducible apply wh_yes_21); (· exact rfl)) | ((with_reducible apply wh_yes_22); (· exact rfl)) | ((with_reducible apply wh_yes_23); (· exact rfl)) | ((with_reducible apply wh_yes_24); (· exact rfl)) | ((with_reducible apply wh_yes_25); (· exact rfl)) | ((with_reducible apply wh_yes_26); (· exact rfl)) | ((with_reducible apply wh_yes_27); (· exact rfl)) | ((with_reducible apply wh_yes_28); (· exact rfl)) | ((with_reducible apply wh_yes_29); (· exact rfl)) | ((with_reducible apply wh_yes_30); (· exact rfl)) | ((with_reducible apply wh_yes_31); (· exact rfl)) | ((with_reducible apply wh_yes_32); (· exact rfl)) | ((with_reducible apply wh_yes_33); (· exact rfl)) | ((with_reducible apply wh_yes_34); (· exact rfl)) | ((with_reducible apply wh_yes_35); (· exact rfl)) | ((with_reducible apply wh_yes_36); (· exact rfl)) | ((with_reducible apply wh_yes_37); (· exact rfl)) | ((with_reducible apply wh_yes_38); (· exact rfl)) | ((with_reducible apply wh_yes_39); (· exact rfl)) | with_reducible refine wh_nil ?_) | ((with_reducible refine id_cl ?_); first | with_reducible refine wcl_0 ?_ | with_reducible refine wcl_1 ?_ | with_reducible refine wcl_2 ?_ | with_reducible refine wcl_3 ?_ | with_reducible refine wcl_4 ?_ | with_reducible refine wcl_5 ?_ | with_reducible refine wcl_6 ?_ | with_reducible refine wcl_7 ?_ | with_reducible refine wcl_8 ?_ | with_reducible refine wcl_9 ?_ | with_reducible refine wcl_10 ?_ | with_reducible refine wcl_11 ?_ | with_reducible refine wcl_12 ?_ | with_reducible refine wcl_13 ?_ | with_reducible refine wcl_14 ?_ | with_reducible refine wcl_15 ?_ | with_reducible refine wcl_16 ?_ | with_reducible refine wcl_17 ?_ | with_reducible refine wcl_18 ?_ | with_reducible refine wcl_19 ?_ | with_reducible refine wcl_20 ?_ | with_reducible refine wcl_21 ?_ | with_reducible refine wcl_22 ?_ | with_reducible refine wcl_23 ?_ | with_reducible refine wcl_24 ?_ | with_reducible refine wcl_25 ?_ | with_reducible refine wcl_26 ?_ | with_reducible refine wcl_27 ?_ | with_reducible refine wcl_28 ?_ | with_reducible refine wcl_29 ?_ | with_reducible refine wcl_30 ?_ | with_reducible refine wcl_31 ?_ | with_reducible refine wcl_32 ?_ | with_reducible refine wcl_33 ?_ | with_reducible refine wcl_34 ?_ | with_reducible refine wcl_35 ?_ | with_reducible refine wcl_36 ?_ | with_reducible refine wcl_37 ?_ | with_reducible refine wcl_38 ?_ | with_reducible refine wcl_39 ?_) | with_reducible refine wbl ?_ | with_reducible refine wnot_t ?_ | with_reducible refine wnot_f ?_ | with_reducible refine wnot_n ?_ | with_reducible refine wnot ?_ | with_reducible refine wint ?_ | with_reducible refine wstr ?_ | with_reducible refine wobj ?_ | with_reducible refine wnon ?_ | ((with_reducible apply wat); · array_mem_dec) | ((with_reducible refine wyes_c ?_ ?_); (· exact rfl)) | ((with_reducible refine wyes_k ?_ ?_); (· exact rfl)) | ((with_reducible refine wyes_d ?_ ?_); (· exact ⟨rfl, Nat.le_of_ble_eq_true rfl⟩)) | ((with_reducible refine wyes ?_ ?_); · sizeOf_list_dec) | with_reducible refine wyes wlstT ?_ | with_reducible refine wlst ?_ | with_reducible refine wins ?_ | with_reducible refine winm ?_)
local macro_rules | `(tactic| array_get_dec) => `(tactic| with_reducible refine ixA_l0 ?_)
local macro_rules | `(tactic| array_get_dec) => `(tactic| with_reducible refine ixA_l1 ?_)
local macro_rules | `(tactic| array_get_dec) => `(tactic| with_reducible refine ixA_l2 ?_)
local macro_rules | `(tactic| array_get_dec) => `(tactic| with_reducible refine ixA_l3 ?_)
local macro_rules | `(tactic| array_get_dec) => `(tactic| with_reducible refine ixA_l4 ?_)
local macro_rules | `(tactic| array_get_dec) => `(tactic| with_reducible refine ixA_l5 ?_)
local macro_rules | `(tactic| array_get_dec) => `(tactic| with_reducible refine ixA_l6 ?_)
local macro_rules | `(tactic| array_get_dec) => `(tactic| with_reducible refine ixA_l7 ?_)
local macro_rules | `(tactic| array_get_dec) => `(tactic| with_reducible refine wb_some ?_)
local macro_rules | `(tactic| array_get_dec) => `(tactic| with_reducible refine wb_none ?_)
local macro_rules | `(tactic| array_get_dec) => `(tactic| with_reducible refine wb_nsome ?_)
local macro_rules | `(tactic| array_get_dec) => `(tactic| with_reducible refine wb_nnone ?_)
variable {R : List Int} {T : List Nm} {HK : KVs} {m : Mu} {xr xt : DV} {ho : Nat}
end DM

namespace DM
open PySem PySem.Spec PyProof.Rows L2
local macro_rules | `(tactic| sizeOf_list_dec) => `(tactic| first | assumption | omega | exact Nat.zero_le _ | (simp only [List.length_cons, List.length_nil, List.length_append, List.length_map, List.length_replicate, List.length_range, List.length_take, List.length_drop, List.length_reverse]; omega) | (decide; done))
local macro_rules | `(tactic| array_mem_dec) => `(tactic| (repeat (first | with_reducible assumption | with_reducible exact mem_new | with_reducible apply mem_same' | ((with_reducible apply mem_ne'); (· first | assumption | omega)) | with_reducible apply mem_old | with_reducible exact mem_hd | with_reducible apply mem_app)); done)
local macro_rules | `(tactic| array_get_dec) => `(tactic| first | ((with_reducible refine id_e ?_); first | with_reducible refine we_c ?_ | with_reducible refine we_op ?_ | with_reducible refine we_cb ?_ | with_reducible refine we_call0 ?_ | with_reducible refine we_call ?_ | with_reducible refine we_B ?_ | with_reducible refine we_tru ?_ | with_reducible refine we_not ?_ | with_reducible refine we_and ?_ | with_reducible refine we_or ?_ | with_reducible refine we_if ?_ | with_reducible refine we_neg ?_ | with_reducible refine we_I ?_ | with_reducible refine we_chain ?_ | with_reducible refine we_tup ?_ | with_reducible refine we_lst ?_ | with_reducible refine we_lstM0 ?_ | with_reducible refine we_lstM ?_ | with_reducible refine we_dnew ?_ | with_reducible refine we_sl ?_ | with_reducible refine we_m1 ?_ | with_reducible refine we_isiT ?_ | with_reducible refine we_append ?_ | with_reducible refine we_get1 ?_ | with_reducible refine we_get2 ?_ | with_reducible refine we_pop2 ?_ | with_reducible refine we_pop1 ?_ | with_reducible refine we_cm ?_ | with_reducible refine we_fld ?_ | with_reducible refine we_meth ?_ | with_reducible refine we_make ?_ | with_reducible refine we_yes ?_ | with_reducible refine we_popA ?_ | ((with_reducible apply we_xf); (· exact rfl)) | ((with_reducible apply we_is); (· exact rfl)) | with_reducible refine we_var_0 ?_ | with_reducible refine we_var_1 ?_ | with_reducible refine we_var_2 ?_ | with_reducible refine we_var_3 ?_ | with_reducible refine we_var_4 ?_ | with_reducible refine we_var_5 ?_ | with_reducible refine we_var_6 ?_ | with_reducible refine we_var_7 ?_ | with_reducible refine we_var_8 ?_ | with_reducible refine we_var_9 ?_ | with_reducible refine we_var_10 ?_ | with_reducible refine we_var_11 ?_ | with_reducible refine we_var_12 ?_ | with_reducible refine we_var_13 ?_ | with_reducible refine we_var_14 ?_ | with_reducible refine we_var_15 ?_ | with_reducible refine we_var_16 ?_ | with_reducible refine we_var_17 ?_ | with_reducible refine we_var_18 ?_ | with_reducible refine we_var_19 ?_ | with_reducible refine we_var_20 ?_ | with_reducible refine we_var_21 ?_ | with_reducible refine we_var_22 ?_ | with_reducible refine we_var_23 ?_ | with_reducible refine we_var_24 ?_ | with_reducible refine we_var_25 ?_ | with_reducible refine we_var_26 ?_ | with_reducible refine we_var_27 ?_ | with_reducible refine we_var_28 ?_ | with_reducible refine we_var_29 ?_ | with_reducible refine we_var_30 ?_ | with_reducible refine we_var_31 ?_ | with_reducible refine we_var_32 ?_ | with_reducible refine we_var_33 ?_ | with_reducible refine we_var_34 ?_ | with_reducible refine we_var_35 ?_ | with_reducible refine we_var_36 ?_ | with_reducible refine we_var_37 ?_ | with_reducible refine we_var_38 ?_ | with_reducible refine we_var_39 ?_) | ((with_reducible refine id_s ?_); first | with_reducible refine ws_seq ?_ | with_reducible refine ws_next ?_ | with_reducible refine ws_drop ?_ | with_reducible refine ws_ret ?_ | with_reducible refine ws_retN ?_ | with_reducible refine ws_brk ?_ | with_reducible refine ws_cnt ?_ | with_reducible refine ws_asg ?_ | with_reducible refine ws_if ?_ | with_reducible refine ws_put ?_ | with_reducible refine ws_fldP ?_ | with_reducible refine ws_fldA ?_ | with_reducible refine ws_daug ?_ | with_reducible refine ws_try ?_ | with_reducible refine ws_raise ?_ | with_reducible refine ws_raise0 ?_ | with_reducible refine ws_set_0 ?_ | with_reducible refine ws_set_1 ?_ | with_reducible refine ws_set_2 ?_ | with_reducible refine ws_set_3 ?_ | with_reducible refine ws_set_4 ?_ | with_reducible refine ws_set_5 ?_ | with_reducible refine ws_set_6 ?_ | with_reducible refine ws_set_7 ?_ | with_reducible refine ws_set_8 ?_ | with_reducible refine ws_set_9 ?_ | with_reducible refine ws_set_10 ?_ | with_reducible refine ws_set_11 ?_ | with_reducible refine ws_set_12 ?_ | with_reducible refine ws_set_13 ?_ | with_reducible refine ws_set_14 ?_ | with_reducible refine ws_set_15 ?_ | with_reducible refine ws_set_16 ?_ | with_reducible refine ws_set_17 ?_ | with_reducible refine ws_set_18 ?_ | with_reducible refine ws_set_19 ?_ | with_reducible refine ws_set_20 ?_ | with_reducible refine ws_set_21 ?_ | with_reducible refine ws_set_22 ?_ | with_reducible refine ws_set_23 ?_ | with_reducible refine ws_set_24 ?_ | with_reducible refine ws_set_25 ?_ | with_reducible refine ws_set_26 ?_ | with_reducible refine ws_set_27 ?_ | with_reducible refine ws_set_28 ?_ | with_reducible refine ws_set_29 ?_ | with_reducible refine ws_set_30 ?_ | with_reducible refine ws_set_31 ?_ | with_reducible refine ws_set_32 ?_ | with_reducible refine ws_set_33 ?_ | with_reducible refine ws_set_34 ?_ | with_reducible refine ws_set_35 ?_ | with_reducible refine ws_set_36 ?_ | with_reducible refine ws_set_37 ?_ | with_reducible refine ws_set_38 ?_ | with_reducible refine ws_set_39 ?_ | with_reducible refine ws_aug_0 ?_ | with_reducible refine ws_aug_1 ?_ | with_reducible refine ws_aug_2 ?_ | with_reducible refine ws_aug_3 ?_ | with_reducible refine ws_aug_4 ?_ | with_reducible refine ws_aug_5 ?_ | with_reducible refine ws_aug_6 ?_ | with_reducible refine ws_aug_7 ?_ | with_reducible refine ws_aug_8 ?_ | with_reducible refine ws_aug_9 ?_ | with_reducible refine ws_aug_10 ?_ | with_reducible refine ws_aug_11 ?_ | with_reducible refine ws_aug_12 ?_ | with_reducible refine ws_aug_13 ?_ | with_reducible refine ws_aug_14 ?_ | with_reducible refine ws_aug_15 ?_ | with_reducible refine ws_aug_16 ?_ | with_reducible refine ws_aug_17 ?_ | with_reducible refine ws_aug_18 ?_ | with_reducible refine ws_aug_19 ?_ | with_reducible refine ws_aug_20 ?_ | with_reducible refine ws_aug_21 ?_ | with_reducible refine ws_aug_22 ?_ | with_reducible refine ws_aug_23 ?_ | with_reducible refine ws_aug_24 ?_ | with_reducible refine ws_aug_25 ?_ | with_reducible refine ws_aug_26 ?_ | with_reducible refine ws_aug_27 ?_ | with_reducible refine ws_aug_28 ?_ | with_reducible refine ws_aug_29 ?_ | with_reducible refine ws_aug_30 ?_ | with_reducible refine ws_aug_31 ?_ | with_reducible refine ws_aug_32 ?_ | with_reducible refine ws_aug_33 ?_ | with_reducible refine ws_aug_34 ?_ | with_reducible refine ws_aug_35 ?_ | with_reducible refine ws_aug_36 ?_ | with_reducible refine ws_aug_37 ?_ | with_reducible refine ws_aug_38 ?_ | with_reducible refine ws_aug_39 ?_) | ((with_reducible refine id_a ?_); first | with_reducible refine wa_cons ?_ | with_reducible refine wa_nil ?_) | ((with_reducible refine id_g ?_); first | with_reducible refine wg_add ?_ | ((with_reducible apply wg_adds); (· sizeOf_list_dec)) | ((with_reducible apply wg_addl); (· sizeOf_list_dec)) | with_reducible refine wg_plus ?_ | ((with_reducible apply wg_pluss); (· sizeOf_list_dec)) | with_reducible refine wg_plusI ?_ | with_reducible refine wg_minus ?_ | with_reducible refine wg_sub ?_ | with_reducible refine wg_pow9 ?_ | with_reducible refine wg_pow6 ?_ | with_reducible refine wg_pow3 ?_ | with_reducible refine wg_pow18 ?_ | ((with_reducible apply wg_mod); (· sizeOf_list_dec)) | ((with_reducible apply wg_div); (· sizeOf_list_dec)) | ((with_reducible apply wg_mul); (· sizeOf_list_dec)) | ((with_reducible apply wg_mulA); (· sizeOf_list_dec)) | ((with_reducible apply wg_mulS1); (· sizeOf_list_dec)) | ((with_reducible apply wg_mulS); (· sizeOf_list_dec)) | with_reducible refine wg_lt ?_ | with_reducible refine wg_le ?_ | with_reducible refine wg_gt ?_ | with_reducible refine wg_ge ?_ | with_reducible refine wg_eq ?_ | with_reducible refine wg_ne ?_ | with_reducible refine wg_eqs ?_ | with_reducible refine wg_nes ?_ | with_reducible refine wg_eqnn ?_ | with_reducible refine wg_eqni ?_ | with_reducible refine wg_eqin ?_ | with_reducible refine wg_eqns ?_ | with_reducible refine wg_eqsn ?_ | with_reducible refine wg_nenn ?_ | with_reducible refine wg_neni ?_ | with_reducible refine wg_nein ?_ | with_reducible refine wg_nens ?_ | with_reducible refine wg_nesn ?_ | with_reducible refine wg_isNn ?_ | with_reducible refine wg_isNi ?_ | with_reducible refine wg_isNs ?_ | with_reducible refine wg_isNt ?_ | with_reducible refine wg_isNl ?_ | with_reducible refine wg_isNo ?_ | with_reducible refine wg_notNn ?_ | with_reducible refine wg_notNi ?_ | with_reducible refine wg_notNs ?_ | with_reducible refine wg_notNt ?_ | with_reducible refine wg_notNl ?_ | with_reducible refine wg_notNo ?_ | ((with_reducible apply wg_lenS); (· sizeOf_list_dec)) | with_reducible refine wg_lenL ?_ | with_reducible refine wg_lenT ?_ | ((with_reducible apply wg_lenM); (· array_mem_dec)) | ((with_reducible apply wg_lenD); (· array_mem_dec)) | with_reducible refine wg_intI ?_ | with_reducible refine wg_intB ?_ | with_reducible refine wg_ord ?_ | with_reducible refine wg_max2 ?_ | with_reducible refine wg_min2 ?_ | with_reducible refine key_int ?_ | with_reducible refine key_str ?_ | ((with_reducible apply wg_look); (· exact rfl)) | ((with_reducible apply wdicR); (· array_mem_dec)) | ((with_reducible apply wdicRF); (· array_mem_dec)) | ((with_reducible apply wdicAt); (· array_mem_dec)) | ((with_reducible apply wput_dic); (· array_mem_dec); (· exact rfl); (· sizeOf_list_dec)) | ((with_reducible apply wput_lst); (· array_mem_dec); (· sizeOf_list_dec)) | with_reducible refine wtr_b ?_ | with_reducible refine wtr_n ?_ | with_reducible refine wtr_i ?_ | ((with_reducible apply wtr_s); (· sizeOf_list_dec)) | with_reducible refine wtr_l ?_ | ((with_reducible apply wtr_m); (· array_mem_dec)) | ((with_reducible apply wtr_d); (· array_mem_dec)) | with_reducible refine wpart_n ?_ | with_reducible refine wpart_i ?_ | ((with_reducible apply wsl_s_to); (· sizeOf_list_dec)) | ((with_reducible apply wsl_s_from); (· sizeOf_list_dec)) | ((with_reducible apply wsl_s_mid); (· sizeOf_list_dec)) | with_reducible refine wsl_l_to ?_ | with_reducible refine wsl_l_from ?_ | with_reducible refine wsl_l_mid ?_ | ((with_reducible apply wsl_m_to); (· array_mem_dec)) | ((with_reducible apply wsl_m_from); (· array_mem_dec)) | ((with_reducible apply wsl_m_mid); (· array_mem_dec)) | with_reducible refine wseqL ?_ | with_reducible refine wseqT ?_ | with_reducible refine wseqS ?_ | ((with_reducible apply wseqM); (· array_mem_dec)) | with_reducible refine wstillL ?_ | ((with_reducible apply wstillF); (· array_mem_dec)) | ((with_reducible apply wcopyD); (· array_mem_dec)) | ((with_reducible apply wlistM); (· array_mem_dec)) | with_reducible refine wlistML ?_ | with_reducible refine wlistMT ?_ | with_reducible refine wlistL ?_ | with_reducible refine wlistT ?_ | ((with_reducible apply wlistO); (· array_mem_dec)) | ((with_reducible apply wgisiT); (· exact rfl); (· exact rfl)) | ((with_reducible apply wgisiF); (· exact rfl); (· exact rfl)) | ((with_reducible apply wgisiT); (· exact ty_dic (by array_mem_dec)); (· exact rfl)) | ((with_reducible apply wgisiF); (· exact ty_dic (by array_mem_dec)); (· exact rfl)) | ((with_reducible apply wgisiT); (· exact ty_lstM (by array_mem_dec)); (· exact rfl)) | ((with_reducible apply wgisiF); (· exact ty_lstM (by array_mem_dec)); (· exact rfl)) | ((with_reducible apply ixA_tup); (· exact rfl)) | ((with_reducible apply inA_non); (· array_mem_dec)) | ((with_reducible apply ninA_non); (· array_mem_dec)) | ((with_reducible apply inA_dic); (· array_mem_dec); (· exact rfl)) | ((with_reducible apply inA_dicF); (· array_mem_dec); (· exact rfl)) | ((with_reducible apply ninA_dic); (· array_mem_dec); (· exact rfl)) | ((with_reducible apply ninA_dicF); (· array_mem_dec); (· exact rfl)) ) | ((with_reducible refine id_b ?_); first | with_reducible refine wb_true ?_ | with_reducible refine wb_false ?_ | ((with_reducible apply wb_pos); (· (first | with_reducible exact rfl | assumption | omega | (simp only [List.length_cons, List.length_nil, List.length_map]); (·  omega)))) | ((with_reducible apply wb_neg); (· (first | with_reducible exact rfl | assumption | omega | (simp only [List.length_cons, List.length_nil, List.length_map]); (·  omega)))) | ((with_reducible apply wb_npos); (· (first | with_reducible exact rfl | assumption | omega | (simp only [List.length_cons, List.length_nil, List.length_map]); (·  omega)))) | ((with_reducible apply wb_nneg); (· (first | with_reducible exact rfl | assumption | omega | (simp only [List.length_cons, List.length_nil, List.length_map]); (·  omega)))) | ((with_reducible apply wb_t); (· assumption)) | ((with_reducible apply wb_f); (· assumption)) ) | ((with_reducible refine id_t ?_); first | with_reducible refine wt_T ?_ | with_reducible refine wt_n_0 ?_ | with_reducible refine wt_n_1 ?_ | with_reducible refine wt_n_2 ?_ | with_reducible refine wt_n_3 ?_ | with_reducible refine wt_n_4 ?_ | with_reducible refine wt_n_5 ?_ | with_reducible refine wt_n_6 ?_ | with_reducible refine wt_n_7 ?_ | with_reducible refine wt_n_8 ?_ | with_reducible refine wt_n_9 ?_ | with_reducible refine wt_n_10 ?_ | with_reducible refine wt_n_11 ?_ | with_reducible refine wt_n_12 ?_ | with_reducible refine wt_n_13 ?_ | with_reducible refine wt_n_14 ?_ | with_reducible refine wt_n_15 ?_ | with_reducible refine wt_n_16 ?_ | with_reducible refine wt_n_17 ?_ | with_reducible refine wt_n_18 ?_ | with_reducible refine wt_n_19 ?_ | with_reducible refine wt_n_20 ?_ | with_reducible refine wt_n_21 ?_ | with_reducible refine wt_n_22 ?_ | with_reducible refine wt_n_23 ?_ | with_reducible refine wt_n_24 ?_ | with_reducible refine wt_n_25 ?_ | with_reducible refine wt_n_26 ?_ | with_reducible refine wt_n_27 ?_ | with_reducible refine wt_n_28 ?_ | with_reducible refine wt_n_29 ?_ | with_reducible refine wt_n_30 ?_ | with_reducible refine wt_n_31 ?_ | with_reducible refine wt_n_32 ?_ | with_reducible refine wt_n_33 ?_ | with_reducible refine wt_n_34 ?_ | with_reducible refine wt_n_35 ?_ | with_reducible refine wt_n_36 ?_ | with_reducible refine wt_n_37 ?_ | with_reducible refine wt_n_38 ?_ | with_reducible refine wt_n_39 ?_) | with_reducible refine wts_cons ?_ | with_reducible refine wts_nil ?_ | ((with_reducible refine id_i ?_); first | with_reducible refine wi_rng ?_ | with_reducible refine wi_rng2 ?_ | with_reducible refine wi_seq ?_ | with_reducible refine wi_dic ?_ | with_reducible refine wi_rv ?_ | with_reducible refine wi_en ?_ | with_reducible refine wi_zp ?_) | ((with_reducible refine id_h ?_); first | ((with_reducible apply wh_no); (· exact rfl)) | ((with_reducible apply wh_bare); (· exact rfl)) | ((with_reducible apply wh_yes_0); (· exact rfl)) | ((with_reducible apply wh_yes_1); (· exact rfl)) | ((with_reducible apply wh_yes_2); (· exact rfl)) | ((with_reducible apply wh_yes_3); (· exact rfl)) | ((with_reducible apply wh_yes_4); (· exact rfl)) | ((with_reducible apply wh_yes_5); (· exact rfl)) | ((with_reducible apply wh_yes_6); (· exact rfl)) | ((with_reducible apply wh_yes_7); (· exact rfl)) | ((with_reducible apply wh_yes_8); (· exact rfl)) | ((with_reducible apply wh_yes_9); (· exact rfl)) | ((with_reducible apply wh_yes_10); (· exact rfl)) | ((with_reducible apply wh_yes_11); (· exact rfl)) | ((with_reducible apply wh_yes_12); (· exact rfl)) | ((with_reducible apply wh_yes_13); (· exact rfl)) | ((with_reducible apply wh_yes_14); (· exact rfl)) | ((with_reducible apply wh_yes_15); (· exact rfl)) | ((with_reducible apply wh_yes_16); (· exact rfl)) | ((with_reducible apply wh_yes_17); (· exact rfl)) | ((with_reducible apply wh_yes_18); (· exact rfl)) | ((with_reducible apply wh_yes_19); (· exact rfl)) | ((with_reducible apply wh_yes_20); (· exact rfl)) | ((with_reducible apply wh_yes_21); (· exact rfl)) | ((with_reducible apply wh_yes_22); (· exact rfl)) | ((with_reducible apply wh_yes_23); (· exact rfl)) | ((with_reducible apply wh_yes_24); (· exact rfl)) | ((with_reducible apply wh_yes_25); (· exact rfl)) | ((with_reducible apply wh_yes_26); (· exact rfl)) | ((with_reducible apply wh_yes_27); (· exact rfl)) | ((with_reducible apply wh_yes_28); (· exact rfl)) | ((with_reducible apply wh_yes_29); (· exact rfl)) | ((with_reducible apply wh_yes_30); (· exact rfl)) | ((with_reducible apply wh_yes_31); (· exact rfl)) | ((with_reducible apply wh_yes_32); (· exact rfl)) | ((with_reducible apply wh_yes_33); (· exact rfl)) | ((with_reducible apply wh_yes_34); (· exact rfl)) | ((with_reducible apply wh_yes_35); (· exact rfl)) | ((with_reducible apply wh_yes_36); (· exact rfl)) | ((with_reducible apply wh_yes_37); (· exact rfl)) | ((with_reducible apply wh_yes_38); (· exact rfl)) | ((with_reducible apply wh_yes_39); (· exact rfl)) | with_reducible refine wh_nil ?_) | ((with_reducible refine id_cl ?_); first | with_reducible refine wcl_0 ?_ | with_reducible refine wcl_1 ?_ | with_reducible refine wcl_2 ?_ | with_reducible refine wcl_3 ?_ | with_reducible refine wcl_4 ?_ | with_reducible refine wcl_5 ?_ | with_reducible refine wcl_6 ?_ | with_reducible refine wcl_7 ?_ | with_reducible refine wcl_8 ?_ | with_reducible refine wcl_9 ?_ | with_reducible refine wcl_10 ?_ | with_reducible refine wcl_11 ?_ | with_reducible refine wcl_12 ?_ | with_reducible refine wcl_13 ?_ | with_reducible refine wcl_14 ?_ | with_reducible refine wcl_15 ?_ | with_reducible refine wcl_16 ?_ | with_reducible refine wcl_17 ?_ | with_reducible refine wcl_18 ?_ | with_reducible refine wcl_19 ?_ | with_reducible refine wcl_20 ?_ | with_reducible refine wcl_21 ?_ | with_reducible refine wcl_22 ?_ | with_reducible refine wcl_23 ?_ | with_reducible refine wcl_24 ?_ | with_reducible refine wcl_25 ?_ | with_reducible refine wcl_26 ?_ | with_reducible refine wcl_27 ?_ | with_reducible refine wcl_28 ?_ | with_reducible refine wcl_29 ?_ | with_reducible refine wcl_30 ?_ | with_reducible refine wcl_31 ?_ | with_reducible refine wcl_32 ?_ | with_reducible refine wcl_33 ?_ | with_reducible refine wcl_34 ?_ | with_reducible refine wcl_35 ?_ | with_reducible refine wcl_36 ?_ | with_reducible refine wcl_37 ?_ | with_reducible refine wcl_38 ?_ | with_reducible refine wcl_39 ?_) | with_reducible refine wbl ?_ | with_reducible refine wnot_t ?_ | with_reducible refine wnot_f ?_ | with_reducible refine wnot_n ?_ | with_reducible refine wnot ?_ | with_reducible refine wint ?_ | with_reducible refine wstr ?_ | with_reducible refine wobj ?_ | with_reducible refine wnon ?_ | ((with_reducible apply wat); · array_mem_dec) | ((with_reducible refine wyes_c ?_ ?_); (· exact rfl)) | ((with_reducible refine wyes_k ?_ ?_); (· exact rfl)) | ((with_reducible refine wyes_d ?_ ?_); (· exact ⟨rfl, Nat.le_of_ble_eq_true rfl⟩)) | ((with_reducible refine wyes ?_ ?_); · sizeOf_list_dec) | with_reducible refine wyes wlstT ?_ | with_reducible refine wlst ?_ | with_reducible refine wins ?_ | with_reducible refine winm ?_)
variable {R : List Int} {T : List Nm} {HK : KVs}
end DM

namespace DM
open PySem PySem.Spec PyProof.Rows L2
local macro_rules | `(tactic| sizeOf_list_dec) => `(tactic| first | assumption | omega | exact Nat.zero_le _ | (simp only [List.length_cons, List.length_nil, List.length_append, List.length_map, List.length_replicate, List.length_range, List.length_take, List.length_drop, List.length_reverse]; omega) | (decide; done))
local macro_rules | `(tactic| array_mem_dec) => `(tactic| (repeat (first | with_reducible assumption | with_reducible exact mem_new | with_reducible apply mem_same' | ((with_reducible apply mem_ne'); (· first | assumption | omega)) | with_reducible apply mem_old | with_reducible exact mem_hd | with_reducible apply mem_app)); done)
local macro_rules | `(tactic| array_get_dec) => `(tactic| first | ((with_reducible refine id_e ?_); first | with_reducible refine we_c ?_ | with_reducible refine we_op ?_ | with_reducible refine we_cb ?_ | with_reducible refine we_call0 ?_ | with_reducible refine we_call ?_ | with_reducible refine we_B ?_ | with_reducible refine we_tru ?_ | with_reducible refine we_not ?_ | with_reducible refine we_and ?_ | with_reducible refine we_or ?_ | with_reducible refine we_if ?_ | with_reducible refine we_neg ?_ | with_reducible refine we_I ?_ | with_reducible refine we_chain ?_ | with_reducible refine we_tup ?_ | with_reducible refine we_lst ?_ | with_reducible refine we_lstM0 ?_ | with_reducible refine we_lstM ?_ | with_reducible refine we_dnew ?_ | with_reducible refine we_sl ?_ | with_reducible refine we_m1 ?_ | with_reducible refine we_isiT ?_ | with_reducible refine we_append ?_ | with_reducible refine we_get1 ?_ | with_reducible refine we_get2 ?_ | with_reducible refine we_pop2 ?_ | with_reducible refine we_pop1 ?_ | with_reducible refine we_cm ?_ | with_reducible refine we_fld ?_ | with_reducible refine we_meth ?_ | with_reducible refine we_make ?_ | with_reducible refine we_yes ?_ | with_reducible refine we_popA ?_ | ((with_reducible apply we_xf); (· exact rfl)) | ((with_reducible apply we_is); (· exact rfl)) | with_reducible refine we_var_0 ?_ | with_reducible refine we_var_1 ?_ | with_reducible refine we_var_2 ?_ | with_reducible refine we_var_3 ?_ | with_reducible refine we_var_4 ?_ | with_reducible refine we_var_5 ?_ | with_reducible refine we_var_6 ?_ | with_reducible refine we_var_7 ?_ | with_reducible refine we_var_8 ?_ | with_reducible refine we_var_9 ?_ | with_reducible refine we_var_10 ?_ | with_reducible refine we_var_11 ?_ | with_reducible refine we_var_12 ?_ | with_reducible refine we_var_13 ?_ | with_reducible refine we_var_14 ?_ | with_reducible refine we_var_15 ?_ | with_reducible refine we_var_16 ?_ | with_reducible refine we_var_17 ?_ | with_reducible refine we_var_18 ?_ | with_reducible refine we_var_19 ?_ | with_reducible refine we_var_20 ?_ | with_reducible refine we_var_21 ?_ | with_reducible refine we_var_22 ?_ | with_reducible refine we_var_23 ?_ | with_reducible refine we_var_24 ?_ | with_reducible refine we_var_25 ?_ | with_reducible refine we_var_26 ?_ | with_reducible refine we_var_27 ?_ | with_reducible refine we_var_28 ?_ | with_reducible refine we_var_29 ?_ | with_reducible refine we_var_30 ?_ | with_reducible refine we_var_31 ?_ | with_reducible refine we_var_32 ?_ | with_reducible refine we_var_33 ?_ | with_reducible refine we_var_34 ?_ | with_reducible refine we_var_35 ?_ | with_reducible refine we_var_36 ?_ | with_reducible refine we_var_37 ?_ | with_reducible refine we_var_38 ?_ | with_reducible refine we_var_39 ?_) | ((with_reducible refine id_s ?_); first | with_reducible refine ws_seq ?_ | with_reducible refine ws_next ?_ | with_reducible refine ws_drop ?_ | with_reducible refine ws_ret ?_ | with_reducible refine ws_retN ?_ | with_reducible refine ws_brk ?_ | with_reducible refine ws_cnt ?_ | with_reducible refine ws_asg ?_ | with_reducible refine ws_if ?_ | with_reducible refine ws_put ?_ | with_reducible refine ws_fldP ?_ | with_reducible refine ws_fldA ?_ | with_reducible refine ws_daug ?_ | with_reducible refine ws_try ?_ | with_reducible refine ws_raise ?_ | with_reducible refine ws_raise0 ?_ | with_reducible refine ws_set_0 ?_ | with_reducible refine ws_set_1 ?_ | with_reducible refine ws_set_2 ?_ | with_reducible refine ws_set_3 ?_ | with_reducible refine ws_set_4 ?_ | with_reducible refine ws_set_5 ?_ | with_reducible refine ws_set_6 ?_ | with_reducible refine ws_set_7 ?_ | with_reducible refine ws_set_8 ?_ | with_reducible refine ws_set_9 ?_ | with_reducible refine ws_set_10 ?_ | with_reducible refine ws_set_11 ?_ | with_reducible refine ws_set_12 ?_ | with_reducible refine ws_set_13 ?_ | with_reducible refine ws_set_14 ?_ | with_reducible refine ws_set_15 ?_ | with_reducible refine ws_set_16 ?_ | with_reducible refine ws_set_17 ?_ | with_reducible refine ws_set_18 ?_ | with_reducible refine ws_set_19 ?_ | with_reducible refine ws_set_20 ?_ | with_reducible refine ws_set_21 ?_ | with_reducible refine ws_set_22 ?_ | with_reducible refine ws_set_23 ?_ | with_reducible refine ws_set_24 ?_ | with_reducible refine ws_set_25 ?_ | with_reducible refine ws_set_26 ?_ | with_reducible refine ws_set_27 ?_ | with_reducible refine ws_set_28 ?_ | with_reducible refine ws_set_29 ?_ | with_reducible refine ws_set_30 ?_ | with_reducible refine ws_set_31 ?_ | with_reducible refine ws_set_32 ?_ | with_reducible refine ws_set_33 ?_ | with_reducible refine ws_set_34 ?_ | with_reducible refine ws_set_35 ?_ | with_reducible refine ws_set_36 ?_ | with_reducible refine ws_set_37 ?_ | with_reducible refine ws_set_38 ?_ | with_reducible refine ws_set_39 ?_ | with_reducible refine ws_aug_0 ?_ | with_reducible refine ws_aug_1 ?_ | with_reducible refine ws_aug_2 ?_ | with_reducible refine ws_aug_3 ?_ | with_reducible refine ws_aug_4 ?_ | with_reducible refine ws_aug_5 ?_ | with_reducible refine ws_aug_6 ?_ | with_reducible refine ws_aug_7 ?_ | with_reducible refine ws_aug_8 ?_ | with_reducible refine ws_aug_9 ?_ | with_reducible refine ws_aug_10 ?_ | with_reducible refine ws_aug_11 ?_ | with_reducible refine ws_aug_12 ?_ | with_reducible refine ws_aug_13 ?_ | with_reducible refine ws_aug_14 ?_ | with_reducible refine ws_aug_15 ?_ | with_reducible refine ws_aug_16 ?_ | with_reducible refine ws_aug_17 ?_ | with_reducible refine ws_aug_18 ?_ | with_reducible refine ws_aug_19 ?_ | with_reducible refine ws_aug_20 ?_ | with_reducible refine ws_aug_21 ?_ | with_reducible refine ws_aug_22 ?_ | with_reducible refine ws_aug_23 ?_ | with_reducible refine ws_aug_24 ?_ | with_reducible refine ws_aug_25 ?_ | with_reducible refine ws_aug_26 ?_ | with_reducible refine ws_aug_27 ?_ | with_reducible refine ws_aug_28 ?_ | with_reducible refine ws_aug_29 ?_ | with_reducible refine ws_aug_30 ?_ | with_reducible refine ws_aug_31 ?_ | with_reducible refine ws_aug_32 ?_ | with_reducible refine ws_aug_33 ?_ | with_reducible refine ws_aug_34 ?_ | with_reducible refine ws_aug_35 ?_ | with_reducible refine ws_aug_36 ?_ | with_reducible refine ws_aug_37 ?_ | with_reducible refine ws_aug_38 ?_ | with_reducible refine ws_aug_39 ?_) | ((with_reducible refine id_a ?_); first | with_reducible refine wa_cons ?_ | with_reducible refine wa_nil ?_) | ((with_reducible refine id_g ?_); first | with_reducible refine wg_add ?_ | ((with_reducible apply wg_adds); (· sizeOf_list_dec)) | ((with_reducible apply wg_addl); (· sizeOf_list_dec)) | with_reducible refine wg_plus ?_ | ((with_reducible apply wg_pluss); (· sizeOf_list_dec)) | with_reducible refine wg_plusI ?_ | with_reducible refine wg_minus ?_ | with_reducible refine wg_sub ?_ | with_reducible refine wg_pow9 ?_ | with_reducible refine wg_pow6 ?_ | with_reducible refine wg_pow3 ?_ | with_reducible refine wg_pow18 ?_ | ((with_reducible apply wg_mod); (· sizeOf_list_dec)) | ((with_reducible apply wg_div); (· sizeOf_list_dec)) | ((with_reducible apply wg_mul); (· sizeOf_list_dec)) | ((with_reducible apply wg_mulA); (· sizeOf_list_dec)) | ((with_reducible apply wg_mulS1); (· sizeOf_list_dec)) | ((with_reducible apply wg_mulS); (· sizeOf_list_dec)) | with_reducible refine wg_lt ?_ | with_reducible refine wg_le ?_ | with_reducible refine wg_gt ?_ | with_reducible refine wg_ge ?_ | with_reducible refine wg_eq ?_ | with_reducible refine wg_ne ?_ | with_reducible refine wg_eqs ?_ | with_reducible refine wg_nes ?_ | with_reducible refine wg_eqnn ?_ | with_reducible refine wg_eqni ?_ | with_reducible refine wg_eqin ?_ | with_reducible refine wg_eqns ?_ | with_reducible refine wg_eqsn ?_ | with_reducible refine wg_nenn ?_ | with_reducible refine wg_neni ?_ | with_reducible refine wg_nein ?_ | with_reducible refine wg_nens ?_ | with_reducible refine wg_nesn ?_ | with_reducible refine wg_isNn ?_ | with_reducible refine wg_isNi ?_ | with_reducible refine wg_isNs ?_ | with_reducible refine wg_isNt ?_ | with_reducible refine wg_isNl ?_ | with_reducible refine wg_isNo ?_ | with_reducible refine wg_notNn ?_ | with_reducible refine wg_notNi ?_ | with_reducible refine wg_notNs ?_ | with_reducible refine wg_notNt ?_ | with_reducible refine wg_notNl ?_ | with_reducible refine wg_notNo ?_ | ((with_reducible apply wg_lenS); (· sizeOf_list_dec)) | with_reducible refine wg_lenL ?_ | with_reducible refine wg_lenT ?_ | ((with_reducible apply wg_lenM); (· array_mem_dec)) | ((with_reducible apply wg_lenD); (· array_mem_dec)) | with_reducible refine wg_intI ?_ | with_reducible refine wg_intB ?_ | with_reducible refine wg_ord ?_ | with_reducible refine wg_max2 ?_ | with_reducible refine wg_min2 ?_ | with_reducible refine key_int ?_ | with_reducible refine key_str ?_ | ((with_reducible apply wg_look); (· exact rfl)) | ((with_reducible apply wdicR); (· array_mem_dec)) | ((with_reducible apply wdicRF); (· array_mem_dec)) | ((with_reducible apply wdicAt); (· array_mem_dec)) | ((with_reducible apply wput_dic); (· array_mem_dec); (· exact rfl); (· sizeOf_list_dec)) | ((with_reducible apply wput_lst); (· array_mem_dec); (· sizeOf_list_dec)) | with_reducible refine wtr_b ?_ | with_reducible refine wtr_n ?_ | with_reducible refine wtr_i ?_ | ((with_reducible apply wtr_s); (· sizeOf_list_dec)) | with_reducible refine wtr_l ?_ | ((with_reducible apply wtr_m); (· array_mem_dec)) | ((with_reducible apply wtr_d); (· array_mem_dec)) | with_reducible refine wpart_n ?_ | with_reducible refine wpart_i ?_ | ((with_reducible apply wsl_s_to); (· sizeOf_list_dec)) | ((with_reducible apply wsl_s_from); (· sizeOf_list_dec)) | ((with_reducible apply wsl_s_mid); (· sizeOf_list_dec)) | with_reducible refine wsl_l_to ?_ | with_reducible refine wsl_l_from ?_ | with_reducible refine wsl_l_mid ?_ | ((with_reducible apply wsl_m_to); (· array_mem_dec)) | ((with_reducible apply wsl_m_from); (· array_mem_dec)) | ((with_reducible apply wsl_m_mid); (· array_mem_dec)) | with_reducible refine wseqL ?_ | with_reducible refine wseqT ?_ | with_reducible refine wseqS ?_ | ((with_reducible apply wseqM); (· array_mem_dec)) | with_reducible refine wstillL ?_ | ((with_reducible apply wstillF); (· array_mem_dec)) | ((with_reducible apply wcopyD); (· array_mem_dec)) | ((with_reducible apply wlistM); (· array_mem_dec)) | with_reducible refine wlistML ?_ | with_reducible refine wlistMT ?_ | with_reducible refine wlistL ?_ | with_reducible refine wlistT ?_ | ((with_reducible apply wlistO); (· array_mem_dec)) | ((with_reducible apply wgisiT); (· exact rfl); (· exact rfl)) | ((with_reducible apply wgisiF); (· exact rfl); (· exact rfl)) | ((with_reducible apply wgisiT); (· exact ty_dic (by array_mem_dec)); (· exact rfl)) | ((with_reducible apply wgisiF); (· exact ty_dic (by array_mem_dec)); (· exact rfl)) | ((with_reducible apply wgisiT); (· exact ty_lstM (by array_mem_dec)); (· exact rfl)) | ((with_reducible apply wgisiF); (· exact ty_lstM (by array_mem_dec)); (· exact rfl)) | ((with_reducible apply ixA_tup); (· exact rfl)) | ((with_reducible apply inA_non); (· array_mem_dec)) | ((with_reducible apply ninA_non); (· array_mem_dec)) | ((with_reducible apply inA_dic); (· array_mem_dec); (· exact rfl)) | ((with_reducible apply inA_dicF); (· array_mem_dec); (· exact rfl)) | ((with_reducible apply ninA_dic); (· array_mem_dec); (· exact rfl)) | ((with_reducible apply ninA_dicF); (· array_mem_dec); (· exact rfl)) ) | ((with_reducible refine id_b ?_); first | with_reducible refine wb_true ?_ | with_reducible refine wb_false ?_ | ((with_reducible apply wb_pos); (· (first | with_reducible exact rfl | assumption | omega | (simp only [List.length_cons, List.length_nil, List.length_map]); (·  omega)))) | ((with_reducible apply wb_neg); (· (first | with_reducible exact rfl | assumption | omega | (simp only [List.length_cons, List.length_nil, List.length_map]); (·  omega)))) | ((with_reducible apply wb_npos); (· (first | with_reducible exact rfl | assumption | omega | (simp only [List.length_cons, List.length_nil, List.length_map]); (·  omega)))) | ((with_reducible apply wb_nneg); (· (first | with_reducible exact rfl | assumption | omega | (simp only [List.length_cons, List.length_nil, List.length_map]); (·  omega)))) | ((with_reducible apply wb_t); (· assumption)) | ((with_reducible apply wb_f); (· assumption)) ) | ((with_reducible refine id_t ?_); first | with_reducible refine wt_T ?_ | with_reducible refine wt_n_0 ?_ | with_reducible refine wt_n_1 ?_ | with_reducible refine wt_n_2 ?_ | with_reducible refine wt_n_3 ?_ | with_reducible refine wt_n_4 ?_ | with_reducible refine wt_n_5 ?_ | with_reducible refine wt_n_6 ?_ | with_reducible refine wt_n_7 ?_ | with_reducible refine wt_n_8 ?_ | with_reducible refine wt_n_9 ?_ | with_reducible refine wt_n_10 ?_ | with_reducible refine wt_n_11 ?_ | with_reducible refine wt_n_12 ?_ | with_reducible refine wt_n_13 ?_ | with_reducible refine wt_n_14 ?_ | with_reducible refine wt_n_15 ?_ | with_reducible refine wt_n_16 ?_ | with_reducible refine wt_n_17 ?_ | with_reducible refine wt_n_18 ?_ | with_reducible refine wt_n_19 ?_ | with_reducible refine wt_n_20 ?_ | with_reducible refine wt_n_21 ?_ | with_reducible refine wt_n_22 ?_ | with_reducible refine wt_n_23 ?_ | with_reducible refine wt_n_24 ?_ | with_reducible refine wt_n_25 ?_ | with_reducible refine wt_n_26 ?_ | with_reducible refine wt_n_27 ?_ | with_reducible refine wt_n_28 ?_ | with_reducible refine wt_n_29 ?_ | with_reducible refine wt_n_30 ?_ | with_reducible refine wt_n_31 ?_ | with_reducible refine wt_n_32 ?_ | with_reducible refine wt_n_33 ?_ | with_reducible refine wt_n_34 ?_ | with_reducible refine wt_n_35 ?_ | with_reducible refine wt_n_36 ?_ | with_reducible refine wt_n_37 ?_ | with_reducible refine wt_n_38 ?_ | with_reducible refine wt_n_39 ?_) | with_reducible refine wts_cons ?_ | with_reducible refine wts_nil ?_ | ((with_reducible refine id_i ?_); first | with_reducible refine wi_rng ?_ | with_reducible refine wi_rng2 ?_ | with_reducible refine wi_seq ?_ | with_reducible refine wi_dic ?_ | with_reducible refine wi_rv ?_ | with_reducible refine wi_en ?_ | with_reducible refine wi_zp ?_) | ((with_reducible refine id_h ?_); first | ((with_reducible apply wh_no); (· exact rfl)) | ((with_reducible apply wh_bare); (· exact rfl)) | ((with_reducible apply wh_yes_0); (· exact rfl)) | ((with_reducible apply wh_yes_1); (· exact rfl)) | ((with_reducible apply wh_yes_2); (· exact rfl)) | ((with_reducible apply wh_yes_3); (· exact rfl)) | ((with_reducible apply wh_yes_4); (· exact rfl)) | ((with_reducible apply wh_yes_5); (· exact rfl)) | ((with_reducible apply wh_yes_6); (· exact rfl)) | ((with_reducible apply wh_yes_7); (· exact rfl)) | ((with_reducible apply wh_yes_8); (· exact rfl)) | ((with_reducible apply wh_yes_9); (· exact rfl)) | ((with_reducible apply wh_yes_10); (· exact rfl)) | ((with_reducible apply wh_yes_11); (· exact rfl)) | ((with_reducible apply wh_yes_12); (· exact rfl)) | ((with_reducible apply wh_yes_13); (· exact rfl)) | ((with_reducible apply wh_yes_14); (· exact rfl)) | ((with_reducible apply wh_yes_15); (· exact rfl)) | ((with_reducible apply wh_yes_16); (· exact rfl)) | ((with_reducible apply wh_yes_17); (· exact rfl)) | ((with_reducible apply wh_yes_18); (· exact rfl)) | ((with_reducible apply wh_yes_19); (· exact rfl)) | ((with_reducible apply wh_yes_20); (· exact rfl)) | ((with_reducible apply wh_yes_21); (· exact rfl)) | ((with_reducible apply wh_yes_22); (· exact rfl)) | ((with_reducible apply wh_yes_23); (· exact rfl)) | ((with_reducible apply wh_yes_24); (· exact rfl)) | ((with_reducible apply wh_yes_25); (· exact rfl)) | ((with_reducible apply wh_yes_26); (· exact rfl)) | ((with_reducible apply wh_yes_27); (· exact rfl)) | ((with_reducible apply wh_yes_28); (· exact rfl)) | ((with_reducible apply wh_yes_29); (· exact rfl)) | ((with_reducible apply wh_yes_30); (· exact rfl)) | ((with_reducible apply wh_yes_31); (· exact rfl)) | ((with_reducible apply wh_yes_32); (· exact rfl)) | ((with_reducible apply wh_yes_33); (· exact rfl)) | ((with_reducible apply wh_yes_34); (· exact rfl)) | ((with_reducible apply wh_yes_35); (· exact rfl)) | ((with_reducible apply wh_yes_36); (· exact rfl)) | ((with_reducible apply wh_yes_37); (· exact rfl)) | ((with_reducible apply wh_yes_38); (· exact rfl)) | ((with_reducible apply wh_yes_39); (· exact rfl)) | with_reducible refine wh_nil ?_) | ((with_reducible refine id_cl ?_); first | with_reducible refine wcl_0 ?_ | with_reducible refine wcl_1 ?_ | with_reducible refine wcl_2 ?_ | with_reducible refine wcl_3 ?_ | with_reducible refine wcl_4 ?_ | with_reducible refine wcl_5 ?_ | with_reducible refine wcl_6 ?_ | with_reducible refine wcl_7 ?_ | with_reducible refine wcl_8 ?_ | with_reducible refine wcl_9 ?_ | with_reducible refine wcl_10 ?_ | with_reducible refine wcl_11 ?_ | with_reducible refine wcl_12 ?_ | with_reducible refine wcl_13 ?_ | with_reducible refine wcl_14 ?_ | with_reducible refine wcl_15 ?_ | with_reducible refine wcl_16 ?_ | with_reducible refine wcl_17 ?_ | with_reducible refine wcl_18 ?_ | with_reducible refine wcl_19 ?_ | with_reducible refine wcl_20 ?_ | with_reducible refine wcl_21 ?_ | with_reducible refine wcl_22 ?_ | with_reducible refine wcl_23 ?_ | with_reducible refine wcl_24 ?_ | with_reducible refine wcl_25 ?_ | with_reducible refine wcl_26 ?_ | with_reducible refine wcl_27 ?_ | with_reducible refine wcl_28 ?_ | with_reducible refine wcl_29 ?_ | with_reducible refine wcl_30 ?_ | with_reducible refine wcl_31 ?_ | with_reducible refine wcl_32 ?_ | with_reducible refine wcl_33 ?_ | with_reducible refine wcl_34 ?_ | with_reducible refine wcl_35 ?_ | with_reducible refine wcl_36 ?_ | with_reducible refine wcl_37 ?_ | with_reducible refine wcl_38 ?_ | with_reducible refine wcl_39 ?_) | with_reducible refine wbl ?_ | with_reducible refine wnot_t ?_ | with_reducible refine wnot_f ?_ | with_reducible refine wnot_n ?_ | with_reducible refine wnot ?_ | with_reducible refine wint ?_ | with_reducible refine wstr ?_ | with_reducible refine wobj ?_ | with_reducible refine wnon ?_ | ((with_reducible apply wat); · array_mem_dec) | ((with_reducible refine wyes_c ?_ ?_); (· exact rfl)) | ((with_reducible refine wyes_k ?_ ?_); (· exact rfl)) | ((with_reducible refine wyes_d ?_ ?_); (· exact ⟨rfl, Nat.le_of_ble_eq_true rfl⟩)) | ((with_reducible refine wyes ?_ ?_); · sizeOf_list_dec) | with_reducible refine wyes wlstT ?_ | with_reducible refine wlst ?_ | with_reducible refine wins ?_ | with_reducible refine winm ?_)
end DM

namespace DM
open PySem PySem.Spec PyProof.Rows L2
local macro_rules | `(tactic| sizeOf_list_dec) => `(tactic| first | assumption | omega | exact Nat.zero_le _ | (simp only [List.length_cons, List.length_nil, List.length_append, List.length_map, List.length_replicate, List.length_range, List.length_take, List.length_drop, List.length_reverse]; omega) | (decide; done))
local macro_rules | `(tactic| array_mem_dec) => `(tactic| (repeat (first | with_reducible assumption | with_reducible exact mem_new | with_reducible apply mem_same' | ((with_reducible apply mem_ne'); (· first | assumption | omega)) | with_reducible apply mem_old | with_reducible exact mem_hd | with_reducible apply mem_app)); done)
local macro_rules | `(tactic| array_get_dec) => `(tactic| first | ((with_reducible refine id_e ?_); first | with_reducible refine we_c ?_ | with_reducible refine we_op ?_ | with_reducible refine we_cb ?_ | with_reducible refine we_call0 ?_ | with_reducible refine we_call ?_ | with_reducible refine we_B ?_ | with_reducible refine we_tru ?_ | with_reducible refine we_not ?_ | with_reducible refine we_and ?_ | with_reducible refine we_or ?_ | with_reducible refine we_if ?_ | with_reducible refine we_neg ?_ | with_reducible refine we_I ?_ | with_reducible refine we_chain ?_ | with_reducible refine we_tup ?_ | with_reducible refine we_lst ?_ | with_reducible refine we_lstM0 ?_ | with_reducible refine we_lstM ?_ | with_reducible refine we_dnew ?_ | with_reducible refine we_sl ?_ | with_reducible refine we_m1 ?_ | with_reducible refine we_isiT ?_ | with_reducible refine we_append ?_ | with_reducible refine we_get1 ?_ | with_reducible refine we_get2 ?_ | with_reducible refine we_pop2 ?_ | with_reducible refine we_pop1 ?_ | with_reducible refine we_cm ?_ | with_reducible refine we_fld ?_ | with_reducible refine we_meth ?_ | with_reducible refine we_make ?_ | with_reducible refine we_yes ?_ | with_reducible refine we_popA ?_ | ((with_reducible apply we_xf); (· exact rfl)) | ((with_reducible apply we_is); (· exact rfl)) | with_reducible refine we_var_0 ?_ | with_reducible refine we_var_1 ?_ | with_reducible refine we_var_2 ?_ | with_reducible refine we_var_3 ?_ | with_reducible refine we_var_4 ?_ | with_reducible refine we_var_5 ?_ | with_reducible refine we_var_6 ?_ | with_reducible refine we_var_7 ?_ | with_reducible refine we_var_8 ?_ | with_reducible refine we_var_9 ?_ | with_reducible refine we_var_10 ?_ | with_reducible refine we_var_11 ?_ | with_reducible refine we_var_12 ?_ | with_reducible refine we_var_13 ?_ | with_reducible refine we_var_14 ?_ | with_reducible refine we_var_15 ?_ | with_reducible refine we_var_16 ?_ | with_reducible refine we_var_17 ?_ | with_reducible refine we_var_18 ?_ | with_reducible refine we_var_19 ?_ | with_reducible refine we_var_20 ?_ | with_reducible refine we_var_21 ?_ | with_reducible refine we_var_22 ?_ | with_reducible refine we_var_23 ?_ | with_reducible refine we_var_24 ?_ | with_reducible refine we_var_25 ?_ | with_reducible refine we_var_26 ?_ | with_reducible refine we_var_27 ?_ | with_reducible refine we_var_28 ?_ | with_reducible refine we_var_29 ?_ | with_reducible refine we_var_30 ?_ | with_reducible refine we_var_31 ?_ | with_reducible refine we_var_32 ?_ | with_reducible refine we_var_33 ?_ | with_reducible refine we_var_34 ?_ | with_reducible refine we_var_35 ?_ | with_reducible refine we_var_36 ?_ | with_reducible refine we_var_37 ?_ | with_reducible refine we_var_38 ?_ | with_reducible refine we_var_39 ?_) | ((with_reducible refine id_s ?_); first | with_reducible refine ws_seq ?_ | with_reducible refine ws_next ?_ | with_reducible refine ws_drop ?_ | with_reducible refine ws_ret ?_ | with_reducible refine ws_retN ?_ | with_reducible refine ws_brk ?_ | with_reducible refine ws_cnt ?_ | with_reducible refine ws_asg ?_ | with_reducible refine ws_if ?_ | with_reducible refine ws_put ?_ | with_reducible refine ws_fldP ?_ | with_reducible refine ws_fldA ?_ | with_reducible refine ws_daug ?_ | with_reducible refine ws_try ?_ | with_reducible refine ws_raise ?_ | with_reducible refine ws_raise0 ?_ | with_reducible refine ws_set_0 ?_ | with_reducible refine ws_set_1 ?_ | with_reducible refine ws_set_2 ?_ | with_reducible refine ws_set_3 ?_ | with_reducible refine ws_set_4 ?_ | with_reducible refine ws_set_5 ?_ | with_reducible refine ws_set_6 ?_ | with_reducible refine ws_set_7 ?_ | with_reducible refine ws_set_8 ?_ | with_reducible refine ws_set_9 ?_ | with_reducible refine ws_set_10 ?_ | with_reducible refine ws_set_11 ?_ | with_reducible refine ws_set_12 ?_ | with_reducible refine ws_set_13 ?_ | with_reducible refine ws_set_14 ?_ | with_reducible refine ws_set_15 ?_ | with_reducible refine ws_set_16 ?_ | with_reducible refine ws_set_17 ?_ | with_reducible refine ws_set_18 ?_ | with_reducible refine ws_set_19 ?_ | with_reducible refine ws_set_20 ?_ | with_reducible refine ws_set_21 ?_ | with_reducible refine ws_set_22 ?_ | with_reducible refine ws_set_23 ?_ | with_reducible refine ws_set_24 ?_ | with_reducible refine ws_set_25 ?_ | with_reducible refine ws_set_26 ?_ | with_reducible refine ws_set_27 ?_ | with_reducible refine ws_set_28 ?_ | with_reducible refine ws_set_29 ?_ | with_reducible refine ws_set_30 ?_ | with_reducible refine ws_set_31 ?_ | with_reducible refine ws_set_32 ?_ | with_reducible refine ws_set_33 ?_ | with_reducible refine ws_set_34 ?_ | with_reducible refine ws_set_35 ?_ | with_reducible refine ws_set_36 ?_ | with_reducible refine ws_set_37 ?_ | with_reducible refine ws_set_38 ?_ | with_reducible refine ws_set_39 ?_ | with_reducible refine ws_aug_0 ?_ | with_reducible refine ws_aug_1 ?_ | with_reducible refine ws_aug_2 ?_ | with_reducible refine ws_aug_3 ?_ | with_reducible refine ws_aug_4 ?_ | with_reducible refine ws_aug_5 ?_ | with_reducible refine ws_aug_6 ?_ | with_reducible refine ws_aug_7 ?_ | with_reducible refine ws_aug_8 ?_ | with_reducible refine ws_aug_9 ?_ | with_reducible refine ws_aug_10 ?_ | with_reducible refine ws_aug_11 ?_ | with_reducible refine ws_aug_12 ?_ | with_reducible refine ws_aug_13 ?_ | with_reducible refine ws_aug_14 ?_ | with_reducible refine ws_aug_15 ?_ | with_reducible refine ws_aug_16 ?_ | with_reducible refine ws_aug_17 ?_ | with_reducible refine ws_aug_18 ?_ | with_reducible refine ws_aug_19 ?_ | with_reducible refine ws_aug_20 ?_ | with_reducible refine ws_aug_21 ?_ | with_reducible refine ws_aug_22 ?_ | with_reducible refine ws_aug_23 ?_ | with_reducible refine ws_aug_24 ?_ | with_reducible refine ws_aug_25 ?_ | with_reducible refine ws_aug_26 ?_ | with_reducible refine ws_aug_27 ?_ | with_reducible refine ws_aug_28 ?_ | with_reducible refine ws_aug_29 ?_ | with_reducible refine ws_aug_30 ?_ | with_reducible refine ws_aug_31 ?_ | with_reducible refine ws_aug_32 ?_ | with_reducible refine ws_aug_33 ?_ | with_reducible refine ws_aug_34 ?_ | with_reducible refine ws_aug_35 ?_ | with_reducible refine ws_aug_36 ?_ | with_reducible refine ws_aug_37 ?_ | with_reducible refine ws_aug_38 ?_ | with_reducible refine ws_aug_39 ?_) | ((with_reducible refine id_a ?_); first | with_reducible refine wa_cons ?_ | with_reducible refine wa_nil ?_) | ((with_reducible refine id_g ?_); first | with_reducible refine wg_add ?_ | ((with_reducible apply wg_adds); (· sizeOf_list_dec)) | ((with_reducible apply wg_addl); (· sizeOf_list_dec)) | with_reducible refine wg_plus ?_ | ((with_reducible apply wg_pluss); (· sizeOf_list_dec)) | with_reducible refine wg_plusI ?_ | with_reducible refine wg_minus ?_ | with_reducible refine wg_sub ?_ | with_reducible refine wg_pow9 ?_ | with_reducible refine wg_pow6 ?_ | with_reducible refine wg_pow3 ?_ | with_reducible refine wg_pow18 ?_ | ((with_reducible apply wg_mod); (· sizeOf_list_dec)) | ((with_reducible apply wg_div); (· sizeOf_list_dec)) | ((with_reducible apply wg_mul); (· sizeOf_list_dec)) | ((with_reducible apply wg_mulA); (· sizeOf_list_dec)) | ((with_reducible apply wg_mulS1); (· sizeOf_list_dec)) | ((with_reducible apply wg_mulS); (· sizeOf_list_dec)) | with_reducible refine wg_lt ?_ | with_reducible refine wg_le ?_ | with_reducible refine wg_gt ?_ | with_reducible refine wg_ge ?_ | with_reducible refine wg_eq ?_ | with_reducible refine wg_ne ?_ | with_reducible refine wg_eqs ?_ | with_reducible refine wg_nes ?_ | with_reducible refine wg_eqnn ?_ | with_reducible refine wg_eqni ?_ | with_reducible refine wg_eqin ?_ | with_reducible refine wg_eqns ?_ | with_reducible refine wg_eqsn ?_ | with_reducible refine wg_nenn ?_ | with_reducible refine wg_neni ?_ | with_reducible refine wg_nein ?_ | with_reducible refine wg_nens ?_ | with_reducible refine wg_nesn ?_ | with_reducible refine wg_isNn ?_ | with_reducible refine wg_isNi ?_ | with_reducible refine wg_isNs ?_ | with_reducible refine wg_isNt ?_ | with_reducible refine wg_isNl ?_ | with_reducible refine wg_isNo ?_ | with_reducible refine wg_notNn ?_ | with_reducible refine wg_notNi ?_ | with_reducible refine wg_notNs ?_ | with_reducible refine wg_notNt ?_ | with_reducible refine wg_notNl ?_ | with_reducible refine wg_notNo ?_ | ((with_reducible apply wg_lenS); (· sizeOf_list_dec)) | with_reducible refine wg_lenL ?_ | with_reducible refine wg_lenT ?_ | ((with_reducible apply wg_lenM); (· array_mem_dec)) | ((with_reducible apply wg_lenD); (· array_mem_dec)) | with_reducible refine wg_intI ?_ | with_reducible refine wg_intB ?_ | with_reducible refine wg_ord ?_ | with_reducible refine wg_max2 ?_ | with_reducible refine wg_min2 ?_ | with_reducible refine key_int ?_ | with_reducible refine key_str ?_ | ((with_reducible apply wg_look); (· exact rfl)) | ((with_reducible apply wdicR); (· array_mem_dec)) | ((with_reducible apply wdicRF); (· array_mem_dec)) | ((with_reducible apply wdicAt); (· array_mem_dec)) | ((with_reducible apply wput_dic); (· array_mem_dec); (· exact rfl); (· sizeOf_list_dec)) | ((with_reducible apply wput_lst); (· array_mem_dec); (· sizeOf_list_dec)) | with_reducible refine wtr_b ?_ | with_reducible refine wtr_n ?_ | with_reducible refine wtr_i ?_ | ((with_reducible apply wtr_s); (· sizeOf_list_dec)) | with_reducible refine wtr_l ?_ | ((with_reducible apply wtr_m); (· array_mem_dec)) | ((with_reducible apply wtr_d); (· array_mem_dec)) | with_reducible refine wpart_n ?_ | with_reducible refine wpart_i ?_ | ((with_reducible apply wsl_s_to); (· sizeOf_list_dec)) | ((with_reducible apply wsl_s_from); (· sizeOf_list_dec)) | ((with_reducible apply wsl_s_mid); (· sizeOf_list_dec)) | with_reducible refine wsl_l_to ?_ | with_reducible refine wsl_l_from ?_ | with_reducible refine wsl_l_mid ?_ | ((with_reducible apply wsl_m_to); (· array_mem_dec)) | ((with_reducible apply wsl_m_from); (· array_mem_dec)) | ((with_reducible apply wsl_m_mid); (· array_mem_dec)) | with_reducible refine wseqL ?_ | with_reducible refine wseqT ?_ | with_reducible refine wseqS ?_ | ((with_reducible apply wseqM); (· array_mem_dec)) | with_reducible refine wstillL ?_ | ((with_reducible apply wstillF); (· array_mem_dec)) | ((with_reducible apply wcopyD); (· array_mem_dec)) | ((with_reducible apply wlistM); (· array_mem_dec)) | with_reducible refine wlistML ?_ | with_reducible refine wlistMT ?_ | with_reducible refine wlistL ?_ | with_reducible refine wlistT ?_ | ((with_reducible apply wlistO); (· array_mem_dec)) | ((with_reducible apply wgisiT); (· exact rfl); (· exact rfl)) | ((with_reducible apply wgisiF); (· exact rfl); (· exact rfl)) | ((with_reducible apply wgisiT); (· exact ty_dic (by array_mem_dec)); (· exact rfl)) | ((with_reducible apply wgisiF); (· exact ty_dic (by array_mem_dec)); (· exact rfl)) | ((with_reducible apply wgisiT); (· exact ty_lstM (by array_mem_dec)); (· exact rfl)) | ((with_reducible apply wgisiF); (· exact ty_lstM (by array_mem_dec)); (· exact rfl)) | ((with_reducible apply ixA_tup); (· exact rfl)) | ((with_reducible apply inA_non); (· array_mem_dec)) | ((with_reducible apply ninA_non); (· array_mem_dec)) | ((with_reducible apply inA_dic); (· array_mem_dec); (· exact rfl)) | ((with_reducible apply inA_dicF); (· array_mem_dec); (· exact rfl)) | ((with_reducible apply ninA_dic); (· array_mem_dec); (· exact rfl)) | ((with_reducible apply ninA_dicF); (· array_mem_dec); (· exact rfl)) ) | ((with_reducible refine id_b ?_); first | with_reducible refine wb_true ?_ | with_reducible refine wb_false ?_ | ((with_reducible apply wb_pos); (· (first | with_reducible exact rfl | assumption | omega | (simp only [List.length_cons, List.length_nil, List.length_map]); (·  omega)))) | ((with_reducible apply wb_neg); (· (first | with_reducible exact rfl | assumption | omega | (simp only [List.length_cons, List.length_nil, List.length_map]); (·  omega)))) | ((with_reducible apply wb_npos); (· (first | with_reducible exact rfl | assumption | omega | (simp only [List.length_cons, List.length_nil, List.length_map]); (·  omega)))) | ((with_reducible apply wb_nneg); (· (first | with_reducible exact rfl | assumption | omega | (simp only [List.length_cons, List.length_nil, List.length_map]); (·  omega)))) | ((with_reducible apply wb_t); (· assumption)) | ((with_reducible apply wb_f); (· assumption)) ) | ((with_reducible refine id_t ?_); first | with_reducible refine wt_T ?_ | with_reducible refine wt_n_0 ?_ | with_reducible refine wt_n_1 ?_ | with_reducible refine wt_n_2 ?_ | with_reducible refine wt_n_3 ?_ | with_reducible refine wt_n_4 ?_ | with_reducible refine wt_n_5 ?_ | with_reducible refine wt_n_6 ?_ | with_reducible refine wt_n_7 ?_ | with_reducible refine wt_n_8 ?_ | with_reducible refine wt_n_9 ?_ | with_reducible refine wt_n_10 ?_ | with_reducible refine wt_n_11 ?_ | with_reducible refine wt_n_12 ?_ | with_reducible refine wt_n_13 ?_ | with_reducible refine wt_n_14 ?_ | with_reducible refine wt_n_15 ?_ | with_reducible refine wt_n_16 ?_ | with_reducible refine wt_n_17 ?_ | with_reducible refine wt_n_18 ?_ | with_reducible refine wt_n_19 ?_ | with_reducible refine wt_n_20 ?_ | with_reducible refine wt_n_21 ?_ | with_reducible refine wt_n_22 ?_ | with_reducible refine wt_n_23 ?_ | with_reducible refine wt_n_24 ?_ | with_reducible refine wt_n_25 ?_ | with_reducible refine wt_n_26 ?_ | with_reducible refine wt_n_27 ?_ | with_reducible refine wt_n_28 ?_ | with_reducible refine wt_n_29 ?_ | with_reducible refine wt_n_30 ?_ | with_reducible refine wt_n_31 ?_ | with_reducible refine wt_n_32 ?_ | with_reducible refine wt_n_33 ?_ | with_reducible refine wt_n_34 ?_ | with_reducible refine wt_n_35 ?_ | with_reducible refine wt_n_36 ?_ | with_reducible refine wt_n_37 ?_ | with_reducible refine wt_n_38 ?_ | with_reducible refine wt_n_39 ?_) | with_reducible refine wts_cons ?_ | with_reducible refine wts_nil ?_ | ((with_reducible refine id_i ?_); first | with_reducible refine wi_rng ?_ | with_reducible refine wi_rng2 ?_ | with_reducible refine wi_seq ?_ | with_reducible refine wi_dic ?_ | with_reducible refine wi_rv ?_ | with_reducible refine wi_en ?_ | with_reducible refine wi_zp ?_) | ((with_reducible refine id_h ?_); first | ((with_reducible apply wh_no); (· exact rfl)) | ((with_reducible apply wh_bare); (· exact rfl)) | ((with_reducible apply wh_yes_0); (· exact rfl)) | ((with_reducible apply wh_yes_1); (· exact rfl)) | ((with_reducible apply wh_yes_2); (· exact rfl)) | ((with_reducible apply wh_yes_3); (· exact rfl)) | ((with_reducible apply wh_yes_4); (· exact rfl)) | ((with_reducible apply wh_yes_5); (· exact rfl)) | ((with_reducible apply wh_yes_6); (· exact rfl)) | ((with_reducible apply wh_yes_7); (· exact rfl)) | ((with_reducible apply wh_yes_8); (· exact rfl)) | ((with_reducible apply wh_yes_9); (· exact rfl)) | ((with_reducible apply wh_yes_10); (· exact rfl)) | ((with_reducible apply wh_yes_11); (· exact rfl)) | ((with_reducible apply wh_yes_12); (· exact rfl)) | ((with_reducible apply wh_yes_13); (· exact rfl)) | ((with_reducible apply wh_yes_14); (· exact rfl)) | ((with_reducible apply wh_yes_15); (· exact rfl)) | ((with_reducible apply wh_yes_16); (· exact rfl)) | ((with_reducible apply wh_yes_17); (· exact rfl)) | ((with_reducible apply wh_yes_18); (· exact rfl)) | ((with_reducible apply wh_yes_19); (· exact rfl)) | ((with_reducible apply wh_yes_20); (· exact rfl)) | ((with_reducible apply wh_yes_21); (· exact rfl)) | ((with_reducible apply wh_yes_22); (· exact rfl)) | ((with_reducible apply wh_yes_23); (· exact rfl)) | ((with_reducible apply wh_yes_24); (· exact rfl)) | ((with_reducible apply wh_yes_25); (· exact rfl)) | ((with_reducible apply wh_yes_26); (· exact rfl)) | ((with_reducible apply wh_yes_27); (· exact rfl)) | ((with_reducible apply wh_yes_28); (· exact rfl)) | ((with_reducible apply wh_yes_29); (· exact rfl)) | ((with_reducible apply wh_yes_30); (· exact rfl)) | ((with_reducible apply wh_yes_31); (· exact rfl)) | ((with_reducible apply wh_yes_32); (· exact rfl)) | ((with_reducible apply wh_yes_33); (· exact rfl)) | ((with_reducible apply wh_yes_34); (· exact rfl)) | ((with_reducible apply wh_yes_35); (· exact rfl)) | ((with_reducible apply wh_yes_36); (· exact rfl)) | ((with_reducible apply wh_yes_37); (· exact rfl)) | ((with_reducible apply wh_yes_38); (· exact rfl)) | ((with_reducible apply wh_yes_39); (· exact rfl)) | with_reducible refine wh_nil ?_) | ((with_reducible refine id_cl ?_); first | with_reducible refine wcl_0 ?_ | with_reducible refine wcl_1 ?_ | with_reducible refine wcl_2 ?_ | with_reducible refine wcl_3 ?_ | with_reducible refine wcl_4 ?_ | with_reducible refine wcl_5 ?_ | with_reducible refine wcl_6 ?_ | with_reducible refine wcl_7 ?_ | with_reducible refine wcl_8 ?_ | with_reducible refine wcl_9 ?_ | with_reducible refine wcl_10 ?_ | with_reducible refine wcl_11 ?_ | with_reducible refine wcl_12 ?_ | with_reducible refine wcl_13 ?_ | with_reducible refine wcl_14 ?_ | with_reducible refine wcl_15 ?_ | with_reducible refine wcl_16 ?_ | with_reducible refine wcl_17 ?_ | with_reducible refine wcl_18 ?_ | with_reducible refine wcl_19 ?_ | with_reducible refine wcl_20 ?_ | with_reducible refine wcl_21 ?_ | with_reducible refine wcl_22 ?_ | with_reducible refine wcl_23 ?_ | with_reducible refine wcl_24 ?_ | with_reducible refine wcl_25 ?_ | with_reducible refine wcl_26 ?_ | with_reducible refine wcl_27 ?_ | with_reducible refine wcl_28 ?_ | with_reducible refine wcl_29 ?_ | with_reducible refine wcl_30 ?_ | with_reducible refine wcl_31 ?_ | with_reducible refine wcl_32 ?_ | with_reducible refine wcl_33 ?_ | with_reducible refine wcl_34 ?_ | with_reducible refine wcl_35 ?_ | with_reducible refine wcl_36 ?_ | with_reducible refine wcl_37 ?_ | with_reducible refine wcl_38 ?_ | with_reducible refine wcl_39 ?_) | with_reducible refine wbl ?_ | with_reducible refine wnot_t ?_ | with_reducible refine wnot_f ?_ | with_reducible refine wnot_n ?_ | with_reducible refine wnot ?_ | with_reducible refine wint ?_ | with_reducible refine wstr ?_ | with_reducible refine wobj ?_ | with_reducible refine wnon ?_ | ((with_reducible apply wat); · array_mem_dec) | ((with_reducible refine wyes_c ?_ ?_); (· exact rfl)) | ((with_reducible refine wyes_k ?_ ?_); (· exact rfl)) | ((with_reducible refine wyes_d ?_ ?_); (· exact ⟨rfl, Nat.le_of_ble_eq_true rfl⟩)) | ((with_reducible refine wyes ?_ ?_); · sizeOf_list_dec) | with_reducible refine wyes wlstT ?_ | with_reducible refine wlst ?_ | with_reducible refine wins ?_ | with_reducible refine winm ?_)
abbrev clS : List Nat := [99, 108, 111, 115, 101, 100]
abbrev drS : List Nat := [100, 114, 111, 112, 112, 101, 100]
abbrev Pr := List Nat × List (Int × Int)
def nowAt (now : List Int) (r : Int) : Int := (now[r.toNat]?).getD 0
def beyF (now : List Int) (S : List (Int × Int)) : Option Int := (S.find? fun s => decide (nowAt now s.1 ≤ s.2)).map (·.1)
def othF (now : List Int) (p : Pr) : Option Int := if p.1 = clS then beyF now p.2 else none
def lowF (now : List Int) (p : Pr) : Option ((Int × Int) × Option Int) :=
  if p.1 = drS ∨ (p.1 = clS ∧ othF now p = none) then none else (p.2.find? fun s => decide (s.2 < nowAt now s.1)).map fun s => (s, othF now p)
def stD (k : Int) (x : (Int × Int) × Option Int) : DV := .tup [.int x.1.1, .int x.1.2, .int k, optD x.2]
def SpOk (n : Nat) (S : List (Int × Int)) : Prop := ∀ s, s ∈ S → 0 ≤ s.1 ∧ s.1 < (n : Int)
variable {m m' : Mu} {no : Nat} {x y : DV} {now E : List Int} {S : List (Int × Int)} {PS : List Pr}
def lowD (k : Int) : Option ((Int × Int) × Option Int) → DV
  | none => .non
  | some x => stD k x
structure Stp where
  r : Int
  p : Int
  k : Int
  o : Option Int
def Stp.d (s : Stp) : DV := .tup [.int s.r, .int s.p, .int s.k, optD s.o]
inductive Rch (PS : List Pr) (E : List Int) : List Stp → List Int → Prop
  | nil : Rch PS E [] E
  | snoc {L : List Stp} {now : List Int} {s : Stp} {i : Nat} {p : Pr} : Rch PS E L now → s.k = (i : Int) + 1 → PS[i]? = some p → lowF now p = some ((s.r, s.p), s.o) → Rch PS E (L ++ [s]) (now.set s.r.toNat s.p)
theorem low_mem {p : Pr} {s : Int × Int} {o : Option Int} (h : lowF now p = some (s, o)) : s ∈ p.2 ∧ s.2 < nowAt now s.1 := by
  unfold lowF at h
  split at h
  · cases h
  · cases e : p.2.find? fun s => decide (s.2 < nowAt now s.1) with
    | none => rw [e] at h; cases h
    | some t =>
      rw [e] at h
      cases h
      exact ⟨List.mem_of_find?_eq_some e, by simpa using List.find?_some e⟩
theorem nowAt_set {r v : Int} (hr : 0 ≤ r ∧ r < (now.length : Int)) {q : Int} (hq : 0 ≤ q) : nowAt (now.set r.toNat v) q = if q = r then v else nowAt now q := by
  unfold nowAt
  by_cases c : q = r
  · subst c
    rw [if_pos rfl, List.getElem?_set_self (by omega)]
    rfl
  · rw [if_neg c, List.getElem?_set_ne (by omega)]
def PsOk (n : Nat) (PS : List Pr) : Prop := ∀ p, p ∈ PS → SpOk n p.2
theorem Rch.len {L : List Stp} (h : Rch PS E L now) : now.length = E.length := by
  induction h with
  | nil => rfl
  | snoc _ _ _ _ ih => rw [List.length_set]; exact ih
theorem Rch.le {L : List Stp} (h : Rch PS E L now) (ok : PsOk E.length PS) : ∀ r : Int, 0 ≤ r → nowAt now r ≤ nowAt E r := by
  induction h with
  | nil => exact fun r _ => Int.le_refl _
  | snoc h0 hk hp hlow ih =>
    rename_i L0 now0 s i p
    obtain ⟨h1, h2⟩ := low_mem hlow
    have hr := ok p (List.mem_of_getElem? hp) _ h1
    dsimp only at hr h1 h2
    intro r r0
    rw [nowAt_set (by rw [h0.len]; exact hr) r0]
    have := ih r r0
    by_cases c : r = s.r
    · rw [if_pos c, c]
      have := ih s.r (by omega)
      omega
    · rw [if_neg c]
      exact this
def PrD (m : Mu) (p : Pr) (v : DV) : Prop := ∃ y, v = .tup [.str p.1, y] ∧ SeqAt' m y (p.2.map spD)
structure PrsAt (m : Mu) (y : DV) (PS : List Pr) (vs : List DV) : Prop where
  sq : SeqAt' m y vs
  ln : vs.length = PS.length
  at_ : ∀ (i : Nat) p, PS[i]? = some p → ∃ v, vs[i]? = some v ∧ PrD m p v
end DM

namespace DM
open PySem PySem.Spec PyProof.Rows L2
local macro_rules | `(tactic| sizeOf_list_dec) => `(tactic| first | assumption | omega | exact Nat.zero_le _ | (simp only [List.length_cons, List.length_nil, List.length_append, List.length_map, List.length_replicate, List.length_range, List.length_take, List.length_drop, List.length_reverse]; omega) | (decide; done))
local macro_rules | `(tactic| array_mem_dec) => `(tactic| (repeat (first | with_reducible assumption | with_reducible exact mem_new | with_reducible apply mem_same' | ((with_reducible apply mem_ne'); (· first | assumption | omega)) | with_reducible apply mem_old | with_reducible exact mem_hd | with_reducible apply mem_app)); done)
local macro_rules | `(tactic| array_get_dec) => `(tactic| first | ((with_reducible refine id_e ?_); first | with_reducible refine we_c ?_ | with_reducible refine we_op ?_ | with_reducible refine we_cb ?_ | with_reducible refine we_call0 ?_ | with_reducible refine we_call ?_ | with_reducible refine we_B ?_ | with_reducible refine we_tru ?_ | with_reducible refine we_not ?_ | with_reducible refine we_and ?_ | with_reducible refine we_or ?_ | with_reducible refine we_if ?_ | with_reducible refine we_neg ?_ | with_reducible refine we_I ?_ | with_reducible refine we_chain ?_ | with_reducible refine we_tup ?_ | with_reducible refine we_lst ?_ | with_reducible refine we_lstM0 ?_ | with_reducible refine we_lstM ?_ | with_reducible refine we_dnew ?_ | with_reducible refine we_sl ?_ | with_reducible refine we_m1 ?_ | with_reducible refine we_isiT ?_ | with_reducible refine we_append ?_ | with_reducible refine we_get1 ?_ | with_reducible refine we_get2 ?_ | with_reducible refine we_pop2 ?_ | with_reducible refine we_pop1 ?_ | with_reducible refine we_cm ?_ | with_reducible refine we_fld ?_ | with_reducible refine we_meth ?_ | with_reducible refine we_make ?_ | with_reducible refine we_yes ?_ | with_reducible refine we_popA ?_ | ((with_reducible apply we_xf); (· exact rfl)) | ((with_reducible apply we_is); (· exact rfl)) | with_reducible refine we_var_0 ?_ | with_reducible refine we_var_1 ?_ | with_reducible refine we_var_2 ?_ | with_reducible refine we_var_3 ?_ | with_reducible refine we_var_4 ?_ | with_reducible refine we_var_5 ?_ | with_reducible refine we_var_6 ?_ | with_reducible refine we_var_7 ?_ | with_reducible refine we_var_8 ?_ | with_reducible refine we_var_9 ?_ | with_reducible refine we_var_10 ?_ | with_reducible refine we_var_11 ?_ | with_reducible refine we_var_12 ?_ | with_reducible refine we_var_13 ?_ | with_reducible refine we_var_14 ?_ | with_reducible refine we_var_15 ?_ | with_reducible refine we_var_16 ?_ | with_reducible refine we_var_17 ?_ | with_reducible refine we_var_18 ?_ | with_reducible refine we_var_19 ?_ | with_reducible refine we_var_20 ?_ | with_reducible refine we_var_21 ?_ | with_reducible refine we_var_22 ?_ | with_reducible refine we_var_23 ?_ | with_reducible refine we_var_24 ?_ | with_reducible refine we_var_25 ?_ | with_reducible refine we_var_26 ?_ | with_reducible refine we_var_27 ?_ | with_reducible refine we_var_28 ?_ | with_reducible refine we_var_29 ?_ | with_reducible refine we_var_30 ?_ | with_reducible refine we_var_31 ?_ | with_reducible refine we_var_32 ?_ | with_reducible refine we_var_33 ?_ | with_reducible refine we_var_34 ?_ | with_reducible refine we_var_35 ?_ | with_reducible refine we_var_36 ?_ | with_reducible refine we_var_37 ?_ | with_reducible refine we_var_38 ?_ | with_reducible refine we_var_39 ?_) | ((with_reducible refine id_s ?_); first | with_reducible refine ws_seq ?_ | with_reducible refine ws_next ?_ | with_reducible refine ws_drop ?_ | with_reducible refine ws_ret ?_ | with_reducible refine ws_retN ?_ | with_reducible refine ws_brk ?_ | with_reducible refine ws_cnt ?_ | with_reducible refine ws_asg ?_ | with_reducible refine ws_if ?_ | with_reducible refine ws_put ?_ | with_reducible refine ws_fldP ?_ | with_reducible refine ws_fldA ?_ | with_reducible refine ws_daug ?_ | with_reducible refine ws_try ?_ | with_reducible refine ws_raise ?_ | with_reducible refine ws_raise0 ?_ | with_reducible refine ws_set_0 ?_ | with_reducible refine ws_set_1 ?_ | with_reducible refine ws_set_2 ?_ | with_reducible refine ws_set_3 ?_ | with_reducible refine ws_set_4 ?_ | with_reducible refine ws_set_5 ?_ | with_reducible refine ws_set_6 ?_ | with_reducible refine ws_set_7 ?_ | with_reducible refine ws_set_8 ?_ | with_reducible refine ws_set_9 ?_ | with_reducible refine ws_set_10 ?_ | with_reducible refine ws_set_11 ?_ | with_reducible refine ws_set_12 ?_ | with_reducible refine ws_set_13 ?_ | with_reducible refine ws_set_14 ?_ | with_reducible refine ws_set_15 ?_ | with_reducible refine ws_set_16 ?_ | with_reducible refine ws_set_17 ?_ | with_reducible refine ws_set_18 ?_ | with_reducible refine ws_set_19 ?_ | with_reducible refine ws_set_20 ?_ | with_reducible refine ws_set_21 ?_ | with_reducible refine ws_set_22 ?_ | with_reducible refine ws_set_23 ?_ | with_reducible refine ws_set_24 ?_ | with_reducible refine ws_set_25 ?_ | with_reducible refine ws_set_26 ?_ | with_reducible refine ws_set_27 ?_ | with_reducible refine ws_set_28 ?_ | with_reducible refine ws_set_29 ?_ | with_reducible refine ws_set_30 ?_ | with_reducible refine ws_set_31 ?_ | with_reducible refine ws_set_32 ?_ | with_reducible refine ws_set_33 ?_ | with_reducible refine ws_set_34 ?_ | with_reducible refine ws_set_35 ?_ | with_reducible refine ws_set_36 ?_ | with_reducible refine ws_set_37 ?_ | with_reducible refine ws_set_38 ?_ | with_reducible refine ws_set_39 ?_ | with_reducible refine ws_aug_0 ?_ | with_reducible refine ws_aug_1 ?_ | with_reducible refine ws_aug_2 ?_ | with_reducible refine ws_aug_3 ?_ | with_reducible refine ws_aug_4 ?_ | with_reducible refine ws_aug_5 ?_ | with_reducible refine ws_aug_6 ?_ | with_reducible refine ws_aug_7 ?_ | with_reducible refine ws_aug_8 ?_ | with_reducible refine ws_aug_9 ?_ | with_reducible refine ws_aug_10 ?_ | with_reducible refine ws_aug_11 ?_ | with_reducible refine ws_aug_12 ?_ | with_reducible refine ws_aug_13 ?_ | with_reducible refine ws_aug_14 ?_ | with_reducible refine ws_aug_15 ?_ | with_reducible refine ws_aug_16 ?_ | with_reducible refine ws_aug_17 ?_ | with_reducible refine ws_aug_18 ?_ | with_reducible refine ws_aug_19 ?_ | with_reducible refine ws_aug_20 ?_ | with_reducible refine ws_aug_21 ?_ | with_reducible refine ws_aug_22 ?_ | with_reducible refine ws_aug_23 ?_ | with_reducible refine ws_aug_24 ?_ | with_reducible refine ws_aug_25 ?_ | with_reducible refine ws_aug_26 ?_ | with_reducible refine ws_aug_27 ?_ | with_reducible refine ws_aug_28 ?_ | with_reducible refine ws_aug_29 ?_ | with_reducible refine ws_aug_30 ?_ | with_reducible refine ws_aug_31 ?_ | with_reducible refine ws_aug_32 ?_ | with_reducible refine ws_aug_33 ?_ | with_reducible refine ws_aug_34 ?_ | with_reducible refine ws_aug_35 ?_ | with_reducible refine ws_aug_36 ?_ | with_reducible refine ws_aug_37 ?_ | with_reducible refine ws_aug_38 ?_ | with_reducible refine ws_aug_39 ?_) | ((with_reducible refine id_a ?_); first | with_reducible refine wa_cons ?_ | with_reducible refine wa_nil ?_) | ((with_reducible refine id_g ?_); first | with_reducible refine wg_add ?_ | ((with_reducible apply wg_adds); (· sizeOf_list_dec)) | ((with_reducible apply wg_addl); (· sizeOf_list_dec)) | with_reducible refine wg_plus ?_ | ((with_reducible apply wg_pluss); (· sizeOf_list_dec)) | with_reducible refine wg_plusI ?_ | with_reducible refine wg_minus ?_ | with_reducible refine wg_sub ?_ | with_reducible refine wg_pow9 ?_ | with_reducible refine wg_pow6 ?_ | with_reducible refine wg_pow3 ?_ | with_reducible refine wg_pow18 ?_ | ((with_reducible apply wg_mod); (· sizeOf_list_dec)) | ((with_reducible apply wg_div); (· sizeOf_list_dec)) | ((with_reducible apply wg_mul); (· sizeOf_list_dec)) | ((with_reducible apply wg_mulA); (· sizeOf_list_dec)) | ((with_reducible apply wg_mulS1); (· sizeOf_list_dec)) | ((with_reducible apply wg_mulS); (· sizeOf_list_dec)) | with_reducible refine wg_lt ?_ | with_reducible refine wg_le ?_ | with_reducible refine wg_gt ?_ | with_reducible refine wg_ge ?_ | with_reducible refine wg_eq ?_ | with_reducible refine wg_ne ?_ | with_reducible refine wg_eqs ?_ | with_reducible refine wg_nes ?_ | with_reducible refine wg_eqnn ?_ | with_reducible refine wg_eqni ?_ | with_reducible refine wg_eqin ?_ | with_reducible refine wg_eqns ?_ | with_reducible refine wg_eqsn ?_ | with_reducible refine wg_nenn ?_ | with_reducible refine wg_neni ?_ | with_reducible refine wg_nein ?_ | with_reducible refine wg_nens ?_ | with_reducible refine wg_nesn ?_ | with_reducible refine wg_isNn ?_ | with_reducible refine wg_isNi ?_ | with_reducible refine wg_isNs ?_ | with_reducible refine wg_isNt ?_ | with_reducible refine wg_isNl ?_ | with_reducible refine wg_isNo ?_ | with_reducible refine wg_notNn ?_ | with_reducible refine wg_notNi ?_ | with_reducible refine wg_notNs ?_ | with_reducible refine wg_notNt ?_ | with_reducible refine wg_notNl ?_ | with_reducible refine wg_notNo ?_ | ((with_reducible apply wg_lenS); (· sizeOf_list_dec)) | with_reducible refine wg_lenL ?_ | with_reducible refine wg_lenT ?_ | ((with_reducible apply wg_lenM); (· array_mem_dec)) | ((with_reducible apply wg_lenD); (· array_mem_dec)) | with_reducible refine wg_intI ?_ | with_reducible refine wg_intB ?_ | with_reducible refine wg_ord ?_ | with_reducible refine wg_max2 ?_ | with_reducible refine wg_min2 ?_ | with_reducible refine key_int ?_ | with_reducible refine key_str ?_ | ((with_reducible apply wg_look); (· exact rfl)) | ((with_reducible apply wdicR); (· array_mem_dec)) | ((with_reducible apply wdicRF); (· array_mem_dec)) | ((with_reducible apply wdicAt); (· array_mem_dec)) | ((with_reducible apply wput_dic); (· array_mem_dec); (· exact rfl); (· sizeOf_list_dec)) | ((with_reducible apply wput_lst); (· array_mem_dec); (· sizeOf_list_dec)) | with_reducible refine wtr_b ?_ | with_reducible refine wtr_n ?_ | with_reducible refine wtr_i ?_ | ((with_reducible apply wtr_s); (· sizeOf_list_dec)) | with_reducible refine wtr_l ?_ | ((with_reducible apply wtr_m); (· array_mem_dec)) | ((with_reducible apply wtr_d); (· array_mem_dec)) | with_reducible refine wpart_n ?_ | with_reducible refine wpart_i ?_ | ((with_reducible apply wsl_s_to); (· sizeOf_list_dec)) | ((with_reducible apply wsl_s_from); (· sizeOf_list_dec)) | ((with_reducible apply wsl_s_mid); (· sizeOf_list_dec)) | with_reducible refine wsl_l_to ?_ | with_reducible refine wsl_l_from ?_ | with_reducible refine wsl_l_mid ?_ | ((with_reducible apply wsl_m_to); (· array_mem_dec)) | ((with_reducible apply wsl_m_from); (· array_mem_dec)) | ((with_reducible apply wsl_m_mid); (· array_mem_dec)) | with_reducible refine wseqL ?_ | with_reducible refine wseqT ?_ | with_reducible refine wseqS ?_ | ((with_reducible apply wseqM); (· array_mem_dec)) | with_reducible refine wstillL ?_ | ((with_reducible apply wstillF); (· array_mem_dec)) | ((with_reducible apply wcopyD); (· array_mem_dec)) | ((with_reducible apply wlistM); (· array_mem_dec)) | with_reducible refine wlistML ?_ | with_reducible refine wlistMT ?_ | with_reducible refine wlistL ?_ | with_reducible refine wlistT ?_ | ((with_reducible apply wlistO); (· array_mem_dec)) | ((with_reducible apply wgisiT); (· exact rfl); (· exact rfl)) | ((with_reducible apply wgisiF); (· exact rfl); (· exact rfl)) | ((with_reducible apply wgisiT); (· exact ty_dic (by array_mem_dec)); (· exact rfl)) | ((with_reducible apply wgisiF); (· exact ty_dic (by array_mem_dec)); (· exact rfl)) | ((with_reducible apply wgisiT); (· exact ty_lstM (by array_mem_dec)); (· exact rfl)) | ((with_reducible apply wgisiF); (· exact ty_lstM (by array_mem_dec)); (· exact rfl)) | ((with_reducible apply ixA_tup); (· exact rfl)) | ((with_reducible apply inA_non); (· array_mem_dec)) | ((with_reducible apply ninA_non); (· array_mem_dec)) | ((with_reducible apply inA_dic); (· array_mem_dec); (· exact rfl)) | ((with_reducible apply inA_dicF); (· array_mem_dec); (· exact rfl)) | ((with_reducible apply ninA_dic); (· array_mem_dec); (· exact rfl)) | ((with_reducible apply ninA_dicF); (· array_mem_dec); (· exact rfl)) ) | ((with_reducible refine id_b ?_); first | with_reducible refine wb_true ?_ | with_reducible refine wb_false ?_ | ((with_reducible apply wb_pos); (· (first | with_reducible exact rfl | assumption | omega | (simp only [List.length_cons, List.length_nil, List.length_map]); (·  omega)))) | ((with_reducible apply wb_neg); (· (first | with_reducible exact rfl | assumption | omega | (simp only [List.length_cons, List.length_nil, List.length_map]); (·  omega)))) | ((with_reducible apply wb_npos); (· (first | with_reducible exact rfl | assumption | omega | (simp only [List.length_cons, List.length_nil, List.length_map]); (·  omega)))) | ((with_reducible apply wb_nneg); (· (first | with_reducible exact rfl | assumption | omega | (simp only [List.length_cons, List.length_nil, List.length_map]); (·  omega)))) | ((with_reducible apply wb_t); (· assumption)) | ((with_reducible apply wb_f); (· assumption)) ) | ((with_reducible refine id_t ?_); first | with_reducible refine wt_T ?_ | with_reducible refine wt_n_0 ?_ | with_reducible refine wt_n_1 ?_ | with_reducible refine wt_n_2 ?_ | with_reducible refine wt_n_3 ?_ | with_reducible refine wt_n_4 ?_ | with_reducible refine wt_n_5 ?_ | with_reducible refine wt_n_6 ?_ | with_reducible refine wt_n_7 ?_ | with_reducible refine wt_n_8 ?_ | with_reducible refine wt_n_9 ?_ | with_reducible refine wt_n_10 ?_ | with_reducible refine wt_n_11 ?_ | with_reducible refine wt_n_12 ?_ | with_reducible refine wt_n_13 ?_ | with_reducible refine wt_n_14 ?_ | with_reducible refine wt_n_15 ?_ | with_reducible refine wt_n_16 ?_ | with_reducible refine wt_n_17 ?_ | with_reducible refine wt_n_18 ?_ | with_reducible refine wt_n_19 ?_ | with_reducible refine wt_n_20 ?_ | with_reducible refine wt_n_21 ?_ | with_reducible refine wt_n_22 ?_ | with_reducible refine wt_n_23 ?_ | with_reducible refine wt_n_24 ?_ | with_reducible refine wt_n_25 ?_ | with_reducible refine wt_n_26 ?_ | with_reducible refine wt_n_27 ?_ | with_reducible refine wt_n_28 ?_ | with_reducible refine wt_n_29 ?_ | with_reducible refine wt_n_30 ?_ | with_reducible refine wt_n_31 ?_ | with_reducible refine wt_n_32 ?_ | with_reducible refine wt_n_33 ?_ | with_reducible refine wt_n_34 ?_ | with_reducible refine wt_n_35 ?_ | with_reducible refine wt_n_36 ?_ | with_reducible refine wt_n_37 ?_ | with_reducible refine wt_n_38 ?_ | with_reducible refine wt_n_39 ?_) | with_reducible refine wts_cons ?_ | with_reducible refine wts_nil ?_ | ((with_reducible refine id_i ?_); first | with_reducible refine wi_rng ?_ | with_reducible refine wi_rng2 ?_ | with_reducible refine wi_seq ?_ | with_reducible refine wi_dic ?_ | with_reducible refine wi_rv ?_ | with_reducible refine wi_en ?_ | with_reducible refine wi_zp ?_) | ((with_reducible refine id_h ?_); first | ((with_reducible apply wh_no); (· exact rfl)) | ((with_reducible apply wh_bare); (· exact rfl)) | ((with_reducible apply wh_yes_0); (· exact rfl)) | ((with_reducible apply wh_yes_1); (· exact rfl)) | ((with_reducible apply wh_yes_2); (· exact rfl)) | ((with_reducible apply wh_yes_3); (· exact rfl)) | ((with_reducible apply wh_yes_4); (· exact rfl)) | ((with_reducible apply wh_yes_5); (· exact rfl)) | ((with_reducible apply wh_yes_6); (· exact rfl)) | ((with_reducible apply wh_yes_7); (· exact rfl)) | ((with_reducible apply wh_yes_8); (· exact rfl)) | ((with_reducible apply wh_yes_9); (· exact rfl)) | ((with_reducible apply wh_yes_10); (· exact rfl)) | ((with_reducible apply wh_yes_11); (· exact rfl)) | ((with_reducible apply wh_yes_12); (· exact rfl)) | ((with_reducible apply wh_yes_13); (· exact rfl)) | ((with_reducible apply wh_yes_14); (· exact rfl)) | ((with_reducible apply wh_yes_15); (· exact rfl)) | ((with_reducible apply wh_yes_16); (· exact rfl)) | ((with_reducible apply wh_yes_17); (· exact rfl)) | ((with_reducible apply wh_yes_18); (· exact rfl)) | ((with_reducible apply wh_yes_19); (· exact rfl)) | ((with_reducible apply wh_yes_20); (· exact rfl)) | ((with_reducible apply wh_yes_21); (· exact rfl)) | ((with_reducible apply wh_yes_22); (· exact rfl)) | ((with_reducible apply wh_yes_23); (· exact rfl)) | ((with_reducible apply wh_yes_24); (· exact rfl)) | ((with_reducible apply wh_yes_25); (· exact rfl)) | ((with_reducible apply wh_yes_26); (· exact rfl)) | ((with_reducible apply wh_yes_27); (· exact rfl)) | ((with_reducible apply wh_yes_28); (· exact rfl)) | ((with_reducible apply wh_yes_29); (· exact rfl)) | ((with_reducible apply wh_yes_30); (· exact rfl)) | ((with_reducible apply wh_yes_31); (· exact rfl)) | ((with_reducible apply wh_yes_32); (· exact rfl)) | ((with_reducible apply wh_yes_33); (· exact rfl)) | ((with_reducible apply wh_yes_34); (· exact rfl)) | ((with_reducible apply wh_yes_35); (· exact rfl)) | ((with_reducible apply wh_yes_36); (· exact rfl)) | ((with_reducible apply wh_yes_37); (· exact rfl)) | ((with_reducible apply wh_yes_38); (· exact rfl)) | ((with_reducible apply wh_yes_39); (· exact rfl)) | with_reducible refine wh_nil ?_) | ((with_reducible refine id_cl ?_); first | with_reducible refine wcl_0 ?_ | with_reducible refine wcl_1 ?_ | with_reducible refine wcl_2 ?_ | with_reducible refine wcl_3 ?_ | with_reducible refine wcl_4 ?_ | with_reducible refine wcl_5 ?_ | with_reducible refine wcl_6 ?_ | with_reducible refine wcl_7 ?_ | with_reducible refine wcl_8 ?_ | with_reducible refine wcl_9 ?_ | with_reducible refine wcl_10 ?_ | with_reducible refine wcl_11 ?_ | with_reducible refine wcl_12 ?_ | with_reducible refine wcl_13 ?_ | with_reducible refine wcl_14 ?_ | with_reducible refine wcl_15 ?_ | with_reducible refine wcl_16 ?_ | with_reducible refine wcl_17 ?_ | with_reducible refine wcl_18 ?_ | with_reducible refine wcl_19 ?_ | with_reducible refine wcl_20 ?_ | with_reducible refine wcl_21 ?_ | with_reducible refine wcl_22 ?_ | with_reducible refine wcl_23 ?_ | with_reducible refine wcl_24 ?_ | with_reducible refine wcl_25 ?_ | with_reducible refine wcl_26 ?_ | with_reducible refine wcl_27 ?_ | with_reducible refine wcl_28 ?_ | with_reducible refine wcl_29 ?_ | with_reducible refine wcl_30 ?_ | with_reducible refine wcl_31 ?_ | with_reducible refine wcl_32 ?_ | with_reducible refine wcl_33 ?_ | with_reducible refine wcl_34 ?_ | with_reducible refine wcl_35 ?_ | with_reducible refine wcl_36 ?_ | with_reducible refine wcl_37 ?_ | with_reducible refine wcl_38 ?_ | with_reducible refine wcl_39 ?_) | with_reducible refine wbl ?_ | with_reducible refine wnot_t ?_ | with_reducible refine wnot_f ?_ | with_reducible refine wnot_n ?_ | with_reducible refine wnot ?_ | with_reducible refine wint ?_ | with_reducible refine wstr ?_ | with_reducible refine wobj ?_ | with_reducible refine wnon ?_ | ((with_reducible apply wat); · array_mem_dec) | ((with_reducible refine wyes_c ?_ ?_); (· exact rfl)) | ((with_reducible refine wyes_k ?_ ?_); (· exact rfl)) | ((with_reducible refine wyes_d ?_ ?_); (· exact ⟨rfl, Nat.le_of_ble_eq_true rfl⟩)) | ((with_reducible refine wyes ?_ ?_); · sizeOf_list_dec) | with_reducible refine wyes wlstT ?_ | with_reducible refine wlst ?_ | with_reducible refine wins ?_ | with_reducible refine winm ?_)
section
variable {m : Mu} {mu : Mu}
def rotS (b : Nat) : Nat := b * 2 % 65536 + b / 32768
def sumS (b : Nat) (l : List Nat) : Nat := l.foldl (fun b c => rotS b ^^^ c) b
theorem rotS_lt {b : Nat} (h : b < 65536) : rotS b < 65536 := by unfold rotS; omega
theorem stS_lt {b c : Nat} (h : b < 65536) (hc : c < 65536) : rotS b ^^^ c < 65536 := Nat.xor_lt_two_pow (n := 16) (rotS_lt h) hc
theorem xor_addS (k n : Nat) (hn : n < 2) : (2 * k) ^^^ n = 2 * k + n := by
  have h := Bits.nat_xor_add_and (2 * k) n
  have e : 2 * k &&& n = 0 := by
    rcases (by omega : n = 0 ∨ n = 1) with rfl | rfl
    · exact Nat.and_zero _
    · rw [Nat.and_one_is_mod]; omega
  omega
theorem rotS_xor {b : Nat} (h : b < 65536) : rotS b = (b * 2 % 65536) ^^^ (b / 32768) := by
  have e : b * 2 % 65536 = 2 * (b % 32768) := by omega
  unfold rotS
  rw [e, xor_addS _ _ (by omega)]
theorem band_natS (a b : Nat) : Builtin.bitAnd (a : Int) (b : Int) = ((a &&& b : Nat) : Int) := by
  unfold Builtin.bitAnd
  have h1 : decide ((0 : Int) ≤ a) = true := by simp
  have h2 : decide ((0 : Int) ≤ b) = true := by simp
  rw [h1, h2]; simp
theorem bxor_natS (a b : Nat) : Builtin.bitXor (a : Int) (b : Int) = ((a ^^^ b : Nat) : Int) := by
  rw [Bits.bitXor_pp (by omega) (by omega)]; simp
theorem bor_natS (a b : Nat) : Builtin.bitOr (a : Int) (b : Int) = ((a ^^^ b) + (a &&& b) : Nat) := by
  have h := bxor_natS a b
  unfold Builtin.bitXor at h
  rw [band_natS] at h
  omega
theorem and_lowS (b : Nat) : b &&& 65535 = b % 65536 := Nat.and_two_pow_sub_one_eq_mod b 16
theorem step1S {b : Nat} (h : b < 65536) : Builtin.bitOr (Builtin.bitAnd ((b : Int) * 2) 65535) ((b : Int) / 32768) = (rotS b : Int) := by
  have e1 : (b : Int) * 2 = ((b * 2 : Nat) : Int) := by omega
  have e2 : (b : Int) / 32768 = ((b / 32768 : Nat) : Int) := by omega
  rw [e1, e2, show (65535 : Int) = ((65535 : Nat) : Int) from rfl, band_natS, and_lowS, bor_natS]
  have e : b * 2 % 65536 = 2 * (b % 32768) := by omega
  have h2 := Bits.nat_xor_add_and (2 * (b % 32768)) (b / 32768)
  have h3 := xor_addS (b % 32768) (b / 32768) (by omega)
  rw [e]
  have h4 : 2 * (b % 32768) &&& b / 32768 = 0 := by omega
  rw [h4, h3]
  unfold rotS
  omega
theorem p1S : (2 : Int) ^ (1 : Int).toNat = 2 := by decide
theorem p15S : (2 : Int) ^ (15 : Int).toNat = 32768 := by decide
theorem s_1S {b : Nat} (h : b < 65536) (mu : Mu) : gShl (.int b) (.int 1) mu = some (.int ((b : Int) * 2)) := (gI_pos ⟨by decide, by decide, by omega⟩).trans (by rw [p1S])
theorem s_2S {b : Nat} (mu : Mu) : gShr (.int b) (.int 15) mu = some (.int ((b : Int) / 32768)) := (gI_pos (by decide)).trans (by rw [p15S])
theorem sumS_lt : ∀ (l : List Nat) (b : Nat), b < 65536 → (∀ c, c ∈ l → c < 128) → sumS b l < 65536
  | [], b, h, _ => h
  | c :: l, b, h, hl => sumS_lt l _ (stS_lt h (Nat.lt_trans (hl c (.head _)) (by decide))) fun d hd => hl d (.tail _ hd)
theorem sumS_app (b : Nat) (p q : List Nat) : sumS b (p ++ q) = sumS (sumS b p) q := List.foldl_append
def sumB : DS := (sSeq (sSet 1 (eC (.int 0)))
  (sSeq (sLk (pickD (eVar 0)) (sFor (iA (eVar 0)) (tgN 2)
  (sSet 1 (eOp gXor (eOp gOr (eOp gAnd (eOp gShl (eVar 1) (eC (.int 1))) (eC (.int 65535))) (eOp gShr (eVar 1) (eC (.int 15)))) (eCB gOrd [(eVar 2)])))))
  (sRet (eVar 1))))
def sumF : Fn := runF 3 1 sumB
theorem sumF_eq (l : List Nat) (m : Mu) (hl : ∀ c, c ∈ l → c < 128) : sumF [.str l] m = .ok (.int (sumS 0 l : Nat)) m := by
  refine wc_same ?_
  unfold sumF sumB
  (refine wc_run rfl (by simp only [startD, List.map_cons, List.map_nil, List.length_cons, List.length_nil, Nat.reduceAdd, Nat.reduceSub, List.replicate, List.cons_append, List.nil_append] <;> exact rfl) ?_; repeat array_get_dec)
  refine ws_lkn (pickD_no (ev_var rfl) fun j h => by cases h) ?_
  refine ws_for (xs := l) (dv := fun c => DV.str [c]) (fun pre dl m' => m' = m ∧ ∃ a, dl = [some (.str l), some (.int (sumS 0 pre : Nat)), a]) ?_ ?_ ?_
  · exact wi_aL (ev_var rfl) rfl ⟨rfl, ⟨rfl, none, rfl⟩, still_none⟩
  · rintro pre c post dl m' hx ⟨rfl, a, rfl⟩
    have hb : sumS 0 pre < 65536 := sumS_lt pre 0 (by decide) fun d hd => hl d (by rw [hx]; simp [hd])
    repeat array_get_dec
    refine wg_of (s_1S hb m') ?_
    repeat array_get_dec
    refine wg_of (show gAnd (.int ((sumS 0 pre : Int) * 2)) (.int 65535) m' = some (.int (Builtin.bitAnd ((sumS 0 pre : Int) * 2) 65535)) from rfl) ?_
    repeat array_get_dec
    refine wg_of (s_2S m') ?_
    refine wg_of (show gOr (.int (Builtin.bitAnd ((sumS 0 pre : Int) * 2) 65535)) (.int ((sumS 0 pre : Int) / 32768)) m' = some (.int (rotS (sumS 0 pre) : Nat)) from (show gOr _ _ m' = some (.int (Builtin.bitOr (Builtin.bitAnd ((sumS 0 pre : Int) * 2) 65535) ((sumS 0 pre : Int) / 32768))) from rfl).trans (by rw [step1S hb])) ?_
    repeat array_get_dec
    refine wg_of (show gXor (.int (rotS (sumS 0 pre) : Nat)) (.int (c : Int)) m' = some (.int (rotS (sumS 0 pre) ^^^ c : Nat)) from (show gXor _ _ m' = some (.int (Builtin.bitXor (rotS (sumS 0 pre) : Nat) (c : Int))) from rfl).trans (by rw [bxor_natS])) ?_
    refine ⟨rfl, some (.str [c]), ?_⟩
    rw [sumS_app]
    rfl
  · rintro dl m' ⟨rfl, a, rfl⟩
    repeat array_get_dec
    exact ⟨rfl, rfl⟩
def padL (k n : Nat) : List Nat := List.replicate (k - (TL.numL n).length) 48 ++ TL.numL n
theorem padL_len {k n : Nat} (h : (TL.numL n).length ≤ k) : (padL k n).length = k := by
  unfold padL
  rw [List.length_append, List.length_replicate]
  omega
theorem zfill_num (n k : Nat) (hk : (TL.numL n).length ≤ k) : (Txt.zfill (Sx (TL.numL n)) (k : Int)).cps.toList = padL k n := by
  have hsz : (Sx (TL.numL n)).length = (TL.numL n).length := by show (TL.numL n).toArray.size = _; simp
  unfold Txt.zfill padL
  by_cases c : (k : Int) ≤ ((Sx (TL.numL n)).length : Nat)
  · rw [if_pos c, show k - (TL.numL n).length = 0 by omega]
    show (TL.numL n).toArray.toList = _
    simp
  · rw [if_neg c]
    have hz : zfilled (Sx (TL.numL n)) ((k : Int).toNat - (Sx (TL.numL n)).length) = PySem.Builtin.Str.padded (Sx (TL.numL n)) ((k : Int).toNat - (Sx (TL.numL n)).length) 0 48 := by
      unfold zfilled
      have hd := TL.numL_digits n
      cases e : TL.numL n with
      | nil => exact absurd e (TL.numL_ne n)
      | cons a r =>
        have ha := hd a (by rw [e]; exact .head _)
        have e0 : (Sx (a :: r)).cps[0]? = some a := by show ((a :: r).toArray)[0]? = _; simp
        rw [e0]
        split
        · rename_i h; cases h; omega
        · rename_i h; cases h; omega
        · rfl
    rw [hz, hsz]
    show (Array.replicate ((k : Int).toNat - (TL.numL n).length) 48 ++ (TL.numL n).toArray ++ Array.replicate 0 48).toList = _
    simp
theorem wg_zfill {n k : Nat} {pp : DV → Prop} (hk : (TL.numL n).length ≤ k) (c : PadOk (k : Int) = true) (h : pp (.str (padL k n))) : WG (gZfill (.str (TL.numL n)) (.int (k : Int)) m) pp := by
  refine wg_of ?_ h
  show (if PadOk (k : Int) = true then some (DV.str (Txt.zfill (Sx (TL.numL n)) (k : Int)).cps.toList) else none) = _
  rw [if_pos c, zfill_num n k hk]
def lineS (n : Nat) (b : List Nat) : List Nat := padL 6 n ++ [32] ++ padL 5 (sumS 0 b) ++ [32] ++ padL 4 b.length ++ [32] ++ b
def lineB : DS := (sSeq (sSet 2 (eOp gAdd (eOp gAdd (eM1 gZfill (eCB gStr [(eVar 0)]) (eC (.int 6))) (eC (.str [32]))) (eM1 gZfill (eCB gStr [(eCall sumF [(eVar 1)] [])]) (eC (.int 5)))))
  (sRet (eOp gAdd (eOp gAdd (eOp gAdd (eOp gAdd (eVar 2) (eC (.str [32]))) (eM1 gZfill (eCB gStr [(eCB gLen [(eVar 1)])]) (eC (.int 4)))) (eC (.str [32]))) (eVar 1))))
def lineF : Fn := runF 3 2 lineB
theorem wg_strN {n : Nat} {pp : DV → Prop} (hn : n < 1000000) (h : pp (.str (TL.numL n))) : WG (gStr [.int (n : Int)] m) pp := wg_str ⟨by omega, by omega⟩ (by rw [Int.toNat_natCast]; exact h)
theorem lineF_eq (n : Nat) (hn : n < 1000000) (b : List Nat) (hb : ∀ c, c ∈ b → c < 128) (hl : b.length < 10000) (m : Mu) : lineF [.int (n : Int), .str b] m = .ok (.str (lineS n b)) m := by
  have h6 := TL.numL_len (k := 6) (by decide) hn
  have hs := sumS_lt b 0 (by decide) hb
  have h5 := TL.numL_len (n := sumS 0 b) (k := 5) (by decide) (by omega)
  have h4 := TL.numL_len (n := b.length) (k := 4) (by decide) hl
  refine wc_same ?_
  unfold lineF lineB
  have l6 := padL_len h6
  have l5 := padL_len h5
  have l4 := padL_len h4
  (refine wc_run rfl (by simp only [startD, List.map_cons, List.map_nil, List.length_cons, List.length_nil, Nat.reduceAdd, Nat.reduceSub, List.replicate, List.cons_append, List.nil_append] <;> exact rfl) ?_; repeat array_get_dec)
  refine wg_strN hn ?_
  repeat array_get_dec
  refine wg_zfill (k := 6) h6 (by decide) ?_
  repeat array_get_dec
  refine wc_eq (sumF_eq b m hb) ?_
  repeat array_get_dec
  refine wg_strN (by omega) ?_
  repeat array_get_dec
  refine wg_zfill (k := 5) h5 (by decide) ?_
  repeat array_get_dec
  refine wg_strN (by omega) ?_
  repeat array_get_dec
  refine wg_zfill (k := 4) h4 (by decide) ?_
  repeat array_get_dec
  exact ⟨rfl, rfl⟩
theorem wsl_s_neg {a : List Nat} {n : Nat} {pp : DV → Prop} (h0 : 0 < n) (hn : n ≤ a.length) (hl : a.length ≤ 1000000) (h : pp (.str (a.drop (a.length - n)))) : WG (gSl (.str a) (some (-(n : Int))) none mu) pp := wsl_s hl (by
  have e1 : HT.sIx a.length 0 (some (-(n : Int))) = a.length - n := by
    show (if (-(n : Int)) < 0 then (-(n : Int) + (a.length : Int)).toNat else min (-(n : Int)).toNat a.length) = _
    rw [if_pos (by omega)]
    omega
  have e2 : HT.sIx a.length a.length none = a.length := rfl
  rw [e1, e2, List.take_of_length_le (by rw [List.length_drop]; omega)]
  exact h)
def llineB : DS := (sSeq (sSet 2 (eC (.int 0)))
  (sSeq (sLk (pickD (eVar 1)) (sFor (iA (eVar 1)) (tgN 3)
  (sSeq (sSet 2 (eOp gAdd (eOp gMod (eOp gMul (eVar 2) (eC (.int 2))) (eC (.int 65536))) (eOp gDiv (eVar 2) (eC (.int 32768)))))
  (sSet 2 (eOp gXor (eVar 2) (eCB gOrd [(eVar 3)]))))))
  (sSeq (sSet 4 (eOp gAdd (eC (.str [48, 48, 48, 48, 48, 48])) (eCB gStr [(eVar 0)])))
  (sRet (eOp gAdd (eOp gAdd (eOp gAdd (eOp gAdd (eOp gAdd (eOp gAdd (eSl (eVar 4) (eI (eNeg (eC (.int 6)))) (eC .non)) (eC (.str [32]))) (eSl (eOp gAdd (eC (.str [48, 48, 48, 48, 48])) (eCB gStr [(eVar 2)])) (eI (eNeg (eC (.int 5)))) (eC .non))) (eC (.str [32]))) (eSl (eOp gAdd (eC (.str [48, 48, 48, 48])) (eCB gStr [(eCB gLen [(eVar 1)])])) (eI (eNeg (eC (.int 4)))) (eC .non))) (eC (.str [32]))) (eVar 1))))))
def llineF : Fn := runF 5 2 llineB
theorem drop_pad {k n : Nat} {z : List Nat} (hz : z = List.replicate k 48) (h : (TL.numL n).length ≤ k) : (z ++ TL.numL n).drop ((z ++ TL.numL n).length - k) = padL k n := by
  subst hz
  unfold padL
  rw [List.length_append, List.length_replicate, List.drop_append_of_le_length (by rw [List.length_replicate]; omega), List.drop_replicate]
  congr 2
  omega
theorem llineF_eq (n : Nat) (hn : n < 1000000) (b : List Nat) (hb : ∀ c, c ∈ b → c < 128) (hl : b.length < 10000) (m : Mu) : llineF [.int (n : Int), .str b] m = .ok (.str (lineS n b)) m := by
  have h6 := TL.numL_len (k := 6) (by decide) hn
  have hs := sumS_lt b 0 (by decide) hb
  have h5 := TL.numL_len (n := sumS 0 b) (k := 5) (by decide) (by omega)
  have h4 := TL.numL_len (n := b.length) (k := 4) (by decide) hl
  have l6 := padL_len h6
  have l5 := padL_len h5
  have l4 := padL_len h4
  refine wc_same ?_
  unfold llineF llineB
  (refine wc_run rfl (by simp only [startD, List.map_cons, List.map_nil, List.length_cons, List.length_nil, Nat.reduceAdd, Nat.reduceSub, List.replicate, List.cons_append, List.nil_append] <;> exact rfl) ?_; repeat array_get_dec)
  refine ws_lkn (pickD_no (ev_var rfl) fun j h => by cases h) ?_
  refine ws_for (xs := b) (dv := fun c => DV.str [c]) (fun pre dl m' => m' = m ∧ ∃ a, dl = [some (.int (n : Int)), some (.str b), some (.int (sumS 0 pre : Nat)), a, none]) ?_ ?_ ?_
  · exact wi_aL (ev_var rfl) rfl ⟨rfl, ⟨rfl, none, rfl⟩, still_none⟩
  · rintro pre c post dl m' hx ⟨rfl, a, rfl⟩
    have hb : sumS 0 pre < 65536 := sumS_lt pre 0 (by decide) fun d hd => hb d (by rw [hx]; simp [hd])
    have e : (sumS 0 pre : Int) * 2 % 65536 + (sumS 0 pre : Int) / 32768 = (rotS (sumS 0 pre) : Int) := by unfold rotS; omega
    repeat array_get_dec
    rw [e]
    refine wg_of (show gXor (.int (rotS (sumS 0 pre) : Nat)) (.int (c : Int)) m' = some (.int (rotS (sumS 0 pre) ^^^ c : Nat)) from (show gXor _ _ m' = some (.int (Builtin.bitXor (rotS (sumS 0 pre) : Nat) (c : Int))) from rfl).trans (by rw [bxor_natS])) ?_
    refine ⟨rfl, some (.str [c]), ?_⟩
    rw [sumS_app]
    rfl
  rintro dl m' ⟨rfl, a, rfl⟩
  repeat array_get_dec
  refine wg_strN hn ?_
  refine wg_adds (by simp only [List.length_cons, List.length_nil]; omega) ?_
  repeat array_get_dec
  refine wsl_s_neg (n := 6) (by decide) (by simp) (by simp; omega) ?_
  rw [drop_pad (k := 6) (z := [48, 48, 48, 48, 48, 48]) rfl h6]
  repeat array_get_dec
  refine wg_strN (by omega) ?_
  refine wg_adds (by simp only [List.length_cons, List.length_nil]; omega) ?_
  repeat array_get_dec
  refine wsl_s_neg (n := 5) (by decide) (by simp) (by simp; omega) ?_
  rw [drop_pad (k := 5) (z := [48, 48, 48, 48, 48]) rfl h5]
  repeat array_get_dec
  refine wg_strN (by omega) ?_
  refine wg_adds (by simp only [List.length_cons, List.length_nil]; omega) ?_
  repeat array_get_dec
  refine wsl_s_neg (n := 4) (by decide) (by simp) (by simp; omega) ?_
  rw [drop_pad (k := 4) (z := [48, 48, 48, 48]) rfl h4]
  repeat array_get_dec
  exact ⟨rfl, rfl⟩
def tblS : List Nat := [32, 33, 34, 35, 36, 38, 39, 40, 41, 42, 43, 44, 45, 46, 47, 48, 49, 50, 51, 52, 53, 54, 55, 56, 57, 58, 59, 60, 61, 62, 63, 64, 65, 66, 67, 68, 69, 70, 71, 72, 73, 74, 75, 76, 77, 78, 79, 80, 81, 82, 83, 84, 85, 86, 87, 88, 89, 90, 91, 92, 93, 94, 95, 96] ++ [97, 98, 99, 100, 101, 102, 103, 104, 105, 106, 107, 108, 109, 110, 111, 112, 113, 114, 115, 116, 117, 118, 119, 120, 121, 122, 123, 124, 125, 126]
def signSB : DS := (sSeq (sSet 1 (eC (.str [32, 33, 34, 35, 36, 38, 39, 40, 41, 42, 43, 44, 45, 46, 47, 48, 49, 50, 51, 52, 53, 54, 55, 56, 57, 58, 59, 60, 61, 62, 63, 64, 65, 66, 67, 68, 69, 70, 71, 72, 73, 74, 75, 76, 77, 78, 79, 80, 81, 82, 83, 84, 85, 86, 87, 88, 89, 90, 91, 92, 93, 94, 95, 96])))
  (sSeq (sSet 1 (eOp gAdd (eVar 1) (eC (.str [97, 98, 99, 100, 101, 102, 103, 104, 105, 106, 107, 108, 109, 110, 111, 112, 113, 114, 115, 116, 117, 118, 119, 120, 121, 122, 123, 124, 125, 126]))))
  (sRet (eOp gIxA (eVar 1) (eOp gMod (eVar 0) (eC (.int 94)))))))
def signSF : Fn := runF 2 1 signSB
def sgS (n : Int) : Nat := tblS.getD (n % 94).toNat 0
theorem sgS_lt (n : Int) : sgS n < 128 := by
  have a := Int.emod_nonneg n (by decide : (94 : Int) ≠ 0)
  have b := Int.emod_lt_of_pos n (by decide : (0 : Int) < 94)
  have h : ∀ k, k < 94 → tblS.getD k 0 < 128 := by decide +kernel
  exact h _ (by omega)
theorem signS_eq (n : Int) (mu : Mu) : signSF [.int n] mu = .ok (.str [sgS n]) mu := by
  have s1 : DM.gMod (.int n) (.int 94) mu = some (.int (n % 94)) := g_mod (by decide)
  have a := Int.emod_nonneg n (by decide : (94 : Int) ≠ 0)
  have b := Int.emod_lt_of_pos n (by decide : (0 : Int) < 94)
  have s2 : gIxA (.str tblS) (.int (n % 94)) mu = some (.str [sgS n]) := (gIxA_seq (fun j h => by cases h)).trans (gIx_mod (by decide) a (by show _ < (94 : Int); omega))
  exact runF_rt rfl (es_seq (m1 := mu) (es_set ev_c) (es_seq (m1 := mu) (es_set (d := .str tblS) (ev_op (ev_var rfl) ev_c (gAdd_str (by decide)))) (es_ret (ev_op (ev_var rfl) (ev_op (ev_var rfl) ev_c s1) s2))))
end
end DM

namespace DM
open PySem PySem.Spec PyProof.Rows L2
local macro_rules | `(tactic| sizeOf_list_dec) => `(tactic| first | assumption | omega | exact Nat.zero_le _ | (simp only [List.length_cons, List.length_nil, List.length_append, List.length_map, List.length_replicate, List.length_range, List.length_take, List.length_drop, List.length_reverse]; omega) | (decide; done))
local macro_rules | `(tactic| array_mem_dec) => `(tactic| (repeat (first | with_reducible assumption | with_reducible exact mem_new | with_reducible apply mem_same' | ((with_reducible apply mem_ne'); (· first | assumption | omega)) | with_reducible apply mem_old | with_reducible exact mem_hd | with_reducible apply mem_app)); done)
local macro_rules | `(tactic| array_get_dec) => `(tactic| first | ((with_reducible refine id_e ?_); first | with_reducible refine we_c ?_ | with_reducible refine we_op ?_ | with_reducible refine we_cb ?_ | with_reducible refine we_call0 ?_ | with_reducible refine we_call ?_ | with_reducible refine we_B ?_ | with_reducible refine we_tru ?_ | with_reducible refine we_not ?_ | with_reducible refine we_and ?_ | with_reducible refine we_or ?_ | with_reducible refine we_if ?_ | with_reducible refine we_neg ?_ | with_reducible refine we_I ?_ | with_reducible refine we_chain ?_ | with_reducible refine we_tup ?_ | with_reducible refine we_lst ?_ | with_reducible refine we_lstM0 ?_ | with_reducible refine we_lstM ?_ | with_reducible refine we_dnew ?_ | with_reducible refine we_sl ?_ | with_reducible refine we_m1 ?_ | with_reducible refine we_isiT ?_ | with_reducible refine we_append ?_ | with_reducible refine we_get1 ?_ | with_reducible refine we_get2 ?_ | with_reducible refine we_pop2 ?_ | with_reducible refine we_pop1 ?_ | with_reducible refine we_cm ?_ | with_reducible refine we_fld ?_ | with_reducible refine we_meth ?_ | with_reducible refine we_make ?_ | with_reducible refine we_yes ?_ | with_reducible refine we_popA ?_ | ((with_reducible apply we_xf); (· exact rfl)) | ((with_reducible apply we_is); (· exact rfl)) | with_reducible refine we_var_0 ?_ | with_reducible refine we_var_1 ?_ | with_reducible refine we_var_2 ?_ | with_reducible refine we_var_3 ?_ | with_reducible refine we_var_4 ?_ | with_reducible refine we_var_5 ?_ | with_reducible refine we_var_6 ?_ | with_reducible refine we_var_7 ?_ | with_reducible refine we_var_8 ?_ | with_reducible refine we_var_9 ?_ | with_reducible refine we_var_10 ?_ | with_reducible refine we_var_11 ?_ | with_reducible refine we_var_12 ?_ | with_reducible refine we_var_13 ?_ | with_reducible refine we_var_14 ?_ | with_reducible refine we_var_15 ?_ | with_reducible refine we_var_16 ?_ | with_reducible refine we_var_17 ?_ | with_reducible refine we_var_18 ?_ | with_reducible refine we_var_19 ?_ | with_reducible refine we_var_20 ?_ | with_reducible refine we_var_21 ?_ | with_reducible refine we_var_22 ?_ | with_reducible refine we_var_23 ?_ | with_reducible refine we_var_24 ?_ | with_reducible refine we_var_25 ?_ | with_reducible refine we_var_26 ?_ | with_reducible refine we_var_27 ?_ | with_reducible refine we_var_28 ?_ | with_reducible refine we_var_29 ?_ | with_reducible refine we_var_30 ?_ | with_reducible refine we_var_31 ?_ | with_reducible refine we_var_32 ?_ | with_reducible refine we_var_33 ?_ | with_reducible refine we_var_34 ?_ | with_reducible refine we_var_35 ?_ | with_reducible refine we_var_36 ?_ | with_reducible refine we_var_37 ?_ | with_reducible refine we_var_38 ?_ | with_reducible refine we_var_39 ?_) | ((with_reducible refine id_s ?_); first | with_reducible refine ws_seq ?_ | with_reducible refine ws_next ?_ | with_reducible refine ws_drop ?_ | with_reducible refine ws_ret ?_ | with_reducible refine ws_retN ?_ | with_reducible refine ws_brk ?_ | with_reducible refine ws_cnt ?_ | with_reducible refine ws_asg ?_ | with_reducible refine ws_if ?_ | with_reducible refine ws_put ?_ | with_reducible refine ws_fldP ?_ | with_reducible refine ws_fldA ?_ | with_reducible refine ws_daug ?_ | with_reducible refine ws_try ?_ | with_reducible refine ws_raise ?_ | with_reducible refine ws_raise0 ?_ | with_reducible refine ws_set_0 ?_ | with_reducible refine ws_set_1 ?_ | with_reducible refine ws_set_2 ?_ | with_reducible refine ws_set_3 ?_ | with_reducible refine ws_set_4 ?_ | with_reducible refine ws_set_5 ?_ | with_reducible refine ws_set_6 ?_ | with_reducible refine ws_set_7 ?_ | with_reducible refine ws_set_8 ?_ | with_reducible refine ws_set_9 ?_ | with_reducible refine ws_set_10 ?_ | with_reducible refine ws_set_11 ?_ | with_reducible refine ws_set_12 ?_ | with_reducible refine ws_set_13 ?_ | with_reducible refine ws_set_14 ?_ | with_reducible refine ws_set_15 ?_ | with_reducible refine ws_set_16 ?_ | with_reducible refine ws_set_17 ?_ | with_reducible refine ws_set_18 ?_ | with_reducible refine ws_set_19 ?_ | with_reducible refine ws_set_20 ?_ | with_reducible refine ws_set_21 ?_ | with_reducible refine ws_set_22 ?_ | with_reducible refine ws_set_23 ?_ | with_reducible refine ws_set_24 ?_ | with_reducible refine ws_set_25 ?_ | with_reducible refine ws_set_26 ?_ | with_reducible refine ws_set_27 ?_ | with_reducible refine ws_set_28 ?_ | with_reducible refine ws_set_29 ?_ | with_reducible refine ws_set_30 ?_ | with_reducible refine ws_set_31 ?_ | with_reducible refine ws_set_32 ?_ | with_reducible refine ws_set_33 ?_ | with_reducible refine ws_set_34 ?_ | with_reducible refine ws_set_35 ?_ | with_reducible refine ws_set_36 ?_ | with_reducible refine ws_set_37 ?_ | with_reducible refine ws_set_38 ?_ | with_reducible refine ws_set_39 ?_ | with_reducible refine ws_aug_0 ?_ | with_reducible refine ws_aug_1 ?_ | with_reducible refine ws_aug_2 ?_ | with_reducible refine ws_aug_3 ?_ | with_reducible refine ws_aug_4 ?_ | with_reducible refine ws_aug_5 ?_ | with_reducible refine ws_aug_6 ?_ | with_reducible refine ws_aug_7 ?_ | with_reducible refine ws_aug_8 ?_ | with_reducible refine ws_aug_9 ?_ | with_reducible refine ws_aug_10 ?_ | with_reducible refine ws_aug_11 ?_ | with_reducible refine ws_aug_12 ?_ | with_reducible refine ws_aug_13 ?_ | with_reducible refine ws_aug_14 ?_ | with_reducible refine ws_aug_15 ?_ | with_reducible refine ws_aug_16 ?_ | with_reducible refine ws_aug_17 ?_ | with_reducible refine ws_aug_18 ?_ | with_reducible refine ws_aug_19 ?_ | with_reducible refine ws_aug_20 ?_ | with_reducible refine ws_aug_21 ?_ | with_reducible refine ws_aug_22 ?_ | with_reducible refine ws_aug_23 ?_ | with_reducible refine ws_aug_24 ?_ | with_reducible refine ws_aug_25 ?_ | with_reducible refine ws_aug_26 ?_ | with_reducible refine ws_aug_27 ?_ | with_reducible refine ws_aug_28 ?_ | with_reducible refine ws_aug_29 ?_ | with_reducible refine ws_aug_30 ?_ | with_reducible refine ws_aug_31 ?_ | with_reducible refine ws_aug_32 ?_ | with_reducible refine ws_aug_33 ?_ | with_reducible refine ws_aug_34 ?_ | with_reducible refine ws_aug_35 ?_ | with_reducible refine ws_aug_36 ?_ | with_reducible refine ws_aug_37 ?_ | with_reducible refine ws_aug_38 ?_ | with_reducible refine ws_aug_39 ?_) | ((with_reducible refine id_a ?_); first | with_reducible refine wa_cons ?_ | with_reducible refine wa_nil ?_) | ((with_reducible refine id_g ?_); first | with_reducible refine wg_add ?_ | ((with_reducible apply wg_adds); (· sizeOf_list_dec)) | ((with_reducible apply wg_addl); (· sizeOf_list_dec)) | with_reducible refine wg_plus ?_ | ((with_reducible apply wg_pluss); (· sizeOf_list_dec)) | with_reducible refine wg_plusI ?_ | with_reducible refine wg_minus ?_ | with_reducible refine wg_sub ?_ | with_reducible refine wg_pow9 ?_ | with_reducible refine wg_pow6 ?_ | with_reducible refine wg_pow3 ?_ | with_reducible refine wg_pow18 ?_ | ((with_reducible apply wg_mod); (· sizeOf_list_dec)) | ((with_reducible apply wg_div); (· sizeOf_list_dec)) | ((with_reducible apply wg_mul); (· sizeOf_list_dec)) | ((with_reducible apply wg_mulA); (· sizeOf_list_dec)) | ((with_reducible apply wg_mulS1); (· sizeOf_list_dec)) | ((with_reducible apply wg_mulS); (· sizeOf_list_dec)) | with_reducible refine wg_lt ?_ | with_reducible refine wg_le ?_ | with_reducible refine wg_gt ?_ | with_reducible refine wg_ge ?_ | with_reducible refine wg_eq ?_ | with_reducible refine wg_ne ?_ | with_reducible refine wg_eqs ?_ | with_reducible refine wg_nes ?_ | with_reducible refine wg_eqnn ?_ | with_reducible refine wg_eqni ?_ | with_reducible refine wg_eqin ?_ | with_reducible refine wg_eqns ?_ | with_reducible refine wg_eqsn ?_ | with_reducible refine wg_nenn ?_ | with_reducible refine wg_neni ?_ | with_reducible refine wg_nein ?_ | with_reducible refine wg_nens ?_ | with_reducible refine wg_nesn ?_ | with_reducible refine wg_isNn ?_ | with_reducible refine wg_isNi ?_ | with_reducible refine wg_isNs ?_ | with_reducible refine wg_isNt ?_ | with_reducible refine wg_isNl ?_ | with_reducible refine wg_isNo ?_ | with_reducible refine wg_notNn ?_ | with_reducible refine wg_notNi ?_ | with_reducible refine wg_notNs ?_ | with_reducible refine wg_notNt ?_ | with_reducible refine wg_notNl ?_ | with_reducible refine wg_notNo ?_ | ((with_reducible apply wg_lenS); (· sizeOf_list_dec)) | with_reducible refine wg_lenL ?_ | with_reducible refine wg_lenT ?_ | ((with_reducible apply wg_lenM); (· array_mem_dec)) | ((with_reducible apply wg_lenD); (· array_mem_dec)) | with_reducible refine wg_intI ?_ | with_reducible refine wg_intB ?_ | with_reducible refine wg_ord ?_ | with_reducible refine wg_max2 ?_ | with_reducible refine wg_min2 ?_ | with_reducible refine key_int ?_ | with_reducible refine key_str ?_ | ((with_reducible apply wg_look); (· exact rfl)) | ((with_reducible apply wdicR); (· array_mem_dec)) | ((with_reducible apply wdicRF); (· array_mem_dec)) | ((with_reducible apply wdicAt); (· array_mem_dec)) | ((with_reducible apply wput_dic); (· array_mem_dec); (· exact rfl); (· sizeOf_list_dec)) | ((with_reducible apply wput_lst); (· array_mem_dec); (· sizeOf_list_dec)) | with_reducible refine wtr_b ?_ | with_reducible refine wtr_n ?_ | with_reducible refine wtr_i ?_ | ((with_reducible apply wtr_s); (· sizeOf_list_dec)) | with_reducible refine wtr_l ?_ | ((with_reducible apply wtr_m); (· array_mem_dec)) | ((with_reducible apply wtr_d); (· array_mem_dec)) | with_reducible refine wpart_n ?_ | with_reducible refine wpart_i ?_ | ((with_reducible apply wsl_s_to); (· sizeOf_list_dec)) | ((with_reducible apply wsl_s_from); (· sizeOf_list_dec)) | ((with_reducible apply wsl_s_mid); (· sizeOf_list_dec)) | with_reducible refine wsl_l_to ?_ | with_reducible refine wsl_l_from ?_ | with_reducible refine wsl_l_mid ?_ | ((with_reducible apply wsl_m_to); (· array_mem_dec)) | ((with_reducible apply wsl_m_from); (· array_mem_dec)) | ((with_reducible apply wsl_m_mid); (· array_mem_dec)) | with_reducible refine wseqL ?_ | with_reducible refine wseqT ?_ | with_reducible refine wseqS ?_ | ((with_reducible apply wseqM); (· array_mem_dec)) | with_reducible refine wstillL ?_ | ((with_reducible apply wstillF); (· array_mem_dec)) | ((with_reducible apply wcopyD); (· array_mem_dec)) | ((with_reducible apply wlistM); (· array_mem_dec)) | with_reducible refine wlistML ?_ | with_reducible refine wlistMT ?_ | with_reducible refine wlistL ?_ | with_reducible refine wlistT ?_ | ((with_reducible apply wlistO); (· array_mem_dec)) | ((with_reducible apply wgisiT); (· exact rfl); (· exact rfl)) | ((with_reducible apply wgisiF); (· exact rfl); (· exact rfl)) | ((with_reducible apply wgisiT); (· exact ty_dic (by array_mem_dec)); (· exact rfl)) | ((with_reducible apply wgisiF); (· exact ty_dic (by array_mem_dec)); (· exact rfl)) | ((with_reducible apply wgisiT); (· exact ty_lstM (by array_mem_dec)); (· exact rfl)) | ((with_reducible apply wgisiF); (· exact ty_lstM (by array_mem_dec)); (· exact rfl)) | ((with_reducible apply ixA_tup); (· exact rfl)) | ((with_reducible apply inA_non); (· array_mem_dec)) | ((with_reducible apply ninA_non); (· array_mem_dec)) | ((with_reducible apply inA_dic); (· array_mem_dec); (· exact rfl)) | ((with_reducible apply inA_dicF); (· array_mem_dec); (· exact rfl)) | ((with_reducible apply ninA_dic); (· array_mem_dec); (· exact rfl)) | ((with_reducible apply ninA_dicF); (· array_mem_dec); (· exact rfl)) ) | ((with_reducible refine id_b ?_); first | with_reducible refine wb_true ?_ | with_reducible refine wb_false ?_ | ((with_reducible apply wb_pos); (· (first | with_reducible exact rfl | assumption | omega | (simp only [List.length_cons, List.length_nil, List.length_map]); (·  omega)))) | ((with_reducible apply wb_neg); (· (first | with_reducible exact rfl | assumption | omega | (simp only [List.length_cons, List.length_nil, List.length_map]); (·  omega)))) | ((with_reducible apply wb_npos); (· (first | with_reducible exact rfl | assumption | omega | (simp only [List.length_cons, List.length_nil, List.length_map]); (·  omega)))) | ((with_reducible apply wb_nneg); (· (first | with_reducible exact rfl | assumption | omega | (simp only [List.length_cons, List.length_nil, List.length_map]); (·  omega)))) | ((with_reducible apply wb_t); (· assumption)) | ((with_reducible apply wb_f); (· assumption)) ) | ((with_reducible refine id_t ?_); first | with_reducible refine wt_T ?_ | with_reducible refine wt_n_0 ?_ | with_reducible refine wt_n_1 ?_ | with_reducible refine wt_n_2 ?_ | with_reducible refine wt_n_3 ?_ | with_reducible refine wt_n_4 ?_ | with_reducible refine wt_n_5 ?_ | with_reducible refine wt_n_6 ?_ | with_reducible refine wt_n_7 ?_ | with_reducible refine wt_n_8 ?_ | with_reducible refine wt_n_9 ?_ | with_reducible refine wt_n_10 ?_ | with_reducible refine wt_n_11 ?_ | with_reducible refine wt_n_12 ?_ | with_reducible refine wt_n_13 ?_ | with_reducible refine wt_n_14 ?_ | with_reducible refine wt_n_15 ?_ | with_reducible refine wt_n_16 ?_ | with_reducible refine wt_n_17 ?_ | with_reducible refine wt_n_18 ?_ | with_reducible refine wt_n_19 ?_ | with_reducible refine wt_n_20 ?_ | with_reducible refine wt_n_21 ?_ | with_reducible refine wt_n_22 ?_ | with_reducible refine wt_n_23 ?_ | with_reducible refine wt_n_24 ?_ | with_reducible refine wt_n_25 ?_ | with_reducible refine wt_n_26 ?_ | with_reducible refine wt_n_27 ?_ | with_reducible refine wt_n_28 ?_ | with_reducible refine wt_n_29 ?_ | with_reducible refine wt_n_30 ?_ | with_reducible refine wt_n_31 ?_ | with_reducible refine wt_n_32 ?_ | with_reducible refine wt_n_33 ?_ | with_reducible refine wt_n_34 ?_ | with_reducible refine wt_n_35 ?_ | with_reducible refine wt_n_36 ?_ | with_reducible refine wt_n_37 ?_ | with_reducible refine wt_n_38 ?_ | with_reducible refine wt_n_39 ?_) | with_reducible refine wts_cons ?_ | with_reducible refine wts_nil ?_ | ((with_reducible refine id_i ?_); first | with_reducible refine wi_rng ?_ | with_reducible refine wi_rng2 ?_ | with_reducible refine wi_seq ?_ | with_reducible refine wi_dic ?_ | with_reducible refine wi_rv ?_ | with_reducible refine wi_en ?_ | with_reducible refine wi_zp ?_) | ((with_reducible refine id_h ?_); first | ((with_reducible apply wh_no); (· exact rfl)) | ((with_reducible apply wh_bare); (· exact rfl)) | ((with_reducible apply wh_yes_0); (· exact rfl)) | ((with_reducible apply wh_yes_1); (· exact rfl)) | ((with_reducible apply wh_yes_2); (· exact rfl)) | ((with_reducible apply wh_yes_3); (· exact rfl)) | ((with_reducible apply wh_yes_4); (· exact rfl)) | ((with_reducible apply wh_yes_5); (· exact rfl)) | ((with_reducible apply wh_yes_6); (· exact rfl)) | ((with_reducible apply wh_yes_7); (· exact rfl)) | ((with_reducible apply wh_yes_8); (· exact rfl)) | ((with_reducible apply wh_yes_9); (· exact rfl)) | ((with_reducible apply wh_yes_10); (· exact rfl)) | ((with_reducible apply wh_yes_11); (· exact rfl)) | ((with_reducible apply wh_yes_12); (· exact rfl)) | ((with_reducible apply wh_yes_13); (· exact rfl)) | ((with_reducible apply wh_yes_14); (· exact rfl)) | ((with_reducible apply wh_yes_15); (· exact rfl)) | ((with_reducible apply wh_yes_16); (· exact rfl)) | ((with_reducible apply wh_yes_17); (· exact rfl)) | ((with_reducible apply wh_yes_18); (· exact rfl)) | ((with_reducible apply wh_yes_19); (· exact rfl)) | ((with_reducible apply wh_yes_20); (· exact rfl)) | ((with_reducible apply wh_yes_21); (· exact rfl)) | ((with_reducible apply wh_yes_22); (· exact rfl)) | ((with_reducible apply wh_yes_23); (· exact rfl)) | ((with_reducible apply wh_yes_24); (· exact rfl)) | ((with_reducible apply wh_yes_25); (· exact rfl)) | ((with_reducible apply wh_yes_26); (· exact rfl)) | ((with_reducible apply wh_yes_27); (· exact rfl)) | ((with_reducible apply wh_yes_28); (· exact rfl)) | ((with_reducible apply wh_yes_29); (· exact rfl)) | ((with_reducible apply wh_yes_30); (· exact rfl)) | ((with_reducible apply wh_yes_31); (· exact rfl)) | ((with_reducible apply wh_yes_32); (· exact rfl)) | ((with_reducible apply wh_yes_33); (· exact rfl)) | ((with_reducible apply wh_yes_34); (· exact rfl)) | ((with_reducible apply wh_yes_35); (· exact rfl)) | ((with_reducible apply wh_yes_36); (· exact rfl)) | ((with_reducible apply wh_yes_37); (· exact rfl)) | ((with_reducible apply wh_yes_38); (· exact rfl)) | ((with_reducible apply wh_yes_39); (· exact rfl)) | with_reducible refine wh_nil ?_) | ((with_reducible refine id_cl ?_); first | with_reducible refine wcl_0 ?_ | with_reducible refine wcl_1 ?_ | with_reducible refine wcl_2 ?_ | with_reducible refine wcl_3 ?_ | with_reducible refine wcl_4 ?_ | with_reducible refine wcl_5 ?_ | with_reducible refine wcl_6 ?_ | with_reducible refine wcl_7 ?_ | with_reducible refine wcl_8 ?_ | with_reducible refine wcl_9 ?_ | with_reducible refine wcl_10 ?_ | with_reducible refine wcl_11 ?_ | with_reducible refine wcl_12 ?_ | with_reducible refine wcl_13 ?_ | with_reducible refine wcl_14 ?_ | with_reducible refine wcl_15 ?_ | with_reducible refine wcl_16 ?_ | with_reducible refine wcl_17 ?_ | with_reducible refine wcl_18 ?_ | with_reducible refine wcl_19 ?_ | with_reducible refine wcl_20 ?_ | with_reducible refine wcl_21 ?_ | with_reducible refine wcl_22 ?_ | with_reducible refine wcl_23 ?_ | with_reducible refine wcl_24 ?_ | with_reducible refine wcl_25 ?_ | with_reducible refine wcl_26 ?_ | with_reducible refine wcl_27 ?_ | with_reducible refine wcl_28 ?_ | with_reducible refine wcl_29 ?_ | with_reducible refine wcl_30 ?_ | with_reducible refine wcl_31 ?_ | with_reducible refine wcl_32 ?_ | with_reducible refine wcl_33 ?_ | with_reducible refine wcl_34 ?_ | with_reducible refine wcl_35 ?_ | with_reducible refine wcl_36 ?_ | with_reducible refine wcl_37 ?_ | with_reducible refine wcl_38 ?_ | with_reducible refine wcl_39 ?_) | with_reducible refine wbl ?_ | with_reducible refine wnot_t ?_ | with_reducible refine wnot_f ?_ | with_reducible refine wnot_n ?_ | with_reducible refine wnot ?_ | with_reducible refine wint ?_ | with_reducible refine wstr ?_ | with_reducible refine wobj ?_ | with_reducible refine wnon ?_ | ((with_reducible apply wat); · array_mem_dec) | ((with_reducible refine wyes_c ?_ ?_); (· exact rfl)) | ((with_reducible refine wyes_k ?_ ?_); (· exact rfl)) | ((with_reducible refine wyes_d ?_ ?_); (· exact ⟨rfl, Nat.le_of_ble_eq_true rfl⟩)) | ((with_reducible refine wyes ?_ ?_); · sizeOf_list_dec) | with_reducible refine wyes wlstT ?_ | with_reducible refine wlst ?_ | with_reducible refine wins ?_ | with_reducible refine winm ?_)
section
variable {n : Nat} {b b' L S p q : List Nat} {c x y : Nat}
structure Bd (b : List Nat) : Prop where
  lt : ∀ c, c ∈ b → c < 128
  ln : b.length < 10000
theorem Bd.drop (h : Bd S) (k : Nat) : Bd (S.drop k) := ⟨fun c hc => h.lt c (List.mem_of_mem_drop hc), by rw [List.length_drop]; have := h.ln; omega⟩
end
end DM

namespace DM
open PySem PySem.Spec PyProof.Rows L2
local macro_rules | `(tactic| sizeOf_list_dec) => `(tactic| first | assumption | omega | exact Nat.zero_le _ | (simp only [List.length_cons, List.length_nil, List.length_append, List.length_map, List.length_replicate, List.length_range, List.length_take, List.length_drop, List.length_reverse]; omega) | (decide; done))
local macro_rules | `(tactic| array_mem_dec) => `(tactic| (repeat (first | with_reducible assumption | with_reducible exact mem_new | with_reducible apply mem_same' | ((with_reducible apply mem_ne'); (· first | assumption | omega)) | with_reducible apply mem_old | with_reducible exact mem_hd | with_reducible apply mem_app)); done)
local macro_rules | `(tactic| array_get_dec) => `(tactic| first | ((with_reducible refine id_e ?_); first | with_reducible refine we_c ?_ | with_reducible refine we_op ?_ | with_reducible refine we_cb ?_ | with_reducible refine we_call0 ?_ | with_reducible refine we_call ?_ | with_reducible refine we_B ?_ | with_reducible refine we_tru ?_ | with_reducible refine we_not ?_ | with_reducible refine we_and ?_ | with_reducible refine we_or ?_ | with_reducible refine we_if ?_ | with_reducible refine we_neg ?_ | with_reducible refine we_I ?_ | with_reducible refine we_chain ?_ | with_reducible refine we_tup ?_ | with_reducible refine we_lst ?_ | with_reducible refine we_lstM0 ?_ | with_reducible refine we_lstM ?_ | with_reducible refine we_dnew ?_ | with_reducible refine we_sl ?_ | with_reducible refine we_m1 ?_ | with_reducible refine we_isiT ?_ | with_reducible refine we_append ?_ | with_reducible refine we_get1 ?_ | with_reducible refine we_get2 ?_ | with_reducible refine we_pop2 ?_ | with_reducible refine we_pop1 ?_ | with_reducible refine we_cm ?_ | with_reducible refine we_fld ?_ | with_reducible refine we_meth ?_ | with_reducible refine we_make ?_ | with_reducible refine we_yes ?_ | with_reducible refine we_popA ?_ | ((with_reducible apply we_xf); (· exact rfl)) | ((with_reducible apply we_is); (· exact rfl)) | with_reducible refine we_var_0 ?_ | with_reducible refine we_var_1 ?_ | with_reducible refine we_var_2 ?_ | with_reducible refine we_var_3 ?_ | with_reducible refine we_var_4 ?_ | with_reducible refine we_var_5 ?_ | with_reducible refine we_var_6 ?_ | with_reducible refine we_var_7 ?_ | with_reducible refine we_var_8 ?_ | with_reducible refine we_var_9 ?_ | with_reducible refine we_var_10 ?_ | with_reducible refine we_var_11 ?_ | with_reducible refine we_var_12 ?_ | with_reducible refine we_var_13 ?_ | with_reducible refine we_var_14 ?_ | with_reducible refine we_var_15 ?_ | with_reducible refine we_var_16 ?_ | with_reducible refine we_var_17 ?_ | with_reducible refine we_var_18 ?_ | with_reducible refine we_var_19 ?_ | with_reducible refine we_var_20 ?_ | with_reducible refine we_var_21 ?_ | with_reducible refine we_var_22 ?_ | with_reducible refine we_var_23 ?_ | with_reducible refine we_var_24 ?_ | with_reducible refine we_var_25 ?_ | with_reducible refine we_var_26 ?_ | with_reducible refine we_var_27 ?_ | with_reducible refine we_var_28 ?_ | with_reducible refine we_var_29 ?_ | with_reducible refine we_var_30 ?_ | with_reducible refine we_var_31 ?_ | with_reducible refine we_var_32 ?_ | with_reducible refine we_var_33 ?_ | with_reducible refine we_var_34 ?_ | with_reducible refine we_var_35 ?_ | with_reducible refine we_var_36 ?_ | with_reducible refine we_var_37 ?_ | with_reducible refine we_var_38 ?_ | with_reducible refine we_var_39 ?_) | ((with_reducible refine id_s ?_); first | with_reducible refine ws_seq ?_ | with_reducible refine ws_next ?_ | with_reducible refine ws_drop ?_ | with_reducible refine ws_ret ?_ | with_reducible refine ws_retN ?_ | with_reducible refine ws_brk ?_ | with_reducible refine ws_cnt ?_ | with_reducible refine ws_asg ?_ | with_reducible refine ws_if ?_ | with_reducible refine ws_put ?_ | with_reducible refine ws_fldP ?_ | with_reducible refine ws_fldA ?_ | with_reducible refine ws_daug ?_ | with_reducible refine ws_try ?_ | with_reducible refine ws_raise ?_ | with_reducible refine ws_raise0 ?_ | with_reducible refine ws_set_0 ?_ | with_reducible refine ws_set_1 ?_ | with_reducible refine ws_set_2 ?_ | with_reducible refine ws_set_3 ?_ | with_reducible refine ws_set_4 ?_ | with_reducible refine ws_set_5 ?_ | with_reducible refine ws_set_6 ?_ | with_reducible refine ws_set_7 ?_ | with_reducible refine ws_set_8 ?_ | with_reducible refine ws_set_9 ?_ | with_reducible refine ws_set_10 ?_ | with_reducible refine ws_set_11 ?_ | with_reducible refine ws_set_12 ?_ | with_reducible refine ws_set_13 ?_ | with_reducible refine ws_set_14 ?_ | with_reducible refine ws_set_15 ?_ | with_reducible refine ws_set_16 ?_ | with_reducible refine ws_set_17 ?_ | with_reducible refine ws_set_18 ?_ | with_reducible refine ws_set_19 ?_ | with_reducible refine ws_set_20 ?_ | with_reducible refine ws_set_21 ?_ | with_reducible refine ws_set_22 ?_ | with_reducible refine ws_set_23 ?_ | with_reducible refine ws_set_24 ?_ | with_reducible refine ws_set_25 ?_ | with_reducible refine ws_set_26 ?_ | with_reducible refine ws_set_27 ?_ | with_reducible refine ws_set_28 ?_ | with_reducible refine ws_set_29 ?_ | with_reducible refine ws_set_30 ?_ | with_reducible refine ws_set_31 ?_ | with_reducible refine ws_set_32 ?_ | with_reducible refine ws_set_33 ?_ | with_reducible refine ws_set_34 ?_ | with_reducible refine ws_set_35 ?_ | with_reducible refine ws_set_36 ?_ | with_reducible refine ws_set_37 ?_ | with_reducible refine ws_set_38 ?_ | with_reducible refine ws_set_39 ?_ | with_reducible refine ws_aug_0 ?_ | with_reducible refine ws_aug_1 ?_ | with_reducible refine ws_aug_2 ?_ | with_reducible refine ws_aug_3 ?_ | with_reducible refine ws_aug_4 ?_ | with_reducible refine ws_aug_5 ?_ | with_reducible refine ws_aug_6 ?_ | with_reducible refine ws_aug_7 ?_ | with_reducible refine ws_aug_8 ?_ | with_reducible refine ws_aug_9 ?_ | with_reducible refine ws_aug_10 ?_ | with_reducible refine ws_aug_11 ?_ | with_reducible refine ws_aug_12 ?_ | with_reducible refine ws_aug_13 ?_ | with_reducible refine ws_aug_14 ?_ | with_reducible refine ws_aug_15 ?_ | with_reducible refine ws_aug_16 ?_ | with_reducible refine ws_aug_17 ?_ | with_reducible refine ws_aug_18 ?_ | with_reducible refine ws_aug_19 ?_ | with_reducible refine ws_aug_20 ?_ | with_reducible refine ws_aug_21 ?_ | with_reducible refine ws_aug_22 ?_ | with_reducible refine ws_aug_23 ?_ | with_reducible refine ws_aug_24 ?_ | with_reducible refine ws_aug_25 ?_ | with_reducible refine ws_aug_26 ?_ | with_reducible refine ws_aug_27 ?_ | with_reducible refine ws_aug_28 ?_ | with_reducible refine ws_aug_29 ?_ | with_reducible refine ws_aug_30 ?_ | with_reducible refine ws_aug_31 ?_ | with_reducible refine ws_aug_32 ?_ | with_reducible refine ws_aug_33 ?_ | with_reducible refine ws_aug_34 ?_ | with_reducible refine ws_aug_35 ?_ | with_reducible refine ws_aug_36 ?_ | with_reducible refine ws_aug_37 ?_ | with_reducible refine ws_aug_38 ?_ | with_reducible refine ws_aug_39 ?_) | ((with_reducible refine id_a ?_); first | with_reducible refine wa_cons ?_ | with_reducible refine wa_nil ?_) | ((with_reducible refine id_g ?_); first | with_reducible refine wg_add ?_ | ((with_reducible apply wg_adds); (· sizeOf_list_dec)) | ((with_reducible apply wg_addl); (· sizeOf_list_dec)) | with_reducible refine wg_plus ?_ | ((with_reducible apply wg_pluss); (· sizeOf_list_dec)) | with_reducible refine wg_plusI ?_ | with_reducible refine wg_minus ?_ | with_reducible refine wg_sub ?_ | with_reducible refine wg_pow9 ?_ | with_reducible refine wg_pow6 ?_ | with_reducible refine wg_pow3 ?_ | with_reducible refine wg_pow18 ?_ | ((with_reducible apply wg_mod); (· sizeOf_list_dec)) | ((with_reducible apply wg_div); (· sizeOf_list_dec)) | ((with_reducible apply wg_mul); (· sizeOf_list_dec)) | ((with_reducible apply wg_mulA); (· sizeOf_list_dec)) | ((with_reducible apply wg_mulS1); (· sizeOf_list_dec)) | ((with_reducible apply wg_mulS); (· sizeOf_list_dec)) | with_reducible refine wg_lt ?_ | with_reducible refine wg_le ?_ | with_reducible refine wg_gt ?_ | with_reducible refine wg_ge ?_ | with_reducible refine wg_eq ?_ | with_reducible refine wg_ne ?_ | with_reducible refine wg_eqs ?_ | with_reducible refine wg_nes ?_ | with_reducible refine wg_eqnn ?_ | with_reducible refine wg_eqni ?_ | with_reducible refine wg_eqin ?_ | with_reducible refine wg_eqns ?_ | with_reducible refine wg_eqsn ?_ | with_reducible refine wg_nenn ?_ | with_reducible refine wg_neni ?_ | with_reducible refine wg_nein ?_ | with_reducible refine wg_nens ?_ | with_reducible refine wg_nesn ?_ | with_reducible refine wg_isNn ?_ | with_reducible refine wg_isNi ?_ | with_reducible refine wg_isNs ?_ | with_reducible refine wg_isNt ?_ | with_reducible refine wg_isNl ?_ | with_reducible refine wg_isNo ?_ | with_reducible refine wg_notNn ?_ | with_reducible refine wg_notNi ?_ | with_reducible refine wg_notNs ?_ | with_reducible refine wg_notNt ?_ | with_reducible refine wg_notNl ?_ | with_reducible refine wg_notNo ?_ | ((with_reducible apply wg_lenS); (· sizeOf_list_dec)) | with_reducible refine wg_lenL ?_ | with_reducible refine wg_lenT ?_ | ((with_reducible apply wg_lenM); (· array_mem_dec)) | ((with_reducible apply wg_lenD); (· array_mem_dec)) | with_reducible refine wg_intI ?_ | with_reducible refine wg_intB ?_ | with_reducible refine wg_ord ?_ | with_reducible refine wg_max2 ?_ | with_reducible refine wg_min2 ?_ | with_reducible refine key_int ?_ | with_reducible refine key_str ?_ | ((with_reducible apply wg_look); (· exact rfl)) | ((with_reducible apply wdicR); (· array_mem_dec)) | ((with_reducible apply wdicRF); (· array_mem_dec)) | ((with_reducible apply wdicAt); (· array_mem_dec)) | ((with_reducible apply wput_dic); (· array_mem_dec); (· exact rfl); (· sizeOf_list_dec)) | ((with_reducible apply wput_lst); (· array_mem_dec); (· sizeOf_list_dec)) | with_reducible refine wtr_b ?_ | with_reducible refine wtr_n ?_ | with_reducible refine wtr_i ?_ | ((with_reducible apply wtr_s); (· sizeOf_list_dec)) | with_reducible refine wtr_l ?_ | ((with_reducible apply wtr_m); (· array_mem_dec)) | ((with_reducible apply wtr_d); (· array_mem_dec)) | with_reducible refine wpart_n ?_ | with_reducible refine wpart_i ?_ | ((with_reducible apply wsl_s_to); (· sizeOf_list_dec)) | ((with_reducible apply wsl_s_from); (· sizeOf_list_dec)) | ((with_reducible apply wsl_s_mid); (· sizeOf_list_dec)) | with_reducible refine wsl_l_to ?_ | with_reducible refine wsl_l_from ?_ | with_reducible refine wsl_l_mid ?_ | ((with_reducible apply wsl_m_to); (· array_mem_dec)) | ((with_reducible apply wsl_m_from); (· array_mem_dec)) | ((with_reducible apply wsl_m_mid); (· array_mem_dec)) | with_reducible refine wseqL ?_ | with_reducible refine wseqT ?_ | with_reducible refine wseqS ?_ | ((with_reducible apply wseqM); (· array_mem_dec)) | with_reducible refine wstillL ?_ | ((with_reducible apply wstillF); (· array_mem_dec)) | ((with_reducible apply wcopyD); (· array_mem_dec)) | ((with_reducible apply wlistM); (· array_mem_dec)) | with_reducible refine wlistML ?_ | with_reducible refine wlistMT ?_ | with_reducible refine wlistL ?_ | with_reducible refine wlistT ?_ | ((with_reducible apply wlistO); (· array_mem_dec)) | ((with_reducible apply wgisiT); (· exact rfl); (· exact rfl)) | ((with_reducible apply wgisiF); (· exact rfl); (· exact rfl)) | ((with_reducible apply wgisiT); (· exact ty_dic (by array_mem_dec)); (· exact rfl)) | ((with_reducible apply wgisiF); (· exact ty_dic (by array_mem_dec)); (· exact rfl)) | ((with_reducible apply wgisiT); (· exact ty_lstM (by array_mem_dec)); (· exact rfl)) | ((with_reducible apply wgisiF); (· exact ty_lstM (by array_mem_dec)); (· exact rfl)) | ((with_reducible apply ixA_tup); (· exact rfl)) | ((with_reducible apply inA_non); (· array_mem_dec)) | ((with_reducible apply ninA_non); (· array_mem_dec)) | ((with_reducible apply inA_dic); (· array_mem_dec); (· exact rfl)) | ((with_reducible apply inA_dicF); (· array_mem_dec); (· exact rfl)) | ((with_reducible apply ninA_dic); (· array_mem_dec); (· exact rfl)) | ((with_reducible apply ninA_dicF); (· array_mem_dec); (· exact rfl)) ) | ((with_reducible refine id_b ?_); first | with_reducible refine wb_true ?_ | with_reducible refine wb_false ?_ | ((with_reducible apply wb_pos); (· (first | with_reducible exact rfl | assumption | omega | (simp only [List.length_cons, List.length_nil, List.length_map]); (·  omega)))) | ((with_reducible apply wb_neg); (· (first | with_reducible exact rfl | assumption | omega | (simp only [List.length_cons, List.length_nil, List.length_map]); (·  omega)))) | ((with_reducible apply wb_npos); (· (first | with_reducible exact rfl | assumption | omega | (simp only [List.length_cons, List.length_nil, List.length_map]); (·  omega)))) | ((with_reducible apply wb_nneg); (· (first | with_reducible exact rfl | assumption | omega | (simp only [List.length_cons, List.length_nil, List.length_map]); (·  omega)))) | ((with_reducible apply wb_t); (· assumption)) | ((with_reducible apply wb_f); (· assumption)) ) | ((with_reducible refine id_t ?_); first | with_reducible refine wt_T ?_ | with_reducible refine wt_n_0 ?_ | with_reducible refine wt_n_1 ?_ | with_reducible refine wt_n_2 ?_ | with_reducible refine wt_n_3 ?_ | with_reducible refine wt_n_4 ?_ | with_reducible refine wt_n_5 ?_ | with_reducible refine wt_n_6 ?_ | with_reducible refine wt_n_7 ?_ | with_reducible refine wt_n_8 ?_ | with_reducible refine wt_n_9 ?_ | with_reducible refine wt_n_10 ?_ | with_reducible refine wt_n_11 ?_ | with_reducible refine wt_n_12 ?_ | with_reducible refine wt_n_13 ?_ | with_reducible refine wt_n_14 ?_ | with_reducible refine wt_n_15 ?_ | with_reducible refine wt_n_16 ?_ | with_reducible refine wt_n_17 ?_ | with_reducible refine wt_n_18 ?_ | with_reducible refine wt_n_19 ?_ | with_reducible refine wt_n_20 ?_ | with_reducible refine wt_n_21 ?_ | with_reducible refine wt_n_22 ?_ | with_reducible refine wt_n_23 ?_ | with_reducible refine wt_n_24 ?_ | with_reducible refine wt_n_25 ?_ | with_reducible refine wt_n_26 ?_ | with_reducible refine wt_n_27 ?_ | with_reducible refine wt_n_28 ?_ | with_reducible refine wt_n_29 ?_ | with_reducible refine wt_n_30 ?_ | with_reducible refine wt_n_31 ?_ | with_reducible refine wt_n_32 ?_ | with_reducible refine wt_n_33 ?_ | with_reducible refine wt_n_34 ?_ | with_reducible refine wt_n_35 ?_ | with_reducible refine wt_n_36 ?_ | with_reducible refine wt_n_37 ?_ | with_reducible refine wt_n_38 ?_ | with_reducible refine wt_n_39 ?_) | with_reducible refine wts_cons ?_ | with_reducible refine wts_nil ?_ | ((with_reducible refine id_i ?_); first | with_reducible refine wi_rng ?_ | with_reducible refine wi_rng2 ?_ | with_reducible refine wi_seq ?_ | with_reducible refine wi_dic ?_ | with_reducible refine wi_rv ?_ | with_reducible refine wi_en ?_ | with_reducible refine wi_zp ?_) | ((with_reducible refine id_h ?_); first | ((with_reducible apply wh_no); (· exact rfl)) | ((with_reducible apply wh_bare); (· exact rfl)) | ((with_reducible apply wh_yes_0); (· exact rfl)) | ((with_reducible apply wh_yes_1); (· exact rfl)) | ((with_reducible apply wh_yes_2); (· exact rfl)) | ((with_reducible apply wh_yes_3); (· exact rfl)) | ((with_reducible apply wh_yes_4); (· exact rfl)) | ((with_reducible apply wh_yes_5); (· exact rfl)) | ((with_reducible apply wh_yes_6); (· exact rfl)) | ((with_reducible apply wh_yes_7); (· exact rfl)) | ((with_reducible apply wh_yes_8); (· exact rfl)) | ((with_reducible apply wh_yes_9); (· exact rfl)) | ((with_reducible apply wh_yes_10); (· exact rfl)) | ((with_reducible apply wh_yes_11); (· exact rfl)) | ((with_reducible apply wh_yes_12); (· exact rfl)) | ((with_reducible apply wh_yes_13); (· exact rfl)) | ((with_reducible apply wh_yes_14); (· exact rfl)) | ((with_reducible apply wh_yes_15); (· exact rfl)) | ((with_reducible apply wh_yes_16); (· exact rfl)) | ((with_reducible apply wh_yes_17); (· exact rfl)) | ((with_reducible apply wh_yes_18); (· exact rfl)) | ((with_reducible apply wh_yes_19); (· exact rfl)) | ((with_reducible apply wh_yes_20); (· exact rfl)) | ((with_reducible apply wh_yes_21); (· exact rfl)) | ((with_reducible apply wh_yes_22); (· exact rfl)) | ((with_reducible apply wh_yes_23); (· exact rfl)) | ((with_reducible apply wh_yes_24); (· exact rfl)) | ((with_reducible apply wh_yes_25); (· exact rfl)) | ((with_reducible apply wh_yes_26); (· exact rfl)) | ((with_reducible apply wh_yes_27); (· exact rfl)) | ((with_reducible apply wh_yes_28); (· exact rfl)) | ((with_reducible apply wh_yes_29); (· exact rfl)) | ((with_reducible apply wh_yes_30); (· exact rfl)) | ((with_reducible apply wh_yes_31); (· exact rfl)) | ((with_reducible apply wh_yes_32); (· exact rfl)) | ((with_reducible apply wh_yes_33); (· exact rfl)) | ((with_reducible apply wh_yes_34); (· exact rfl)) | ((with_reducible apply wh_yes_35); (· exact rfl)) | ((with_reducible apply wh_yes_36); (· exact rfl)) | ((with_reducible apply wh_yes_37); (· exact rfl)) | ((with_reducible apply wh_yes_38); (· exact rfl)) | ((with_reducible apply wh_yes_39); (· exact rfl)) | with_reducible refine wh_nil ?_) | ((with_reducible refine id_cl ?_); first | with_reducible refine wcl_0 ?_ | with_reducible refine wcl_1 ?_ | with_reducible refine wcl_2 ?_ | with_reducible refine wcl_3 ?_ | with_reducible refine wcl_4 ?_ | with_reducible refine wcl_5 ?_ | with_reducible refine wcl_6 ?_ | with_reducible refine wcl_7 ?_ | with_reducible refine wcl_8 ?_ | with_reducible refine wcl_9 ?_ | with_reducible refine wcl_10 ?_ | with_reducible refine wcl_11 ?_ | with_reducible refine wcl_12 ?_ | with_reducible refine wcl_13 ?_ | with_reducible refine wcl_14 ?_ | with_reducible refine wcl_15 ?_ | with_reducible refine wcl_16 ?_ | with_reducible refine wcl_17 ?_ | with_reducible refine wcl_18 ?_ | with_reducible refine wcl_19 ?_ | with_reducible refine wcl_20 ?_ | with_reducible refine wcl_21 ?_ | with_reducible refine wcl_22 ?_ | with_reducible refine wcl_23 ?_ | with_reducible refine wcl_24 ?_ | with_reducible refine wcl_25 ?_ | with_reducible refine wcl_26 ?_ | with_reducible refine wcl_27 ?_ | with_reducible refine wcl_28 ?_ | with_reducible refine wcl_29 ?_ | with_reducible refine wcl_30 ?_ | with_reducible refine wcl_31 ?_ | with_reducible refine wcl_32 ?_ | with_reducible refine wcl_33 ?_ | with_reducible refine wcl_34 ?_ | with_reducible refine wcl_35 ?_ | with_reducible refine wcl_36 ?_ | with_reducible refine wcl_37 ?_ | with_reducible refine wcl_38 ?_ | with_reducible refine wcl_39 ?_) | with_reducible refine wbl ?_ | with_reducible refine wnot_t ?_ | with_reducible refine wnot_f ?_ | with_reducible refine wnot_n ?_ | with_reducible refine wnot ?_ | with_reducible refine wint ?_ | with_reducible refine wstr ?_ | with_reducible refine wobj ?_ | with_reducible refine wnon ?_ | ((with_reducible apply wat); · array_mem_dec) | ((with_reducible refine wyes_c ?_ ?_); (· exact rfl)) | ((with_reducible refine wyes_k ?_ ?_); (· exact rfl)) | ((with_reducible refine wyes_d ?_ ?_); (· exact ⟨rfl, Nat.le_of_ble_eq_true rfl⟩)) | ((with_reducible refine wyes ?_ ?_); · sizeOf_list_dec) | with_reducible refine wyes wlstT ?_ | with_reducible refine wlst ?_ | with_reducible refine wins ?_ | with_reducible refine winm ?_)
section
variable {m m' : Mu} {q o : Nat} {Ls : List (List Nat)}
structure BookOk (m : Mu) (q o : Nat) (Ls : List (List Nat)) : Prop where
  ob : m[q]? = some (.ins "Book" [("lines", .obj o)])
  ln : m[o]? = some (.lst (Ls.map .str))
  ne : q ≠ o
def wbO (n : Nat) (l : List Nat) : Option (List Nat) := if lineS n (l.drop 18) = l ∧ ((l.drop 18).head? = some 43 ∨ (l.drop 18).head? = some 46) then some (l.drop 18) else none
def strO : Option (List Nat) → DV
  | none => .non
  | some b => .str b
structure ActsAt (m : Mu) (ao : Nat) (acts : List (List (List Nat))) (os : List Nat) : Prop where
  ls : m[ao]? = some (.lst (os.map .obj))
  ln : os.length = acts.length
  at_ : ∀ (i : Nat) a, acts[i]? = some a → ∃ k, os[i]? = some k ∧ k ≠ ao ∧ m[k]? = some (.lst (a.map .str))
structure RdS where
  acts : List (List (List Nat))
  act : List (List Nat)
  kept : Nat
def RdS.step (s : RdS) (k : Nat) (b : List Nat) : RdS := if b.head? = some 46 then ⟨s.acts ++ [s.act ++ [b.tail]], [], k + 1⟩ else ⟨s.acts, s.act ++ [b.tail], s.kept⟩
def rdS : RdS → Nat → List (List Nat) → RdS ⊕ Nat
  | s, _, [] => .inl s
  | s, k, l :: r => match wbO k l with
    | none => if r = [] then .inl s else .inr k
    | some b => rdS (s.step k b) (k + 1) r
def KpX (x : DV) (Ls : List (List Nat)) (m : Mu) : Prop := x = .lst (Ls.map .str) ∨ ∃ lo, x = .obj lo ∧ m[lo]? = some (.lstF (Ls.map .str))
theorem KpX.still {x : DV} (h : KpX x Ls m) : stillOf m x = some (Ls.map .str) := by
  rcases h with rfl | ⟨lo, rfl, h⟩
  · rfl
  · show (match m[lo]? with | some (.lstF ds) => some ds | _ => none) = _
    rw [h]
theorem KpX.len {x : DV} (h : KpX x Ls m) : gLen [x] m = some (.int (Ls.length : Nat)) := by
  rcases h with rfl | ⟨lo, rfl, h⟩
  · show some (DV.int ((Ls.map DV.str).length : Nat)) = _
    rw [List.length_map]
  · show (match lstOf m (.obj lo) with | some ds => some (DV.int ds.length) | none => match m[lo]? with | some (.dic kvs) => some (.int kvs.length) | _ => none) = _
    rw [show lstOf m (.obj lo) = some (Ls.map .str) from by show (match m[lo]? with | some (.lst ds) => some ds | some (.lstF ds) => some ds | _ => none) = _; rw [h]]
    dsimp only
    rw [List.length_map]
theorem KpX.upd {x : DV} (h : KpX x Ls m) {n0 : Nat} (hx : ∀ lo, x = .obj lo → lo < n0) (g : ∀ k u, k < n0 → m[k]? = some u → m'[k]? = some u) : KpX x Ls m' := h.imp id fun ⟨lo, e, h⟩ => ⟨lo, e, g _ _ (hx lo e) h⟩
end
end DM

namespace DM
open PySem PySem.Spec PyProof.Rows L2
local macro_rules | `(tactic| sizeOf_list_dec) => `(tactic| first | assumption | omega | exact Nat.zero_le _ | (simp only [List.length_cons, List.length_nil, List.length_append, List.length_map, List.length_replicate, List.length_range, List.length_take, List.length_drop, List.length_reverse]; omega) | (decide; done))
local macro_rules | `(tactic| array_mem_dec) => `(tactic| (repeat (first | with_reducible assumption | with_reducible exact mem_new | with_reducible apply mem_same' | ((with_reducible apply mem_ne'); (· first | assumption | omega)) | with_reducible apply mem_old | with_reducible exact mem_hd | with_reducible apply mem_app)); done)
local macro_rules | `(tactic| array_get_dec) => `(tactic| first | ((with_reducible refine id_e ?_); first | with_reducible refine we_c ?_ | with_reducible refine we_op ?_ | with_reducible refine we_cb ?_ | with_reducible refine we_call0 ?_ | with_reducible refine we_call ?_ | with_reducible refine we_B ?_ | with_reducible refine we_tru ?_ | with_reducible refine we_not ?_ | with_reducible refine we_and ?_ | with_reducible refine we_or ?_ | with_reducible refine we_if ?_ | with_reducible refine we_neg ?_ | with_reducible refine we_I ?_ | with_reducible refine we_chain ?_ | with_reducible refine we_tup ?_ | with_reducible refine we_lst ?_ | with_reducible refine we_lstM0 ?_ | with_reducible refine we_lstM ?_ | with_reducible refine we_dnew ?_ | with_reducible refine we_sl ?_ | with_reducible refine we_m1 ?_ | with_reducible refine we_isiT ?_ | with_reducible refine we_append ?_ | with_reducible refine we_get1 ?_ | with_reducible refine we_get2 ?_ | with_reducible refine we_pop2 ?_ | with_reducible refine we_pop1 ?_ | with_reducible refine we_cm ?_ | with_reducible refine we_fld ?_ | with_reducible refine we_meth ?_ | with_reducible refine we_make ?_ | with_reducible refine we_yes ?_ | with_reducible refine we_popA ?_ | ((with_reducible apply we_xf); (· exact rfl)) | ((with_reducible apply we_is); (· exact rfl)) | with_reducible refine we_var_0 ?_ | with_reducible refine we_var_1 ?_ | with_reducible refine we_var_2 ?_ | with_reducible refine we_var_3 ?_ | with_reducible refine we_var_4 ?_ | with_reducible refine we_var_5 ?_ | with_reducible refine we_var_6 ?_ | with_reducible refine we_var_7 ?_ | with_reducible refine we_var_8 ?_ | with_reducible refine we_var_9 ?_ | with_reducible refine we_var_10 ?_ | with_reducible refine we_var_11 ?_ | with_reducible refine we_var_12 ?_ | with_reducible refine we_var_13 ?_ | with_reducible refine we_var_14 ?_ | with_reducible refine we_var_15 ?_ | with_reducible refine we_var_16 ?_ | with_reducible refine we_var_17 ?_ | with_reducible refine we_var_18 ?_ | with_reducible refine we_var_19 ?_ | with_reducible refine we_var_20 ?_ | with_reducible refine we_var_21 ?_ | with_reducible refine we_var_22 ?_ | with_reducible refine we_var_23 ?_ | with_reducible refine we_var_24 ?_ | with_reducible refine we_var_25 ?_ | with_reducible refine we_var_26 ?_ | with_reducible refine we_var_27 ?_ | with_reducible refine we_var_28 ?_ | with_reducible refine we_var_29 ?_ | with_reducible refine we_var_30 ?_ | with_reducible refine we_var_31 ?_ | with_reducible refine we_var_32 ?_ | with_reducible refine we_var_33 ?_ | with_reducible refine we_var_34 ?_ | with_reducible refine we_var_35 ?_ | with_reducible refine we_var_36 ?_ | with_reducible refine we_var_37 ?_ | with_reducible refine we_var_38 ?_ | with_reducible refine we_var_39 ?_) | ((with_reducible refine id_s ?_); first | with_reducible refine ws_seq ?_ | with_reducible refine ws_next ?_ | with_reducible refine ws_drop ?_ | with_reducible refine ws_ret ?_ | with_reducible refine ws_retN ?_ | with_reducible refine ws_brk ?_ | with_reducible refine ws_cnt ?_ | with_reducible refine ws_asg ?_ | with_reducible refine ws_if ?_ | with_reducible refine ws_put ?_ | with_reducible refine ws_fldP ?_ | with_reducible refine ws_fldA ?_ | with_reducible refine ws_daug ?_ | with_reducible refine ws_try ?_ | with_reducible refine ws_raise ?_ | with_reducible refine ws_raise0 ?_ | with_reducible refine ws_set_0 ?_ | with_reducible refine ws_set_1 ?_ | with_reducible refine ws_set_2 ?_ | with_reducible refine ws_set_3 ?_ | with_reducible refine ws_set_4 ?_ | with_reducible refine ws_set_5 ?_ | with_reducible refine ws_set_6 ?_ | with_reducible refine ws_set_7 ?_ | with_reducible refine ws_set_8 ?_ | with_reducible refine ws_set_9 ?_ | with_reducible refine ws_set_10 ?_ | with_reducible refine ws_set_11 ?_ | with_reducible refine ws_set_12 ?_ | with_reducible refine ws_set_13 ?_ | with_reducible refine ws_set_14 ?_ | with_reducible refine ws_set_15 ?_ | with_reducible refine ws_set_16 ?_ | with_reducible refine ws_set_17 ?_ | with_reducible refine ws_set_18 ?_ | with_reducible refine ws_set_19 ?_ | with_reducible refine ws_set_20 ?_ | with_reducible refine ws_set_21 ?_ | with_reducible refine ws_set_22 ?_ | with_reducible refine ws_set_23 ?_ | with_reducible refine ws_set_24 ?_ | with_reducible refine ws_set_25 ?_ | with_reducible refine ws_set_26 ?_ | with_reducible refine ws_set_27 ?_ | with_reducible refine ws_set_28 ?_ | with_reducible refine ws_set_29 ?_ | with_reducible refine ws_set_30 ?_ | with_reducible refine ws_set_31 ?_ | with_reducible refine ws_set_32 ?_ | with_reducible refine ws_set_33 ?_ | with_reducible refine ws_set_34 ?_ | with_reducible refine ws_set_35 ?_ | with_reducible refine ws_set_36 ?_ | with_reducible refine ws_set_37 ?_ | with_reducible refine ws_set_38 ?_ | with_reducible refine ws_set_39 ?_ | with_reducible refine ws_aug_0 ?_ | with_reducible refine ws_aug_1 ?_ | with_reducible refine ws_aug_2 ?_ | with_reducible refine ws_aug_3 ?_ | with_reducible refine ws_aug_4 ?_ | with_reducible refine ws_aug_5 ?_ | with_reducible refine ws_aug_6 ?_ | with_reducible refine ws_aug_7 ?_ | with_reducible refine ws_aug_8 ?_ | with_reducible refine ws_aug_9 ?_ | with_reducible refine ws_aug_10 ?_ | with_reducible refine ws_aug_11 ?_ | with_reducible refine ws_aug_12 ?_ | with_reducible refine ws_aug_13 ?_ | with_reducible refine ws_aug_14 ?_ | with_reducible refine ws_aug_15 ?_ | with_reducible refine ws_aug_16 ?_ | with_reducible refine ws_aug_17 ?_ | with_reducible refine ws_aug_18 ?_ | with_reducible refine ws_aug_19 ?_ | with_reducible refine ws_aug_20 ?_ | with_reducible refine ws_aug_21 ?_ | with_reducible refine ws_aug_22 ?_ | with_reducible refine ws_aug_23 ?_ | with_reducible refine ws_aug_24 ?_ | with_reducible refine ws_aug_25 ?_ | with_reducible refine ws_aug_26 ?_ | with_reducible refine ws_aug_27 ?_ | with_reducible refine ws_aug_28 ?_ | with_reducible refine ws_aug_29 ?_ | with_reducible refine ws_aug_30 ?_ | with_reducible refine ws_aug_31 ?_ | with_reducible refine ws_aug_32 ?_ | with_reducible refine ws_aug_33 ?_ | with_reducible refine ws_aug_34 ?_ | with_reducible refine ws_aug_35 ?_ | with_reducible refine ws_aug_36 ?_ | with_reducible refine ws_aug_37 ?_ | with_reducible refine ws_aug_38 ?_ | with_reducible refine ws_aug_39 ?_) | ((with_reducible refine id_a ?_); first | with_reducible refine wa_cons ?_ | with_reducible refine wa_nil ?_) | ((with_reducible refine id_g ?_); first | with_reducible refine wg_add ?_ | ((with_reducible apply wg_adds); (· sizeOf_list_dec)) | ((with_reducible apply wg_addl); (· sizeOf_list_dec)) | with_reducible refine wg_plus ?_ | ((with_reducible apply wg_pluss); (· sizeOf_list_dec)) | with_reducible refine wg_plusI ?_ | with_reducible refine wg_minus ?_ | with_reducible refine wg_sub ?_ | with_reducible refine wg_pow9 ?_ | with_reducible refine wg_pow6 ?_ | with_reducible refine wg_pow3 ?_ | with_reducible refine wg_pow18 ?_ | ((with_reducible apply wg_mod); (· sizeOf_list_dec)) | ((with_reducible apply wg_div); (· sizeOf_list_dec)) | ((with_reducible apply wg_mul); (· sizeOf_list_dec)) | ((with_reducible apply wg_mulA); (· sizeOf_list_dec)) | ((with_reducible apply wg_mulS1); (· sizeOf_list_dec)) | ((with_reducible apply wg_mulS); (· sizeOf_list_dec)) | with_reducible refine wg_lt ?_ | with_reducible refine wg_le ?_ | with_reducible refine wg_gt ?_ | with_reducible refine wg_ge ?_ | with_reducible refine wg_eq ?_ | with_reducible refine wg_ne ?_ | with_reducible refine wg_eqs ?_ | with_reducible refine wg_nes ?_ | with_reducible refine wg_eqnn ?_ | with_reducible refine wg_eqni ?_ | with_reducible refine wg_eqin ?_ | with_reducible refine wg_eqns ?_ | with_reducible refine wg_eqsn ?_ | with_reducible refine wg_nenn ?_ | with_reducible refine wg_neni ?_ | with_reducible refine wg_nein ?_ | with_reducible refine wg_nens ?_ | with_reducible refine wg_nesn ?_ | with_reducible refine wg_isNn ?_ | with_reducible refine wg_isNi ?_ | with_reducible refine wg_isNs ?_ | with_reducible refine wg_isNt ?_ | with_reducible refine wg_isNl ?_ | with_reducible refine wg_isNo ?_ | with_reducible refine wg_notNn ?_ | with_reducible refine wg_notNi ?_ | with_reducible refine wg_notNs ?_ | with_reducible refine wg_notNt ?_ | with_reducible refine wg_notNl ?_ | with_reducible refine wg_notNo ?_ | ((with_reducible apply wg_lenS); (· sizeOf_list_dec)) | with_reducible refine wg_lenL ?_ | with_reducible refine wg_lenT ?_ | ((with_reducible apply wg_lenM); (· array_mem_dec)) | ((with_reducible apply wg_lenD); (· array_mem_dec)) | with_reducible refine wg_intI ?_ | with_reducible refine wg_intB ?_ | with_reducible refine wg_ord ?_ | with_reducible refine wg_max2 ?_ | with_reducible refine wg_min2 ?_ | with_reducible refine key_int ?_ | with_reducible refine key_str ?_ | ((with_reducible apply wg_look); (· exact rfl)) | ((with_reducible apply wdicR); (· array_mem_dec)) | ((with_reducible apply wdicRF); (· array_mem_dec)) | ((with_reducible apply wdicAt); (· array_mem_dec)) | ((with_reducible apply wput_dic); (· array_mem_dec); (· exact rfl); (· sizeOf_list_dec)) | ((with_reducible apply wput_lst); (· array_mem_dec); (· sizeOf_list_dec)) | with_reducible refine wtr_b ?_ | with_reducible refine wtr_n ?_ | with_reducible refine wtr_i ?_ | ((with_reducible apply wtr_s); (· sizeOf_list_dec)) | with_reducible refine wtr_l ?_ | ((with_reducible apply wtr_m); (· array_mem_dec)) | ((with_reducible apply wtr_d); (· array_mem_dec)) | with_reducible refine wpart_n ?_ | with_reducible refine wpart_i ?_ | ((with_reducible apply wsl_s_to); (· sizeOf_list_dec)) | ((with_reducible apply wsl_s_from); (· sizeOf_list_dec)) | ((with_reducible apply wsl_s_mid); (· sizeOf_list_dec)) | with_reducible refine wsl_l_to ?_ | with_reducible refine wsl_l_from ?_ | with_reducible refine wsl_l_mid ?_ | ((with_reducible apply wsl_m_to); (· array_mem_dec)) | ((with_reducible apply wsl_m_from); (· array_mem_dec)) | ((with_reducible apply wsl_m_mid); (· array_mem_dec)) | with_reducible refine wseqL ?_ | with_reducible refine wseqT ?_ | with_reducible refine wseqS ?_ | ((with_reducible apply wseqM); (· array_mem_dec)) | with_reducible refine wstillL ?_ | ((with_reducible apply wstillF); (· array_mem_dec)) | ((with_reducible apply wcopyD); (· array_mem_dec)) | ((with_reducible apply wlistM); (· array_mem_dec)) | with_reducible refine wlistML ?_ | with_reducible refine wlistMT ?_ | with_reducible refine wlistL ?_ | with_reducible refine wlistT ?_ | ((with_reducible apply wlistO); (· array_mem_dec)) | ((with_reducible apply wgisiT); (· exact rfl); (· exact rfl)) | ((with_reducible apply wgisiF); (· exact rfl); (· exact rfl)) | ((with_reducible apply wgisiT); (· exact ty_dic (by array_mem_dec)); (· exact rfl)) | ((with_reducible apply wgisiF); (· exact ty_dic (by array_mem_dec)); (· exact rfl)) | ((with_reducible apply wgisiT); (· exact ty_lstM (by array_mem_dec)); (· exact rfl)) | ((with_reducible apply wgisiF); (· exact ty_lstM (by array_mem_dec)); (· exact rfl)) | ((with_reducible apply ixA_tup); (· exact rfl)) | ((with_reducible apply inA_non); (· array_mem_dec)) | ((with_reducible apply ninA_non); (· array_mem_dec)) | ((with_reducible apply inA_dic); (· array_mem_dec); (· exact rfl)) | ((with_reducible apply inA_dicF); (· array_mem_dec); (· exact rfl)) | ((with_reducible apply ninA_dic); (· array_mem_dec); (· exact rfl)) | ((with_reducible apply ninA_dicF); (· array_mem_dec); (· exact rfl)) ) | ((with_reducible refine id_b ?_); first | with_reducible refine wb_true ?_ | with_reducible refine wb_false ?_ | ((with_reducible apply wb_pos); (· (first | with_reducible exact rfl | assumption | omega | (simp only [List.length_cons, List.length_nil, List.length_map]); (·  omega)))) | ((with_reducible apply wb_neg); (· (first | with_reducible exact rfl | assumption | omega | (simp only [List.length_cons, List.length_nil, List.length_map]); (·  omega)))) | ((with_reducible apply wb_npos); (· (first | with_reducible exact rfl | assumption | omega | (simp only [List.length_cons, List.length_nil, List.length_map]); (·  omega)))) | ((with_reducible apply wb_nneg); (· (first | with_reducible exact rfl | assumption | omega | (simp only [List.length_cons, List.length_nil, List.length_map]); (·  omega)))) | ((with_reducible apply wb_t); (· assumption)) | ((with_reducible apply wb_f); (· assumption)) ) | ((with_reducible refine id_t ?_); first | with_reducible refine wt_T ?_ | with_reducible refine wt_n_0 ?_ | with_reducible refine wt_n_1 ?_ | with_reducible refine wt_n_2 ?_ | with_reducible refine wt_n_3 ?_ | with_reducible refine wt_n_4 ?_ | with_reducible refine wt_n_5 ?_ | with_reducible refine wt_n_6 ?_ | with_reducible refine wt_n_7 ?_ | with_reducible refine wt_n_8 ?_ | with_reducible refine wt_n_9 ?_ | with_reducible refine wt_n_10 ?_ | with_reducible refine wt_n_11 ?_ | with_reducible refine wt_n_12 ?_ | with_reducible refine wt_n_13 ?_ | with_reducible refine wt_n_14 ?_ | with_reducible refine wt_n_15 ?_ | with_reducible refine wt_n_16 ?_ | with_reducible refine wt_n_17 ?_ | with_reducible refine wt_n_18 ?_ | with_reducible refine wt_n_19 ?_ | with_reducible refine wt_n_20 ?_ | with_reducible refine wt_n_21 ?_ | with_reducible refine wt_n_22 ?_ | with_reducible refine wt_n_23 ?_ | with_reducible refine wt_n_24 ?_ | with_reducible refine wt_n_25 ?_ | with_reducible refine wt_n_26 ?_ | with_reducible refine wt_n_27 ?_ | with_reducible refine wt_n_28 ?_ | with_reducible refine wt_n_29 ?_ | with_reducible refine wt_n_30 ?_ | with_reducible refine wt_n_31 ?_ | with_reducible refine wt_n_32 ?_ | with_reducible refine wt_n_33 ?_ | with_reducible refine wt_n_34 ?_ | with_reducible refine wt_n_35 ?_ | with_reducible refine wt_n_36 ?_ | with_reducible refine wt_n_37 ?_ | with_reducible refine wt_n_38 ?_ | with_reducible refine wt_n_39 ?_) | with_reducible refine wts_cons ?_ | with_reducible refine wts_nil ?_ | ((with_reducible refine id_i ?_); first | with_reducible refine wi_rng ?_ | with_reducible refine wi_rng2 ?_ | with_reducible refine wi_seq ?_ | with_reducible refine wi_dic ?_ | with_reducible refine wi_rv ?_ | with_reducible refine wi_en ?_ | with_reducible refine wi_zp ?_) | ((with_reducible refine id_h ?_); first | ((with_reducible apply wh_no); (· exact rfl)) | ((with_reducible apply wh_bare); (· exact rfl)) | ((with_reducible apply wh_yes_0); (· exact rfl)) | ((with_reducible apply wh_yes_1); (· exact rfl)) | ((with_reducible apply wh_yes_2); (· exact rfl)) | ((with_reducible apply wh_yes_3); (· exact rfl)) | ((with_reducible apply wh_yes_4); (· exact rfl)) | ((with_reducible apply wh_yes_5); (· exact rfl)) | ((with_reducible apply wh_yes_6); (· exact rfl)) | ((with_reducible apply wh_yes_7); (· exact rfl)) | ((with_reducible apply wh_yes_8); (· exact rfl)) | ((with_reducible apply wh_yes_9); (· exact rfl)) | ((with_reducible apply wh_yes_10); (· exact rfl)) | ((with_reducible apply wh_yes_11); (· exact rfl)) | ((with_reducible apply wh_yes_12); (· exact rfl)) | ((with_reducible apply wh_yes_13); (· exact rfl)) | ((with_reducible apply wh_yes_14); (· exact rfl)) | ((with_reducible apply wh_yes_15); (· exact rfl)) | ((with_reducible apply wh_yes_16); (· exact rfl)) | ((with_reducible apply wh_yes_17); (· exact rfl)) | ((with_reducible apply wh_yes_18); (· exact rfl)) | ((with_reducible apply wh_yes_19); (· exact rfl)) | ((with_reducible apply wh_yes_20); (· exact rfl)) | ((with_reducible apply wh_yes_21); (· exact rfl)) | ((with_reducible apply wh_yes_22); (· exact rfl)) | ((with_reducible apply wh_yes_23); (· exact rfl)) | ((with_reducible apply wh_yes_24); (· exact rfl)) | ((with_reducible apply wh_yes_25); (· exact rfl)) | ((with_reducible apply wh_yes_26); (· exact rfl)) | ((with_reducible apply wh_yes_27); (· exact rfl)) | ((with_reducible apply wh_yes_28); (· exact rfl)) | ((with_reducible apply wh_yes_29); (· exact rfl)) | ((with_reducible apply wh_yes_30); (· exact rfl)) | ((with_reducible apply wh_yes_31); (· exact rfl)) | ((with_reducible apply wh_yes_32); (· exact rfl)) | ((with_reducible apply wh_yes_33); (· exact rfl)) | ((with_reducible apply wh_yes_34); (· exact rfl)) | ((with_reducible apply wh_yes_35); (· exact rfl)) | ((with_reducible apply wh_yes_36); (· exact rfl)) | ((with_reducible apply wh_yes_37); (· exact rfl)) | ((with_reducible apply wh_yes_38); (· exact rfl)) | ((with_reducible apply wh_yes_39); (· exact rfl)) | with_reducible refine wh_nil ?_) | ((with_reducible refine id_cl ?_); first | with_reducible refine wcl_0 ?_ | with_reducible refine wcl_1 ?_ | with_reducible refine wcl_2 ?_ | with_reducible refine wcl_3 ?_ | with_reducible refine wcl_4 ?_ | with_reducible refine wcl_5 ?_ | with_reducible refine wcl_6 ?_ | with_reducible refine wcl_7 ?_ | with_reducible refine wcl_8 ?_ | with_reducible refine wcl_9 ?_ | with_reducible refine wcl_10 ?_ | with_reducible refine wcl_11 ?_ | with_reducible refine wcl_12 ?_ | with_reducible refine wcl_13 ?_ | with_reducible refine wcl_14 ?_ | with_reducible refine wcl_15 ?_ | with_reducible refine wcl_16 ?_ | with_reducible refine wcl_17 ?_ | with_reducible refine wcl_18 ?_ | with_reducible refine wcl_19 ?_ | with_reducible refine wcl_20 ?_ | with_reducible refine wcl_21 ?_ | with_reducible refine wcl_22 ?_ | with_reducible refine wcl_23 ?_ | with_reducible refine wcl_24 ?_ | with_reducible refine wcl_25 ?_ | with_reducible refine wcl_26 ?_ | with_reducible refine wcl_27 ?_ | with_reducible refine wcl_28 ?_ | with_reducible refine wcl_29 ?_ | with_reducible refine wcl_30 ?_ | with_reducible refine wcl_31 ?_ | with_reducible refine wcl_32 ?_ | with_reducible refine wcl_33 ?_ | with_reducible refine wcl_34 ?_ | with_reducible refine wcl_35 ?_ | with_reducible refine wcl_36 ?_ | with_reducible refine wcl_37 ?_ | with_reducible refine wcl_38 ?_ | with_reducible refine wcl_39 ?_) | with_reducible refine wbl ?_ | with_reducible refine wnot_t ?_ | with_reducible refine wnot_f ?_ | with_reducible refine wnot_n ?_ | with_reducible refine wnot ?_ | with_reducible refine wint ?_ | with_reducible refine wstr ?_ | with_reducible refine wobj ?_ | with_reducible refine wnon ?_ | ((with_reducible apply wat); · array_mem_dec) | ((with_reducible refine wyes_c ?_ ?_); (· exact rfl)) | ((with_reducible refine wyes_k ?_ ?_); (· exact rfl)) | ((with_reducible refine wyes_d ?_ ?_); (· exact ⟨rfl, Nat.le_of_ble_eq_true rfl⟩)) | ((with_reducible refine wyes ?_ ?_); · sizeOf_list_dec) | with_reducible refine wyes wlstT ?_ | with_reducible refine wlst ?_ | with_reducible refine wins ?_ | with_reducible refine winm ?_)
local macro_rules | `(tactic| array_get_dec) => `(tactic| with_reducible refine ixA_l0 ?_)
local macro_rules | `(tactic| array_get_dec) => `(tactic| with_reducible refine ixA_l1 ?_)
local macro_rules | `(tactic| array_get_dec) => `(tactic| with_reducible refine ixA_l2 ?_)
local macro_rules | `(tactic| array_get_dec) => `(tactic| with_reducible refine ixA_l3 ?_)
local macro_rules | `(tactic| array_get_dec) => `(tactic| with_reducible refine ixA_l4 ?_)
local macro_rules | `(tactic| array_get_dec) => `(tactic| with_reducible refine ixA_l5 ?_)
local macro_rules | `(tactic| array_get_dec) => `(tactic| with_reducible refine ixA_l6 ?_)
local macro_rules | `(tactic| array_get_dec) => `(tactic| with_reducible refine ixA_l7 ?_)
local macro_rules | `(tactic| array_get_dec) => `(tactic| with_reducible refine wb_some ?_)
local macro_rules | `(tactic| array_get_dec) => `(tactic| with_reducible refine wb_none ?_)
local macro_rules | `(tactic| array_get_dec) => `(tactic| with_reducible refine wb_nsome ?_)
local macro_rules | `(tactic| array_get_dec) => `(tactic| with_reducible refine wb_nnone ?_)
section
variable {m m' : Mu} {q o : Nat} {Ls : List (List Nat)}
local macro_rules | `(tactic| array_get_dec) => `(tactic| with_reducible refine wc_eq (mixF_eq _ _ _) ?_)
local macro_rules | `(tactic| array_get_dec) => `(tactic| with_reducible refine wc_eq (signS_eq _ _) ?_)
structure ActOk (a : List (List Nat)) : Prop where
  ne : a ≠ []
  le : a.length ≤ 12
  bd : ∀ b, b ∈ a → Bd b ∧ b.length < 1000
structure InAt (m : Mu) (os : List Nat) (A : List (List (List Nat))) : Prop where
  ln : os.length = A.length
  at_ : ∀ (i : Nat) a, A[i]? = some a → ∃ k, os[i]? = some k ∧ m[k]? = some (.lst (a.map .str))
theorem InAt.get {os : List Nat} {A : List (List (List Nat))} (h : InAt m os A) {i k : Nat} (e : os[i]? = some k) : ∃ a, A[i]? = some a ∧ m[k]? = some (.lst (a.map .str)) := by
  have hi := (List.getElem?_eq_some_iff.mp e).1
  have ha : A[i]? = some (A[i]'(by rw [← h.ln]; exact hi)) := List.getElem?_eq_getElem _
  obtain ⟨k', h1, h2⟩ := h.at_ i _ ha
  rw [e] at h1
  cases h1
  exact ⟨_, ha, h2⟩
theorem InAt.snoc {os : List Nat} {A : List (List (List Nat))} (h : InAt m os A) {k : Nat} {a : List (List Nat)} (e : m[k]? = some (.lst (a.map .str))) : InAt m (os ++ [k]) (A ++ [a]) := ⟨by simp [h.ln], fun i b hb => by
  by_cases c : i < A.length
  · rw [List.getElem?_append_left c] at hb
    obtain ⟨k', h1, h2⟩ := h.at_ i b hb
    exact ⟨k', by rw [List.getElem?_append_left (by rw [h.ln]; exact c)]; exact h1, h2⟩
  · have hi : i = A.length := by
      have := (List.getElem?_eq_some_iff.mp hb).1
      simp at this
      omega
    subst hi
    simp at hb
    subst hb
    exact ⟨k, by rw [← h.ln]; simp, e⟩⟩
local macro_rules | `(tactic| array_get_dec) => `(tactic| with_reducible refine wc_eq (llineF_eq _ ‹_› _ ‹_› ‹_› _) ?_)
def begN : Nat → List (List (List Nat)) → Nat → Nat × Nat
  | k, [], _ => (0, k)
  | k, a :: r, n => if n < k + a.length then (0, k) else ((begN (k + a.length) r n).1 + 1, (begN (k + a.length) r n).2)
def lwhoB : DS := (sRet (eAnd (eCB gIsi [(eVar 0), (eC (.ty "int"))]) (eAnd (eNot (eCB gIsi [(eVar 0), (eC (.ty "bool"))])) (eOp gEq (eVar 0) (eVar 1)))))
def lwhoF : Fn := runF 2 2 lwhoB
theorem lwho_eq (i j : Int) (mu : Mu) : lwhoF [.int i, .int j] mu = .ok (.bl (decide (i = j))) mu := wholeB_eq i j mu
local macro_rules | `(tactic| array_get_dec) => `(tactic| with_reducible refine wc_eq (lwho_eq _ _ _) ?_)
theorem InAt.take {os : List Nat} {A : List (List (List Nat))} (h : InAt m os A) (n : Nat) : InAt m (os.take n) (A.take n) := ⟨by simp [h.ln], fun i a e => by
  rw [List.getElem?_take] at e
  split at e
  · rename_i c
    obtain ⟨k, h1, h2⟩ := h.at_ i a e
    exact ⟨k, by rw [List.getElem?_take, if_pos c]; exact h1, h2⟩
  · cases e⟩
end
end DM

namespace DM
open PySem PySem.Spec PyProof.Rows L2
local macro_rules | `(tactic| sizeOf_list_dec) => `(tactic| first | assumption | omega | exact Nat.zero_le _ | (simp only [List.length_cons, List.length_nil, List.length_append, List.length_map, List.length_replicate, List.length_range, List.length_take, List.length_drop, List.length_reverse]; omega) | (decide; done))
local macro_rules | `(tactic| array_mem_dec) => `(tactic| (repeat (first | with_reducible assumption | with_reducible exact mem_new | with_reducible apply mem_same' | ((with_reducible apply mem_ne'); (· first | assumption | omega)) | with_reducible apply mem_old | with_reducible exact mem_hd | with_reducible apply mem_app)); done)
local macro_rules | `(tactic| array_get_dec) => `(tactic| first | ((with_reducible refine id_e ?_); first | with_reducible refine we_c ?_ | with_reducible refine we_op ?_ | with_reducible refine we_cb ?_ | with_reducible refine we_call0 ?_ | with_reducible refine we_call ?_ | with_reducible refine we_B ?_ | with_reducible refine we_tru ?_ | with_reducible refine we_not ?_ | with_reducible refine we_and ?_ | with_reducible refine we_or ?_ | with_reducible refine we_if ?_ | with_reducible refine we_neg ?_ | with_reducible refine we_I ?_ | with_reducible refine we_chain ?_ | with_reducible refine we_tup ?_ | with_reducible refine we_lst ?_ | with_reducible refine we_lstM0 ?_ | with_reducible refine we_lstM ?_ | with_reducible refine we_dnew ?_ | with_reducible refine we_sl ?_ | with_reducible refine we_m1 ?_ | with_reducible refine we_isiT ?_ | with_reducible refine we_append ?_ | with_reducible refine we_get1 ?_ | with_reducible refine we_get2 ?_ | with_reducible refine we_pop2 ?_ | with_reducible refine we_pop1 ?_ | with_reducible refine we_cm ?_ | with_reducible refine we_fld ?_ | with_reducible refine we_meth ?_ | with_reducible refine we_make ?_ | with_reducible refine we_yes ?_ | with_reducible refine we_popA ?_ | ((with_reducible apply we_xf); (· exact rfl)) | ((with_reducible apply we_is); (· exact rfl)) | with_reducible refine we_var_0 ?_ | with_reducible refine we_var_1 ?_ | with_reducible refine we_var_2 ?_ | with_reducible refine we_var_3 ?_ | with_reducible refine we_var_4 ?_ | with_reducible refine we_var_5 ?_ | with_reducible refine we_var_6 ?_ | with_reducible refine we_var_7 ?_ | with_reducible refine we_var_8 ?_ | with_reducible refine we_var_9 ?_ | with_reducible refine we_var_10 ?_ | with_reducible refine we_var_11 ?_ | with_reducible refine we_var_12 ?_ | with_reducible refine we_var_13 ?_ | with_reducible refine we_var_14 ?_ | with_reducible refine we_var_15 ?_ | with_reducible refine we_var_16 ?_ | with_reducible refine we_var_17 ?_ | with_reducible refine we_var_18 ?_ | with_reducible refine we_var_19 ?_ | with_reducible refine we_var_20 ?_ | with_reducible refine we_var_21 ?_ | with_reducible refine we_var_22 ?_ | with_reducible refine we_var_23 ?_ | with_reducible refine we_var_24 ?_ | with_reducible refine we_var_25 ?_ | with_reducible refine we_var_26 ?_ | with_reducible refine we_var_27 ?_ | with_reducible refine we_var_28 ?_ | with_reducible refine we_var_29 ?_ | with_reducible refine we_var_30 ?_ | with_reducible refine we_var_31 ?_ | with_reducible refine we_var_32 ?_ | with_reducible refine we_var_33 ?_ | with_reducible refine we_var_34 ?_ | with_reducible refine we_var_35 ?_ | with_reducible refine we_var_36 ?_ | with_reducible refine we_var_37 ?_ | with_reducible refine we_var_38 ?_ | with_reducible refine we_var_39 ?_) | ((with_reducible refine id_s ?_); first | with_reducible refine ws_seq ?_ | with_reducible refine ws_next ?_ | with_reducible refine ws_drop ?_ | with_reducible refine ws_ret ?_ | with_reducible refine ws_retN ?_ | with_reducible refine ws_brk ?_ | with_reducible refine ws_cnt ?_ | with_reducible refine ws_asg ?_ | with_reducible refine ws_if ?_ | with_reducible refine ws_put ?_ | with_reducible refine ws_fldP ?_ | with_reducible refine ws_fldA ?_ | with_reducible refine ws_daug ?_ | with_reducible refine ws_try ?_ | with_reducible refine ws_raise ?_ | with_reducible refine ws_raise0 ?_ | with_reducible refine ws_set_0 ?_ | with_reducible refine ws_set_1 ?_ | with_reducible refine ws_set_2 ?_ | with_reducible refine ws_set_3 ?_ | with_reducible refine ws_set_4 ?_ | with_reducible refine ws_set_5 ?_ | with_reducible refine ws_set_6 ?_ | with_reducible refine ws_set_7 ?_ | with_reducible refine ws_set_8 ?_ | with_reducible refine ws_set_9 ?_ | with_reducible refine ws_set_10 ?_ | with_reducible refine ws_set_11 ?_ | with_reducible refine ws_set_12 ?_ | with_reducible refine ws_set_13 ?_ | with_reducible refine ws_set_14 ?_ | with_reducible refine ws_set_15 ?_ | with_reducible refine ws_set_16 ?_ | with_reducible refine ws_set_17 ?_ | with_reducible refine ws_set_18 ?_ | with_reducible refine ws_set_19 ?_ | with_reducible refine ws_set_20 ?_ | with_reducible refine ws_set_21 ?_ | with_reducible refine ws_set_22 ?_ | with_reducible refine ws_set_23 ?_ | with_reducible refine ws_set_24 ?_ | with_reducible refine ws_set_25 ?_ | with_reducible refine ws_set_26 ?_ | with_reducible refine ws_set_27 ?_ | with_reducible refine ws_set_28 ?_ | with_reducible refine ws_set_29 ?_ | with_reducible refine ws_set_30 ?_ | with_reducible refine ws_set_31 ?_ | with_reducible refine ws_set_32 ?_ | with_reducible refine ws_set_33 ?_ | with_reducible refine ws_set_34 ?_ | with_reducible refine ws_set_35 ?_ | with_reducible refine ws_set_36 ?_ | with_reducible refine ws_set_37 ?_ | with_reducible refine ws_set_38 ?_ | with_reducible refine ws_set_39 ?_ | with_reducible refine ws_aug_0 ?_ | with_reducible refine ws_aug_1 ?_ | with_reducible refine ws_aug_2 ?_ | with_reducible refine ws_aug_3 ?_ | with_reducible refine ws_aug_4 ?_ | with_reducible refine ws_aug_5 ?_ | with_reducible refine ws_aug_6 ?_ | with_reducible refine ws_aug_7 ?_ | with_reducible refine ws_aug_8 ?_ | with_reducible refine ws_aug_9 ?_ | with_reducible refine ws_aug_10 ?_ | with_reducible refine ws_aug_11 ?_ | with_reducible refine ws_aug_12 ?_ | with_reducible refine ws_aug_13 ?_ | with_reducible refine ws_aug_14 ?_ | with_reducible refine ws_aug_15 ?_ | with_reducible refine ws_aug_16 ?_ | with_reducible refine ws_aug_17 ?_ | with_reducible refine ws_aug_18 ?_ | with_reducible refine ws_aug_19 ?_ | with_reducible refine ws_aug_20 ?_ | with_reducible refine ws_aug_21 ?_ | with_reducible refine ws_aug_22 ?_ | with_reducible refine ws_aug_23 ?_ | with_reducible refine ws_aug_24 ?_ | with_reducible refine ws_aug_25 ?_ | with_reducible refine ws_aug_26 ?_ | with_reducible refine ws_aug_27 ?_ | with_reducible refine ws_aug_28 ?_ | with_reducible refine ws_aug_29 ?_ | with_reducible refine ws_aug_30 ?_ | with_reducible refine ws_aug_31 ?_ | with_reducible refine ws_aug_32 ?_ | with_reducible refine ws_aug_33 ?_ | with_reducible refine ws_aug_34 ?_ | with_reducible refine ws_aug_35 ?_ | with_reducible refine ws_aug_36 ?_ | with_reducible refine ws_aug_37 ?_ | with_reducible refine ws_aug_38 ?_ | with_reducible refine ws_aug_39 ?_) | ((with_reducible refine id_a ?_); first | with_reducible refine wa_cons ?_ | with_reducible refine wa_nil ?_) | ((with_reducible refine id_g ?_); first | with_reducible refine wg_add ?_ | ((with_reducible apply wg_adds); (· sizeOf_list_dec)) | ((with_reducible apply wg_addl); (· sizeOf_list_dec)) | with_reducible refine wg_plus ?_ | ((with_reducible apply wg_pluss); (· sizeOf_list_dec)) | with_reducible refine wg_plusI ?_ | with_reducible refine wg_minus ?_ | with_reducible refine wg_sub ?_ | with_reducible refine wg_pow9 ?_ | with_reducible refine wg_pow6 ?_ | with_reducible refine wg_pow3 ?_ | with_reducible refine wg_pow18 ?_ | ((with_reducible apply wg_mod); (· sizeOf_list_dec)) | ((with_reducible apply wg_div); (· sizeOf_list_dec)) | ((with_reducible apply wg_mul); (· sizeOf_list_dec)) | ((with_reducible apply wg_mulA); (· sizeOf_list_dec)) | ((with_reducible apply wg_mulS1); (· sizeOf_list_dec)) | ((with_reducible apply wg_mulS); (· sizeOf_list_dec)) | with_reducible refine wg_lt ?_ | with_reducible refine wg_le ?_ | with_reducible refine wg_gt ?_ | with_reducible refine wg_ge ?_ | with_reducible refine wg_eq ?_ | with_reducible refine wg_ne ?_ | with_reducible refine wg_eqs ?_ | with_reducible refine wg_nes ?_ | with_reducible refine wg_eqnn ?_ | with_reducible refine wg_eqni ?_ | with_reducible refine wg_eqin ?_ | with_reducible refine wg_eqns ?_ | with_reducible refine wg_eqsn ?_ | with_reducible refine wg_nenn ?_ | with_reducible refine wg_neni ?_ | with_reducible refine wg_nein ?_ | with_reducible refine wg_nens ?_ | with_reducible refine wg_nesn ?_ | with_reducible refine wg_isNn ?_ | with_reducible refine wg_isNi ?_ | with_reducible refine wg_isNs ?_ | with_reducible refine wg_isNt ?_ | with_reducible refine wg_isNl ?_ | with_reducible refine wg_isNo ?_ | with_reducible refine wg_notNn ?_ | with_reducible refine wg_notNi ?_ | with_reducible refine wg_notNs ?_ | with_reducible refine wg_notNt ?_ | with_reducible refine wg_notNl ?_ | with_reducible refine wg_notNo ?_ | ((with_reducible apply wg_lenS); (· sizeOf_list_dec)) | with_reducible refine wg_lenL ?_ | with_reducible refine wg_lenT ?_ | ((with_reducible apply wg_lenM); (· array_mem_dec)) | ((with_reducible apply wg_lenD); (· array_mem_dec)) | with_reducible refine wg_intI ?_ | with_reducible refine wg_intB ?_ | with_reducible refine wg_ord ?_ | with_reducible refine wg_max2 ?_ | with_reducible refine wg_min2 ?_ | with_reducible refine key_int ?_ | with_reducible refine key_str ?_ | ((with_reducible apply wg_look); (· exact rfl)) | ((with_reducible apply wdicR); (· array_mem_dec)) | ((with_reducible apply wdicRF); (· array_mem_dec)) | ((with_reducible apply wdicAt); (· array_mem_dec)) | ((with_reducible apply wput_dic); (· array_mem_dec); (· exact rfl); (· sizeOf_list_dec)) | ((with_reducible apply wput_lst); (· array_mem_dec); (· sizeOf_list_dec)) | with_reducible refine wtr_b ?_ | with_reducible refine wtr_n ?_ | with_reducible refine wtr_i ?_ | ((with_reducible apply wtr_s); (· sizeOf_list_dec)) | with_reducible refine wtr_l ?_ | ((with_reducible apply wtr_m); (· array_mem_dec)) | ((with_reducible apply wtr_d); (· array_mem_dec)) | with_reducible refine wpart_n ?_ | with_reducible refine wpart_i ?_ | ((with_reducible apply wsl_s_to); (· sizeOf_list_dec)) | ((with_reducible apply wsl_s_from); (· sizeOf_list_dec)) | ((with_reducible apply wsl_s_mid); (· sizeOf_list_dec)) | with_reducible refine wsl_l_to ?_ | with_reducible refine wsl_l_from ?_ | with_reducible refine wsl_l_mid ?_ | ((with_reducible apply wsl_m_to); (· array_mem_dec)) | ((with_reducible apply wsl_m_from); (· array_mem_dec)) | ((with_reducible apply wsl_m_mid); (· array_mem_dec)) | with_reducible refine wseqL ?_ | with_reducible refine wseqT ?_ | with_reducible refine wseqS ?_ | ((with_reducible apply wseqM); (· array_mem_dec)) | with_reducible refine wstillL ?_ | ((with_reducible apply wstillF); (· array_mem_dec)) | ((with_reducible apply wcopyD); (· array_mem_dec)) | ((with_reducible apply wlistM); (· array_mem_dec)) | with_reducible refine wlistML ?_ | with_reducible refine wlistMT ?_ | with_reducible refine wlistL ?_ | with_reducible refine wlistT ?_ | ((with_reducible apply wlistO); (· array_mem_dec)) | ((with_reducible apply wgisiT); (· exact rfl); (· exact rfl)) | ((with_reducible apply wgisiF); (· exact rfl); (· exact rfl)) | ((with_reducible apply wgisiT); (· exact ty_dic (by array_mem_dec)); (· exact rfl)) | ((with_reducible apply wgisiF); (· exact ty_dic (by array_mem_dec)); (· exact rfl)) | ((with_reducible apply wgisiT); (· exact ty_lstM (by array_mem_dec)); (· exact rfl)) | ((with_reducible apply wgisiF); (· exact ty_lstM (by array_mem_dec)); (· exact rfl)) | ((with_reducible apply ixA_tup); (· exact rfl)) | ((with_reducible apply inA_non); (· array_mem_dec)) | ((with_reducible apply ninA_non); (· array_mem_dec)) | ((with_reducible apply inA_dic); (· array_mem_dec); (· exact rfl)) | ((with_reducible apply inA_dicF); (· array_mem_dec); (· exact rfl)) | ((with_reducible apply ninA_dic); (· array_mem_dec); (· exact rfl)) | ((with_reducible apply ninA_dicF); (· array_mem_dec); (· exact rfl)) ) | ((with_reducible refine id_b ?_); first | with_reducible refine wb_true ?_ | with_reducible refine wb_false ?_ | ((with_reducible apply wb_pos); (· (first | with_reducible exact rfl | assumption | omega | (simp only [List.length_cons, List.length_nil, List.length_map]); (·  omega)))) | ((with_reducible apply wb_neg); (· (first | with_reducible exact rfl | assumption | omega | (simp only [List.length_cons, List.length_nil, List.length_map]); (·  omega)))) | ((with_reducible apply wb_npos); (· (first | with_reducible exact rfl | assumption | omega | (simp only [List.length_cons, List.length_nil, List.length_map]); (·  omega)))) | ((with_reducible apply wb_nneg); (· (first | with_reducible exact rfl | assumption | omega | (simp only [List.length_cons, List.length_nil, List.length_map]); (·  omega)))) | ((with_reducible apply wb_t); (· assumption)) | ((with_reducible apply wb_f); (· assumption)) ) | ((with_reducible refine id_t ?_); first | with_reducible refine wt_T ?_ | with_reducible refine wt_n_0 ?_ | with_reducible refine wt_n_1 ?_ | with_reducible refine wt_n_2 ?_ | with_reducible refine wt_n_3 ?_ | with_reducible refine wt_n_4 ?_ | with_reducible refine wt_n_5 ?_ | with_reducible refine wt_n_6 ?_ | with_reducible refine wt_n_7 ?_ | with_reducible refine wt_n_8 ?_ | with_reducible refine wt_n_9 ?_ | with_reducible refine wt_n_10 ?_ | with_reducible refine wt_n_11 ?_ | with_reducible refine wt_n_12 ?_ | with_reducible refine wt_n_13 ?_ | with_reducible refine wt_n_14 ?_ | with_reducible refine wt_n_15 ?_ | with_reducible refine wt_n_16 ?_ | with_reducible refine wt_n_17 ?_ | with_reducible refine wt_n_18 ?_ | with_reducible refine wt_n_19 ?_ | with_reducible refine wt_n_20 ?_ | with_reducible refine wt_n_21 ?_ | with_reducible refine wt_n_22 ?_ | with_reducible refine wt_n_23 ?_ | with_reducible refine wt_n_24 ?_ | with_reducible refine wt_n_25 ?_ | with_reducible refine wt_n_26 ?_ | with_reducible refine wt_n_27 ?_ | with_reducible refine wt_n_28 ?_ | with_reducible refine wt_n_29 ?_ | with_reducible refine wt_n_30 ?_ | with_reducible refine wt_n_31 ?_ | with_reducible refine wt_n_32 ?_ | with_reducible refine wt_n_33 ?_ | with_reducible refine wt_n_34 ?_ | with_reducible refine wt_n_35 ?_ | with_reducible refine wt_n_36 ?_ | with_reducible refine wt_n_37 ?_ | with_reducible refine wt_n_38 ?_ | with_reducible refine wt_n_39 ?_) | with_reducible refine wts_cons ?_ | with_reducible refine wts_nil ?_ | ((with_reducible refine id_i ?_); first | with_reducible refine wi_rng ?_ | with_reducible refine wi_rng2 ?_ | with_reducible refine wi_seq ?_ | with_reducible refine wi_dic ?_ | with_reducible refine wi_rv ?_ | with_reducible refine wi_en ?_ | with_reducible refine wi_zp ?_) | ((with_reducible refine id_h ?_); first | ((with_reducible apply wh_no); (· exact rfl)) | ((with_reducible apply wh_bare); (· exact rfl)) | ((with_reducible apply wh_yes_0); (· exact rfl)) | ((with_reducible apply wh_yes_1); (· exact rfl)) | ((with_reducible apply wh_yes_2); (· exact rfl)) | ((with_reducible apply wh_yes_3); (· exact rfl)) | ((with_reducible apply wh_yes_4); (· exact rfl)) | ((with_reducible apply wh_yes_5); (· exact rfl)) | ((with_reducible apply wh_yes_6); (· exact rfl)) | ((with_reducible apply wh_yes_7); (· exact rfl)) | ((with_reducible apply wh_yes_8); (· exact rfl)) | ((with_reducible apply wh_yes_9); (· exact rfl)) | ((with_reducible apply wh_yes_10); (· exact rfl)) | ((with_reducible apply wh_yes_11); (· exact rfl)) | ((with_reducible apply wh_yes_12); (· exact rfl)) | ((with_reducible apply wh_yes_13); (· exact rfl)) | ((with_reducible apply wh_yes_14); (· exact rfl)) | ((with_reducible apply wh_yes_15); (· exact rfl)) | ((with_reducible apply wh_yes_16); (· exact rfl)) | ((with_reducible apply wh_yes_17); (· exact rfl)) | ((with_reducible apply wh_yes_18); (· exact rfl)) | ((with_reducible apply wh_yes_19); (· exact rfl)) | ((with_reducible apply wh_yes_20); (· exact rfl)) | ((with_reducible apply wh_yes_21); (· exact rfl)) | ((with_reducible apply wh_yes_22); (· exact rfl)) | ((with_reducible apply wh_yes_23); (· exact rfl)) | ((with_reducible apply wh_yes_24); (· exact rfl)) | ((with_reducible apply wh_yes_25); (· exact rfl)) | ((with_reducible apply wh_yes_26); (· exact rfl)) | ((with_reducible apply wh_yes_27); (· exact rfl)) | ((with_reducible apply wh_yes_28); (· exact rfl)) | ((with_reducible apply wh_yes_29); (· exact rfl)) | ((with_reducible apply wh_yes_30); (· exact rfl)) | ((with_reducible apply wh_yes_31); (· exact rfl)) | ((with_reducible apply wh_yes_32); (· exact rfl)) | ((with_reducible apply wh_yes_33); (· exact rfl)) | ((with_reducible apply wh_yes_34); (· exact rfl)) | ((with_reducible apply wh_yes_35); (· exact rfl)) | ((with_reducible apply wh_yes_36); (· exact rfl)) | ((with_reducible apply wh_yes_37); (· exact rfl)) | ((with_reducible apply wh_yes_38); (· exact rfl)) | ((with_reducible apply wh_yes_39); (· exact rfl)) | with_reducible refine wh_nil ?_) | ((with_reducible refine id_cl ?_); first | with_reducible refine wcl_0 ?_ | with_reducible refine wcl_1 ?_ | with_reducible refine wcl_2 ?_ | with_reducible refine wcl_3 ?_ | with_reducible refine wcl_4 ?_ | with_reducible refine wcl_5 ?_ | with_reducible refine wcl_6 ?_ | with_reducible refine wcl_7 ?_ | with_reducible refine wcl_8 ?_ | with_reducible refine wcl_9 ?_ | with_reducible refine wcl_10 ?_ | with_reducible refine wcl_11 ?_ | with_reducible refine wcl_12 ?_ | with_reducible refine wcl_13 ?_ | with_reducible refine wcl_14 ?_ | with_reducible refine wcl_15 ?_ | with_reducible refine wcl_16 ?_ | with_reducible refine wcl_17 ?_ | with_reducible refine wcl_18 ?_ | with_reducible refine wcl_19 ?_ | with_reducible refine wcl_20 ?_ | with_reducible refine wcl_21 ?_ | with_reducible refine wcl_22 ?_ | with_reducible refine wcl_23 ?_ | with_reducible refine wcl_24 ?_ | with_reducible refine wcl_25 ?_ | with_reducible refine wcl_26 ?_ | with_reducible refine wcl_27 ?_ | with_reducible refine wcl_28 ?_ | with_reducible refine wcl_29 ?_ | with_reducible refine wcl_30 ?_ | with_reducible refine wcl_31 ?_ | with_reducible refine wcl_32 ?_ | with_reducible refine wcl_33 ?_ | with_reducible refine wcl_34 ?_ | with_reducible refine wcl_35 ?_ | with_reducible refine wcl_36 ?_ | with_reducible refine wcl_37 ?_ | with_reducible refine wcl_38 ?_ | with_reducible refine wcl_39 ?_) | with_reducible refine wbl ?_ | with_reducible refine wnot_t ?_ | with_reducible refine wnot_f ?_ | with_reducible refine wnot_n ?_ | with_reducible refine wnot ?_ | with_reducible refine wint ?_ | with_reducible refine wstr ?_ | with_reducible refine wobj ?_ | with_reducible refine wnon ?_ | ((with_reducible apply wat); · array_mem_dec) | ((with_reducible refine wyes_c ?_ ?_); (· exact rfl)) | ((with_reducible refine wyes_k ?_ ?_); (· exact rfl)) | ((with_reducible refine wyes_d ?_ ?_); (· exact ⟨rfl, Nat.le_of_ble_eq_true rfl⟩)) | ((with_reducible refine wyes ?_ ?_); · sizeOf_list_dec) | with_reducible refine wyes wlstT ?_ | with_reducible refine wlst ?_ | with_reducible refine wins ?_ | with_reducible refine winm ?_)
local macro_rules | `(tactic| array_get_dec) => `(tactic| with_reducible refine ixA_l0 ?_)
local macro_rules | `(tactic| array_get_dec) => `(tactic| with_reducible refine ixA_l1 ?_)
local macro_rules | `(tactic| array_get_dec) => `(tactic| with_reducible refine ixA_l2 ?_)
local macro_rules | `(tactic| array_get_dec) => `(tactic| with_reducible refine ixA_l3 ?_)
local macro_rules | `(tactic| array_get_dec) => `(tactic| with_reducible refine ixA_l4 ?_)
local macro_rules | `(tactic| array_get_dec) => `(tactic| with_reducible refine ixA_l5 ?_)
local macro_rules | `(tactic| array_get_dec) => `(tactic| with_reducible refine ixA_l6 ?_)
local macro_rules | `(tactic| array_get_dec) => `(tactic| with_reducible refine ixA_l7 ?_)
local macro_rules | `(tactic| array_get_dec) => `(tactic| with_reducible refine wb_some ?_)
local macro_rules | `(tactic| array_get_dec) => `(tactic| with_reducible refine wb_none ?_)
local macro_rules | `(tactic| array_get_dec) => `(tactic| with_reducible refine wb_nsome ?_)
local macro_rules | `(tactic| array_get_dec) => `(tactic| with_reducible refine wb_nnone ?_)
local macro_rules | `(tactic| array_get_dec) => `(tactic| with_reducible refine wc_eq (mixF_eq _ _ _) ?_)
section
variable {m m' : Mu} {q o : Nat}
theorem inA_txtW {c : Nat} {z : List Nat} {mu : Mu} {pp : DV → Prop} (h : pp (.bl (decide (c ∈ z)))) : WG (gInA (.str [c]) (.str z) mu) pp := ⟨_, rfl, h⟩
theorem bools_mapW (bs : List Bool) : boolsOf (bs.map .bl) = some bs := by
  induction bs with
  | nil => rfl
  | cons b r ih => show (boolsOf (r.map .bl)).map (b :: ·) = _; rw [ih]; rfl
theorem wg_allW {bs : List Bool} {mu : Mu} {pp : DV → Prop} (h : pp (.bl (bs.all id))) : WG (gAll [.lst (bs.map .bl)] mu) pp := ⟨_, by
  show (boolsOf (bs.map .bl)).map _ = _
  rw [bools_mapW]
  rfl, h⟩
structure NmG (s : List Nat) : Prop where
  l1 : 1 ≤ s.length
  l2 : s.length ≤ 12
  ch : ∀ c, c ∈ s → c ∈ nsT
theorem nsTlt {c : Nat} (h : c ∈ nsT) : c < 128 := by
  have : ∀ c, c ∈ nsT → c < 128 := by decide
  exact this c h
theorem NmG.lt {s : List Nat} (h : NmG s) : ∀ c, c ∈ s → c < 128 := fun c hc => nsTlt (h.ch c hc)
def wNameB : DS := (sSeq (sIf (eOr (eNot (eTru (eCB gIsi [(eVar 0), (eC (.ty "str"))]))) (eNot (eB (eChain gLe gLe (eC (.int 1)) (eCB gLen [(eVar 0)]) (eC (.int 12))))))
  (sRet (eC (.bl false)))
  sNext)
  (sRet (eCB gAll [(eLk (pickD (eVar 0)) (eComp (iA (eVar 0)) (tgN 1) eYes (eOp gInA (eVar 1) (eC (.str [97, 98, 99, 100, 101, 102, 103, 104, 105, 106, 107, 108, 109, 110, 111, 112, 113, 114, 115, 116, 117, 118, 119, 120, 121, 122, 48, 49, 50, 51, 52, 53, 54, 55, 56, 57]))) [1]))])))
def wNameF : Fn := runF 2 1 wNameB
theorem wName_str {s : List Nat} (hl : s.length ≤ 1000) (mu : Mu) : wNameF [.str s] mu = .ok (.bl (decide (1 ≤ s.length ∧ s.length ≤ 12) && s.all fun c => decide (c ∈ nsT))) mu := by
  have hc : (s.all fun c => decide (c ∈ nsT)) = (s.map fun c => decide (c ∈ nsT)).all id := by rw [List.all_map]; rfl
  refine wc_same ?_
  unfold wNameF wNameB
  rw [hc]
  (refine wc_run rfl (by simp only [startD, List.map_cons, List.map_nil, List.length_cons, List.length_nil, Nat.reduceAdd, Nat.reduceSub, List.replicate, List.cons_append, List.nil_append] <;> exact rfl) ?_; repeat array_get_dec)
  refine wb_dec (fun h1 => ?_) fun h1 => ?_
  · repeat array_get_dec
    refine wb_ndec (fun h2 => ?_) fun h2 => ?_
    · repeat array_get_dec
      exact ⟨by rw [decide_eq_false (by omega)]; rfl, rfl⟩
    · repeat array_get_dec
      refine we_lkn (pickD_no (ev_var rfl) fun j z => by cases z) ?_
      refine we_comp (xs := s) (dv := fun c : Nat => .str [c]) (fun c => .bl (decide (c ∈ nsT))) (fun _ => true) ?_
      refine wi_aL (r := (s.map fun c => .str [c], none)) (ev_var rfl) rfl ⟨rfl, by omega, fun c hc => ?_, ?_⟩
      · simp only [wipeD, List.set_cons_zero, List.set_cons_succ]
        repeat array_get_dec
        refine ⟨rfl, rfl, fun _ => ?_⟩
        repeat array_get_dec
        exact inA_txtW ⟨rfl, rfl⟩
      refine wo_finL ?_
      rw [filter_all, show (s.map fun c => DV.bl (decide (c ∈ nsT))) = (s.map fun c => decide (c ∈ nsT)).map .bl by rw [List.map_map]; rfl]
      repeat array_get_dec
      refine wg_allW ?_
      exact ⟨by rw [decide_eq_true (by omega), Bool.true_and], rfl⟩
  · repeat array_get_dec
    exact ⟨by rw [decide_eq_false (by omega)]; rfl, rfl⟩
theorem wName_yes {s : List Nat} (h : NmG s) (mu : Mu) : wNameF [.str s] mu = .ok (.bl true) mu := by
  rw [wName_str (by have := h.l2; omega), decide_eq_true ⟨h.l1, h.l2⟩, Bool.true_and]
  have : (s.all fun c => decide (c ∈ nsT)) = true := by rw [List.all_eq_true]; intro c hc; exact decide_eq_true (h.ch c hc)
  rw [this]
def wWholeB : DS := (sSeq (sIf (eOr (eNot (eTru (eCB gIsi [(eVar 0), (eC (.ty "int"))]))) (eTru (eCB gIsi [(eVar 0), (eC (.ty "bool"))])))
  (sRet (eC (.bl false)))
  sNext)
  (sRet (eChain gLe gLe (eVar 1) (eVar 0) (eVar 2))))
def wWholeF : Fn := runF 3 3 wWholeB
theorem wWhole_int (i lo hi : Int) (mu : Mu) : wWholeF [.int i, .int lo, .int hi] mu = .ok (.bl (decide (lo ≤ i ∧ i ≤ hi))) mu := by
  refine wc_same ?_
  unfold wWholeF wWholeB
  (refine wc_run rfl (by simp only [startD, List.map_cons, List.map_nil, List.length_cons, List.length_nil, Nat.reduceAdd, Nat.reduceSub, List.replicate, List.cons_append, List.nil_append] <;> exact rfl) ?_; repeat array_get_dec)
  refine wb_dec (fun h1 => ?_) fun h1 => ?_
  · repeat array_get_dec
    refine ⟨?_, rfl⟩
    congr 1
    rw [decide_eq_decide]
    omega
  · exact ⟨by rw [decide_eq_false (by omega)], rfl⟩
structure Shf where
  nm : List Nat
  mn : Nat
  kd : List Nat
abbrev tableS : List Nat := [116, 97, 98, 108, 101]
abbrev streamS : List Nat := [115, 116, 114, 101, 97, 109]
def shD (s : Shf) : DV := .tup [.str s.nm, .int (s.mn : Int), .str s.kd]
structure ShfOk (s : Shf) : Prop where
  nm : NmG s.nm
  m1 : 1 ≤ s.mn
  m9 : s.mn ≤ 9
  kd : s.kd = tableS ∨ s.kd = streamS
local macro_rules | `(tactic| array_get_dec) => `(tactic| with_reducible refine wc_eq (wWhole_int _ _ _ _) ?_)
local macro_rules | `(tactic| array_get_dec) => `(tactic| with_reducible refine wc_eq (wName_yes ‹_› _) ?_)
structure ShOk (m : Mu) (q : Nat) (SH : List Shf) : Prop where
  ob : m[q]? = some (.ins "Shelves" [("list_of", .lst (SH.map shD))])
  l1 : 1 ≤ SH.length
  l6 : SH.length ≤ 6
  ok : ∀ s, s ∈ SH → ShfOk s
  nd : (SH.map (·.nm)).Nodup
def spS (l : List Nat) : Nat := l.foldl (fun m c => (m * 37 + c) % 65536) 1
def spK (l : List Nat) : Nat := spS l ^^^ (spS l / 256)
theorem spS_app (l : List Nat) (c : Nat) : spS (l ++ [c]) = (spS l * 37 + c) % 65536 := by unfold spS; rw [List.foldl_append]; rfl
theorem spS_lt (l : List Nat) : spS l < 65536 := by
  rcases List.eq_nil_or_concat l with rfl | ⟨r, c, rfl⟩
  · decide
  · rw [List.concat_eq_append, spS_app]; omega
def wSpreadB : DS := (sSeq (sSet 1 (eC (.int 1)))
  (sSeq (sLk (pickD (eVar 0)) (sFor (iA (eVar 0)) (tgN 2)
  (sSet 1 (eOp gAnd (eOp gAdd (eOp gMul (eVar 1) (eC (.int 37))) (eCB gOrd [(eVar 2)])) (eC (.int 65535))))))
  (sRet (eOp gXor (eVar 1) (eOp gShr (eVar 1) (eC (.int 8)))))))
def wSpreadF : Fn := runF 3 1 wSpreadB
theorem wSpread_eq (l : List Nat) (m : Mu) : wSpreadF [.str l] m = .ok (.int (spK l : Int)) m := by
  refine wc_same ?_
  unfold wSpreadF wSpreadB
  (refine wc_run rfl (by simp only [startD, List.map_cons, List.map_nil, List.length_cons, List.length_nil, Nat.reduceAdd, Nat.reduceSub, List.replicate, List.cons_append, List.nil_append] <;> exact rfl) ?_; repeat array_get_dec)
  refine ws_lkn (pickD_no (ev_var rfl) fun j z => by cases z) ?_
  refine ws_for (xs := l) (dv := fun c : Nat => .str [c]) (fun pre dl m' => m' = m ∧ ∃ a2 : Option DV, dl = [some (.str l), some (.int (spS pre : Int)), a2]) ?_ ?_ ?_
  · exact wi_aL (r := (l.map fun c => .str [c], none)) (ev_var rfl) rfl ⟨rfl, ⟨rfl, _, rfl⟩, still_none⟩
  · rintro pre c post dl m' hx ⟨rfl, a2, rfl⟩
    have hlt := spS_lt pre
    repeat array_get_dec
    refine wg_of (show gAnd (.int ((spS pre : Int) * 37 + (c : Int))) (.int 65535) m' = some (.int (((spS pre * 37 + c) % 65536 : Nat) : Int)) from ?_) ?_
    · show some (DV.int (Builtin.bitAnd _ _)) = _
      rw [show (spS pre : Int) * 37 + c = ((spS pre * 37 + c : Nat) : Int) by omega, show (65535 : Int) = ((65535 : Nat) : Int) from rfl, band_natS, and_lowS]
    · rw [spS_app]
      exact ⟨rfl, _, rfl⟩
  · rintro dl m' ⟨rfl, a2, rfl⟩
    repeat array_get_dec
    refine wg_of (show gShr (.int (spS l : Int)) (.int 8) m' = some (.int ((spS l / 256 : Nat) : Int)) from ?_) ?_
    · refine (gI_pos (by decide)).trans ?_
      rw [show (2 : Int) ^ (8 : Int).toNat = 256 by decide, show ((spS l : Int) / 256) = ((spS l / 256 : Nat) : Int) by omega]
    · refine wg_of (show gXor (.int (spS l : Int)) (.int ((spS l / 256 : Nat) : Int)) m' = some (.int (spK l : Int)) from ?_) ⟨rfl, rfl⟩
      show some (DV.int (Builtin.bitXor _ _)) = _
      rw [bxor_natS]
      rfl
local macro_rules | `(tactic| array_get_dec) => `(tactic| with_reducible refine wc_eq (wSpread_eq _ _) ?_)
def ltr36 (n : Int) : Nat := nsT.getD (n % 36).toNat 0
theorem nsT_all (k : Nat) (h : k < 36) : nsT[k]? = some (nsT.getD k 0) := by
  have : ∀ k, k < 36 → nsT[k]? = some (nsT.getD k 0) := by decide
  exact this k h
def nmLetB : DS := (sRet (eOp gIxA (eC (.str [97, 98, 99, 100, 101, 102, 103, 104, 105, 106, 107, 108, 109, 110, 111, 112, 113, 114, 115, 116, 117, 118, 119, 120, 121, 122, 48, 49, 50, 51, 52, 53, 54, 55, 56, 57])) (eOp gMod (eVar 0) (eC (.int 36)))))
def nmLetF : Fn := runF 1 1 nmLetB
theorem nmLet_eq (n : Int) (m : Mu) : nmLetF [.int n] m = .ok (.str [ltr36 n]) m := by
  refine wc_same ?_
  unfold nmLetF nmLetB
  (refine wc_run rfl (by simp only [startD, List.map_cons, List.map_nil, List.length_cons, List.length_nil, Nat.reduceAdd, Nat.reduceSub, List.replicate, List.cons_append, List.nil_append] <;> exact rfl) ?_; repeat array_get_dec)
  obtain ⟨k, hk⟩ := Int.eq_ofNat_of_zero_le (Int.emod_nonneg n (by decide : (36 : Int) ≠ 0))
  have hk2 : k < 36 := by omega
  rw [hk]
  refine ixA_str (n := k) (by decide) (nsT_all k hk2) ?_
  have e : ltr36 n = nsT.getD k 0 := by unfold ltr36; rw [hk]; rfl
  exact ⟨by rw [e], rfl⟩
local macro_rules | `(tactic| array_get_dec) => `(tactic| with_reducible refine wc_eq (nmLet_eq _ _) ?_)
end
end DM

namespace DM
open PySem PySem.Spec PyProof.Rows L2
local macro_rules | `(tactic| sizeOf_list_dec) => `(tactic| first | assumption | omega | exact Nat.zero_le _ | (simp only [List.length_cons, List.length_nil, List.length_append, List.length_map, List.length_replicate, List.length_range, List.length_take, List.length_drop, List.length_reverse]; omega) | (decide; done))
local macro_rules | `(tactic| array_mem_dec) => `(tactic| (repeat (first | with_reducible assumption | with_reducible exact mem_new | with_reducible apply mem_same' | ((with_reducible apply mem_ne'); (· first | assumption | omega)) | with_reducible apply mem_old | with_reducible exact mem_hd | with_reducible apply mem_app)); done)
local macro_rules | `(tactic| array_get_dec) => `(tactic| first | ((with_reducible refine id_e ?_); first | with_reducible refine we_c ?_ | with_reducible refine we_op ?_ | with_reducible refine we_cb ?_ | with_reducible refine we_call0 ?_ | with_reducible refine we_call ?_ | with_reducible refine we_B ?_ | with_reducible refine we_tru ?_ | with_reducible refine we_not ?_ | with_reducible refine we_and ?_ | with_reducible refine we_or ?_ | with_reducible refine we_if ?_ | with_reducible refine we_neg ?_ | with_reducible refine we_I ?_ | with_reducible refine we_chain ?_ | with_reducible refine we_tup ?_ | with_reducible refine we_lst ?_ | with_reducible refine we_lstM0 ?_ | with_reducible refine we_lstM ?_ | with_reducible refine we_dnew ?_ | with_reducible refine we_sl ?_ | with_reducible refine we_m1 ?_ | with_reducible refine we_isiT ?_ | with_reducible refine we_append ?_ | with_reducible refine we_get1 ?_ | with_reducible refine we_get2 ?_ | with_reducible refine we_pop2 ?_ | with_reducible refine we_pop1 ?_ | with_reducible refine we_cm ?_ | with_reducible refine we_fld ?_ | with_reducible refine we_meth ?_ | with_reducible refine we_make ?_ | with_reducible refine we_yes ?_ | with_reducible refine we_popA ?_ | ((with_reducible apply we_xf); (· exact rfl)) | ((with_reducible apply we_is); (· exact rfl)) | with_reducible refine we_var_0 ?_ | with_reducible refine we_var_1 ?_ | with_reducible refine we_var_2 ?_ | with_reducible refine we_var_3 ?_ | with_reducible refine we_var_4 ?_ | with_reducible refine we_var_5 ?_ | with_reducible refine we_var_6 ?_ | with_reducible refine we_var_7 ?_ | with_reducible refine we_var_8 ?_ | with_reducible refine we_var_9 ?_ | with_reducible refine we_var_10 ?_ | with_reducible refine we_var_11 ?_ | with_reducible refine we_var_12 ?_ | with_reducible refine we_var_13 ?_ | with_reducible refine we_var_14 ?_ | with_reducible refine we_var_15 ?_ | with_reducible refine we_var_16 ?_ | with_reducible refine we_var_17 ?_ | with_reducible refine we_var_18 ?_ | with_reducible refine we_var_19 ?_ | with_reducible refine we_var_20 ?_ | with_reducible refine we_var_21 ?_ | with_reducible refine we_var_22 ?_ | with_reducible refine we_var_23 ?_ | with_reducible refine we_var_24 ?_ | with_reducible refine we_var_25 ?_ | with_reducible refine we_var_26 ?_ | with_reducible refine we_var_27 ?_ | with_reducible refine we_var_28 ?_ | with_reducible refine we_var_29 ?_ | with_reducible refine we_var_30 ?_ | with_reducible refine we_var_31 ?_ | with_reducible refine we_var_32 ?_ | with_reducible refine we_var_33 ?_ | with_reducible refine we_var_34 ?_ | with_reducible refine we_var_35 ?_ | with_reducible refine we_var_36 ?_ | with_reducible refine we_var_37 ?_ | with_reducible refine we_var_38 ?_ | with_reducible refine we_var_39 ?_) | ((with_reducible refine id_s ?_); first | with_reducible refine ws_seq ?_ | with_reducible refine ws_next ?_ | with_reducible refine ws_drop ?_ | with_reducible refine ws_ret ?_ | with_reducible refine ws_retN ?_ | with_reducible refine ws_brk ?_ | with_reducible refine ws_cnt ?_ | with_reducible refine ws_asg ?_ | with_reducible refine ws_if ?_ | with_reducible refine ws_put ?_ | with_reducible refine ws_fldP ?_ | with_reducible refine ws_fldA ?_ | with_reducible refine ws_daug ?_ | with_reducible refine ws_try ?_ | with_reducible refine ws_raise ?_ | with_reducible refine ws_raise0 ?_ | with_reducible refine ws_set_0 ?_ | with_reducible refine ws_set_1 ?_ | with_reducible refine ws_set_2 ?_ | with_reducible refine ws_set_3 ?_ | with_reducible refine ws_set_4 ?_ | with_reducible refine ws_set_5 ?_ | with_reducible refine ws_set_6 ?_ | with_reducible refine ws_set_7 ?_ | with_reducible refine ws_set_8 ?_ | with_reducible refine ws_set_9 ?_ | with_reducible refine ws_set_10 ?_ | with_reducible refine ws_set_11 ?_ | with_reducible refine ws_set_12 ?_ | with_reducible refine ws_set_13 ?_ | with_reducible refine ws_set_14 ?_ | with_reducible refine ws_set_15 ?_ | with_reducible refine ws_set_16 ?_ | with_reducible refine ws_set_17 ?_ | with_reducible refine ws_set_18 ?_ | with_reducible refine ws_set_19 ?_ | with_reducible refine ws_set_20 ?_ | with_reducible refine ws_set_21 ?_ | with_reducible refine ws_set_22 ?_ | with_reducible refine ws_set_23 ?_ | with_reducible refine ws_set_24 ?_ | with_reducible refine ws_set_25 ?_ | with_reducible refine ws_set_26 ?_ | with_reducible refine ws_set_27 ?_ | with_reducible refine ws_set_28 ?_ | with_reducible refine ws_set_29 ?_ | with_reducible refine ws_set_30 ?_ | with_reducible refine ws_set_31 ?_ | with_reducible refine ws_set_32 ?_ | with_reducible refine ws_set_33 ?_ | with_reducible refine ws_set_34 ?_ | with_reducible refine ws_set_35 ?_ | with_reducible refine ws_set_36 ?_ | with_reducible refine ws_set_37 ?_ | with_reducible refine ws_set_38 ?_ | with_reducible refine ws_set_39 ?_ | with_reducible refine ws_aug_0 ?_ | with_reducible refine ws_aug_1 ?_ | with_reducible refine ws_aug_2 ?_ | with_reducible refine ws_aug_3 ?_ | with_reducible refine ws_aug_4 ?_ | with_reducible refine ws_aug_5 ?_ | with_reducible refine ws_aug_6 ?_ | with_reducible refine ws_aug_7 ?_ | with_reducible refine ws_aug_8 ?_ | with_reducible refine ws_aug_9 ?_ | with_reducible refine ws_aug_10 ?_ | with_reducible refine ws_aug_11 ?_ | with_reducible refine ws_aug_12 ?_ | with_reducible refine ws_aug_13 ?_ | with_reducible refine ws_aug_14 ?_ | with_reducible refine ws_aug_15 ?_ | with_reducible refine ws_aug_16 ?_ | with_reducible refine ws_aug_17 ?_ | with_reducible refine ws_aug_18 ?_ | with_reducible refine ws_aug_19 ?_ | with_reducible refine ws_aug_20 ?_ | with_reducible refine ws_aug_21 ?_ | with_reducible refine ws_aug_22 ?_ | with_reducible refine ws_aug_23 ?_ | with_reducible refine ws_aug_24 ?_ | with_reducible refine ws_aug_25 ?_ | with_reducible refine ws_aug_26 ?_ | with_reducible refine ws_aug_27 ?_ | with_reducible refine ws_aug_28 ?_ | with_reducible refine ws_aug_29 ?_ | with_reducible refine ws_aug_30 ?_ | with_reducible refine ws_aug_31 ?_ | with_reducible refine ws_aug_32 ?_ | with_reducible refine ws_aug_33 ?_ | with_reducible refine ws_aug_34 ?_ | with_reducible refine ws_aug_35 ?_ | with_reducible refine ws_aug_36 ?_ | with_reducible refine ws_aug_37 ?_ | with_reducible refine ws_aug_38 ?_ | with_reducible refine ws_aug_39 ?_) | ((with_reducible refine id_a ?_); first | with_reducible refine wa_cons ?_ | with_reducible refine wa_nil ?_) | ((with_reducible refine id_g ?_); first | with_reducible refine wg_add ?_ | ((with_reducible apply wg_adds); (· sizeOf_list_dec)) | ((with_reducible apply wg_addl); (· sizeOf_list_dec)) | with_reducible refine wg_plus ?_ | ((with_reducible apply wg_pluss); (· sizeOf_list_dec)) | with_reducible refine wg_plusI ?_ | with_reducible refine wg_minus ?_ | with_reducible refine wg_sub ?_ | with_reducible refine wg_pow9 ?_ | with_reducible refine wg_pow6 ?_ | with_reducible refine wg_pow3 ?_ | with_reducible refine wg_pow18 ?_ | ((with_reducible apply wg_mod); (· sizeOf_list_dec)) | ((with_reducible apply wg_div); (· sizeOf_list_dec)) | ((with_reducible apply wg_mul); (· sizeOf_list_dec)) | ((with_reducible apply wg_mulA); (· sizeOf_list_dec)) | ((with_reducible apply wg_mulS1); (· sizeOf_list_dec)) | ((with_reducible apply wg_mulS); (· sizeOf_list_dec)) | with_reducible refine wg_lt ?_ | with_reducible refine wg_le ?_ | with_reducible refine wg_gt ?_ | with_reducible refine wg_ge ?_ | with_reducible refine wg_eq ?_ | with_reducible refine wg_ne ?_ | with_reducible refine wg_eqs ?_ | with_reducible refine wg_nes ?_ | with_reducible refine wg_eqnn ?_ | with_reducible refine wg_eqni ?_ | with_reducible refine wg_eqin ?_ | with_reducible refine wg_eqns ?_ | with_reducible refine wg_eqsn ?_ | with_reducible refine wg_nenn ?_ | with_reducible refine wg_neni ?_ | with_reducible refine wg_nein ?_ | with_reducible refine wg_nens ?_ | with_reducible refine wg_nesn ?_ | with_reducible refine wg_isNn ?_ | with_reducible refine wg_isNi ?_ | with_reducible refine wg_isNs ?_ | with_reducible refine wg_isNt ?_ | with_reducible refine wg_isNl ?_ | with_reducible refine wg_isNo ?_ | with_reducible refine wg_notNn ?_ | with_reducible refine wg_notNi ?_ | with_reducible refine wg_notNs ?_ | with_reducible refine wg_notNt ?_ | with_reducible refine wg_notNl ?_ | with_reducible refine wg_notNo ?_ | ((with_reducible apply wg_lenS); (· sizeOf_list_dec)) | with_reducible refine wg_lenL ?_ | with_reducible refine wg_lenT ?_ | ((with_reducible apply wg_lenM); (· array_mem_dec)) | ((with_reducible apply wg_lenD); (· array_mem_dec)) | with_reducible refine wg_intI ?_ | with_reducible refine wg_intB ?_ | with_reducible refine wg_ord ?_ | with_reducible refine wg_max2 ?_ | with_reducible refine wg_min2 ?_ | with_reducible refine key_int ?_ | with_reducible refine key_str ?_ | ((with_reducible apply wg_look); (· exact rfl)) | ((with_reducible apply wdicR); (· array_mem_dec)) | ((with_reducible apply wdicRF); (· array_mem_dec)) | ((with_reducible apply wdicAt); (· array_mem_dec)) | ((with_reducible apply wput_dic); (· array_mem_dec); (· exact rfl); (· sizeOf_list_dec)) | ((with_reducible apply wput_lst); (· array_mem_dec); (· sizeOf_list_dec)) | with_reducible refine wtr_b ?_ | with_reducible refine wtr_n ?_ | with_reducible refine wtr_i ?_ | ((with_reducible apply wtr_s); (· sizeOf_list_dec)) | with_reducible refine wtr_l ?_ | ((with_reducible apply wtr_m); (· array_mem_dec)) | ((with_reducible apply wtr_d); (· array_mem_dec)) | with_reducible refine wpart_n ?_ | with_reducible refine wpart_i ?_ | ((with_reducible apply wsl_s_to); (· sizeOf_list_dec)) | ((with_reducible apply wsl_s_from); (· sizeOf_list_dec)) | ((with_reducible apply wsl_s_mid); (· sizeOf_list_dec)) | with_reducible refine wsl_l_to ?_ | with_reducible refine wsl_l_from ?_ | with_reducible refine wsl_l_mid ?_ | ((with_reducible apply wsl_m_to); (· array_mem_dec)) | ((with_reducible apply wsl_m_from); (· array_mem_dec)) | ((with_reducible apply wsl_m_mid); (· array_mem_dec)) | with_reducible refine wseqL ?_ | with_reducible refine wseqT ?_ | with_reducible refine wseqS ?_ | ((with_reducible apply wseqM); (· array_mem_dec)) | with_reducible refine wstillL ?_ | ((with_reducible apply wstillF); (· array_mem_dec)) | ((with_reducible apply wcopyD); (· array_mem_dec)) | ((with_reducible apply wlistM); (· array_mem_dec)) | with_reducible refine wlistML ?_ | with_reducible refine wlistMT ?_ | with_reducible refine wlistL ?_ | with_reducible refine wlistT ?_ | ((with_reducible apply wlistO); (· array_mem_dec)) | ((with_reducible apply wgisiT); (· exact rfl); (· exact rfl)) | ((with_reducible apply wgisiF); (· exact rfl); (· exact rfl)) | ((with_reducible apply wgisiT); (· exact ty_dic (by array_mem_dec)); (· exact rfl)) | ((with_reducible apply wgisiF); (· exact ty_dic (by array_mem_dec)); (· exact rfl)) | ((with_reducible apply wgisiT); (· exact ty_lstM (by array_mem_dec)); (· exact rfl)) | ((with_reducible apply wgisiF); (· exact ty_lstM (by array_mem_dec)); (· exact rfl)) | ((with_reducible apply ixA_tup); (· exact rfl)) | ((with_reducible apply inA_non); (· array_mem_dec)) | ((with_reducible apply ninA_non); (· array_mem_dec)) | ((with_reducible apply inA_dic); (· array_mem_dec); (· exact rfl)) | ((with_reducible apply inA_dicF); (· array_mem_dec); (· exact rfl)) | ((with_reducible apply ninA_dic); (· array_mem_dec); (· exact rfl)) | ((with_reducible apply ninA_dicF); (· array_mem_dec); (· exact rfl)) ) | ((with_reducible refine id_b ?_); first | with_reducible refine wb_true ?_ | with_reducible refine wb_false ?_ | ((with_reducible apply wb_pos); (· (first | with_reducible exact rfl | assumption | omega | (simp only [List.length_cons, List.length_nil, List.length_map]); (·  omega)))) | ((with_reducible apply wb_neg); (· (first | with_reducible exact rfl | assumption | omega | (simp only [List.length_cons, List.length_nil, List.length_map]); (·  omega)))) | ((with_reducible apply wb_npos); (· (first | with_reducible exact rfl | assumption | omega | (simp only [List.length_cons, List.length_nil, List.length_map]); (·  omega)))) | ((with_reducible apply wb_nneg); (· (first | with_reducible exact rfl | assumption | omega | (simp only [List.length_cons, List.length_nil, List.length_map]); (·  omega)))) | ((with_reducible apply wb_t); (· assumption)) | ((with_reducible apply wb_f); (· assumption)) ) | ((with_reducible refine id_t ?_); first | with_reducible refine wt_T ?_ | with_reducible refine wt_n_0 ?_ | with_reducible refine wt_n_1 ?_ | with_reducible refine wt_n_2 ?_ | with_reducible refine wt_n_3 ?_ | with_reducible refine wt_n_4 ?_ | with_reducible refine wt_n_5 ?_ | with_reducible refine wt_n_6 ?_ | with_reducible refine wt_n_7 ?_ | with_reducible refine wt_n_8 ?_ | with_reducible refine wt_n_9 ?_ | with_reducible refine wt_n_10 ?_ | with_reducible refine wt_n_11 ?_ | with_reducible refine wt_n_12 ?_ | with_reducible refine wt_n_13 ?_ | with_reducible refine wt_n_14 ?_ | with_reducible refine wt_n_15 ?_ | with_reducible refine wt_n_16 ?_ | with_reducible refine wt_n_17 ?_ | with_reducible refine wt_n_18 ?_ | with_reducible refine wt_n_19 ?_ | with_reducible refine wt_n_20 ?_ | with_reducible refine wt_n_21 ?_ | with_reducible refine wt_n_22 ?_ | with_reducible refine wt_n_23 ?_ | with_reducible refine wt_n_24 ?_ | with_reducible refine wt_n_25 ?_ | with_reducible refine wt_n_26 ?_ | with_reducible refine wt_n_27 ?_ | with_reducible refine wt_n_28 ?_ | with_reducible refine wt_n_29 ?_ | with_reducible refine wt_n_30 ?_ | with_reducible refine wt_n_31 ?_ | with_reducible refine wt_n_32 ?_ | with_reducible refine wt_n_33 ?_ | with_reducible refine wt_n_34 ?_ | with_reducible refine wt_n_35 ?_ | with_reducible refine wt_n_36 ?_ | with_reducible refine wt_n_37 ?_ | with_reducible refine wt_n_38 ?_ | with_reducible refine wt_n_39 ?_) | with_reducible refine wts_cons ?_ | with_reducible refine wts_nil ?_ | ((with_reducible refine id_i ?_); first | with_reducible refine wi_rng ?_ | with_reducible refine wi_rng2 ?_ | with_reducible refine wi_seq ?_ | with_reducible refine wi_dic ?_ | with_reducible refine wi_rv ?_ | with_reducible refine wi_en ?_ | with_reducible refine wi_zp ?_) | ((with_reducible refine id_h ?_); first | ((with_reducible apply wh_no); (· exact rfl)) | ((with_reducible apply wh_bare); (· exact rfl)) | ((with_reducible apply wh_yes_0); (· exact rfl)) | ((with_reducible apply wh_yes_1); (· exact rfl)) | ((with_reducible apply wh_yes_2); (· exact rfl)) | ((with_reducible apply wh_yes_3); (· exact rfl)) | ((with_reducible apply wh_yes_4); (· exact rfl)) | ((with_reducible apply wh_yes_5); (· exact rfl)) | ((with_reducible apply wh_yes_6); (· exact rfl)) | ((with_reducible apply wh_yes_7); (· exact rfl)) | ((with_reducible apply wh_yes_8); (· exact rfl)) | ((with_reducible apply wh_yes_9); (· exact rfl)) | ((with_reducible apply wh_yes_10); (· exact rfl)) | ((with_reducible apply wh_yes_11); (· exact rfl)) | ((with_reducible apply wh_yes_12); (· exact rfl)) | ((with_reducible apply wh_yes_13); (· exact rfl)) | ((with_reducible apply wh_yes_14); (· exact rfl)) | ((with_reducible apply wh_yes_15); (· exact rfl)) | ((with_reducible apply wh_yes_16); (· exact rfl)) | ((with_reducible apply wh_yes_17); (· exact rfl)) | ((with_reducible apply wh_yes_18); (· exact rfl)) | ((with_reducible apply wh_yes_19); (· exact rfl)) | ((with_reducible apply wh_yes_20); (· exact rfl)) | ((with_reducible apply wh_yes_21); (· exact rfl)) | ((with_reducible apply wh_yes_22); (· exact rfl)) | ((with_reducible apply wh_yes_23); (· exact rfl)) | ((with_reducible apply wh_yes_24); (· exact rfl)) | ((with_reducible apply wh_yes_25); (· exact rfl)) | ((with_reducible apply wh_yes_26); (· exact rfl)) | ((with_reducible apply wh_yes_27); (· exact rfl)) | ((with_reducible apply wh_yes_28); (· exact rfl)) | ((with_reducible apply wh_yes_29); (· exact rfl)) | ((with_reducible apply wh_yes_30); (· exact rfl)) | ((with_reducible apply wh_yes_31); (· exact rfl)) | ((with_reducible apply wh_yes_32); (· exact rfl)) | ((with_reducible apply wh_yes_33); (· exact rfl)) | ((with_reducible apply wh_yes_34); (· exact rfl)) | ((with_reducible apply wh_yes_35); (· exact rfl)) | ((with_reducible apply wh_yes_36); (· exact rfl)) | ((with_reducible apply wh_yes_37); (· exact rfl)) | ((with_reducible apply wh_yes_38); (· exact rfl)) | ((with_reducible apply wh_yes_39); (· exact rfl)) | with_reducible refine wh_nil ?_) | ((with_reducible refine id_cl ?_); first | with_reducible refine wcl_0 ?_ | with_reducible refine wcl_1 ?_ | with_reducible refine wcl_2 ?_ | with_reducible refine wcl_3 ?_ | with_reducible refine wcl_4 ?_ | with_reducible refine wcl_5 ?_ | with_reducible refine wcl_6 ?_ | with_reducible refine wcl_7 ?_ | with_reducible refine wcl_8 ?_ | with_reducible refine wcl_9 ?_ | with_reducible refine wcl_10 ?_ | with_reducible refine wcl_11 ?_ | with_reducible refine wcl_12 ?_ | with_reducible refine wcl_13 ?_ | with_reducible refine wcl_14 ?_ | with_reducible refine wcl_15 ?_ | with_reducible refine wcl_16 ?_ | with_reducible refine wcl_17 ?_ | with_reducible refine wcl_18 ?_ | with_reducible refine wcl_19 ?_ | with_reducible refine wcl_20 ?_ | with_reducible refine wcl_21 ?_ | with_reducible refine wcl_22 ?_ | with_reducible refine wcl_23 ?_ | with_reducible refine wcl_24 ?_ | with_reducible refine wcl_25 ?_ | with_reducible refine wcl_26 ?_ | with_reducible refine wcl_27 ?_ | with_reducible refine wcl_28 ?_ | with_reducible refine wcl_29 ?_ | with_reducible refine wcl_30 ?_ | with_reducible refine wcl_31 ?_ | with_reducible refine wcl_32 ?_ | with_reducible refine wcl_33 ?_ | with_reducible refine wcl_34 ?_ | with_reducible refine wcl_35 ?_ | with_reducible refine wcl_36 ?_ | with_reducible refine wcl_37 ?_ | with_reducible refine wcl_38 ?_ | with_reducible refine wcl_39 ?_) | with_reducible refine wbl ?_ | with_reducible refine wnot_t ?_ | with_reducible refine wnot_f ?_ | with_reducible refine wnot_n ?_ | with_reducible refine wnot ?_ | with_reducible refine wint ?_ | with_reducible refine wstr ?_ | with_reducible refine wobj ?_ | with_reducible refine wnon ?_ | ((with_reducible apply wat); · array_mem_dec) | ((with_reducible refine wyes_c ?_ ?_); (· exact rfl)) | ((with_reducible refine wyes_k ?_ ?_); (· exact rfl)) | ((with_reducible refine wyes_d ?_ ?_); (· exact ⟨rfl, Nat.le_of_ble_eq_true rfl⟩)) | ((with_reducible refine wyes ?_ ?_); · sizeOf_list_dec) | with_reducible refine wyes wlstT ?_ | with_reducible refine wlst ?_ | with_reducible refine wins ?_ | with_reducible refine winm ?_)
local macro_rules | `(tactic| array_get_dec) => `(tactic| with_reducible refine ixA_l0 ?_)
local macro_rules | `(tactic| array_get_dec) => `(tactic| with_reducible refine ixA_l1 ?_)
local macro_rules | `(tactic| array_get_dec) => `(tactic| with_reducible refine ixA_l2 ?_)
local macro_rules | `(tactic| array_get_dec) => `(tactic| with_reducible refine ixA_l3 ?_)
local macro_rules | `(tactic| array_get_dec) => `(tactic| with_reducible refine ixA_l4 ?_)
local macro_rules | `(tactic| array_get_dec) => `(tactic| with_reducible refine ixA_l5 ?_)
local macro_rules | `(tactic| array_get_dec) => `(tactic| with_reducible refine ixA_l6 ?_)
local macro_rules | `(tactic| array_get_dec) => `(tactic| with_reducible refine ixA_l7 ?_)
local macro_rules | `(tactic| array_get_dec) => `(tactic| with_reducible refine wb_some ?_)
local macro_rules | `(tactic| array_get_dec) => `(tactic| with_reducible refine wb_none ?_)
local macro_rules | `(tactic| array_get_dec) => `(tactic| with_reducible refine wb_nsome ?_)
local macro_rules | `(tactic| array_get_dec) => `(tactic| with_reducible refine wb_nnone ?_)
section
variable {m m' : Mu} {q d : Nat} {pl : Int} {TK : List Ltr}
def llK (TK : List Ltr) (k : Key) : Option Ltr := TK.reverse.find? fun l => decide (Sum.inr (Sx l.ky) = k)
def hdD (l : Ltr) : DV := .tup [.int l.pl, wdD l.wd]
structure TbOk (m : Mu) (q d : Nat) (pl : Int) (TK : List Ltr) : Prop where
  ob : m[q]? = some (.ins "Table" [("place", .int pl), ("held", .obj d)])
  di : ∃ kvs : KVs, m[d]? = some (.dic kvs) ∧ (keysD kvs).Nodup ∧ (∀ k, valD kvs k = (llK TK k).map hdD) ∧ kvs.length ≤ TK.length
  ne : q ≠ d
end
end DM

namespace DM
open PySem PySem.Spec PyProof.Rows L2
local macro_rules | `(tactic| sizeOf_list_dec) => `(tactic| first | assumption | omega | exact Nat.zero_le _ | (simp only [List.length_cons, List.length_nil, List.length_append, List.length_map, List.length_replicate, List.length_range, List.length_take, List.length_drop, List.length_reverse]; omega) | (decide; done))
local macro_rules | `(tactic| array_mem_dec) => `(tactic| (repeat (first | with_reducible assumption | with_reducible exact mem_new | with_reducible apply mem_same' | ((with_reducible apply mem_ne'); (· first | assumption | omega)) | with_reducible apply mem_old | with_reducible exact mem_hd | with_reducible apply mem_app)); done)
local macro_rules | `(tactic| array_get_dec) => `(tactic| first | ((with_reducible refine id_e ?_); first | with_reducible refine we_c ?_ | with_reducible refine we_op ?_ | with_reducible refine we_cb ?_ | with_reducible refine we_call0 ?_ | with_reducible refine we_call ?_ | with_reducible refine we_B ?_ | with_reducible refine we_tru ?_ | with_reducible refine we_not ?_ | with_reducible refine we_and ?_ | with_reducible refine we_or ?_ | with_reducible refine we_if ?_ | with_reducible refine we_neg ?_ | with_reducible refine we_I ?_ | with_reducible refine we_chain ?_ | with_reducible refine we_tup ?_ | with_reducible refine we_lst ?_ | with_reducible refine we_lstM0 ?_ | with_reducible refine we_lstM ?_ | with_reducible refine we_dnew ?_ | with_reducible refine we_sl ?_ | with_reducible refine we_m1 ?_ | with_reducible refine we_isiT ?_ | with_reducible refine we_append ?_ | with_reducible refine we_get1 ?_ | with_reducible refine we_get2 ?_ | with_reducible refine we_pop2 ?_ | with_reducible refine we_pop1 ?_ | with_reducible refine we_cm ?_ | with_reducible refine we_fld ?_ | with_reducible refine we_meth ?_ | with_reducible refine we_make ?_ | with_reducible refine we_yes ?_ | with_reducible refine we_popA ?_ | ((with_reducible apply we_xf); (· exact rfl)) | ((with_reducible apply we_is); (· exact rfl)) | with_reducible refine we_var_0 ?_ | with_reducible refine we_var_1 ?_ | with_reducible refine we_var_2 ?_ | with_reducible refine we_var_3 ?_ | with_reducible refine we_var_4 ?_ | with_reducible refine we_var_5 ?_ | with_reducible refine we_var_6 ?_ | with_reducible refine we_var_7 ?_ | with_reducible refine we_var_8 ?_ | with_reducible refine we_var_9 ?_ | with_reducible refine we_var_10 ?_ | with_reducible refine we_var_11 ?_ | with_reducible refine we_var_12 ?_ | with_reducible refine we_var_13 ?_ | with_reducible refine we_var_14 ?_ | with_reducible refine we_var_15 ?_ | with_reducible refine we_var_16 ?_ | with_reducible refine we_var_17 ?_ | with_reducible refine we_var_18 ?_ | with_reducible refine we_var_19 ?_ | with_reducible refine we_var_20 ?_ | with_reducible refine we_var_21 ?_ | with_reducible refine we_var_22 ?_ | with_reducible refine we_var_23 ?_ | with_reducible refine we_var_24 ?_ | with_reducible refine we_var_25 ?_ | with_reducible refine we_var_26 ?_ | with_reducible refine we_var_27 ?_ | with_reducible refine we_var_28 ?_ | with_reducible refine we_var_29 ?_ | with_reducible refine we_var_30 ?_ | with_reducible refine we_var_31 ?_ | with_reducible refine we_var_32 ?_ | with_reducible refine we_var_33 ?_ | with_reducible refine we_var_34 ?_ | with_reducible refine we_var_35 ?_ | with_reducible refine we_var_36 ?_ | with_reducible refine we_var_37 ?_ | with_reducible refine we_var_38 ?_ | with_reducible refine we_var_39 ?_) | ((with_reducible refine id_s ?_); first | with_reducible refine ws_seq ?_ | with_reducible refine ws_next ?_ | with_reducible refine ws_drop ?_ | with_reducible refine ws_ret ?_ | with_reducible refine ws_retN ?_ | with_reducible refine ws_brk ?_ | with_reducible refine ws_cnt ?_ | with_reducible refine ws_asg ?_ | with_reducible refine ws_if ?_ | with_reducible refine ws_put ?_ | with_reducible refine ws_fldP ?_ | with_reducible refine ws_fldA ?_ | with_reducible refine ws_daug ?_ | with_reducible refine ws_try ?_ | with_reducible refine ws_raise ?_ | with_reducible refine ws_raise0 ?_ | with_reducible refine ws_set_0 ?_ | with_reducible refine ws_set_1 ?_ | with_reducible refine ws_set_2 ?_ | with_reducible refine ws_set_3 ?_ | with_reducible refine ws_set_4 ?_ | with_reducible refine ws_set_5 ?_ | with_reducible refine ws_set_6 ?_ | with_reducible refine ws_set_7 ?_ | with_reducible refine ws_set_8 ?_ | with_reducible refine ws_set_9 ?_ | with_reducible refine ws_set_10 ?_ | with_reducible refine ws_set_11 ?_ | with_reducible refine ws_set_12 ?_ | with_reducible refine ws_set_13 ?_ | with_reducible refine ws_set_14 ?_ | with_reducible refine ws_set_15 ?_ | with_reducible refine ws_set_16 ?_ | with_reducible refine ws_set_17 ?_ | with_reducible refine ws_set_18 ?_ | with_reducible refine ws_set_19 ?_ | with_reducible refine ws_set_20 ?_ | with_reducible refine ws_set_21 ?_ | with_reducible refine ws_set_22 ?_ | with_reducible refine ws_set_23 ?_ | with_reducible refine ws_set_24 ?_ | with_reducible refine ws_set_25 ?_ | with_reducible refine ws_set_26 ?_ | with_reducible refine ws_set_27 ?_ | with_reducible refine ws_set_28 ?_ | with_reducible refine ws_set_29 ?_ | with_reducible refine ws_set_30 ?_ | with_reducible refine ws_set_31 ?_ | with_reducible refine ws_set_32 ?_ | with_reducible refine ws_set_33 ?_ | with_reducible refine ws_set_34 ?_ | with_reducible refine ws_set_35 ?_ | with_reducible refine ws_set_36 ?_ | with_reducible refine ws_set_37 ?_ | with_reducible refine ws_set_38 ?_ | with_reducible refine ws_set_39 ?_ | with_reducible refine ws_aug_0 ?_ | with_reducible refine ws_aug_1 ?_ | with_reducible refine ws_aug_2 ?_ | with_reducible refine ws_aug_3 ?_ | with_reducible refine ws_aug_4 ?_ | with_reducible refine ws_aug_5 ?_ | with_reducible refine ws_aug_6 ?_ | with_reducible refine ws_aug_7 ?_ | with_reducible refine ws_aug_8 ?_ | with_reducible refine ws_aug_9 ?_ | with_reducible refine ws_aug_10 ?_ | with_reducible refine ws_aug_11 ?_ | with_reducible refine ws_aug_12 ?_ | with_reducible refine ws_aug_13 ?_ | with_reducible refine ws_aug_14 ?_ | with_reducible refine ws_aug_15 ?_ | with_reducible refine ws_aug_16 ?_ | with_reducible refine ws_aug_17 ?_ | with_reducible refine ws_aug_18 ?_ | with_reducible refine ws_aug_19 ?_ | with_reducible refine ws_aug_20 ?_ | with_reducible refine ws_aug_21 ?_ | with_reducible refine ws_aug_22 ?_ | with_reducible refine ws_aug_23 ?_ | with_reducible refine ws_aug_24 ?_ | with_reducible refine ws_aug_25 ?_ | with_reducible refine ws_aug_26 ?_ | with_reducible refine ws_aug_27 ?_ | with_reducible refine ws_aug_28 ?_ | with_reducible refine ws_aug_29 ?_ | with_reducible refine ws_aug_30 ?_ | with_reducible refine ws_aug_31 ?_ | with_reducible refine ws_aug_32 ?_ | with_reducible refine ws_aug_33 ?_ | with_reducible refine ws_aug_34 ?_ | with_reducible refine ws_aug_35 ?_ | with_reducible refine ws_aug_36 ?_ | with_reducible refine ws_aug_37 ?_ | with_reducible refine ws_aug_38 ?_ | with_reducible refine ws_aug_39 ?_) | ((with_reducible refine id_a ?_); first | with_reducible refine wa_cons ?_ | with_reducible refine wa_nil ?_) | ((with_reducible refine id_g ?_); first | with_reducible refine wg_add ?_ | ((with_reducible apply wg_adds); (· sizeOf_list_dec)) | ((with_reducible apply wg_addl); (· sizeOf_list_dec)) | with_reducible refine wg_plus ?_ | ((with_reducible apply wg_pluss); (· sizeOf_list_dec)) | with_reducible refine wg_plusI ?_ | with_reducible refine wg_minus ?_ | with_reducible refine wg_sub ?_ | with_reducible refine wg_pow9 ?_ | with_reducible refine wg_pow6 ?_ | with_reducible refine wg_pow3 ?_ | with_reducible refine wg_pow18 ?_ | ((with_reducible apply wg_mod); (· sizeOf_list_dec)) | ((with_reducible apply wg_div); (· sizeOf_list_dec)) | ((with_reducible apply wg_mul); (· sizeOf_list_dec)) | ((with_reducible apply wg_mulA); (· sizeOf_list_dec)) | ((with_reducible apply wg_mulS1); (· sizeOf_list_dec)) | ((with_reducible apply wg_mulS); (· sizeOf_list_dec)) | with_reducible refine wg_lt ?_ | with_reducible refine wg_le ?_ | with_reducible refine wg_gt ?_ | with_reducible refine wg_ge ?_ | with_reducible refine wg_eq ?_ | with_reducible refine wg_ne ?_ | with_reducible refine wg_eqs ?_ | with_reducible refine wg_nes ?_ | with_reducible refine wg_eqnn ?_ | with_reducible refine wg_eqni ?_ | with_reducible refine wg_eqin ?_ | with_reducible refine wg_eqns ?_ | with_reducible refine wg_eqsn ?_ | with_reducible refine wg_nenn ?_ | with_reducible refine wg_neni ?_ | with_reducible refine wg_nein ?_ | with_reducible refine wg_nens ?_ | with_reducible refine wg_nesn ?_ | with_reducible refine wg_isNn ?_ | with_reducible refine wg_isNi ?_ | with_reducible refine wg_isNs ?_ | with_reducible refine wg_isNt ?_ | with_reducible refine wg_isNl ?_ | with_reducible refine wg_isNo ?_ | with_reducible refine wg_notNn ?_ | with_reducible refine wg_notNi ?_ | with_reducible refine wg_notNs ?_ | with_reducible refine wg_notNt ?_ | with_reducible refine wg_notNl ?_ | with_reducible refine wg_notNo ?_ | ((with_reducible apply wg_lenS); (· sizeOf_list_dec)) | with_reducible refine wg_lenL ?_ | with_reducible refine wg_lenT ?_ | ((with_reducible apply wg_lenM); (· array_mem_dec)) | ((with_reducible apply wg_lenD); (· array_mem_dec)) | with_reducible refine wg_intI ?_ | with_reducible refine wg_intB ?_ | with_reducible refine wg_ord ?_ | with_reducible refine wg_max2 ?_ | with_reducible refine wg_min2 ?_ | with_reducible refine key_int ?_ | with_reducible refine key_str ?_ | ((with_reducible apply wg_look); (· exact rfl)) | ((with_reducible apply wdicR); (· array_mem_dec)) | ((with_reducible apply wdicRF); (· array_mem_dec)) | ((with_reducible apply wdicAt); (· array_mem_dec)) | ((with_reducible apply wput_dic); (· array_mem_dec); (· exact rfl); (· sizeOf_list_dec)) | ((with_reducible apply wput_lst); (· array_mem_dec); (· sizeOf_list_dec)) | with_reducible refine wtr_b ?_ | with_reducible refine wtr_n ?_ | with_reducible refine wtr_i ?_ | ((with_reducible apply wtr_s); (· sizeOf_list_dec)) | with_reducible refine wtr_l ?_ | ((with_reducible apply wtr_m); (· array_mem_dec)) | ((with_reducible apply wtr_d); (· array_mem_dec)) | with_reducible refine wpart_n ?_ | with_reducible refine wpart_i ?_ | ((with_reducible apply wsl_s_to); (· sizeOf_list_dec)) | ((with_reducible apply wsl_s_from); (· sizeOf_list_dec)) | ((with_reducible apply wsl_s_mid); (· sizeOf_list_dec)) | with_reducible refine wsl_l_to ?_ | with_reducible refine wsl_l_from ?_ | with_reducible refine wsl_l_mid ?_ | ((with_reducible apply wsl_m_to); (· array_mem_dec)) | ((with_reducible apply wsl_m_from); (· array_mem_dec)) | ((with_reducible apply wsl_m_mid); (· array_mem_dec)) | with_reducible refine wseqL ?_ | with_reducible refine wseqT ?_ | with_reducible refine wseqS ?_ | ((with_reducible apply wseqM); (· array_mem_dec)) | with_reducible refine wstillL ?_ | ((with_reducible apply wstillF); (· array_mem_dec)) | ((with_reducible apply wcopyD); (· array_mem_dec)) | ((with_reducible apply wlistM); (· array_mem_dec)) | with_reducible refine wlistML ?_ | with_reducible refine wlistMT ?_ | with_reducible refine wlistL ?_ | with_reducible refine wlistT ?_ | ((with_reducible apply wlistO); (· array_mem_dec)) | ((with_reducible apply wgisiT); (· exact rfl); (· exact rfl)) | ((with_reducible apply wgisiF); (· exact rfl); (· exact rfl)) | ((with_reducible apply wgisiT); (· exact ty_dic (by array_mem_dec)); (· exact rfl)) | ((with_reducible apply wgisiF); (· exact ty_dic (by array_mem_dec)); (· exact rfl)) | ((with_reducible apply wgisiT); (· exact ty_lstM (by array_mem_dec)); (· exact rfl)) | ((with_reducible apply wgisiF); (· exact ty_lstM (by array_mem_dec)); (· exact rfl)) | ((with_reducible apply ixA_tup); (· exact rfl)) | ((with_reducible apply inA_non); (· array_mem_dec)) | ((with_reducible apply ninA_non); (· array_mem_dec)) | ((with_reducible apply inA_dic); (· array_mem_dec); (· exact rfl)) | ((with_reducible apply inA_dicF); (· array_mem_dec); (· exact rfl)) | ((with_reducible apply ninA_dic); (· array_mem_dec); (· exact rfl)) | ((with_reducible apply ninA_dicF); (· array_mem_dec); (· exact rfl)) ) | ((with_reducible refine id_b ?_); first | with_reducible refine wb_true ?_ | with_reducible refine wb_false ?_ | ((with_reducible apply wb_pos); (· (first | with_reducible exact rfl | assumption | omega | (simp only [List.length_cons, List.length_nil, List.length_map]); (·  omega)))) | ((with_reducible apply wb_neg); (· (first | with_reducible exact rfl | assumption | omega | (simp only [List.length_cons, List.length_nil, List.length_map]); (·  omega)))) | ((with_reducible apply wb_npos); (· (first | with_reducible exact rfl | assumption | omega | (simp only [List.length_cons, List.length_nil, List.length_map]); (·  omega)))) | ((with_reducible apply wb_nneg); (· (first | with_reducible exact rfl | assumption | omega | (simp only [List.length_cons, List.length_nil, List.length_map]); (·  omega)))) | ((with_reducible apply wb_t); (· assumption)) | ((with_reducible apply wb_f); (· assumption)) ) | ((with_reducible refine id_t ?_); first | with_reducible refine wt_T ?_ | with_reducible refine wt_n_0 ?_ | with_reducible refine wt_n_1 ?_ | with_reducible refine wt_n_2 ?_ | with_reducible refine wt_n_3 ?_ | with_reducible refine wt_n_4 ?_ | with_reducible refine wt_n_5 ?_ | with_reducible refine wt_n_6 ?_ | with_reducible refine wt_n_7 ?_ | with_reducible refine wt_n_8 ?_ | with_reducible refine wt_n_9 ?_ | with_reducible refine wt_n_10 ?_ | with_reducible refine wt_n_11 ?_ | with_reducible refine wt_n_12 ?_ | with_reducible refine wt_n_13 ?_ | with_reducible refine wt_n_14 ?_ | with_reducible refine wt_n_15 ?_ | with_reducible refine wt_n_16 ?_ | with_reducible refine wt_n_17 ?_ | with_reducible refine wt_n_18 ?_ | with_reducible refine wt_n_19 ?_ | with_reducible refine wt_n_20 ?_ | with_reducible refine wt_n_21 ?_ | with_reducible refine wt_n_22 ?_ | with_reducible refine wt_n_23 ?_ | with_reducible refine wt_n_24 ?_ | with_reducible refine wt_n_25 ?_ | with_reducible refine wt_n_26 ?_ | with_reducible refine wt_n_27 ?_ | with_reducible refine wt_n_28 ?_ | with_reducible refine wt_n_29 ?_ | with_reducible refine wt_n_30 ?_ | with_reducible refine wt_n_31 ?_ | with_reducible refine wt_n_32 ?_ | with_reducible refine wt_n_33 ?_ | with_reducible refine wt_n_34 ?_ | with_reducible refine wt_n_35 ?_ | with_reducible refine wt_n_36 ?_ | with_reducible refine wt_n_37 ?_ | with_reducible refine wt_n_38 ?_ | with_reducible refine wt_n_39 ?_) | with_reducible refine wts_cons ?_ | with_reducible refine wts_nil ?_ | ((with_reducible refine id_i ?_); first | with_reducible refine wi_rng ?_ | with_reducible refine wi_rng2 ?_ | with_reducible refine wi_seq ?_ | with_reducible refine wi_dic ?_ | with_reducible refine wi_rv ?_ | with_reducible refine wi_en ?_ | with_reducible refine wi_zp ?_) | ((with_reducible refine id_h ?_); first | ((with_reducible apply wh_no); (· exact rfl)) | ((with_reducible apply wh_bare); (· exact rfl)) | ((with_reducible apply wh_yes_0); (· exact rfl)) | ((with_reducible apply wh_yes_1); (· exact rfl)) | ((with_reducible apply wh_yes_2); (· exact rfl)) | ((with_reducible apply wh_yes_3); (· exact rfl)) | ((with_reducible apply wh_yes_4); (· exact rfl)) | ((with_reducible apply wh_yes_5); (· exact rfl)) | ((with_reducible apply wh_yes_6); (· exact rfl)) | ((with_reducible apply wh_yes_7); (· exact rfl)) | ((with_reducible apply wh_yes_8); (· exact rfl)) | ((with_reducible apply wh_yes_9); (· exact rfl)) | ((with_reducible apply wh_yes_10); (· exact rfl)) | ((with_reducible apply wh_yes_11); (· exact rfl)) | ((with_reducible apply wh_yes_12); (· exact rfl)) | ((with_reducible apply wh_yes_13); (· exact rfl)) | ((with_reducible apply wh_yes_14); (· exact rfl)) | ((with_reducible apply wh_yes_15); (· exact rfl)) | ((with_reducible apply wh_yes_16); (· exact rfl)) | ((with_reducible apply wh_yes_17); (· exact rfl)) | ((with_reducible apply wh_yes_18); (· exact rfl)) | ((with_reducible apply wh_yes_19); (· exact rfl)) | ((with_reducible apply wh_yes_20); (· exact rfl)) | ((with_reducible apply wh_yes_21); (· exact rfl)) | ((with_reducible apply wh_yes_22); (· exact rfl)) | ((with_reducible apply wh_yes_23); (· exact rfl)) | ((with_reducible apply wh_yes_24); (· exact rfl)) | ((with_reducible apply wh_yes_25); (· exact rfl)) | ((with_reducible apply wh_yes_26); (· exact rfl)) | ((with_reducible apply wh_yes_27); (· exact rfl)) | ((with_reducible apply wh_yes_28); (· exact rfl)) | ((with_reducible apply wh_yes_29); (· exact rfl)) | ((with_reducible apply wh_yes_30); (· exact rfl)) | ((with_reducible apply wh_yes_31); (· exact rfl)) | ((with_reducible apply wh_yes_32); (· exact rfl)) | ((with_reducible apply wh_yes_33); (· exact rfl)) | ((with_reducible apply wh_yes_34); (· exact rfl)) | ((with_reducible apply wh_yes_35); (· exact rfl)) | ((with_reducible apply wh_yes_36); (· exact rfl)) | ((with_reducible apply wh_yes_37); (· exact rfl)) | ((with_reducible apply wh_yes_38); (· exact rfl)) | ((with_reducible apply wh_yes_39); (· exact rfl)) | with_reducible refine wh_nil ?_) | ((with_reducible refine id_cl ?_); first | with_reducible refine wcl_0 ?_ | with_reducible refine wcl_1 ?_ | with_reducible refine wcl_2 ?_ | with_reducible refine wcl_3 ?_ | with_reducible refine wcl_4 ?_ | with_reducible refine wcl_5 ?_ | with_reducible refine wcl_6 ?_ | with_reducible refine wcl_7 ?_ | with_reducible refine wcl_8 ?_ | with_reducible refine wcl_9 ?_ | with_reducible refine wcl_10 ?_ | with_reducible refine wcl_11 ?_ | with_reducible refine wcl_12 ?_ | with_reducible refine wcl_13 ?_ | with_reducible refine wcl_14 ?_ | with_reducible refine wcl_15 ?_ | with_reducible refine wcl_16 ?_ | with_reducible refine wcl_17 ?_ | with_reducible refine wcl_18 ?_ | with_reducible refine wcl_19 ?_ | with_reducible refine wcl_20 ?_ | with_reducible refine wcl_21 ?_ | with_reducible refine wcl_22 ?_ | with_reducible refine wcl_23 ?_ | with_reducible refine wcl_24 ?_ | with_reducible refine wcl_25 ?_ | with_reducible refine wcl_26 ?_ | with_reducible refine wcl_27 ?_ | with_reducible refine wcl_28 ?_ | with_reducible refine wcl_29 ?_ | with_reducible refine wcl_30 ?_ | with_reducible refine wcl_31 ?_ | with_reducible refine wcl_32 ?_ | with_reducible refine wcl_33 ?_ | with_reducible refine wcl_34 ?_ | with_reducible refine wcl_35 ?_ | with_reducible refine wcl_36 ?_ | with_reducible refine wcl_37 ?_ | with_reducible refine wcl_38 ?_ | with_reducible refine wcl_39 ?_) | with_reducible refine wbl ?_ | with_reducible refine wnot_t ?_ | with_reducible refine wnot_f ?_ | with_reducible refine wnot_n ?_ | with_reducible refine wnot ?_ | with_reducible refine wint ?_ | with_reducible refine wstr ?_ | with_reducible refine wobj ?_ | with_reducible refine wnon ?_ | ((with_reducible apply wat); · array_mem_dec) | ((with_reducible refine wyes_c ?_ ?_); (· exact rfl)) | ((with_reducible refine wyes_k ?_ ?_); (· exact rfl)) | ((with_reducible refine wyes_d ?_ ?_); (· exact ⟨rfl, Nat.le_of_ble_eq_true rfl⟩)) | ((with_reducible refine wyes ?_ ?_); · sizeOf_list_dec) | with_reducible refine wyes wlstT ?_ | with_reducible refine wlst ?_ | with_reducible refine wins ?_ | with_reducible refine winm ?_)
section
variable {L S S' A TK : List Ltr} {k : Key} {a b x : Ltr} {p u fo ps g : Int}
abbrev SrtL (L : List Ltr) : Prop := L.Pairwise fun a b => a.pl < b.pl
def btw (p u : Int) (L : List Ltr) : List Ltr := L.filter fun l => decide (p ≤ l.pl) && decide (l.pl < u)
def bel (u : Int) (L : List Ltr) : List Ltr := L.filter fun l => decide (l.pl < u)
theorem SrtL.uniq (h : SrtL L) (ha : a ∈ L) (hb : b ∈ L) (e : a.pl = b.pl) : a = b := by
  obtain ⟨i, hi, rfl⟩ := List.getElem_of_mem ha
  obtain ⟨j, hj, rfl⟩ := List.getElem_of_mem hb
  rcases Nat.lt_trichotomy i j with c | c | c
  · have := List.pairwise_iff_getElem.mp h i j hi hj c; omega
  · subst c; rfl
  · have := List.pairwise_iff_getElem.mp h j i hj hi c; omega
theorem SrtL.filter (h : SrtL L) (f : Ltr → Bool) : SrtL (L.filter f) := List.Pairwise.sublist List.filter_sublist h
structure Drn (S A : List Ltr) (e g : Int) : Prop where
  ss : SrtL S
  sa : SrtL A
  sub : ∀ l, l ∈ S → l ∈ A
  rng : ∀ l, l ∈ A → 0 ≤ l.pl ∧ l.pl < e
  all : ∀ u, g ≤ u → ∀ k, lw (bel u S) k = lw (bel u A) k
def Rdg (S A TK : List Ltr) (g p : Int) : Prop := ∀ u, p ≤ u → g ≤ u → ∀ k, lw (TK ++ btw p u S) k = lw (bel u A) k
theorem Drn.new : Drn [] [] 0 0 := ⟨.nil, .nil, (fun _ h => h), (fun l h => by cases h), fun _ _ _ => rfl⟩
theorem Rdg.new {e : Int} (h : Drn S A e g) : Rdg S A [] g 0 := fun u _ h2 k => by
  have e1 : btw 0 u S = bel u S := by
    unfold btw bel
    refine List.filter_congr fun l hl => ?_
    rw [decide_eq_true (h.rng l (h.sub l hl)).1, Bool.true_and]
  rw [List.nil_append, e1]
  exact h.all u h2 k
theorem Rdg.now (h : Rdg S A TK g p) (hg : g ≤ p) (k : Key) : lw TK k = lw (bel p A) k := by
  have := h p (Int.le_refl _) hg k
  have e : btw p p S = [] := List.filter_eq_nil_iff.mpr fun l _ z => by
    rw [Bool.and_eq_true, decide_eq_true_eq, decide_eq_true_eq] at z
    omega
  rw [e, List.append_nil] at this
  exact this
end
end DM

namespace DM
open PySem PySem.Spec PyProof.Rows L2
local macro_rules | `(tactic| sizeOf_list_dec) => `(tactic| first | assumption | omega | exact Nat.zero_le _ | (simp only [List.length_cons, List.length_nil, List.length_append, List.length_map, List.length_replicate, List.length_range, List.length_take, List.length_drop, List.length_reverse]; omega) | (decide; done))
local macro_rules | `(tactic| array_mem_dec) => `(tactic| (repeat (first | with_reducible assumption | with_reducible exact mem_new | with_reducible apply mem_same' | ((with_reducible apply mem_ne'); (· first | assumption | omega)) | with_reducible apply mem_old | with_reducible exact mem_hd | with_reducible apply mem_app)); done)
local macro_rules | `(tactic| array_get_dec) => `(tactic| first | ((with_reducible refine id_e ?_); first | with_reducible refine we_c ?_ | with_reducible refine we_op ?_ | with_reducible refine we_cb ?_ | with_reducible refine we_call0 ?_ | with_reducible refine we_call ?_ | with_reducible refine we_B ?_ | with_reducible refine we_tru ?_ | with_reducible refine we_not ?_ | with_reducible refine we_and ?_ | with_reducible refine we_or ?_ | with_reducible refine we_if ?_ | with_reducible refine we_neg ?_ | with_reducible refine we_I ?_ | with_reducible refine we_chain ?_ | with_reducible refine we_tup ?_ | with_reducible refine we_lst ?_ | with_reducible refine we_lstM0 ?_ | with_reducible refine we_lstM ?_ | with_reducible refine we_dnew ?_ | with_reducible refine we_sl ?_ | with_reducible refine we_m1 ?_ | with_reducible refine we_isiT ?_ | with_reducible refine we_append ?_ | with_reducible refine we_get1 ?_ | with_reducible refine we_get2 ?_ | with_reducible refine we_pop2 ?_ | with_reducible refine we_pop1 ?_ | with_reducible refine we_cm ?_ | with_reducible refine we_fld ?_ | with_reducible refine we_meth ?_ | with_reducible refine we_make ?_ | with_reducible refine we_yes ?_ | with_reducible refine we_popA ?_ | ((with_reducible apply we_xf); (· exact rfl)) | ((with_reducible apply we_is); (· exact rfl)) | with_reducible refine we_var_0 ?_ | with_reducible refine we_var_1 ?_ | with_reducible refine we_var_2 ?_ | with_reducible refine we_var_3 ?_ | with_reducible refine we_var_4 ?_ | with_reducible refine we_var_5 ?_ | with_reducible refine we_var_6 ?_ | with_reducible refine we_var_7 ?_ | with_reducible refine we_var_8 ?_ | with_reducible refine we_var_9 ?_ | with_reducible refine we_var_10 ?_ | with_reducible refine we_var_11 ?_ | with_reducible refine we_var_12 ?_ | with_reducible refine we_var_13 ?_ | with_reducible refine we_var_14 ?_ | with_reducible refine we_var_15 ?_ | with_reducible refine we_var_16 ?_ | with_reducible refine we_var_17 ?_ | with_reducible refine we_var_18 ?_ | with_reducible refine we_var_19 ?_ | with_reducible refine we_var_20 ?_ | with_reducible refine we_var_21 ?_ | with_reducible refine we_var_22 ?_ | with_reducible refine we_var_23 ?_ | with_reducible refine we_var_24 ?_ | with_reducible refine we_var_25 ?_ | with_reducible refine we_var_26 ?_ | with_reducible refine we_var_27 ?_ | with_reducible refine we_var_28 ?_ | with_reducible refine we_var_29 ?_ | with_reducible refine we_var_30 ?_ | with_reducible refine we_var_31 ?_ | with_reducible refine we_var_32 ?_ | with_reducible refine we_var_33 ?_ | with_reducible refine we_var_34 ?_ | with_reducible refine we_var_35 ?_ | with_reducible refine we_var_36 ?_ | with_reducible refine we_var_37 ?_ | with_reducible refine we_var_38 ?_ | with_reducible refine we_var_39 ?_) | ((with_reducible refine id_s ?_); first | with_reducible refine ws_seq ?_ | with_reducible refine ws_next ?_ | with_reducible refine ws_drop ?_ | with_reducible refine ws_ret ?_ | with_reducible refine ws_retN ?_ | with_reducible refine ws_brk ?_ | with_reducible refine ws_cnt ?_ | with_reducible refine ws_asg ?_ | with_reducible refine ws_if ?_ | with_reducible refine ws_put ?_ | with_reducible refine ws_fldP ?_ | with_reducible refine ws_fldA ?_ | with_reducible refine ws_daug ?_ | with_reducible refine ws_try ?_ | with_reducible refine ws_raise ?_ | with_reducible refine ws_raise0 ?_ | with_reducible refine ws_set_0 ?_ | with_reducible refine ws_set_1 ?_ | with_reducible refine ws_set_2 ?_ | with_reducible refine ws_set_3 ?_ | with_reducible refine ws_set_4 ?_ | with_reducible refine ws_set_5 ?_ | with_reducible refine ws_set_6 ?_ | with_reducible refine ws_set_7 ?_ | with_reducible refine ws_set_8 ?_ | with_reducible refine ws_set_9 ?_ | with_reducible refine ws_set_10 ?_ | with_reducible refine ws_set_11 ?_ | with_reducible refine ws_set_12 ?_ | with_reducible refine ws_set_13 ?_ | with_reducible refine ws_set_14 ?_ | with_reducible refine ws_set_15 ?_ | with_reducible refine ws_set_16 ?_ | with_reducible refine ws_set_17 ?_ | with_reducible refine ws_set_18 ?_ | with_reducible refine ws_set_19 ?_ | with_reducible refine ws_set_20 ?_ | with_reducible refine ws_set_21 ?_ | with_reducible refine ws_set_22 ?_ | with_reducible refine ws_set_23 ?_ | with_reducible refine ws_set_24 ?_ | with_reducible refine ws_set_25 ?_ | with_reducible refine ws_set_26 ?_ | with_reducible refine ws_set_27 ?_ | with_reducible refine ws_set_28 ?_ | with_reducible refine ws_set_29 ?_ | with_reducible refine ws_set_30 ?_ | with_reducible refine ws_set_31 ?_ | with_reducible refine ws_set_32 ?_ | with_reducible refine ws_set_33 ?_ | with_reducible refine ws_set_34 ?_ | with_reducible refine ws_set_35 ?_ | with_reducible refine ws_set_36 ?_ | with_reducible refine ws_set_37 ?_ | with_reducible refine ws_set_38 ?_ | with_reducible refine ws_set_39 ?_ | with_reducible refine ws_aug_0 ?_ | with_reducible refine ws_aug_1 ?_ | with_reducible refine ws_aug_2 ?_ | with_reducible refine ws_aug_3 ?_ | with_reducible refine ws_aug_4 ?_ | with_reducible refine ws_aug_5 ?_ | with_reducible refine ws_aug_6 ?_ | with_reducible refine ws_aug_7 ?_ | with_reducible refine ws_aug_8 ?_ | with_reducible refine ws_aug_9 ?_ | with_reducible refine ws_aug_10 ?_ | with_reducible refine ws_aug_11 ?_ | with_reducible refine ws_aug_12 ?_ | with_reducible refine ws_aug_13 ?_ | with_reducible refine ws_aug_14 ?_ | with_reducible refine ws_aug_15 ?_ | with_reducible refine ws_aug_16 ?_ | with_reducible refine ws_aug_17 ?_ | with_reducible refine ws_aug_18 ?_ | with_reducible refine ws_aug_19 ?_ | with_reducible refine ws_aug_20 ?_ | with_reducible refine ws_aug_21 ?_ | with_reducible refine ws_aug_22 ?_ | with_reducible refine ws_aug_23 ?_ | with_reducible refine ws_aug_24 ?_ | with_reducible refine ws_aug_25 ?_ | with_reducible refine ws_aug_26 ?_ | with_reducible refine ws_aug_27 ?_ | with_reducible refine ws_aug_28 ?_ | with_reducible refine ws_aug_29 ?_ | with_reducible refine ws_aug_30 ?_ | with_reducible refine ws_aug_31 ?_ | with_reducible refine ws_aug_32 ?_ | with_reducible refine ws_aug_33 ?_ | with_reducible refine ws_aug_34 ?_ | with_reducible refine ws_aug_35 ?_ | with_reducible refine ws_aug_36 ?_ | with_reducible refine ws_aug_37 ?_ | with_reducible refine ws_aug_38 ?_ | with_reducible refine ws_aug_39 ?_) | ((with_reducible refine id_a ?_); first | with_reducible refine wa_cons ?_ | with_reducible refine wa_nil ?_) | ((with_reducible refine id_g ?_); first | with_reducible refine wg_add ?_ | ((with_reducible apply wg_adds); (· sizeOf_list_dec)) | ((with_reducible apply wg_addl); (· sizeOf_list_dec)) | with_reducible refine wg_plus ?_ | ((with_reducible apply wg_pluss); (· sizeOf_list_dec)) | with_reducible refine wg_plusI ?_ | with_reducible refine wg_minus ?_ | with_reducible refine wg_sub ?_ | with_reducible refine wg_pow9 ?_ | with_reducible refine wg_pow6 ?_ | with_reducible refine wg_pow3 ?_ | with_reducible refine wg_pow18 ?_ | ((with_reducible apply wg_mod); (· sizeOf_list_dec)) | ((with_reducible apply wg_div); (· sizeOf_list_dec)) | ((with_reducible apply wg_mul); (· sizeOf_list_dec)) | ((with_reducible apply wg_mulA); (· sizeOf_list_dec)) | ((with_reducible apply wg_mulS1); (· sizeOf_list_dec)) | ((with_reducible apply wg_mulS); (· sizeOf_list_dec)) | with_reducible refine wg_lt ?_ | with_reducible refine wg_le ?_ | with_reducible refine wg_gt ?_ | with_reducible refine wg_ge ?_ | with_reducible refine wg_eq ?_ | with_reducible refine wg_ne ?_ | with_reducible refine wg_eqs ?_ | with_reducible refine wg_nes ?_ | with_reducible refine wg_eqnn ?_ | with_reducible refine wg_eqni ?_ | with_reducible refine wg_eqin ?_ | with_reducible refine wg_eqns ?_ | with_reducible refine wg_eqsn ?_ | with_reducible refine wg_nenn ?_ | with_reducible refine wg_neni ?_ | with_reducible refine wg_nein ?_ | with_reducible refine wg_nens ?_ | with_reducible refine wg_nesn ?_ | with_reducible refine wg_isNn ?_ | with_reducible refine wg_isNi ?_ | with_reducible refine wg_isNs ?_ | with_reducible refine wg_isNt ?_ | with_reducible refine wg_isNl ?_ | with_reducible refine wg_isNo ?_ | with_reducible refine wg_notNn ?_ | with_reducible refine wg_notNi ?_ | with_reducible refine wg_notNs ?_ | with_reducible refine wg_notNt ?_ | with_reducible refine wg_notNl ?_ | with_reducible refine wg_notNo ?_ | ((with_reducible apply wg_lenS); (· sizeOf_list_dec)) | with_reducible refine wg_lenL ?_ | with_reducible refine wg_lenT ?_ | ((with_reducible apply wg_lenM); (· array_mem_dec)) | ((with_reducible apply wg_lenD); (· array_mem_dec)) | with_reducible refine wg_intI ?_ | with_reducible refine wg_intB ?_ | with_reducible refine wg_ord ?_ | with_reducible refine wg_max2 ?_ | with_reducible refine wg_min2 ?_ | with_reducible refine key_int ?_ | with_reducible refine key_str ?_ | ((with_reducible apply wg_look); (· exact rfl)) | ((with_reducible apply wdicR); (· array_mem_dec)) | ((with_reducible apply wdicRF); (· array_mem_dec)) | ((with_reducible apply wdicAt); (· array_mem_dec)) | ((with_reducible apply wput_dic); (· array_mem_dec); (· exact rfl); (· sizeOf_list_dec)) | ((with_reducible apply wput_lst); (· array_mem_dec); (· sizeOf_list_dec)) | with_reducible refine wtr_b ?_ | with_reducible refine wtr_n ?_ | with_reducible refine wtr_i ?_ | ((with_reducible apply wtr_s); (· sizeOf_list_dec)) | with_reducible refine wtr_l ?_ | ((with_reducible apply wtr_m); (· array_mem_dec)) | ((with_reducible apply wtr_d); (· array_mem_dec)) | with_reducible refine wpart_n ?_ | with_reducible refine wpart_i ?_ | ((with_reducible apply wsl_s_to); (· sizeOf_list_dec)) | ((with_reducible apply wsl_s_from); (· sizeOf_list_dec)) | ((with_reducible apply wsl_s_mid); (· sizeOf_list_dec)) | with_reducible refine wsl_l_to ?_ | with_reducible refine wsl_l_from ?_ | with_reducible refine wsl_l_mid ?_ | ((with_reducible apply wsl_m_to); (· array_mem_dec)) | ((with_reducible apply wsl_m_from); (· array_mem_dec)) | ((with_reducible apply wsl_m_mid); (· array_mem_dec)) | with_reducible refine wseqL ?_ | with_reducible refine wseqT ?_ | with_reducible refine wseqS ?_ | ((with_reducible apply wseqM); (· array_mem_dec)) | with_reducible refine wstillL ?_ | ((with_reducible apply wstillF); (· array_mem_dec)) | ((with_reducible apply wcopyD); (· array_mem_dec)) | ((with_reducible apply wlistM); (· array_mem_dec)) | with_reducible refine wlistML ?_ | with_reducible refine wlistMT ?_ | with_reducible refine wlistL ?_ | with_reducible refine wlistT ?_ | ((with_reducible apply wlistO); (· array_mem_dec)) | ((with_reducible apply wgisiT); (· exact rfl); (· exact rfl)) | ((with_reducible apply wgisiF); (· exact rfl); (· exact rfl)) | ((with_reducible apply wgisiT); (· exact ty_dic (by array_mem_dec)); (· exact rfl)) | ((with_reducible apply wgisiF); (· exact ty_dic (by array_mem_dec)); (· exact rfl)) | ((with_reducible apply wgisiT); (· exact ty_lstM (by array_mem_dec)); (· exact rfl)) | ((with_reducible apply wgisiF); (· exact ty_lstM (by array_mem_dec)); (· exact rfl)) | ((with_reducible apply ixA_tup); (· exact rfl)) | ((with_reducible apply inA_non); (· array_mem_dec)) | ((with_reducible apply ninA_non); (· array_mem_dec)) | ((with_reducible apply inA_dic); (· array_mem_dec); (· exact rfl)) | ((with_reducible apply inA_dicF); (· array_mem_dec); (· exact rfl)) | ((with_reducible apply ninA_dic); (· array_mem_dec); (· exact rfl)) | ((with_reducible apply ninA_dicF); (· array_mem_dec); (· exact rfl)) ) | ((with_reducible refine id_b ?_); first | with_reducible refine wb_true ?_ | with_reducible refine wb_false ?_ | ((with_reducible apply wb_pos); (· (first | with_reducible exact rfl | assumption | omega | (simp only [List.length_cons, List.length_nil, List.length_map]); (·  omega)))) | ((with_reducible apply wb_neg); (· (first | with_reducible exact rfl | assumption | omega | (simp only [List.length_cons, List.length_nil, List.length_map]); (·  omega)))) | ((with_reducible apply wb_npos); (· (first | with_reducible exact rfl | assumption | omega | (simp only [List.length_cons, List.length_nil, List.length_map]); (·  omega)))) | ((with_reducible apply wb_nneg); (· (first | with_reducible exact rfl | assumption | omega | (simp only [List.length_cons, List.length_nil, List.length_map]); (·  omega)))) | ((with_reducible apply wb_t); (· assumption)) | ((with_reducible apply wb_f); (· assumption)) ) | ((with_reducible refine id_t ?_); first | with_reducible refine wt_T ?_ | with_reducible refine wt_n_0 ?_ | with_reducible refine wt_n_1 ?_ | with_reducible refine wt_n_2 ?_ | with_reducible refine wt_n_3 ?_ | with_reducible refine wt_n_4 ?_ | with_reducible refine wt_n_5 ?_ | with_reducible refine wt_n_6 ?_ | with_reducible refine wt_n_7 ?_ | with_reducible refine wt_n_8 ?_ | with_reducible refine wt_n_9 ?_ | with_reducible refine wt_n_10 ?_ | with_reducible refine wt_n_11 ?_ | with_reducible refine wt_n_12 ?_ | with_reducible refine wt_n_13 ?_ | with_reducible refine wt_n_14 ?_ | with_reducible refine wt_n_15 ?_ | with_reducible refine wt_n_16 ?_ | with_reducible refine wt_n_17 ?_ | with_reducible refine wt_n_18 ?_ | with_reducible refine wt_n_19 ?_ | with_reducible refine wt_n_20 ?_ | with_reducible refine wt_n_21 ?_ | with_reducible refine wt_n_22 ?_ | with_reducible refine wt_n_23 ?_ | with_reducible refine wt_n_24 ?_ | with_reducible refine wt_n_25 ?_ | with_reducible refine wt_n_26 ?_ | with_reducible refine wt_n_27 ?_ | with_reducible refine wt_n_28 ?_ | with_reducible refine wt_n_29 ?_ | with_reducible refine wt_n_30 ?_ | with_reducible refine wt_n_31 ?_ | with_reducible refine wt_n_32 ?_ | with_reducible refine wt_n_33 ?_ | with_reducible refine wt_n_34 ?_ | with_reducible refine wt_n_35 ?_ | with_reducible refine wt_n_36 ?_ | with_reducible refine wt_n_37 ?_ | with_reducible refine wt_n_38 ?_ | with_reducible refine wt_n_39 ?_) | with_reducible refine wts_cons ?_ | with_reducible refine wts_nil ?_ | ((with_reducible refine id_i ?_); first | with_reducible refine wi_rng ?_ | with_reducible refine wi_rng2 ?_ | with_reducible refine wi_seq ?_ | with_reducible refine wi_dic ?_ | with_reducible refine wi_rv ?_ | with_reducible refine wi_en ?_ | with_reducible refine wi_zp ?_) | ((with_reducible refine id_h ?_); first | ((with_reducible apply wh_no); (· exact rfl)) | ((with_reducible apply wh_bare); (· exact rfl)) | ((with_reducible apply wh_yes_0); (· exact rfl)) | ((with_reducible apply wh_yes_1); (· exact rfl)) | ((with_reducible apply wh_yes_2); (· exact rfl)) | ((with_reducible apply wh_yes_3); (· exact rfl)) | ((with_reducible apply wh_yes_4); (· exact rfl)) | ((with_reducible apply wh_yes_5); (· exact rfl)) | ((with_reducible apply wh_yes_6); (· exact rfl)) | ((with_reducible apply wh_yes_7); (· exact rfl)) | ((with_reducible apply wh_yes_8); (· exact rfl)) | ((with_reducible apply wh_yes_9); (· exact rfl)) | ((with_reducible apply wh_yes_10); (· exact rfl)) | ((with_reducible apply wh_yes_11); (· exact rfl)) | ((with_reducible apply wh_yes_12); (· exact rfl)) | ((with_reducible apply wh_yes_13); (· exact rfl)) | ((with_reducible apply wh_yes_14); (· exact rfl)) | ((with_reducible apply wh_yes_15); (· exact rfl)) | ((with_reducible apply wh_yes_16); (· exact rfl)) | ((with_reducible apply wh_yes_17); (· exact rfl)) | ((with_reducible apply wh_yes_18); (· exact rfl)) | ((with_reducible apply wh_yes_19); (· exact rfl)) | ((with_reducible apply wh_yes_20); (· exact rfl)) | ((with_reducible apply wh_yes_21); (· exact rfl)) | ((with_reducible apply wh_yes_22); (· exact rfl)) | ((with_reducible apply wh_yes_23); (· exact rfl)) | ((with_reducible apply wh_yes_24); (· exact rfl)) | ((with_reducible apply wh_yes_25); (· exact rfl)) | ((with_reducible apply wh_yes_26); (· exact rfl)) | ((with_reducible apply wh_yes_27); (· exact rfl)) | ((with_reducible apply wh_yes_28); (· exact rfl)) | ((with_reducible apply wh_yes_29); (· exact rfl)) | ((with_reducible apply wh_yes_30); (· exact rfl)) | ((with_reducible apply wh_yes_31); (· exact rfl)) | ((with_reducible apply wh_yes_32); (· exact rfl)) | ((with_reducible apply wh_yes_33); (· exact rfl)) | ((with_reducible apply wh_yes_34); (· exact rfl)) | ((with_reducible apply wh_yes_35); (· exact rfl)) | ((with_reducible apply wh_yes_36); (· exact rfl)) | ((with_reducible apply wh_yes_37); (· exact rfl)) | ((with_reducible apply wh_yes_38); (· exact rfl)) | ((with_reducible apply wh_yes_39); (· exact rfl)) | with_reducible refine wh_nil ?_) | ((with_reducible refine id_cl ?_); first | with_reducible refine wcl_0 ?_ | with_reducible refine wcl_1 ?_ | with_reducible refine wcl_2 ?_ | with_reducible refine wcl_3 ?_ | with_reducible refine wcl_4 ?_ | with_reducible refine wcl_5 ?_ | with_reducible refine wcl_6 ?_ | with_reducible refine wcl_7 ?_ | with_reducible refine wcl_8 ?_ | with_reducible refine wcl_9 ?_ | with_reducible refine wcl_10 ?_ | with_reducible refine wcl_11 ?_ | with_reducible refine wcl_12 ?_ | with_reducible refine wcl_13 ?_ | with_reducible refine wcl_14 ?_ | with_reducible refine wcl_15 ?_ | with_reducible refine wcl_16 ?_ | with_reducible refine wcl_17 ?_ | with_reducible refine wcl_18 ?_ | with_reducible refine wcl_19 ?_ | with_reducible refine wcl_20 ?_ | with_reducible refine wcl_21 ?_ | with_reducible refine wcl_22 ?_ | with_reducible refine wcl_23 ?_ | with_reducible refine wcl_24 ?_ | with_reducible refine wcl_25 ?_ | with_reducible refine wcl_26 ?_ | with_reducible refine wcl_27 ?_ | with_reducible refine wcl_28 ?_ | with_reducible refine wcl_29 ?_ | with_reducible refine wcl_30 ?_ | with_reducible refine wcl_31 ?_ | with_reducible refine wcl_32 ?_ | with_reducible refine wcl_33 ?_ | with_reducible refine wcl_34 ?_ | with_reducible refine wcl_35 ?_ | with_reducible refine wcl_36 ?_ | with_reducible refine wcl_37 ?_ | with_reducible refine wcl_38 ?_ | with_reducible refine wcl_39 ?_) | with_reducible refine wbl ?_ | with_reducible refine wnot_t ?_ | with_reducible refine wnot_f ?_ | with_reducible refine wnot_n ?_ | with_reducible refine wnot ?_ | with_reducible refine wint ?_ | with_reducible refine wstr ?_ | with_reducible refine wobj ?_ | with_reducible refine wnon ?_ | ((with_reducible apply wat); · array_mem_dec) | ((with_reducible refine wyes_c ?_ ?_); (· exact rfl)) | ((with_reducible refine wyes_k ?_ ?_); (· exact rfl)) | ((with_reducible refine wyes_d ?_ ?_); (· exact ⟨rfl, Nat.le_of_ble_eq_true rfl⟩)) | ((with_reducible refine wyes ?_ ?_); · sizeOf_list_dec) | with_reducible refine wyes wlstT ?_ | with_reducible refine wlst ?_ | with_reducible refine wins ?_ | with_reducible refine winm ?_)
local macro_rules | `(tactic| array_get_dec) => `(tactic| with_reducible refine ixA_l0 ?_)
local macro_rules | `(tactic| array_get_dec) => `(tactic| with_reducible refine ixA_l1 ?_)
local macro_rules | `(tactic| array_get_dec) => `(tactic| with_reducible refine ixA_l2 ?_)
local macro_rules | `(tactic| array_get_dec) => `(tactic| with_reducible refine ixA_l3 ?_)
local macro_rules | `(tactic| array_get_dec) => `(tactic| with_reducible refine ixA_l4 ?_)
local macro_rules | `(tactic| array_get_dec) => `(tactic| with_reducible refine ixA_l5 ?_)
local macro_rules | `(tactic| array_get_dec) => `(tactic| with_reducible refine ixA_l6 ?_)
local macro_rules | `(tactic| array_get_dec) => `(tactic| with_reducible refine ixA_l7 ?_)
local macro_rules | `(tactic| array_get_dec) => `(tactic| with_reducible refine wb_some ?_)
local macro_rules | `(tactic| array_get_dec) => `(tactic| with_reducible refine wb_none ?_)
local macro_rules | `(tactic| array_get_dec) => `(tactic| with_reducible refine wb_nsome ?_)
local macro_rules | `(tactic| array_get_dec) => `(tactic| with_reducible refine wb_nnone ?_)
section
variable {m m' : Mu} {q o : Nat}
def wr1 (s : Nat) : List Nat := if s = 126 then [126, 119] else if s = 59 then [126, 115] else [s]
def wr (x : List Nat) : List Nat := x.flatMap wr1
def jn (fs : List (List Nat)) : List Nat := TL.joinL [59] (fs.map wr)
def unw : Bool → List Nat → Option (List Nat)
  | false, [] => some []
  | true, [] => none
  | true, c :: r => if c = 119 then (unw false r).map (126 :: ·) else if c = 115 then (unw false r).map (59 :: ·) else none
  | false, c :: r => if c = 126 then unw true r else (unw false r).map (c :: ·)
theorem unw_wr (x r : List Nat) : unw false (wr x ++ r) = (unw false r).map (x ++ ·) := by
  induction x with
  | nil => show unw false r = _; cases unw false r <;> rfl
  | cons s x ih =>
    have e : wr (s :: x) ++ r = wr1 s ++ (wr x ++ r) := by
      unfold wr
      rw [List.flatMap_cons, List.append_assoc]
    rw [e]
    unfold wr1
    by_cases c : s = 126
    · subst c
      show (unw false (wr x ++ r)).map (126 :: ·) = _
      rw [ih]
      cases unw false r <;> rfl
    · rw [if_neg c]
      by_cases d : s = 59
      · subst d
        show (unw false (wr x ++ r)).map (59 :: ·) = _
        rw [ih]
        cases unw false r <;> rfl
      · rw [if_neg d]
        show (if s = 126 then unw true (wr x ++ r) else (unw false (wr x ++ r)).map (s :: ·)) = _
        rw [if_neg c, ih]
        cases unw false r <;> rfl
theorem unw_wr0 (x : List Nat) : unw false (wr x) = some x := by
  have := unw_wr x []
  rw [List.append_nil] at this
  rw [this]
  show some (x ++ []) = _
  rw [List.append_nil]
theorem wr_no (x : List Nat) : 59 ∉ wr x := fun h => by
  obtain ⟨s, _, h2⟩ := List.mem_flatMap.mp h
  unfold wr1 at h2
  split at h2
  · simp at h2
  · split at h2
    · simp at h2
    · rename_i h3
      exact h3 (List.mem_singleton.mp h2).symm
theorem wr_len (x : List Nat) : (wr x).length ≤ 2 * x.length := by
  induction x with
  | nil => exact Nat.le_refl _
  | cons s x ih =>
    have e : wr (s :: x) = wr1 s ++ wr x := by unfold wr; rw [List.flatMap_cons]
    have : (wr1 s).length ≤ 2 := by unfold wr1; split <;> (try split) <;> simp
    rw [e, List.length_append, List.length_cons]
    omega
theorem rep_one {c : Nat} {z : List Nat} (x : List Nat) : StrLaws.replL [c] z x = x.flatMap fun s => if s = c then z else [s] := by
  induction x with
  | nil => exact StrLaws.replL_nil
  | cons s x ih =>
    rw [List.flatMap_cons]
    by_cases h : s = c
    · subst h
      rw [if_pos rfl, StrLaws.replL_hit (by simp) (by simp)]
      show z ++ StrLaws.replL [s] z x = _
      rw [ih]
    · rw [if_neg h, StrLaws.replL_miss (by simp [h]), ih]
      rfl
theorem rep_two (x : List Nat) : StrLaws.replL [59] [126, 115] (StrLaws.replL [126] [126, 119] x) = wr x := by
  rw [rep_one, rep_one]
  unfold wr
  rw [List.flatMap_assoc]
  refine congrArg (fun f => List.flatMap f x) (funext fun s => ?_)
  show _ = wr1 s
  unfold wr1
  by_cases c : s = 126
  · rw [if_pos c, if_pos c]
    rfl
  · rw [if_neg c, if_neg c]
    show (if s = 59 then [126, 115] else [s]) ++ [] = _
    rw [List.append_nil]
theorem wg_join {s : List Nat} {ls : List (List Nat)} {pp : DV → Prop} (hl : (ls.map (·.length)).sum + ls.length * s.length ≤ 1000000) (h : pp (.str (TL.joinL s ls))) : WG (gJoin (.str s) (.lst (ls.map .str)) m) pp := ⟨_, by
  show (match strsOf (ls.map DV.str) with | some ls => (if (ls.map (fun l : List Nat => l.length)).sum + ls.length * s.length ≤ 1000000 then some (DV.str (TL.joinL s ls)) else none) | none => none) = _
  rw [strs_map]
  exact if_pos hl, h⟩
theorem wg_rep {x y z : List Nat} {pp : DV → Prop} (hl : x.length + (x.length + 1) * z.length ≤ 16777216) (h : pp (.str (StrLaws.replL y z x))) : WG (gRep (.str x) (.tup [.str y, .str z]) m) pp := ⟨_, if_pos hl, h⟩
theorem sum_le {ls : List (List Nat)} {n : Nat} (h : ∀ l, l ∈ ls → l.length ≤ n) : (ls.map (·.length)).sum ≤ ls.length * n := by
  induction ls with
  | nil => exact Nat.zero_le _
  | cons a r ih =>
    have h1 := h a (.head _)
    have h2 := ih fun l hl => h l (.tail _ hl)
    rw [List.map_cons, List.sum_cons, List.length_cons, Nat.succ_mul]
    omega
theorem rep_len {c : Nat} {z : List Nat} (hz : z.length = 2) (x : List Nat) : (StrLaws.replL [c] z x).length ≤ 2 * x.length := by
  rw [rep_one]
  induction x with
  | nil => exact Nat.le_refl _
  | cons s x ih =>
    rw [List.flatMap_cons, List.length_append, List.length_cons]
    have : (if s = c then z else [s]).length ≤ 2 := by
      split
      · omega
      · simp
    omega
def jndB : DS := (sRet (eLk (pickD (eVar 0)) (eM1 gJoin (eC (.str [59])) (eComp (iA (eVar 0)) (tgN 1) eYes (eM1 gRep (eM1 gRep (eVar 1) (eC (.tup [.str [126], .str [126, 119]]))) (eC (.tup [.str [59], .str [126, 115]]))) [1]))))
def jndF : Fn := runF 2 1 jndB
def plnB : DS := (sSeq (sSet 1 (eC (.str [])))
  (sSeq (sSet 2 (eC (.bl false)))
  (sSeq (sLk (pickD (eVar 0)) (sFor (iA (eVar 0)) (tgN 3)
  (sIf (eAnd (eTru (eVar 2)) (eB (eOp gEq (eVar 3) (eC (.str [119])))))
  (sSeq (sAug 1 gPlus (eC (.str [126])))
  (sSet 2 (eC (.bl false))))
  (sIf (eAnd (eTru (eVar 2)) (eB (eOp gEq (eVar 3) (eC (.str [115])))))
  (sSeq (sAug 1 gPlus (eC (.str [59])))
  (sSet 2 (eC (.bl false))))
  (sIf (eTru (eVar 2))
  (sRaise0 "BadWord")
  (sIf (eB (eOp gEq (eVar 3) (eC (.str [126]))))
  (sSet 2 (eC (.bl true)))
  (sAug 1 gPlus (eVar 3))))))))
  (sSeq (sIf (eTru (eVar 2))
  (sRaise0 "BadWord")
  sNext)
  (sRet (eVar 1))))))
def plnF : Fn := runF 4 1 plnB
def prtB : DS := (sRet (eLk (pickD (eM1 gSplit (eVar 0) (eC (.str [59])))) (eCompM (iA (eM1 gSplit (eVar 0) (eC (.str [59])))) (tgN 1) eYes (eCall plnF [(eVar 1)] []) [1])))
def prtF : Fn := runF 2 1 prtB
theorem jnd_eq {x : DV} {fs : List (List Nat)} (hx : SeqAt' m x (fs.map .str)) (hl : fs.length ≤ 100) (hb : ∀ f, f ∈ fs → f.length ≤ 1000) : jndF [x] m = .ok (.str (jn fs)) m := by
  refine wc_same ?_
  unfold jndF jndB
  (refine wc_run rfl (by simp only [startD, List.map_cons, List.map_nil, List.length_cons, List.length_nil, Nat.reduceAdd, Nat.reduceSub, List.replicate, List.cons_append, List.nil_append] <;> exact rfl) ?_; repeat array_get_dec)
  refine we_lkn (hx.pick (ev_var rfl)) ?_
  obtain ⟨o, hs1, hs2⟩ := hx.k
  repeat array_get_dec
  refine we_comp (xs := fs) (dv := DV.str) (fun f => .str (wr f)) (fun _ => true) ?_
  refine wi_aL (ev_var rfl) hs1 ?_
  refine ⟨rfl, by omega, fun f hf => ?_, ?_⟩
  · have h1 := hb f hf
    have h2 := rep_len (c := 126) (z := [126, 119]) rfl f
    simp only [wipeD, List.set_cons_zero, List.set_cons_succ]
    repeat array_get_dec
    refine ⟨rfl, rfl, fun _ => ?_⟩
    repeat array_get_dec
    refine wg_rep (by simp; omega) ?_
    repeat array_get_dec
    refine wg_rep (by simp; omega) ?_
    rw [rep_two]
    exact ⟨rfl, rfl⟩
  · rw [List.filter_eq_self.mpr fun _ _ => rfl]
    refine wo_finL ?_
    have h3 : (fs.map fun f => DV.str (wr f)) = (fs.map wr).map DV.str := by rw [List.map_map]; rfl
    have h4 := sum_le (ls := fs.map wr) (n := 2000) fun l hl => by
      obtain ⟨f, hf, rfl⟩ := List.mem_map.mp hl
      have := hb f hf
      have := wr_len f
      omega
    have e5 : (fs.map wr).length = fs.length := List.length_map ..
    rw [h3]
    refine wg_join (by show ((fs.map wr).map (fun l : List Nat => l.length)).sum + (fs.map wr).length * 1 ≤ 1000000; omega) ?_
    exact ⟨rfl, rfl⟩
theorem pln_eq (p : List Nat) (hp : p.length ≤ 100000) : WC plnF [.str p] m (fun v m' => m' = m ∧ ∃ x, unw false p = some x ∧ v = .str x) (fun e m' => m' = m ∧ unw false p = none ∧ e = ⟨"BadWord", []⟩) := by
  unfold plnF plnB
  (refine wc_run rfl (by simp only [startD, List.map_cons, List.map_nil, List.length_cons, List.length_nil, Nat.reduceAdd, Nat.reduceSub, List.replicate, List.cons_append, List.nil_append] <;> exact rfl) ?_; repeat array_get_dec)
  refine ws_lkn (pickD_no (ev_var rfl) fun j z => by cases z) ?_
  refine ws_for (xs := p) (dv := fun c : Nat => .str [c]) (fun pre dl m' => m' = m ∧ ∃ (b : Bool) (acc : List Nat) (a3 : Option DV), dl = [some (.str p), some (.str acc), some (.bl b), a3] ∧ acc.length ≤ pre.length ∧ ∀ post, p = pre ++ post → unw false p = (unw b post).map (acc ++ ·)) ?_ ?_ ?_
  · refine wi_aL (ev_var rfl) rfl ?_
    refine ⟨rfl, ⟨rfl, false, [], none, rfl, Nat.le_refl _, fun post e => ?_⟩, still_none⟩
    have e : p = post := e
    subst e
    cases unw false p <;> rfl
  · rintro pre c post dl m' hx ⟨rfl, b, acc, a3, rfl, hl, hu⟩
    have h1 := hu (c :: post) hx
    have hplen := congrArg List.length hx
    rw [List.length_append, List.length_cons] at hplen
    have hlp : (pre ++ [c]).length = pre.length + 1 := by simp
    have hmap : ∀ (z : List Nat) (r : Option (List Nat)), (r.map (z ++ ·)).map (acc ++ ·) = r.map ((acc ++ z) ++ ·) := fun z r => by cases r <;> simp
    have hpost : ∀ post', p = pre ++ [c] ++ post' → post' = post := fun post' e => by
      rw [hx, List.append_assoc] at e
      have := List.append_cancel_left e
      exact (List.cons.inj this).2.symm
    cases b with
    | true =>
      have hun : unw true (c :: post) = if c = 119 then (unw false post).map ([126] ++ ·) else if c = 115 then (unw false post).map ([59] ++ ·) else none := rfl
      rw [hun] at h1
      repeat array_get_dec
      refine wb_dec (fun c1 => ?_) fun c1 => ?_
      · have c1 : c = 119 := by simpa using c1
        rw [if_pos c1, hmap] at h1
        repeat array_get_dec
        exact ⟨rfl, false, acc ++ [126], _, rfl, by simp; omega, fun post' e => by rw [hpost post' e]; exact h1⟩
      · have c1 : c ≠ 119 := by simpa using c1
        rw [if_neg c1] at h1
        repeat array_get_dec
        refine wb_dec (fun c2 => ?_) fun c2 => ?_
        · have c2 : c = 115 := by simpa using c2
          rw [if_pos c2, hmap] at h1
          repeat array_get_dec
          exact ⟨rfl, false, acc ++ [59], _, rfl, by simp; omega, fun post' e => by rw [hpost post' e]; exact h1⟩
        · have c2 : c ≠ 115 := by simpa using c2
          rw [if_neg c2] at h1
          repeat array_get_dec
          exact ⟨rfl, h1, rfl⟩
    | false =>
      have hun : unw false (c :: post) = if c = 126 then unw true post else (unw false post).map ([c] ++ ·) := rfl
      rw [hun] at h1
      repeat array_get_dec
      refine wb_dec (fun c1 => ?_) fun c1 => ?_
      · have c1 : c = 126 := by simpa using c1
        rw [if_pos c1] at h1
        repeat array_get_dec
        exact ⟨rfl, true, acc, _, rfl, by simp; omega, fun post' e => by rw [hpost post' e]; exact h1⟩
      · have c1 : c ≠ 126 := by simpa using c1
        rw [if_neg c1, hmap] at h1
        repeat array_get_dec
        exact ⟨rfl, false, acc ++ [c], _, rfl, by simp; omega, fun post' e => by rw [hpost post' e]; exact h1⟩
  · rintro dl m' ⟨rfl, b, acc, a3, rfl, hl, hu⟩
    have h1 := hu [] (by simp)
    cases b with
    | true =>
      repeat array_get_dec
      exact ⟨rfl, h1, rfl⟩
    | false =>
      repeat array_get_dec
      refine ⟨rfl, acc, ?_, rfl⟩
      rw [h1]
      show some (acc ++ []) = _
      rw [List.append_nil]
theorem we_same {f : DE} {dl : Dl} {mu : Mu} {d : DV} (h : WE f dl mu (fun d' m' => d' = d ∧ m' = mu) NoX) : f dl mu = .ok d mu := by
  obtain ⟨d, m, e, rfl, rfl⟩ := we_ex h; exact e
theorem wc_no {F : Fn} {ds : List DV} {mu : Mu} {P : KE} {X : Ex → Mu → Prop} (h : WC F ds mu P X) (hx : ∀ e m, X e m → False) : ∃ d m, F ds mu = .ok d m ∧ P d m := wc_ex (wc_imp h (fun _ _ h => h) fun e m z => hx e m z)
theorem jn_split {fs : List (List Nat)} (h : fs ≠ []) : Txt.split (Sx (jn fs)) (Sx [59]) = fs.map fun f => Sx (wr f) := by
  have e : Sx (jn fs) = Txt.join (Sx [59]) (fs.map fun f => Sx (wr f)) := by
    have h1 : TL.tl (Txt.join (Sx [59]) (fs.map fun f => Sx (wr f))) = jn fs := by
      rw [TL.join_eq, TL.tl_join, List.map_map]
      show TL.joinL (TL.tl (Sx [59])) (fs.map fun f => TL.tl (Sx (wr f))) = _
      have : ∀ l : List Nat, TL.tl (Sx l) = l := fun l => by show (Sx l).cps.toList = l; simp [SX.S]
      rw [this, show (fun f => TL.tl (Sx (wr f))) = wr from funext fun f => this _]
      rfl
    rw [← h1]
  rw [e]
  refine TL.split_join (s := 59) (S := []) (by show (Sx [59]).cps.toList = _; simp [SX.S]) (by decide +kernel) (fun w => h (List.map_eq_nil_iff.mp w)) fun p hp => ?_
  obtain ⟨f, _, rfl⟩ := List.mem_map.mp hp
  rw [show TL.tl (Sx (wr f)) = wr f by show (Sx (wr f)).cps.toList = _; simp [SX.S]]
  exact wr_no f
theorem wg_split {a b : List Nat} {ls : List (List Nat)} {pp : DV → Prop} (hb : b ≠ []) (ha : a.length ≤ 900000) (e : Txt.split (Sx a) (Sx b) = ls.map Sx) (h : pp (.lst (ls.map .str))) : WG (gSplit (.str a) (.str b) m) pp := ⟨_, by
  show (if b ≠ [] ∧ a.length + 2 ≤ 1000000 then some (DV.lst ((Txt.split (Sx a) (Sx b)).map fun x => .str x.cps.toList)) else none) = some (.lst (ls.map .str))
  rw [if_pos ⟨hb, by omega⟩, e, List.map_map]
  congr 2, h⟩
theorem prt_eq {fs : List (List Nat)} (h : fs ≠ []) (hl : fs.length ≤ 100) (hb : ∀ f, f ∈ fs → f.length ≤ 1000) (hj : (jn fs).length ≤ 900000) : WC prtF [.str (jn fs)] m (fun v m' => v = .obj m.length ∧ m' = m ++ [.lst (fs.map .str)]) NoX := by
  have es : eM1 gSplit (eVar 0) (eC (.str [59])) [some (.str (jn fs)), none] m = .ok (.lst ((fs.map wr).map .str)) m := by
    refine we_same ?_
    repeat array_get_dec
    refine wg_split (ls := fs.map wr) (by decide) hj (by rw [jn_split h, List.map_map]; rfl) ?_
    exact ⟨rfl, rfl⟩
  unfold prtF prtB
  (refine wc_run rfl (by simp only [startD, List.map_cons, List.map_nil, List.length_cons, List.length_nil, Nat.reduceAdd, Nat.reduceSub, List.replicate, List.cons_append, List.nil_append] <;> exact rfl) ?_; repeat array_get_dec)
  refine we_lkn (pickD_no es fun j z => by cases z) ?_
  refine we_comp (xs := fs.map wr) (dv := DV.str) (fun p => .str ((unw false p).getD [])) (fun _ => true) ?_
  refine wi_aL es rfl ?_
  refine ⟨rfl, by rw [List.length_map]; omega, fun p hp => ?_, ?_⟩
  · obtain ⟨f, hf, rfl⟩ := List.mem_map.mp hp
    have h1 := hb f hf
    have h2 := wr_len f
    simp only [wipeD, List.set_cons_zero, List.set_cons_succ]
    repeat array_get_dec
    refine ⟨rfl, rfl, fun _ => ?_⟩
    repeat array_get_dec
    obtain ⟨d, m1, e1, rfl, x, e2, rfl⟩ := wc_no (pln_eq (wr f) (by omega)) (fun e m' z => by have := z.2.1; rw [unw_wr0] at this; cases this)
    refine wc_eq e1 ?_
    rw [e2]
    exact ⟨rfl, rfl⟩
  · rw [List.filter_eq_self.mpr fun _ _ => rfl, List.map_map]
    refine wo_finM ?_
    have : (fs.map ((fun p => DV.str ((unw false p).getD [])) ∘ wr)) = fs.map .str := List.map_congr_left fun f _ => by
      show DV.str ((unw false (wr f)).getD []) = _
      rw [unw_wr0]
      rfl
    rw [this]
    exact ⟨rfl, rfl⟩
theorem jn_len {fs : List (List Nat)} {n : Nat} (h : ∀ f, f ∈ fs → f.length ≤ n) : (jn fs).length ≤ fs.length * (2 * n + 1) := by
  unfold jn
  induction fs with
  | nil => exact Nat.zero_le _
  | cons a r ih =>
    have h1 := h a (.head _)
    have h2 := ih fun l hl => h l (.tail _ hl)
    have h3 := wr_len a
    have e : (TL.joinL [59] ((a :: r).map wr)).length ≤ (wr a).length + 1 + (TL.joinL [59] (r.map wr)).length := by
      cases r with
      | nil => show (wr a).length ≤ _; omega
      | cons b t =>
        show (wr a ++ ([59] ++ TL.joinL [59] ((b :: t).map wr))).length ≤ _
        rw [List.length_append, List.length_append]
        show _ + (1 + _) ≤ _
        omega
    rw [List.length_cons, Nat.succ_mul]
    omega
end
end DM

namespace LawM
open PySem PySem.Spec PyProof.Rows L2 DM
def top (i : Nat) : Stmt := PySem.Challenge.pw_lettercell_k11_texts_joined.main.body.getD i (.Pass ⟨0, 0, 0, 0⟩)
abbrev s_joined : Stmt := top 4
abbrev s_plain : Stmt := top 5
abbrev s_parted : Stmt := top 6
abbrev s__law_mixed : Stmt := top 8
abbrev s__law_sign_by : Stmt := top 9
abbrev s__law_text_by : Stmt := top 10
abbrev s__law_written : Stmt := top 11
abbrev s_law : Stmt := top 12
structure Tx (K : PySem.W.Frag) (mg : Str → Option Value) : Prop where
  n_isinstance : mg "isinstance" = none
  n_list : mg "list" = none
  n_range : mg "range" = none
  n_str : mg "str" = none
  gc_BadWord : mg "BadWord" = some (.ref (He.ga K "BadWord"))
  ex_BadWord : PySem.W.excIn K (He.ga K "BadWord") He.veBase "ValueError.__new__" = true ∧ PySem.W.keepIn K (.ref (He.ga K "BadWord")) = true ∧ PySem.W.subIn K (.ref (He.ga K "BadWord")) (.type "BaseException") = some true ∧ PySem.W.typeIn K (.ref (He.ga K "BadWord")) = some (.type "type")
  g_joined : mg "joined" = some (.ref (He.ga K "joined"))
  d_joined : ∃ fd, FunD K "joined" "joined" (defArgs s_joined) (defBody s_joined) (defScope s_joined) [] [] (He.ga K "joined") fd
  g_plain : mg "plain" = some (.ref (He.ga K "plain"))
  d_plain : ∃ fd, FunD K "plain" "plain" (defArgs s_plain) (defBody s_plain) (defScope s_plain) [] [] (He.ga K "plain") fd
  g_parted : mg "parted" = some (.ref (He.ga K "parted"))
  d_parted : ∃ fd, FunD K "parted" "parted" (defArgs s_parted) (defBody s_parted) (defScope s_parted) [] [] (He.ga K "parted") fd
  g__law_mixed : mg "_law_mixed" = some (.ref (He.ga K "_law_mixed"))
  d__law_mixed : ∃ fd, FunD K "_law_mixed" "_law_mixed" (defArgs s__law_mixed) (defBody s__law_mixed) (defScope s__law_mixed) [] [] (He.ga K "_law_mixed") fd
  g__law_sign_by : mg "_law_sign_by" = some (.ref (He.ga K "_law_sign_by"))
  d__law_sign_by : ∃ fd, FunD K "_law_sign_by" "_law_sign_by" (defArgs s__law_sign_by) (defBody s__law_sign_by) (defScope s__law_sign_by) [] [] (He.ga K "_law_sign_by") fd
  g__law_text_by : mg "_law_text_by" = some (.ref (He.ga K "_law_text_by"))
  d__law_text_by : ∃ fd, FunD K "_law_text_by" "_law_text_by" (defArgs s__law_text_by) (defBody s__law_text_by) (defScope s__law_text_by) [] [] (He.ga K "_law_text_by") fd
  g__law_written : mg "_law_written" = some (.ref (He.ga K "_law_written"))
  d__law_written : ∃ fd, FunD K "_law_written" "_law_written" (defArgs s__law_written) (defBody s__law_written) (defScope s__law_written) [] [] (He.ga K "_law_written") fd
  g_law : mg "law" = some (.ref (He.ga K "law"))
  d_law : ∃ fd, FunD K "law" "law" (defArgs s_law) (defBody s_law) (defScope s_law) [] [] (He.ga K "law") fd
abbrev cmK (K : PySem.W.Frag) : Cm := fun c => He.ga K (Str.ofString c)
section
variable {P : Program} {w : World} {K : PySem.W.Frag} {mg : Str → Option Value} {base : Heap}
abbrev n_joined : List Str := ["fields", "field"]
theorem sc_joined : FnScope n_joined ["fields"] (defScope s_joined) := ⟨rfl, rfl, rfl, by decide +kernel, rfl, by decide +kernel, by decide +kernel⟩
def b_joined : DS := (sRet (eLk (pickD (eVar 0)) (eM1 gJoin (eC (.str [59])) (eComp (iA (eVar 0)) (tgN 1) eYes (eM1 gRep (eM1 gRep (eVar 1) (eC (.tup [.str [126], .str [126, 119]]))) (eC (.tup [.str [59], .str [126, 115]]))) [1]))))
def f_joined : Fn := runF 2 1 b_joined
theorem k_joined (T : Tx K mg) : ∃ fd, FunD K "joined" "joined" (defArgs s_joined) (defBody s_joined) (defScope s_joined) [] [] (He.ga K "joined") fd ∧ FnOk P w K mg base (L2.CX P w) 1 (He.ga K "joined") fd ["fields"] (spF K (cmK K) 1 f_joined) := by
  obtain ⟨fd, Fd⟩ := T.d_joined
  refine ⟨fd, Fd, (fn_ok Fd sc_joined rfl fun cdv A outer s H E hr => ?_)⟩
  · skip
    have tk : Takes (cxOf (L2.CX P w) P w K mg base n_joined "joined" (defScope s_joined) (He.ga K "joined") cdv A outer s H E) (fun cls d _ H => E cls d H) := takes_of rfl rfl rfl rfl
    have pass := passes_of (X := cxOf (L2.CX P w) P w K mg base n_joined "joined" (defScope s_joined) (He.ga K "joined") cdv A outer s H E) rfl
    exact (pdb_one (pds_ret (pd_lk (pick := (pickD (eVar 0))) (pd_joinT [59] (pdet_comp (own := [("field", 1)]) fin_L rfl sc_joined.nd (pdi_any (pd_var 0)) (blkOk_by (N := n_joined) (sc := defScope s_joined) (by decide +kernel)) (fun _ _ _ _ _ => (pdgv_name (i := 1) sc_joined.nd)) (fun _ _ _ _ _ => pdts_nil) (fun _ _ _ _ _ => (pdet_rep [59] [126, 115] (pdet_rep [126] [126, 119] (PDET.of (pd_var 1))))))))))
theorem p_joined (T : Tx K mg) : CalD P w K mg base (cmK K) 1 "joined" 1 [] f_joined := by
  obtain ⟨fd, Fd, F⟩ := k_joined (P := P) (w := w) (base := base) T
  exact ⟨_, fd, _, [], [], F, T.g_joined, Fd.kp, Fd.bindsN fun _ _ _ _ _ _ us hl => match us, hl with | [_], _ => rfl, .nil, fun _ _ _ => .nil⟩
abbrev n_plain : List Str := ["part", "found", "marked", "sign"]
theorem sc_plain : FnScope n_plain ["part"] (defScope s_plain) := ⟨rfl, rfl, rfl, by decide +kernel, rfl, by decide +kernel, by decide +kernel⟩
def b_plain : DS := (sSeq (sSet 1 (eC (.str [])))
  (sSeq (sSet 2 (eC (.bl false)))
  (sSeq (sLk (pickD (eVar 0)) (sFor (iA (eVar 0)) (tgN 3)
  (sIf (eAnd (eTru (eVar 2)) (eB (eOp gEq (eVar 3) (eC (.str [119])))))
  (sSeq (sAug 1 gPlus (eC (.str [126])))
  (sSet 2 (eC (.bl false))))
  (sIf (eAnd (eTru (eVar 2)) (eB (eOp gEq (eVar 3) (eC (.str [115])))))
  (sSeq (sAug 1 gPlus (eC (.str [59])))
  (sSet 2 (eC (.bl false))))
  (sIf (eTru (eVar 2))
  (sRaise0 "BadWord")
  (sIf (eB (eOp gEq (eVar 3) (eC (.str [126]))))
  (sSet 2 (eC (.bl true)))
  (sAug 1 gPlus (eVar 3))))))))
  (sSeq (sIf (eTru (eVar 2))
  (sRaise0 "BadWord")
  sNext)
  (sRet (eVar 1))))))
def f_plain : Fn := runF 4 1 b_plain
theorem k_plain (T : Tx K mg) : ∃ fd, FunD K "plain" "plain" (defArgs s_plain) (defBody s_plain) (defScope s_plain) [] [] (He.ga K "plain") fd ∧ FnOk P w K mg base (L2.CX P w) 3 (He.ga K "plain") fd ["part"] (spF K (cmK K) 1 f_plain) := by
  obtain ⟨fd, Fd⟩ := T.d_plain
  refine ⟨fd, Fd, (fn_ok Fd sc_plain rfl fun cdv A outer s H E hr => ?_)⟩
  · skip
    have tk : Takes (cxOf (L2.CX P w) P w K mg base n_plain "plain" (defScope s_plain) (He.ga K "plain") cdv A outer s H E) (fun cls d _ H => E cls d H) := takes_of rfl rfl rfl rfl
    have pass := passes_of (X := cxOf (L2.CX P w) P w K mg base n_plain "plain" (defScope s_plain) (He.ga K "plain") cdv A outer s H E) rfl
    exact (pdb_cons (pds_set (i := 1) sc_plain.nd (pd_str []))
  (pdb_cons (pds_set (i := 2) sc_plain.nd pd_bl)
  (pdb_cons (pds_lk (pick := (pickD (eVar 0))) (pds_for pass rfl (pdi_any (pd_var 0)) (pdg_name (i := 3) sc_plain.nd)
  (pdb_one (pds_if (pdt_and (pdt_tru (pd_var 2)) (pdt_and1 (pdt_cmp (OpR_or op_eq (op_eqD hr.units)) rs_eq (pd_var 3) (pd_str [119]) (nomark _)))).t
  (pdb_cons (pds_augP (i := 1) sc_plain.nd (pd_str [126]))
  (pdb_one (pds_set (i := 2) sc_plain.nd pd_bl)))
  (pdb_one (pds_if (pdt_and (pdt_tru (pd_var 2)) (pdt_and1 (pdt_cmp (OpR_or op_eq (op_eqD hr.units)) rs_eq (pd_var 3) (pd_str [115]) (nomark _)))).t
  (pdb_cons (pds_augP (i := 1) sc_plain.nd (pd_str [59]))
  (pdb_one (pds_set (i := 2) sc_plain.nd pd_bl)))
  (pdb_one (pds_if (pdt_tru (pd_var 2))
  (pdb_one (pds_raise0 T.gc_BadWord T.ex_BadWord rfl tk (by rfl)))
  (pdb_one (pds_if (pdt_cmp (OpR_or op_eq (op_eqD hr.units)) rs_eq (pd_var 3) (pd_str [126]) (nomark _))
  (pdb_one (pds_set (i := 2) sc_plain.nd pd_bl))
  (pdb_one (pds_augP (i := 1) sc_plain.nd (pd_var 3)))))))))))))
  (pdb_cons (pds_if (pdt_tru (pd_var 2))
  (pdb_one (pds_raise0 T.gc_BadWord T.ex_BadWord rfl tk (by rfl)))
  pdb_nil)
  (pdb_one (pds_ret (pd_var 1)))))))
theorem p_plain (T : Tx K mg) : CalD P w K mg base (cmK K) 3 "plain" 1 [] f_plain := by
  obtain ⟨fd, Fd, F⟩ := k_plain (P := P) (w := w) (base := base) T
  exact ⟨_, fd, _, [], [], F, T.g_plain, Fd.kp, Fd.bindsN fun _ _ _ _ _ _ us hl => match us, hl with | [_], _ => rfl, .nil, fun _ _ _ => .nil⟩
abbrev n_parted : List Str := ["text", "part"]
theorem sc_parted : FnScope n_parted ["text"] (defScope s_parted) := ⟨rfl, rfl, rfl, by decide +kernel, rfl, by decide +kernel, by decide +kernel⟩
def b_parted : DS := (sRet (eLk (pickD (eM1 gSplit (eVar 0) (eC (.str [59])))) (eCompM (iA (eM1 gSplit (eVar 0) (eC (.str [59])))) (tgN 1) eYes (eCall f_plain [(eVar 1)] []) [1])))
def f_parted : Fn := runF 2 1 b_parted
theorem k_parted (T : Tx K mg) : ∃ fd, FunD K "parted" "parted" (defArgs s_parted) (defBody s_parted) (defScope s_parted) [] [] (He.ga K "parted") fd ∧ FnOk P w K mg base (L2.CX P w) 4 (He.ga K "parted") fd ["text"] (spF K (cmK K) 1 f_parted) := by
  obtain ⟨fd, Fd⟩ := T.d_parted
  have P_plain := p_plain (P := P) (w := w) (base := base) T
  refine ⟨fd, Fd, (fn_ok Fd sc_parted rfl fun cdv A outer s H E hr => ?_)⟩
  · skip
    have tk : Takes (cxOf (L2.CX P w) P w K mg base n_parted "parted" (defScope s_parted) (He.ga K "parted") cdv A outer s H E) (fun cls d _ H => E cls d H) := takes_of rfl rfl rfl rfl
    have pass := passes_of (X := cxOf (L2.CX P w) P w K mg base n_parted "parted" (defScope s_parted) (He.ga K "parted") cdv A outer s H E) rfl
    exact (pdb_one (pds_ret (pd_lk (pick := (pickD (eM1 gSplit (eVar 0) (eC (.str [59]))))) (pd_comp (own := [("part", 1)]) fin_M rfl sc_parted.nd (pdi_any (pd_split (pd_var 0) (pd_str [59]))) (blkOk_by (N := n_parted) (sc := defScope s_parted) (by decide +kernel)) (fun _ _ _ _ _ => (pdgv_name (i := 1) sc_parted.nd)) (fun _ _ _ _ _ => pdts_nil) (fun _ _ _ _ _ => (pd_call P_plain takes0 hr (by decide) (by rfl) (pda_cons (pd_var 1) pda_nil)))))))
theorem p_parted (T : Tx K mg) : CalD P w K mg base (cmK K) 4 "parted" 1 [] f_parted := by
  obtain ⟨fd, Fd, F⟩ := k_parted (P := P) (w := w) (base := base) T
  exact ⟨_, fd, _, [], [], F, T.g_parted, Fd.kp, Fd.bindsN fun _ _ _ _ _ _ us hl => match us, hl with | [_], _ => rfl, .nil, fun _ _ _ => .nil⟩
abbrev n__law_mixed : List Str := ["_law_cell", "_law_k", "_law_number"]
theorem sc__law_mixed : FnScope n__law_mixed ["_law_cell", "_law_k"] (defScope s__law_mixed) := ⟨rfl, rfl, rfl, by decide +kernel, rfl, by decide +kernel, by decide +kernel⟩
def b__law_mixed : DS := (sSeq (sSet 2 (eOp gMod (eOp gAdd (eOp gAdd (eOp gMul (eOp gMod (eVar 0) (eC (.int 2147483647))) (eC (.int 48271))) (eOp gMul (eC (.int 7919)) (eVar 1))) (eC (.int 1))) (eC (.int 2147483647))))
  (sRet (eOp gMod (eOp gMul (eVar 2) (eVar 2)) (eC (.int 2147483647)))))
def f__law_mixed : Fn := runF 3 2 b__law_mixed
theorem k__law_mixed (T : Tx K mg) : ∃ fd, FunD K "_law_mixed" "_law_mixed" (defArgs s__law_mixed) (defBody s__law_mixed) (defScope s__law_mixed) [] [] (He.ga K "_law_mixed") fd ∧ FnOk P w K mg base (L2.CX P w) 1 (He.ga K "_law_mixed") fd ["_law_cell", "_law_k"] (spF K (cmK K) 2 f__law_mixed) := by
  obtain ⟨fd, Fd⟩ := T.d__law_mixed
  refine ⟨fd, Fd, (fn_ok Fd sc__law_mixed rfl fun cdv A outer s H E hr => ?_)⟩
  · skip
    have tk : Takes (cxOf (L2.CX P w) P w K mg base n__law_mixed "_law_mixed" (defScope s__law_mixed) (He.ga K "_law_mixed") cdv A outer s H E) (fun cls d _ H => E cls d H) := takes_of rfl rfl rfl rfl
    have pass := passes_of (X := cxOf (L2.CX P w) P w K mg base n__law_mixed "_law_mixed" (defScope s__law_mixed) (He.ga K "_law_mixed") cdv A outer s H E) rfl
    exact (pdb_cons (pds_set (i := 2) sc__law_mixed.nd (pd_mod (pd_add (pd_add (pd_mul (pd_mod (pd_var 0) pd_int) pd_int) (pd_mul pd_int (pd_var 1))) pd_int) pd_int))
  (pdb_one (pds_ret (pd_mod (pd_mul (pd_var 2) (pd_var 2)) pd_int))))
theorem p__law_mixed (T : Tx K mg) : CalD P w K mg base (cmK K) 1 "_law_mixed" 2 [] f__law_mixed := by
  obtain ⟨fd, Fd, F⟩ := k__law_mixed (P := P) (w := w) (base := base) T
  exact ⟨_, fd, _, [], [], F, T.g__law_mixed, Fd.kp, Fd.bindsN fun _ _ _ _ _ _ us hl => match us, hl with | [_, _], _ => rfl, .nil, fun _ _ _ => .nil⟩
abbrev n__law_sign_by : List Str := ["_law_number", "_law_some"]
theorem sc__law_sign_by : FnScope n__law_sign_by ["_law_number"] (defScope s__law_sign_by) := ⟨rfl, rfl, rfl, by decide +kernel, rfl, by decide +kernel, by decide +kernel⟩
def b__law_sign_by : DS := (sSeq (sSet 1 (eC (.str [32, 33, 34, 35, 36, 38, 39, 40, 41, 42, 43, 44, 45, 46, 47, 48, 49, 50, 51, 52, 53, 54, 55, 56, 57, 58, 59, 60, 61, 62, 63, 64, 65, 66, 67, 68, 69, 70, 71, 72, 73, 74, 75, 76, 77, 78, 79, 80, 81, 82, 83, 84, 85, 86, 87, 88, 89, 90, 91, 92, 93, 94, 95, 96])))
  (sSeq (sSet 1 (eOp gAdd (eVar 1) (eC (.str [97, 98, 99, 100, 101, 102, 103, 104, 105, 106, 107, 108, 109, 110, 111, 112, 113, 114, 115, 116, 117, 118, 119, 120, 121, 122, 123, 124, 125, 126]))))
  (sRet (eOp gIxA (eVar 1) (eOp gMod (eVar 0) (eC (.int 94)))))))
def f__law_sign_by : Fn := runF 2 1 b__law_sign_by
theorem k__law_sign_by (T : Tx K mg) : ∃ fd, FunD K "_law_sign_by" "_law_sign_by" (defArgs s__law_sign_by) (defBody s__law_sign_by) (defScope s__law_sign_by) [] [] (He.ga K "_law_sign_by") fd ∧ FnOk P w K mg base (L2.CX P w) 1 (He.ga K "_law_sign_by") fd ["_law_number"] (spF K (cmK K) 1 f__law_sign_by) := by
  obtain ⟨fd, Fd⟩ := T.d__law_sign_by
  refine ⟨fd, Fd, (fn_ok Fd sc__law_sign_by rfl fun cdv A outer s H E hr => ?_)⟩
  · skip
    have tk : Takes (cxOf (L2.CX P w) P w K mg base n__law_sign_by "_law_sign_by" (defScope s__law_sign_by) (He.ga K "_law_sign_by") cdv A outer s H E) (fun cls d _ H => E cls d H) := takes_of rfl rfl rfl rfl
    have pass := passes_of (X := cxOf (L2.CX P w) P w K mg base n__law_sign_by "_law_sign_by" (defScope s__law_sign_by) (He.ga K "_law_sign_by") cdv A outer s H E) rfl
    exact (pdb_cons (pds_set (i := 1) sc__law_sign_by.nd (pd_str [32, 33, 34, 35, 36, 38, 39, 40, 41, 42, 43, 44, 45, 46, 47, 48, 49, 50, 51, 52, 53, 54, 55, 56, 57, 58, 59, 60, 61, 62, 63, 64, 65, 66, 67, 68, 69, 70, 71, 72, 73, 74, 75, 76, 77, 78, 79, 80, 81, 82, 83, 84, 85, 86, 87, 88, 89, 90, 91, 92, 93, 94, 95, 96]))
  (pdb_cons (pds_set (i := 1) sc__law_sign_by.nd (pd_add (pd_var 1) (pd_str [97, 98, 99, 100, 101, 102, 103, 104, 105, 106, 107, 108, 109, 110, 111, 112, 113, 114, 115, 116, 117, 118, 119, 120, 121, 122, 123, 124, 125, 126])))
  (pdb_one (pds_ret (pd_ixA hr (pd_var 1) (pd_mod (pd_var 0) pd_int))))))
theorem p__law_sign_by (T : Tx K mg) : CalD P w K mg base (cmK K) 1 "_law_sign_by" 1 [] f__law_sign_by := by
  obtain ⟨fd, Fd, F⟩ := k__law_sign_by (P := P) (w := w) (base := base) T
  exact ⟨_, fd, _, [], [], F, T.g__law_sign_by, Fd.kp, Fd.bindsN fun _ _ _ _ _ _ us hl => match us, hl with | [_], _ => rfl, .nil, fun _ _ _ => .nil⟩
abbrev n__law_text_by : List Str := ["_law_cell", "_law_size", "_law_found", "_law_k"]
theorem sc__law_text_by : FnScope n__law_text_by ["_law_cell"] (defScope s__law_text_by) := ⟨rfl, rfl, rfl, by decide +kernel, rfl, by decide +kernel, by decide +kernel⟩
def b__law_text_by : DS := (sSeq (sSet 1 (eOp gMod (eCall f__law_mixed [(eVar 0), (eC (.int 1))] []) (eC (.int 10))))
  (sSeq (sIf (eB (eOp gEq (eOp gMod (eCall f__law_mixed [(eVar 0), (eC (.int 2))] []) (eC (.int 16))) (eC (.int 0))))
  (sSet 1 (eOp gMod (eCall f__law_mixed [(eVar 0), (eC (.int 3))] []) (eC (.int 120))))
  sNext)
  (sSeq (sSet 2 (eC (.str [])))
  (sSeq (sFor (iRngA [(eVar 1)]) (tgN 3)
  (sIf (eB (eOp gEq (eOp gMod (eCall f__law_mixed [(eVar 0), (eC (.int 4))] []) (eC (.int 2))) (eC (.int 0))))
  (sSet 2 (eOp gAdd (eVar 2) (eCall f__law_sign_by [(eCall f__law_mixed [(eVar 0), (eOp gAdd (eC (.int 10)) (eVar 3))] [])] [])))
  (sSet 2 (eOp gAdd (eVar 2) (eOp gIxA (eC (.str [126, 59, 119, 115])) (eOp gMod (eCall f__law_mixed [(eVar 0), (eOp gAdd (eC (.int 10)) (eVar 3))] []) (eC (.int 4))))))))
  (sRet (eVar 2))))))
def f__law_text_by : Fn := runF 4 1 b__law_text_by
theorem k__law_text_by (T : Tx K mg) : ∃ fd, FunD K "_law_text_by" "_law_text_by" (defArgs s__law_text_by) (defBody s__law_text_by) (defScope s__law_text_by) [] [] (He.ga K "_law_text_by") fd ∧ FnOk P w K mg base (L2.CX P w) 2 (He.ga K "_law_text_by") fd ["_law_cell"] (spF K (cmK K) 1 f__law_text_by) := by
  obtain ⟨fd, Fd⟩ := T.d__law_text_by
  have P__law_mixed := p__law_mixed (P := P) (w := w) (base := base) T
  have P__law_sign_by := p__law_sign_by (P := P) (w := w) (base := base) T
  refine ⟨fd, Fd, (fn_ok Fd sc__law_text_by rfl fun cdv A outer s H E hr => ?_)⟩
  · skip
    have tk : Takes (cxOf (L2.CX P w) P w K mg base n__law_text_by "_law_text_by" (defScope s__law_text_by) (He.ga K "_law_text_by") cdv A outer s H E) (fun cls d _ H => E cls d H) := takes_of rfl rfl rfl rfl
    have pass := passes_of (X := cxOf (L2.CX P w) P w K mg base n__law_text_by "_law_text_by" (defScope s__law_text_by) (He.ga K "_law_text_by") cdv A outer s H E) rfl
    exact (pdb_cons (pds_set (i := 1) sc__law_text_by.nd (pd_mod (pd_call P__law_mixed tk hr (by decide) (by rfl) (pda_cons (pd_var 0) (pda_cons pd_int pda_nil))) pd_int))
  (pdb_cons (pds_if (pdt_cmp (OpR_or op_eq (op_eqD hr.units)) rs_eq (pd_mod (pd_call P__law_mixed tk hr (by decide) (by rfl) (pda_cons (pd_var 0) (pda_cons pd_int pda_nil))) pd_int) pd_int (nomark _))
  (pdb_one (pds_set (i := 1) sc__law_text_by.nd (pd_mod (pd_call P__law_mixed tk hr (by decide) (by rfl) (pda_cons (pd_var 0) (pda_cons pd_int pda_nil))) pd_int)))
  pdb_nil)
  (pdb_cons (pds_set (i := 2) sc__law_text_by.nd (pd_str []))
  (pdb_cons (pds_for pass rfl (pdi_rng1 (by rfl) T.n_range (pda_cons (pd_var 1) pda_nil)) (pdg_name (i := 3) sc__law_text_by.nd)
  (pdb_one (pds_if (pdt_cmp (OpR_or op_eq (op_eqD hr.units)) rs_eq (pd_mod (pd_call P__law_mixed tk hr (by decide) (by rfl) (pda_cons (pd_var 0) (pda_cons pd_int pda_nil))) pd_int) pd_int (nomark _))
  (pdb_one (pds_set (i := 2) sc__law_text_by.nd (pd_add (pd_var 2) (pd_call P__law_sign_by tk hr (by decide) (by rfl) (pda_cons (pd_call P__law_mixed tk hr (by decide) (by rfl) (pda_cons (pd_var 0) (pda_cons (pd_add pd_int (pd_var 3)) pda_nil))) pda_nil)))))
  (pdb_one (pds_set (i := 2) sc__law_text_by.nd (pd_add (pd_var 2) (pd_ixA hr (pd_str [126, 59, 119, 115]) (pd_mod (pd_call P__law_mixed tk hr (by decide) (by rfl) (pda_cons (pd_var 0) (pda_cons (pd_add pd_int (pd_var 3)) pda_nil))) pd_int))))))))
  (pdb_one (pds_ret (pd_var 2)))))))
theorem p__law_text_by (T : Tx K mg) : CalD P w K mg base (cmK K) 2 "_law_text_by" 1 [] f__law_text_by := by
  obtain ⟨fd, Fd, F⟩ := k__law_text_by (P := P) (w := w) (base := base) T
  exact ⟨_, fd, _, [], [], F, T.g__law_text_by, Fd.kp, Fd.bindsN fun _ _ _ _ _ _ us hl => match us, hl with | [_], _ => rfl, .nil, fun _ _ _ => .nil⟩
abbrev n__law_written : List Str := ["_law_field", "_law_found", "_law_sign"]
theorem sc__law_written : FnScope n__law_written ["_law_field"] (defScope s__law_written) := ⟨rfl, rfl, rfl, by decide +kernel, rfl, by decide +kernel, by decide +kernel⟩
def b__law_written : DS := (sSeq (sSet 1 (eC (.str [])))
  (sSeq (sLk (pickD (eVar 0)) (sFor (iA (eVar 0)) (tgN 2)
  (sIf (eB (eOp gEq (eVar 2) (eC (.str [126]))))
  (sSet 1 (eOp gAdd (eVar 1) (eC (.str [126, 119]))))
  (sIf (eB (eOp gEq (eVar 2) (eC (.str [59]))))
  (sSet 1 (eOp gAdd (eVar 1) (eC (.str [126, 115]))))
  (sSet 1 (eOp gAdd (eVar 1) (eVar 2)))))))
  (sRet (eVar 1))))
def f__law_written : Fn := runF 3 1 b__law_written
theorem k__law_written (T : Tx K mg) : ∃ fd, FunD K "_law_written" "_law_written" (defArgs s__law_written) (defBody s__law_written) (defScope s__law_written) [] [] (He.ga K "_law_written") fd ∧ FnOk P w K mg base (L2.CX P w) 1 (He.ga K "_law_written") fd ["_law_field"] (spF K (cmK K) 1 f__law_written) := by
  obtain ⟨fd, Fd⟩ := T.d__law_written
  refine ⟨fd, Fd, (fn_ok Fd sc__law_written rfl fun cdv A outer s H E hr => ?_)⟩
  · skip
    have tk : Takes (cxOf (L2.CX P w) P w K mg base n__law_written "_law_written" (defScope s__law_written) (He.ga K "_law_written") cdv A outer s H E) (fun cls d _ H => E cls d H) := takes_of rfl rfl rfl rfl
    have pass := passes_of (X := cxOf (L2.CX P w) P w K mg base n__law_written "_law_written" (defScope s__law_written) (He.ga K "_law_written") cdv A outer s H E) rfl
    exact (pdb_cons (pds_set (i := 1) sc__law_written.nd (pd_str []))
  (pdb_cons (pds_lk (pick := (pickD (eVar 0))) (pds_for pass rfl (pdi_any (pd_var 0)) (pdg_name (i := 2) sc__law_written.nd)
  (pdb_one (pds_if (pdt_cmp (OpR_or op_eq (op_eqD hr.units)) rs_eq (pd_var 2) (pd_str [126]) (nomark _))
  (pdb_one (pds_set (i := 1) sc__law_written.nd (pd_add (pd_var 1) (pd_str [126, 119]))))
  (pdb_one (pds_if (pdt_cmp (OpR_or op_eq (op_eqD hr.units)) rs_eq (pd_var 2) (pd_str [59]) (nomark _))
  (pdb_one (pds_set (i := 1) sc__law_written.nd (pd_add (pd_var 1) (pd_str [126, 115]))))
  (pdb_one (pds_set (i := 1) sc__law_written.nd (pd_add (pd_var 1) (pd_var 2))))))))))
  (pdb_one (pds_ret (pd_var 1)))))
theorem p__law_written (T : Tx K mg) : CalD P w K mg base (cmK K) 1 "_law_written" 1 [] f__law_written := by
  obtain ⟨fd, Fd, F⟩ := k__law_written (P := P) (w := w) (base := base) T
  exact ⟨_, fd, _, [], [], F, T.g__law_written, Fd.kp, Fd.bindsN fun _ _ _ _ _ _ us hl => match us, hl with | [_], _ => rfl, .nil, fun _ _ _ => .nil⟩
abbrev n_law : List Str := ["_law_script", "_law_fields", "_law_cell", "_law_handed", "_law_due", "_law_field", "_law_found", "_law_back"]
theorem sc_law : FnScope n_law ["_law_script"] (defScope s_law) := ⟨rfl, rfl, rfl, by decide +kernel, rfl, by decide +kernel, by decide +kernel⟩
def b_law : DS := (sSeq (sSet 1 (eComp (iSeq (eSl (eVar 0) (eC .non) (eI (eC (.int 60))))) (tgN 2) eYes (eCall f__law_text_by [(eVar 2)] []) [2]))
  (sSeq (sIf (eB (eOp gEq (eVar 1) (eLst [])))
  (sSet 1 (eLst [(eC (.str []))]))
  sNext)
  (sSeq (sSet 3 (eCB gList [(eVar 1)]))
  (sSeq (sSet 4 (eM1 gJoin (eC (.str [59])) (eLk (pickD (eVar 1)) (eComp (iA (eVar 1)) (tgN 5) eYes (eCall f__law_written [(eVar 5)] []) [5]))))
  (sSeq (sSet 6 (eCall f_joined [(eVar 3)] []))
  (sSeq (sIf (eOr (eNot (eTru (eCB gIsi [(eVar 6), (eC (.ty "str"))]))) (eOr (eB (eOp gNe (eVar 6) (eVar 4))) (eB (eOp gNe (eVar 3) (eVar 1)))))
  (sRet (eC (.bl false)))
  sNext)
  (sSeq (sSet 7 (eCall f_parted [(eVar 6)] []))
  (sSeq (sIf (eOr (eNot (eTru (eCB gIsi [(eVar 7), (eC (.ty "list"))]))) (eB (eOp gNe (eVar 7) (eVar 1))))
  (sRet (eC (.bl false)))
  sNext)
  (sSeq (sDrop (eBM "list" gAppend (eVar 7) [(eC (.str [109, 111, 114, 101]))]))
  (sRet (eAnd (eOp gEq (eCall f_parted [(eVar 6)] []) (eVar 1)) (eOp gEq (eCall f_joined [(eVar 3)] []) (eVar 4)))))))))))))
def f_law : Fn := runF 8 1 b_law
theorem p_law (T : Tx K mg) {fd : FuncData} (Fd : FunD K "law" "law" (defArgs s_law) (defBody s_law) (defScope s_law) [] [] (He.ga K "law") fd) : FnOk P w K mg base (L2.CX P w) 5 (He.ga K "law") fd ["_law_script"] (spF K (cmK K) 1 f_law) := by
  have P__law_text_by := p__law_text_by (P := P) (w := w) (base := base) T
  have P__law_written := p__law_written (P := P) (w := w) (base := base) T
  have P_joined := p_joined (P := P) (w := w) (base := base) T
  have P_parted := p_parted (P := P) (w := w) (base := base) T
  exact fn_ok Fd sc_law rfl fun cdv A outer s H E hr => by
    have tk : Takes (cxOf (L2.CX P w) P w K mg base n_law "law" (defScope s_law) (He.ga K "law") cdv A outer s H E) (fun cls d _ H => E cls d H) := takes_of rfl rfl rfl rfl
    have pass := passes_of (X := cxOf (L2.CX P w) P w K mg base n_law "law" (defScope s_law) (He.ga K "law") cdv A outer s H E) rfl
    exact (pdb_cons (pds_setComp (i := 1) (own := [("_law_cell", 2)]) fin_L rfl sc_law.nd rfl (sw_true rfl rfl rfl (by decide +kernel)) (pdi_seq (pd_sl (pd_var 0) pdo_none (pdo_some pd_int))) (blkOk_by (N := n_law) (sc := defScope s_law) (by decide +kernel)) (fun _ _ _ _ _ => (pdgv_name (i := 2) sc_law.nd)) (fun _ _ _ _ _ => pdts_nil) (fun _ _ _ _ _ => (pd_call P__law_text_by takes0 hr (by decide) (by rfl) (pda_cons (pd_var 2) pda_nil))))
  (pdb_cons (pds_if (pdt_cmp (OpR_or op_eq (op_eqD hr.units)) rs_eq (pd_var 1) (pd_lst pda_nil) (nomark _))
  (pdb_one (pds_set (i := 1) sc_law.nd (pd_lst (pda_cons (pd_str []) pda_nil))))
  pdb_nil)
  (pdb_cons (pds_set (i := 3) sc_law.nd (pd_list (by rfl) T.n_list (pda_cons (pd_var 1) pda_nil)))
  (pdb_cons (pds_set (i := 4) sc_law.nd (pd_join (pd_str [59]) (pd_lk (pick := (pickD (eVar 1))) (pd_comp (own := [("_law_field", 5)]) fin_L rfl sc_law.nd (pdi_any (pd_var 1)) (blkOk_by (N := n_law) (sc := defScope s_law) (by decide +kernel)) (fun _ _ _ _ _ => (pdgv_name (i := 5) sc_law.nd)) (fun _ _ _ _ _ => pdts_nil) (fun _ _ _ _ _ => (pd_call P__law_written takes0 hr (by decide) (by rfl) (pda_cons (pd_var 5) pda_nil)))))))
  (pdb_cons (pds_set (i := 6) sc_law.nd (pd_call P_joined tk hr (by decide) (by rfl) (pda_cons (pd_var 3) pda_nil)))
  (pdb_cons (pds_if (pdt_or (pdt_not (pdt_tru (pd_isi (by rfl) T.n_isinstance (pda_cons (pd_var 6) (pda_cons (pd_ty (by rfl) T.n_str (by decide +kernel)) pda_nil))))) (pdt_or (pdt_cmp (OpR_or op_ne (op_neD hr.units)) rs_ne (pd_var 6) (pd_var 4) (nomark _)) (pdt_or1 (pdt_cmp (OpR_or op_ne (op_neD hr.units)) rs_ne (pd_var 3) (pd_var 1) (nomark _))))).t
  (pdb_one (pds_ret pd_bl))
  pdb_nil)
  (pdb_cons (pds_set (i := 7) sc_law.nd (pd_call P_parted tk hr (by decide) (by rfl) (pda_cons (pd_var 6) pda_nil)))
  (pdb_cons (pds_if (pdt_or (pdt_not (pdt_tru (pd_isi (by rfl) T.n_isinstance (pda_cons (pd_var 7) (pda_cons (pd_ty (by rfl) T.n_list (by decide +kernel)) pda_nil))))) (pdt_or1 (pdt_cmp (OpR_or op_ne (op_neD hr.units)) rs_ne (pd_var 7) (pd_var 1) (nomark _)))).t
  (pdb_one (pds_ret pd_bl))
  pdb_nil)
  (pdb_cons (pds_expr (pd_append (pd_var 7) (pda_cons (pd_str [109, 111, 114, 101]) pda_nil)))
  (pdb_one (pds_ret (pd_and (pd_eq hr (pd_call P_parted tk hr (by decide) (by rfl) (pda_cons (pd_var 6) pda_nil)) (pd_var 1)) (pd_one (pd_eq hr (pd_call P_joined tk hr (by decide) (by rfl) (pda_cons (pd_var 3) pda_nil)) (pd_var 4)))))))))))))))
end
def d_joined : He.DefD := ⟨("joined", none), "joined", "joined", defArgs s_joined, defBody s_joined, defScope s_joined, [], []⟩
def d_plain : He.DefD := ⟨("plain", none), "plain", "plain", defArgs s_plain, defBody s_plain, defScope s_plain, [], []⟩
def d_parted : He.DefD := ⟨("parted", none), "parted", "parted", defArgs s_parted, defBody s_parted, defScope s_parted, [], []⟩
def d__law_mixed : He.DefD := ⟨("_law_mixed", none), "_law_mixed", "_law_mixed", defArgs s__law_mixed, defBody s__law_mixed, defScope s__law_mixed, [], []⟩
def d__law_sign_by : He.DefD := ⟨("_law_sign_by", none), "_law_sign_by", "_law_sign_by", defArgs s__law_sign_by, defBody s__law_sign_by, defScope s__law_sign_by, [], []⟩
def d__law_text_by : He.DefD := ⟨("_law_text_by", none), "_law_text_by", "_law_text_by", defArgs s__law_text_by, defBody s__law_text_by, defScope s__law_text_by, [], []⟩
def d__law_written : He.DefD := ⟨("_law_written", none), "_law_written", "_law_written", defArgs s__law_written, defBody s__law_written, defScope s__law_written, [], []⟩
def d_law : He.DefD := ⟨("law", none), "law", "law", defArgs s_law, defBody s_law, defScope s_law, [], []⟩
def fn : List He.DefD := [d_joined, d_plain, d_parted, d__law_mixed, d__law_sign_by, d__law_text_by, d__law_written, d_law]
def fa : List He.Fa := [.free "isinstance", .free "list", .free "range", .free "str", .glo "BadWord", .exc "BadWord", .glo "joined", .glo "plain", .glo "parted", .glo "_law_mixed", .glo "_law_sign_by", .glo "_law_text_by", .glo "_law_written", .glo "law"]
def loose : List PySem.Str := (["CellarError", "BadWord", "joined", "plain", "parted", "_law_mixed", "_law_sign_by", "_law_text_by", "_law_written"] : List PySem.Str)
abbrev Ro : PySem.W.OpenRow := PySem.W.OpenLaw.row PySem.Challenge.rw_lettercell_k11_texts_joined
abbrev hk : PySem.W.Hook := He.hookD 4 fa fn
def ob (s : PySem.W.SharedT) : He.AlD := He.obsDG 4 fa fn (HandSHeadRun.getT s)
theorem ob_eq (s : PySem.W.SharedT) : ob s = hk.obs s.abs := He.obsDG_eq (HandSHeadRun.getT_eq s)
theorem run (w : World) : HandSHeadRun.RunEq Ro (PySem.W.view Ro.prog [12]) hk ob 4000 loose w := by
  intro os
  kernel_rfl
theorem tx {h : Heap} {K : PySem.W.Frag} {mg : Str → Option Value} (X : K.In h) (G : h.Ns mainGlobals mg) (c : He.SaysD fa fn K) : Tx K mg where
  n_isinstance := He.free_ok X G (c.fact 0 (f := .free "isinstance") rfl)
  n_list := He.free_ok X G (c.fact 1 (f := .free "list") rfl)
  n_range := He.free_ok X G (c.fact 2 (f := .free "range") rfl)
  n_str := He.free_ok X G (c.fact 3 (f := .free "str") rfl)
  gc_BadWord := He.glo_ok X G (c.fact 4 (f := .glo "BadWord") rfl)
  ex_BadWord := He.exc_ok (c.fact 5 (f := .exc "BadWord") rfl)
  g_joined := He.glo_ok X G (c.fact 6 (f := .glo "joined") rfl)
  d_joined := c.def_ 0 (d := d_joined) rfl
  g_plain := He.glo_ok X G (c.fact 7 (f := .glo "plain") rfl)
  d_plain := c.def_ 1 (d := d_plain) rfl
  g_parted := He.glo_ok X G (c.fact 8 (f := .glo "parted") rfl)
  d_parted := c.def_ 2 (d := d_parted) rfl
  g__law_mixed := He.glo_ok X G (c.fact 9 (f := .glo "_law_mixed") rfl)
  d__law_mixed := c.def_ 3 (d := d__law_mixed) rfl
  g__law_sign_by := He.glo_ok X G (c.fact 10 (f := .glo "_law_sign_by") rfl)
  d__law_sign_by := c.def_ 4 (d := d__law_sign_by) rfl
  g__law_text_by := He.glo_ok X G (c.fact 11 (f := .glo "_law_text_by") rfl)
  d__law_text_by := c.def_ 5 (d := d__law_text_by) rfl
  g__law_written := He.glo_ok X G (c.fact 12 (f := .glo "_law_written") rfl)
  d__law_written := c.def_ 6 (d := d__law_written) rfl
  g_law := He.glo_ok X G (c.fact 13 (f := .glo "law") rfl)
  d_law := c.def_ 7 (d := d_law) rfl
end LawM
namespace LawM
open PySem DM
local macro_rules | `(tactic| sizeOf_list_dec) => `(tactic| first | assumption | omega | exact Nat.zero_le _ | (simp only [List.length_cons, List.length_nil, List.length_append, List.length_map, List.length_replicate, List.length_range, List.length_take, List.length_drop, List.length_reverse]; omega) | (decide; done))
local macro_rules | `(tactic| array_mem_dec) => `(tactic| (repeat (first | with_reducible assumption | with_reducible exact mem_new | with_reducible apply mem_same' | ((with_reducible apply mem_ne'); (· first | assumption | omega)) | with_reducible apply mem_old | with_reducible exact mem_hd | with_reducible apply mem_app)); done)
local macro_rules | `(tactic| array_get_dec) => `(tactic| first | ((with_reducible refine id_e ?_); first | with_reducible refine we_c ?_ | with_reducible refine we_op ?_ | with_reducible refine we_cb ?_ | with_reducible refine we_call0 ?_ | with_reducible refine we_call ?_ | with_reducible refine we_B ?_ | with_reducible refine we_tru ?_ | with_reducible refine we_not ?_ | with_reducible refine we_and ?_ | with_reducible refine we_or ?_ | with_reducible refine we_if ?_ | with_reducible refine we_neg ?_ | with_reducible refine we_I ?_ | with_reducible refine we_chain ?_ | with_reducible refine we_tup ?_ | with_reducible refine we_lst ?_ | with_reducible refine we_lstM0 ?_ | with_reducible refine we_lstM ?_ | with_reducible refine we_dnew ?_ | with_reducible refine we_sl ?_ | with_reducible refine we_m1 ?_ | with_reducible refine we_isiT ?_ | with_reducible refine we_append ?_ | with_reducible refine we_get1 ?_ | with_reducible refine we_get2 ?_ | with_reducible refine we_pop2 ?_ | with_reducible refine we_pop1 ?_ | with_reducible refine we_cm ?_ | with_reducible refine we_fld ?_ | with_reducible refine we_meth ?_ | with_reducible refine we_make ?_ | with_reducible refine we_yes ?_ | with_reducible refine we_popA ?_ | ((with_reducible apply we_xf); (· exact rfl)) | ((with_reducible apply we_is); (· exact rfl)) | with_reducible refine we_var_0 ?_ | with_reducible refine we_var_1 ?_ | with_reducible refine we_var_2 ?_ | with_reducible refine we_var_3 ?_ | with_reducible refine we_var_4 ?_ | with_reducible refine we_var_5 ?_ | with_reducible refine we_var_6 ?_ | with_reducible refine we_var_7 ?_ | with_reducible refine we_var_8 ?_ | with_reducible refine we_var_9 ?_ | with_reducible refine we_var_10 ?_ | with_reducible refine we_var_11 ?_ | with_reducible refine we_var_12 ?_ | with_reducible refine we_var_13 ?_ | with_reducible refine we_var_14 ?_ | with_reducible refine we_var_15 ?_ | with_reducible refine we_var_16 ?_ | with_reducible refine we_var_17 ?_ | with_reducible refine we_var_18 ?_ | with_reducible refine we_var_19 ?_ | with_reducible refine we_var_20 ?_ | with_reducible refine we_var_21 ?_ | with_reducible refine we_var_22 ?_ | with_reducible refine we_var_23 ?_ | with_reducible refine we_var_24 ?_ | with_reducible refine we_var_25 ?_ | with_reducible refine we_var_26 ?_ | with_reducible refine we_var_27 ?_ | with_reducible refine we_var_28 ?_ | with_reducible refine we_var_29 ?_ | with_reducible refine we_var_30 ?_ | with_reducible refine we_var_31 ?_ | with_reducible refine we_var_32 ?_ | with_reducible refine we_var_33 ?_ | with_reducible refine we_var_34 ?_ | with_reducible refine we_var_35 ?_ | with_reducible refine we_var_36 ?_ | with_reducible refine we_var_37 ?_ | with_reducible refine we_var_38 ?_ | with_reducible refine we_var_39 ?_) | ((with_reducible refine id_s ?_); first | with_reducible refine ws_seq ?_ | with_reducible refine ws_next ?_ | with_reducible refine ws_drop ?_ | with_reducible refine ws_ret ?_ | with_reducible refine ws_retN ?_ | with_reducible refine ws_brk ?_ | with_reducible refine ws_cnt ?_ | with_reducible refine ws_asg ?_ | with_reducible refine ws_if ?_ | with_reducible refine ws_put ?_ | with_reducible refine ws_fldP ?_ | with_reducible refine ws_fldA ?_ | with_reducible refine ws_daug ?_ | with_reducible refine ws_try ?_ | with_reducible refine ws_raise ?_ | with_reducible refine ws_raise0 ?_ | with_reducible refine ws_set_0 ?_ | with_reducible refine ws_set_1 ?_ | with_reducible refine ws_set_2 ?_ | with_reducible refine ws_set_3 ?_ | with_reducible refine ws_set_4 ?_ | with_reducible refine ws_set_5 ?_ | with_reducible refine ws_set_6 ?_ | with_reducible refine ws_set_7 ?_ | with_reducible refine ws_set_8 ?_ | with_reducible refine ws_set_9 ?_ | with_reducible refine ws_set_10 ?_ | with_reducible refine ws_set_11 ?_ | with_reducible refine ws_set_12 ?_ | with_reducible refine ws_set_13 ?_ | with_reducible refine ws_set_14 ?_ | with_reducible refine ws_set_15 ?_ | with_reducible refine ws_set_16 ?_ | with_reducible refine ws_set_17 ?_ | with_reducible refine ws_set_18 ?_ | with_reducible refine ws_set_19 ?_ | with_reducible refine ws_set_20 ?_ | with_reducible refine ws_set_21 ?_ | with_reducible refine ws_set_22 ?_ | with_reducible refine ws_set_23 ?_ | with_reducible refine ws_set_24 ?_ | with_reducible refine ws_set_25 ?_ | with_reducible refine ws_set_26 ?_ | with_reducible refine ws_set_27 ?_ | with_reducible refine ws_set_28 ?_ | with_reducible refine ws_set_29 ?_ | with_reducible refine ws_set_30 ?_ | with_reducible refine ws_set_31 ?_ | with_reducible refine ws_set_32 ?_ | with_reducible refine ws_set_33 ?_ | with_reducible refine ws_set_34 ?_ | with_reducible refine ws_set_35 ?_ | with_reducible refine ws_set_36 ?_ | with_reducible refine ws_set_37 ?_ | with_reducible refine ws_set_38 ?_ | with_reducible refine ws_set_39 ?_ | with_reducible refine ws_aug_0 ?_ | with_reducible refine ws_aug_1 ?_ | with_reducible refine ws_aug_2 ?_ | with_reducible refine ws_aug_3 ?_ | with_reducible refine ws_aug_4 ?_ | with_reducible refine ws_aug_5 ?_ | with_reducible refine ws_aug_6 ?_ | with_reducible refine ws_aug_7 ?_ | with_reducible refine ws_aug_8 ?_ | with_reducible refine ws_aug_9 ?_ | with_reducible refine ws_aug_10 ?_ | with_reducible refine ws_aug_11 ?_ | with_reducible refine ws_aug_12 ?_ | with_reducible refine ws_aug_13 ?_ | with_reducible refine ws_aug_14 ?_ | with_reducible refine ws_aug_15 ?_ | with_reducible refine ws_aug_16 ?_ | with_reducible refine ws_aug_17 ?_ | with_reducible refine ws_aug_18 ?_ | with_reducible refine ws_aug_19 ?_ | with_reducible refine ws_aug_20 ?_ | with_reducible refine ws_aug_21 ?_ | with_reducible refine ws_aug_22 ?_ | with_reducible refine ws_aug_23 ?_ | with_reducible refine ws_aug_24 ?_ | with_reducible refine ws_aug_25 ?_ | with_reducible refine ws_aug_26 ?_ | with_reducible refine ws_aug_27 ?_ | with_reducible refine ws_aug_28 ?_ | with_reducible refine ws_aug_29 ?_ | with_reducible refine ws_aug_30 ?_ | with_reducible refine ws_aug_31 ?_ | with_reducible refine ws_aug_32 ?_ | with_reducible refine ws_aug_33 ?_ | with_reducible refine ws_aug_34 ?_ | with_reducible refine ws_aug_35 ?_ | with_reducible refine ws_aug_36 ?_ | with_reducible refine ws_aug_37 ?_ | with_reducible refine ws_aug_38 ?_ | with_reducible refine ws_aug_39 ?_) | ((with_reducible refine id_a ?_); first | with_reducible refine wa_cons ?_ | with_reducible refine wa_nil ?_) | ((with_reducible refine id_g ?_); first | with_reducible refine wg_add ?_ | ((with_reducible apply wg_adds); (· sizeOf_list_dec)) | ((with_reducible apply wg_addl); (· sizeOf_list_dec)) | with_reducible refine wg_plus ?_ | ((with_reducible apply wg_pluss); (· sizeOf_list_dec)) | with_reducible refine wg_plusI ?_ | with_reducible refine wg_minus ?_ | with_reducible refine wg_sub ?_ | with_reducible refine wg_pow9 ?_ | with_reducible refine wg_pow6 ?_ | with_reducible refine wg_pow3 ?_ | with_reducible refine wg_pow18 ?_ | ((with_reducible apply wg_mod); (· sizeOf_list_dec)) | ((with_reducible apply wg_div); (· sizeOf_list_dec)) | ((with_reducible apply wg_mul); (· sizeOf_list_dec)) | ((with_reducible apply wg_mulA); (· sizeOf_list_dec)) | ((with_reducible apply wg_mulS1); (· sizeOf_list_dec)) | ((with_reducible apply wg_mulS); (· sizeOf_list_dec)) | with_reducible refine wg_lt ?_ | with_reducible refine wg_le ?_ | with_reducible refine wg_gt ?_ | with_reducible refine wg_ge ?_ | with_reducible refine wg_eq ?_ | with_reducible refine wg_ne ?_ | with_reducible refine wg_eqs ?_ | with_reducible refine wg_nes ?_ | with_reducible refine wg_eqnn ?_ | with_reducible refine wg_eqni ?_ | with_reducible refine wg_eqin ?_ | with_reducible refine wg_eqns ?_ | with_reducible refine wg_eqsn ?_ | with_reducible refine wg_nenn ?_ | with_reducible refine wg_neni ?_ | with_reducible refine wg_nein ?_ | with_reducible refine wg_nens ?_ | with_reducible refine wg_nesn ?_ | with_reducible refine wg_isNn ?_ | with_reducible refine wg_isNi ?_ | with_reducible refine wg_isNs ?_ | with_reducible refine wg_isNt ?_ | with_reducible refine wg_isNl ?_ | with_reducible refine wg_isNo ?_ | with_reducible refine wg_notNn ?_ | with_reducible refine wg_notNi ?_ | with_reducible refine wg_notNs ?_ | with_reducible refine wg_notNt ?_ | with_reducible refine wg_notNl ?_ | with_reducible refine wg_notNo ?_ | ((with_reducible apply wg_lenS); (· sizeOf_list_dec)) | with_reducible refine wg_lenL ?_ | with_reducible refine wg_lenT ?_ | ((with_reducible apply wg_lenM); (· array_mem_dec)) | ((with_reducible apply wg_lenD); (· array_mem_dec)) | with_reducible refine wg_intI ?_ | with_reducible refine wg_intB ?_ | with_reducible refine wg_ord ?_ | with_reducible refine wg_max2 ?_ | with_reducible refine wg_min2 ?_ | with_reducible refine key_int ?_ | with_reducible refine key_str ?_ | ((with_reducible apply wg_look); (· exact rfl)) | ((with_reducible apply wdicR); (· array_mem_dec)) | ((with_reducible apply wdicRF); (· array_mem_dec)) | ((with_reducible apply wdicAt); (· array_mem_dec)) | ((with_reducible apply wput_dic); (· array_mem_dec); (· exact rfl); (· sizeOf_list_dec)) | ((with_reducible apply wput_lst); (· array_mem_dec); (· sizeOf_list_dec)) | with_reducible refine wtr_b ?_ | with_reducible refine wtr_n ?_ | with_reducible refine wtr_i ?_ | ((with_reducible apply wtr_s); (· sizeOf_list_dec)) | with_reducible refine wtr_l ?_ | ((with_reducible apply wtr_m); (· array_mem_dec)) | ((with_reducible apply wtr_d); (· array_mem_dec)) | with_reducible refine wpart_n ?_ | with_reducible refine wpart_i ?_ | ((with_reducible apply wsl_s_to); (· sizeOf_list_dec)) | ((with_reducible apply wsl_s_from); (· sizeOf_list_dec)) | ((with_reducible apply wsl_s_mid); (· sizeOf_list_dec)) | with_reducible refine wsl_l_to ?_ | with_reducible refine wsl_l_from ?_ | with_reducible refine wsl_l_mid ?_ | ((with_reducible apply wsl_m_to); (· array_mem_dec)) | ((with_reducible apply wsl_m_from); (· array_mem_dec)) | ((with_reducible apply wsl_m_mid); (· array_mem_dec)) | with_reducible refine wseqL ?_ | with_reducible refine wseqT ?_ | with_reducible refine wseqS ?_ | ((with_reducible apply wseqM); (· array_mem_dec)) | with_reducible refine wstillL ?_ | ((with_reducible apply wstillF); (· array_mem_dec)) | ((with_reducible apply wcopyD); (· array_mem_dec)) | ((with_reducible apply wlistM); (· array_mem_dec)) | with_reducible refine wlistML ?_ | with_reducible refine wlistMT ?_ | with_reducible refine wlistL ?_ | with_reducible refine wlistT ?_ | ((with_reducible apply wlistO); (· array_mem_dec)) | ((with_reducible apply wgisiT); (· exact rfl); (· exact rfl)) | ((with_reducible apply wgisiF); (· exact rfl); (· exact rfl)) | ((with_reducible apply wgisiT); (· exact ty_dic (by array_mem_dec)); (· exact rfl)) | ((with_reducible apply wgisiF); (· exact ty_dic (by array_mem_dec)); (· exact rfl)) | ((with_reducible apply wgisiT); (· exact ty_lstM (by array_mem_dec)); (· exact rfl)) | ((with_reducible apply wgisiF); (· exact ty_lstM (by array_mem_dec)); (· exact rfl)) | ((with_reducible apply ixA_tup); (· exact rfl)) | ((with_reducible apply inA_non); (· array_mem_dec)) | ((with_reducible apply ninA_non); (· array_mem_dec)) | ((with_reducible apply inA_dic); (· array_mem_dec); (· exact rfl)) | ((with_reducible apply inA_dicF); (· array_mem_dec); (· exact rfl)) | ((with_reducible apply ninA_dic); (· array_mem_dec); (· exact rfl)) | ((with_reducible apply ninA_dicF); (· array_mem_dec); (· exact rfl)) ) | ((with_reducible refine id_b ?_); first | with_reducible refine wb_true ?_ | with_reducible refine wb_false ?_ | ((with_reducible apply wb_pos); (· (first | with_reducible exact rfl | assumption | omega | (simp only [List.length_cons, List.length_nil, List.length_map]); (·  omega)))) | ((with_reducible apply wb_neg); (· (first | with_reducible exact rfl | assumption | omega | (simp only [List.length_cons, List.length_nil, List.length_map]); (·  omega)))) | ((with_reducible apply wb_npos); (· (first | with_reducible exact rfl | assumption | omega | (simp only [List.length_cons, List.length_nil, List.length_map]); (·  omega)))) | ((with_reducible apply wb_nneg); (· (first | with_reducible exact rfl | assumption | omega | (simp only [List.length_cons, List.length_nil, List.length_map]); (·  omega)))) | ((with_reducible apply wb_t); (· assumption)) | ((with_reducible apply wb_f); (· assumption)) ) | ((with_reducible refine id_t ?_); first | with_reducible refine wt_T ?_ | with_reducible refine wt_n_0 ?_ | with_reducible refine wt_n_1 ?_ | with_reducible refine wt_n_2 ?_ | with_reducible refine wt_n_3 ?_ | with_reducible refine wt_n_4 ?_ | with_reducible refine wt_n_5 ?_ | with_reducible refine wt_n_6 ?_ | with_reducible refine wt_n_7 ?_ | with_reducible refine wt_n_8 ?_ | with_reducible refine wt_n_9 ?_ | with_reducible refine wt_n_10 ?_ | with_reducible refine wt_n_11 ?_ | with_reducible refine wt_n_12 ?_ | with_reducible refine wt_n_13 ?_ | with_reducible refine wt_n_14 ?_ | with_reducible refine wt_n_15 ?_ | with_reducible refine wt_n_16 ?_ | with_reducible refine wt_n_17 ?_ | with_reducible refine wt_n_18 ?_ | with_reducible refine wt_n_19 ?_ | with_reducible refine wt_n_20 ?_ | with_reducible refine wt_n_21 ?_ | with_reducible refine wt_n_22 ?_ | with_reducible refine wt_n_23 ?_ | with_reducible refine wt_n_24 ?_ | with_reducible refine wt_n_25 ?_ | with_reducible refine wt_n_26 ?_ | with_reducible refine wt_n_27 ?_ | with_reducible refine wt_n_28 ?_ | with_reducible refine wt_n_29 ?_ | with_reducible refine wt_n_30 ?_ | with_reducible refine wt_n_31 ?_ | with_reducible refine wt_n_32 ?_ | with_reducible refine wt_n_33 ?_ | with_reducible refine wt_n_34 ?_ | with_reducible refine wt_n_35 ?_ | with_reducible refine wt_n_36 ?_ | with_reducible refine wt_n_37 ?_ | with_reducible refine wt_n_38 ?_ | with_reducible refine wt_n_39 ?_) | with_reducible refine wts_cons ?_ | with_reducible refine wts_nil ?_ | ((with_reducible refine id_i ?_); first | with_reducible refine wi_rng ?_ | with_reducible refine wi_rng2 ?_ | with_reducible refine wi_seq ?_ | with_reducible refine wi_dic ?_ | with_reducible refine wi_rv ?_ | with_reducible refine wi_en ?_ | with_reducible refine wi_zp ?_) | ((with_reducible refine id_h ?_); first | ((with_reducible apply wh_no); (· exact rfl)) | ((with_reducible apply wh_bare); (· exact rfl)) | ((with_reducible apply wh_yes_0); (· exact rfl)) | ((with_reducible apply wh_yes_1); (· exact rfl)) | ((with_reducible apply wh_yes_2); (· exact rfl)) | ((with_reducible apply wh_yes_3); (· exact rfl)) | ((with_reducible apply wh_yes_4); (· exact rfl)) | ((with_reducible apply wh_yes_5); (· exact rfl)) | ((with_reducible apply wh_yes_6); (· exact rfl)) | ((with_reducible apply wh_yes_7); (· exact rfl)) | ((with_reducible apply wh_yes_8); (· exact rfl)) | ((with_reducible apply wh_yes_9); (· exact rfl)) | ((with_reducible apply wh_yes_10); (· exact rfl)) | ((with_reducible apply wh_yes_11); (· exact rfl)) | ((with_reducible apply wh_yes_12); (· exact rfl)) | ((with_reducible apply wh_yes_13); (· exact rfl)) | ((with_reducible apply wh_yes_14); (· exact rfl)) | ((with_reducible apply wh_yes_15); (· exact rfl)) | ((with_reducible apply wh_yes_16); (· exact rfl)) | ((with_reducible apply wh_yes_17); (· exact rfl)) | ((with_reducible apply wh_yes_18); (· exact rfl)) | ((with_reducible apply wh_yes_19); (· exact rfl)) | ((with_reducible apply wh_yes_20); (· exact rfl)) | ((with_reducible apply wh_yes_21); (· exact rfl)) | ((with_reducible apply wh_yes_22); (· exact rfl)) | ((with_reducible apply wh_yes_23); (· exact rfl)) | ((with_reducible apply wh_yes_24); (· exact rfl)) | ((with_reducible apply wh_yes_25); (· exact rfl)) | ((with_reducible apply wh_yes_26); (· exact rfl)) | ((with_reducible apply wh_yes_27); (· exact rfl)) | ((with_reducible apply wh_yes_28); (· exact rfl)) | ((with_reducible apply wh_yes_29); (· exact rfl)) | ((with_reducible apply wh_yes_30); (· exact rfl)) | ((with_reducible apply wh_yes_31); (· exact rfl)) | ((with_reducible apply wh_yes_32); (· exact rfl)) | ((with_reducible apply wh_yes_33); (· exact rfl)) | ((with_reducible apply wh_yes_34); (· exact rfl)) | ((with_reducible apply wh_yes_35); (· exact rfl)) | ((with_reducible apply wh_yes_36); (· exact rfl)) | ((with_reducible apply wh_yes_37); (· exact rfl)) | ((with_reducible apply wh_yes_38); (· exact rfl)) | ((with_reducible apply wh_yes_39); (· exact rfl)) | with_reducible refine wh_nil ?_) | ((with_reducible refine id_cl ?_); first | with_reducible refine wcl_0 ?_ | with_reducible refine wcl_1 ?_ | with_reducible refine wcl_2 ?_ | with_reducible refine wcl_3 ?_ | with_reducible refine wcl_4 ?_ | with_reducible refine wcl_5 ?_ | with_reducible refine wcl_6 ?_ | with_reducible refine wcl_7 ?_ | with_reducible refine wcl_8 ?_ | with_reducible refine wcl_9 ?_ | with_reducible refine wcl_10 ?_ | with_reducible refine wcl_11 ?_ | with_reducible refine wcl_12 ?_ | with_reducible refine wcl_13 ?_ | with_reducible refine wcl_14 ?_ | with_reducible refine wcl_15 ?_ | with_reducible refine wcl_16 ?_ | with_reducible refine wcl_17 ?_ | with_reducible refine wcl_18 ?_ | with_reducible refine wcl_19 ?_ | with_reducible refine wcl_20 ?_ | with_reducible refine wcl_21 ?_ | with_reducible refine wcl_22 ?_ | with_reducible refine wcl_23 ?_ | with_reducible refine wcl_24 ?_ | with_reducible refine wcl_25 ?_ | with_reducible refine wcl_26 ?_ | with_reducible refine wcl_27 ?_ | with_reducible refine wcl_28 ?_ | with_reducible refine wcl_29 ?_ | with_reducible refine wcl_30 ?_ | with_reducible refine wcl_31 ?_ | with_reducible refine wcl_32 ?_ | with_reducible refine wcl_33 ?_ | with_reducible refine wcl_34 ?_ | with_reducible refine wcl_35 ?_ | with_reducible refine wcl_36 ?_ | with_reducible refine wcl_37 ?_ | with_reducible refine wcl_38 ?_ | with_reducible refine wcl_39 ?_) | with_reducible refine wbl ?_ | with_reducible refine wnot_t ?_ | with_reducible refine wnot_f ?_ | with_reducible refine wnot_n ?_ | with_reducible refine wnot ?_ | with_reducible refine wint ?_ | with_reducible refine wstr ?_ | with_reducible refine wobj ?_ | with_reducible refine wnon ?_ | ((with_reducible apply wat); · array_mem_dec) | ((with_reducible refine wyes_c ?_ ?_); (· exact rfl)) | ((with_reducible refine wyes_k ?_ ?_); (· exact rfl)) | ((with_reducible refine wyes_d ?_ ?_); (· exact ⟨rfl, Nat.le_of_ble_eq_true rfl⟩)) | ((with_reducible refine wyes ?_ ?_); · sizeOf_list_dec) | with_reducible refine wyes wlstT ?_ | with_reducible refine wlst ?_ | with_reducible refine wins ?_ | with_reducible refine winm ?_)
theorem mixed_eq (c k : Int) (mu : Mu) : f__law_mixed [.int c, .int k] mu = .ok (.int (mix c k)) mu := mixF_eq c k mu
theorem lsign_eq (n : Int) (mu : Mu) : f__law_sign_by [.int n] mu = .ok (.str [sgS n]) mu := signS_eq n mu
theorem joined_eq {m : Mu} {x : DV} {fs : List (List Nat)} (hx : SeqAt' m x (fs.map .str)) (hl : fs.length ≤ 100) (hb : ∀ f, f ∈ fs → f.length ≤ 1000) : f_joined [x] m = .ok (.str (jn fs)) m := jnd_eq hx hl hb
theorem parted_eq {m : Mu} {fs : List (List Nat)} (h : fs ≠ []) (hl : fs.length ≤ 100) (hb : ∀ f, f ∈ fs → f.length ≤ 1000) (hj : (jn fs).length ≤ 900000) : WC f_parted [.str (jn fs)] m (fun v m' => v = .obj m.length ∧ m' = m ++ [.lst (fs.map .str)]) NoX := prt_eq h hl hb hj
local macro_rules | `(tactic| array_get_dec) => `(tactic| with_reducible refine ixA_l0 ?_)
local macro_rules | `(tactic| array_get_dec) => `(tactic| with_reducible refine ixA_l1 ?_)
local macro_rules | `(tactic| array_get_dec) => `(tactic| with_reducible refine ixA_l2 ?_)
local macro_rules | `(tactic| array_get_dec) => `(tactic| with_reducible refine ixA_l3 ?_)
local macro_rules | `(tactic| array_get_dec) => `(tactic| with_reducible refine ixA_l4 ?_)
local macro_rules | `(tactic| array_get_dec) => `(tactic| with_reducible refine ixA_l5 ?_)
local macro_rules | `(tactic| array_get_dec) => `(tactic| with_reducible refine ixA_l6 ?_)
local macro_rules | `(tactic| array_get_dec) => `(tactic| with_reducible refine ixA_l7 ?_)
local macro_rules | `(tactic| array_get_dec) => `(tactic| with_reducible refine wb_some ?_)
local macro_rules | `(tactic| array_get_dec) => `(tactic| with_reducible refine wb_none ?_)
local macro_rules | `(tactic| array_get_dec) => `(tactic| with_reducible refine wb_nsome ?_)
local macro_rules | `(tactic| array_get_dec) => `(tactic| with_reducible refine wb_nnone ?_)
local macro_rules | `(tactic| array_get_dec) => `(tactic| with_reducible refine wc_eq (mixed_eq _ _ _) ?_)
local macro_rules | `(tactic| array_get_dec) => `(tactic| with_reducible refine wc_eq (lsign_eq _ _) ?_)
theorem ltext_ex (c : Int) (m : Mu) : ∃ b : List Nat, f__law_text_by [.int c] m = .ok (.str b) m ∧ b.length ≤ 119 ∧ ∀ x, x ∈ b → x < 128 := by
  have h1 := mix_nn c 1
  have h3 := mix_nn c 3
  suffices h : WC f__law_text_by [.int c] m (fun v m' => m' = m ∧ ∃ b : List Nat, v = .str b ∧ b.length ≤ 119 ∧ ∀ x, x ∈ b → x < 128) NoX by
    obtain ⟨d, m1, e, rfl, b, rfl, h⟩ := wc_ex h
    exact ⟨b, e, h⟩
  unfold f__law_text_by b__law_text_by
  (refine wc_run rfl (by simp only [startD, List.map_cons, List.map_nil, List.length_cons, List.length_nil, Nat.reduceAdd, Nat.reduceSub, List.replicate, List.cons_append, List.nil_append] <;> exact rfl) ?_; repeat ((fail_if_success (with_reducible refine ws_if ?_)); array_get_dec))
  refine ws_nx (N' := fun dl' m2 => ∃ n : Nat, n ≤ 119 ∧ m2 = m ∧ dl' = [some (.int c), some (.int (n : Int)), none, none]) ?_ ?_
  · refine ws_if ?_
    repeat array_get_dec
    refine wb_dec (fun h => ?_) fun h => ?_
    · repeat array_get_dec
      obtain ⟨n, hn⟩ := Int.eq_ofNat_of_zero_le (show 0 ≤ mix c 3 % 120 by omega)
      rw [hn]
      exact ⟨n, by omega, rfl, rfl⟩
    · repeat array_get_dec
      obtain ⟨n, hn⟩ := Int.eq_ofNat_of_zero_le (show 0 ≤ mix c 1 % 10 by omega)
      rw [hn]
      exact ⟨n, by omega, rfl, rfl⟩
  rintro dl m' ⟨n, hn, rfl, rfl⟩
  repeat array_get_dec
  refine ws_for (xs := List.range n) (dv := fun u : Nat => DV.int (u : Int)) (fun pre dl m2 => m2 = m' ∧ ∃ (b : List Nat) (a3 : Option DV), dl = [some (.int c), some (.int (n : Int)), some (.str b), a3] ∧ b.length = pre.length ∧ ∀ x, x ∈ b → x < 128) ?_ ?_ ?_
  · repeat array_get_dec
    exact ⟨n, rfl, by omega, rfl, ⟨rfl, [], none, rfl, rfl, fun x h => by cases h⟩, still_none⟩
  · rintro pre u post dl m2 hx ⟨rfl, b, a4, rfl, hbl, hbc⟩
    have hu := range_pre hx
    have hlt : pre.length < n := by omega
    have hnn := mix_nn c (10 + (u : Int))
    repeat array_get_dec
    refine wb_dec (fun h => ?_) fun h => ?_
    · repeat array_get_dec
      refine ⟨rfl, _, _, rfl, by simp; omega, fun x hx => ?_⟩
      rcases List.mem_append.mp hx with h | h
      · exact hbc x h
      · rw [List.mem_singleton.mp h]; exact sgS_lt _
    · repeat array_get_dec
      obtain ⟨k, hk⟩ := Int.eq_ofNat_of_zero_le (show 0 ≤ mix c (10 + (u : Int)) % 4 by omega)
      rw [hk]
      have hk4 : k < 4 := by omega
      obtain ⟨s, hs, hs2⟩ : ∃ s, ([126, 59, 119, 115] : List Nat)[k]? = some s ∧ s < 128 := by
        match k, hk4 with
        | 0, _ => exact ⟨126, rfl, by decide⟩
        | 1, _ => exact ⟨59, rfl, by decide⟩
        | 2, _ => exact ⟨119, rfl, by decide⟩
        | 3, _ => exact ⟨115, rfl, by decide⟩
      refine ixA_str (n := k) (by decide) hs ?_
      repeat array_get_dec
      refine ⟨rfl, _, _, rfl, by simp; omega, fun x hx => ?_⟩
      rcases List.mem_append.mp hx with h | h
      · exact hbc x h
      · rw [List.mem_singleton.mp h]; exact hs2
  · rintro dl m2 ⟨rfl, b, a4, rfl, hbl, hbc⟩
    rw [List.length_range] at hbl
    repeat array_get_dec
    exact ⟨rfl, b, rfl, by omega, hbc⟩
theorem lwritten_eq (x : List Nat) (hx : x.length ≤ 1000) (m : Mu) : f__law_written [.str x] m = .ok (.str (wr x)) m := by
  refine wc_same ?_
  unfold f__law_written b__law_written
  (refine wc_run rfl (by simp only [startD, List.map_cons, List.map_nil, List.length_cons, List.length_nil, Nat.reduceAdd, Nat.reduceSub, List.replicate, List.cons_append, List.nil_append] <;> exact rfl) ?_; repeat array_get_dec)
  refine ws_lkn (pickD_no (ev_var rfl) fun j z => by cases z) ?_
  refine ws_for (xs := x) (dv := fun c : Nat => .str [c]) (fun pre dl m' => m' = m ∧ ∃ a2 : Option DV, dl = [some (.str x), some (.str (wr pre)), a2]) ?_ ?_ ?_
  · refine wi_aL (ev_var rfl) rfl ?_
    exact ⟨rfl, ⟨rfl, none, rfl⟩, still_none⟩
  · rintro pre c post dl m' hx2 ⟨rfl, a2, rfl⟩
    have e : wr (pre ++ [c]) = wr pre ++ wr1 c := by unfold wr; rw [List.flatMap_append, List.flatMap_cons, List.flatMap_nil, List.append_nil]
    have hlen := congrArg List.length hx2
    rw [List.length_append, List.length_cons] at hlen
    have hwl := wr_len pre
    rw [e]
    repeat array_get_dec
    refine wb_dec (fun c1 => ?_) fun c1 => ?_
    · have c1 : c = 126 := by simpa using c1
      have e1 : wr1 c = [126, 119] := if_pos c1
      rw [e1]
      repeat array_get_dec
      exact ⟨rfl, _, rfl⟩
    · have c1 : c ≠ 126 := by simpa using c1
      repeat array_get_dec
      refine wb_dec (fun c2 => ?_) fun c2 => ?_
      · have c2 : c = 59 := by simpa using c2
        have e1 : wr1 c = [126, 115] := (if_neg c1).trans (if_pos c2)
        rw [e1]
        repeat array_get_dec
        exact ⟨rfl, _, rfl⟩
      · have c2 : c ≠ 59 := by simpa using c2
        have e1 : wr1 c = [c] := (if_neg c1).trans (if_neg c2)
        rw [e1]
        repeat array_get_dec
        exact ⟨rfl, _, rfl⟩
  · rintro dl m' ⟨rfl, a2, rfl⟩
    repeat array_get_dec
    exact ⟨rfl, rfl⟩
theorem law_main (ns : List Int) (hl : ns.length ≤ 63) (mu : Mu) : WC f_law (lawIn ns) mu (fun d _ => d = .bl true) NoX := by
  unfold f_law b_law lawIn
  have hex := fun c => ltext_ex c mu
  let tx := fun c => (hex c).choose
  have h1 : ∀ c, f__law_text_by [.int c] mu = .ok (.str (tx c)) mu := fun c => (hex c).choose_spec.1
  have h2 : ∀ c, (tx c).length ≤ 119 := fun c => (hex c).choose_spec.2.1
  have h3 : ∀ c, ∀ x, x ∈ tx c → x < 128 := fun c => (hex c).choose_spec.2.2
  clear_value tx
  have hlt : (ns.take 60).length ≤ 60 := by rw [List.length_take]; omega
  (refine wc_run rfl (by simp only [startD, List.map_cons, List.map_nil, List.length_cons, List.length_nil, Nat.reduceAdd, Nat.reduceSub, List.replicate, List.cons_append, List.nil_append] <;> exact rfl) ?_; repeat array_get_dec)
  refine we_comp (xs := ns.take 60) (dv := DV.int) (fun c => .str (tx c)) (fun _ => true) ?_
  repeat array_get_dec
  refine wsl_l_to ?_
  repeat array_get_dec
  refine ⟨by rw [List.map_take], by omega, fun c hc => ?_, ?_⟩
  · simp only [wipeD, List.set_cons_zero, List.set_cons_succ]
    repeat array_get_dec
    refine ⟨rfl, rfl, fun _ => ?_⟩
    repeat array_get_dec
    exact wc_eq (h1 c) ⟨rfl, rfl⟩
  rw [List.filter_eq_self.mpr fun _ _ => rfl]
  refine wo_finL ?_
  have e1 : ((ns.take 60).map fun c => DV.str (tx c)) = ((ns.take 60).map tx).map DV.str := by rw [List.map_map]; rfl
  have hb : ∀ f, f ∈ (ns.take 60).map tx → f.length ≤ 119 ∧ ∀ x, x ∈ f → x < 128 := fun f hf => by
    obtain ⟨c, _, rfl⟩ := List.mem_map.mp hf
    exact ⟨h2 c, h3 c⟩
  have hfl : ((ns.take 60).map tx).length ≤ 60 := by rw [List.length_map]; exact hlt
  rw [e1]
  generalize (ns.take 60).map tx = fs at hb hfl ⊢
  have ok8 : ∀ {fs : List (List Nat)}, (∀ f, f ∈ fs → f.length ≤ 119 ∧ ∀ x, x ∈ f → x < 128) → PV.ok 8 (.lst (fs.map PV.str)) := fun {fs} hb p hp => by
    obtain ⟨a, ha, rfl⟩ := List.mem_map.mp hp
    exact str_ok (hb a ha).2 6
  repeat ((fail_if_success (with_reducible refine ws_if ?_)); array_get_dec)
  refine ws_nx (N' := fun dl m => m = mu ∧ ∃ fs : List (List Nat), fs ≠ [] ∧ fs.length ≤ 60 ∧ (∀ f, f ∈ fs → f.length ≤ 119 ∧ ∀ x, x ∈ f → x < 128) ∧ dl = [some (.lst (ns.map DV.int)), some (.lst (fs.map DV.str)), none, none, none, none, none, none]) ?_ ?_
  · refine ws_if ?_
    repeat array_get_dec
    refine wg_of (gEq_rep (p := .lst (fs.map PV.str)) (q := .lst []) (rep_lst (fun a => .str a) fs) (rep_lst (f := DV.str) (g := PV.str) (fun a => .str a) []) (ok8 hb) (fun p hp => by cases hp)) ?_
    have e : (PV.lst (fs.map PV.str) = PV.lst []) ↔ fs = [] := ⟨fun z => by
      injection z with z
      exact List.map_eq_nil_iff.mp z, fun z => by rw [z]; rfl⟩
    rw [decide_eq_decide.mpr e]
    repeat array_get_dec
    refine wb_dec (fun c => ?_) fun c => ?_
    · repeat array_get_dec
      exact ⟨rfl, [[]], by simp, by decide, fun f hf => by rw [List.mem_singleton.mp hf]; exact ⟨Nat.zero_le _, fun x hx => nomatch hx⟩, rfl⟩
    · repeat array_get_dec
      exact ⟨rfl, fs, c, hfl, hb, rfl⟩
  rintro dl m ⟨rfl, fs, hne, hfl, hb, rfl⟩
  have hj1 := jn_len (fs := fs) (n := 119) fun f hf => (hb f hf).1
  repeat array_get_dec
  refine we_lkn (pickD_no (ev_var rfl) fun j z => by cases z) ?_
  refine we_comp (xs := fs) (dv := DV.str) (fun f => .str (wr f)) (fun _ => true) ?_
  refine wi_aL (ev_var rfl) rfl ?_
  refine ⟨rfl, by omega, fun f hf => ?_, ?_⟩
  · simp only [wipeD, List.set_cons_zero, List.set_cons_succ]
    repeat array_get_dec
    refine ⟨rfl, rfl, fun _ => ?_⟩
    repeat array_get_dec
    exact wc_eq (lwritten_eq f (by have := (hb f hf).1; omega) _) ⟨rfl, rfl⟩
  rw [List.filter_eq_self.mpr fun _ _ => rfl]
  refine wo_finL ?_
  rw [show (fs.map fun f => DV.str (wr f)) = (fs.map wr).map DV.str by rw [List.map_map]; rfl]
  have h4 := sum_le (ls := fs.map wr) (n := 238) fun l hl => by
    obtain ⟨f, hf, rfl⟩ := List.mem_map.mp hl
    have := (hb f hf).1
    have := wr_len f
    omega
  have e5 : (fs.map wr).length = fs.length := List.length_map ..
  refine wg_join (by show ((fs.map wr).map (fun l : List Nat => l.length)).sum + (fs.map wr).length * 1 ≤ 1000000; omega) ?_
  rw [show TL.joinL [59] (fs.map wr) = jn fs from rfl]
  have hj : ∀ m : Mu, f_joined [.lst (fs.map .str)] m = .ok (.str (jn fs)) m := fun m => joined_eq (.inr rfl) (by omega) fun f hf => by have := (hb f hf).1; omega
  repeat array_get_dec
  refine wc_eq (hj _) ?_
  repeat array_get_dec
  refine wg_of (gNe_same (rep_lst (fun a => .str a) fs) (rep_lst (fun a => .str a) fs) (ok8 hb)) ?_
  repeat array_get_dec
  refine wc_call (parted_eq hne (by omega) (fun f hf => by have := (hb f hf).1; omega) (by omega)) ?_
  rintro _ m1 ⟨rfl, rfl⟩
  repeat array_get_dec
  refine wg_of (gNe_same (rep_obj (fun a => .str a) fs mem_new) (rep_lst (fun a => .str a) fs) (ok8 hb)) ?_
  repeat array_get_dec
  refine wc_call (parted_eq hne (by omega) (fun f hf => by have := (hb f hf).1; omega) (by omega)) ?_
  rintro _ m1 ⟨rfl, rfl⟩
  repeat array_get_dec
  refine wg_of (gEq_same (rep_obj (fun a => .str a) fs mem_new) (rep_lst (fun a => .str a) fs) (ok8 hb)) ?_
  repeat array_get_dec
  refine wc_eq (hj _) ?_
  repeat array_get_dec
  rw [decide_eq_true rfl]
theorem law_true (ns : List Int) (hl : ns.length ≤ 63) : ∃ mu, f_law (DM.lawIn ns) [] = .ok (.bl true) mu := by
  obtain ⟨d, m, e, rfl⟩ := wc_ex (law_main ns hl [])
  exact ⟨m, e⟩

end LawM
open PySem PySem.W PySem.Calls PyProof.Rows
set_option maxRecDepth 100000 in
set_option maxHeartbeats 0 in
theorem PySem.Challenge.cw_lettercell_k11_texts_joined_holds : PySem.Challenge.rw_lettercell_k11_texts_joined.Holds := by
  w_on; o_law
  refine HandSHeadRun.head_any (r := OpenLaw.row PySem.Challenge.rw_lettercell_k11_texts_joined) (q := view (OpenLaw.row PySem.Challenge.rw_lettercell_k11_texts_joined).prog [12]) (H := LawM.hk) (ob := LawM.ob) (M := 4000) (loose := LawM.loose) (d := HandSHeadRun.topDef (OpenLaw.row PySem.Challenge.rw_lettercell_k11_texts_joined).prog 12) (kwd := []) LawM.ob_eq
    (by kernel_rfl) (fun s => by kernel_rfl) LawM.run (by kernel_rfl) (by kernel_rfl) (by kernel_rfl) (by rfl) (by first | assumption | decide +kernel) (by decide +kernel) ⟨rfl, rfl, rfl, rfl, rfl, by decide +kernel⟩ ?hw ?hc
  case hw => w_witness2
  case hc =>
    refine L2.walk_ofE (l := PySem.Challenge.rw_lettercell_k11_texts_joined) (n := 63) (k := 5) (x := "_law_script") (CX := L2.CX0) rfl (by decide) (by kernel_rfl) ⟨rfl, by decide, by decide⟩ ?F (fun _ _ _ _ z => z)
    intro w mg fa h Y G hmg0
    obtain ⟨K, KX, c⟩ := Y
    have hmg : mg ("law" : PySem.Str) = some (.ref fa) := by
      have e : (HandSHeadRun.topDef (OpenLaw.row PySem.Challenge.rw_lettercell_k11_texts_joined).prog 12).name = ("law" : PySem.Str) := by kernel_rfl
      rw [← e]
      exact hmg0
    have T := LawM.tx KX G c
    obtain ⟨fd, Fd⟩ := T.d_law
    have e := hmg.symm.trans T.g_law
    cases e
    have b := Fd.bindsA (ps := ["_law_script"]) fun _ _ _ _ _ _ us hl => match us, hl with | [_], _ => rfl
    exact ⟨K, fd, fun vs H Q _ => DM.spF K (LawM.cmK K) 1 LawM.f_law vs H Q (fun _ _ _ => False), KX, fun s v => b s [v] rfl, fun H a ns hl hO hS => DM.law_sp hO hS (LawM.law_true ns hl), fun base _ _ => DM.noexc (LawM.p_law T Fd)⟩
