import PyProof.Rows.All
import HandS.ForMost
import HandS.Exc
import HandS.WordsExc
import HandS.CallSlots
import HandS.Walk
import HandS.Evl
import HandS.Slots
import HandS.More
import HandS.Wide
import HandS.TupAny
import HandS.Deep
import HandS.IsInst
import HandS.RaiseMore
import HandS.Flow
import KE.SortData
import KE.GoesEnum
import KE.GoesNew
import HandS.Style
import HandS.TryOnly
import HandS.Defaults
import HandS.HeadEnd
import HandS.HeadHook4
import HandS.Head0
import HandS.Head1
import HandS.Head2
import Wide.Once
import PySem.Challenge.RW_sidesigns_k00_rows_sign_by_sign
set_option Elab.async false
set_option linter.all false
set_option maxRecDepth 100000
set_option maxHeartbeats 0
namespace DL
open PySem PySem.Spec PyProof.Rows L2
abbrev Frag := PySem.W.Frag
/-- pure data; a text is its code points -/
inductive D where
  | non | bl (b : Bool) | int (i : Int) | str (s : List Nat) | ref (a : Addr) | ty (n : String)
  | tup (xs : List D) | lst (xs : List D) | scr (xs : List Int) | dic (kvs : List (D × D)) | dcw (kvs : List (D × D)) | obj (C : Addr) (fs : List (Option D))

abbrev Ex := Evl.Ex
theorem ex_upd {F : Hp} {p : Addr} {o : HO} (h : F p = none) : Ex F (upd F p o) := Evl.Ex.new h
theorem ex_lift {F H : Hp} {p : Addr} {o : HO} (e : Ex F H) (h : F p = none) : Ex F (upd H p o) := Evl.Ex.mut e h

mutual
inductive Rp (K : Frag) (w : World) (F : Hp) : D → V → Prop
  | non : Rp K w F .non .non
  | bl (b : Bool) : Rp K w F (.bl b) (.bl b)
  | int (i : Int) : Rp K w F (.int i) (.int i)
  | str (s : List Nat) : Rp K w F (.str s) (.str ⟨s.toArray⟩)
  | ref (a : Addr) : Rp K w F (.ref a) (.ref a)
  | ty (n : String) : Rp K w F (.ty n) (.ty n)
  | tup {a : Addr} {vs : List V} {ds : List D} : SqT K F a vs → RpL K w F ds vs → Rp K w F (.tup ds) (.ref a)
  | lst {a : Addr} {vs : List V} {ds : List D} : F a = some (.lst vs) → RpL K w F ds vs → Rp K w F (.lst ds) (.ref a)
  | scr {a : Addr} {ns : List Int} : SqL K F a (ns.map V.int) → Rp K w F (.scr ns) (.ref a)
  | dic {a : Addr} {o : Obj} {kk : List (Key × V)} {kvs : List (D × D)} : F a = some (.frz o (.dK kk)) → RpK K w F kvs kk → Rp K w F (.dic kvs) (.ref a)
  | dcw {a : Addr} {es : Array DictEntry} {n : Nat} {kvs : List (D × D)} : KDict K w a es n → RpW K w F a kvs → Rp K w F (.dcw kvs) (.ref a)
inductive RpL (K : Frag) (w : World) (F : Hp) : List D → List V → Prop
  | nil : RpL K w F [] []
  | cons {d : D} {ds : List D} {v : V} {vs : List V} : Rp K w F d v → RpL K w F ds vs → RpL K w F (d :: ds) (v :: vs)
inductive RpK (K : Frag) (w : World) (F : Hp) : List (D × D) → List (Key × V) → Prop
  | nil : RpK K w F [] []
  | int {i : Int} {d : D} {ds : List (D × D)} {v : V} {vs : List (Key × V)} : Rp K w F d v → RpK K w F ds vs → RpK K w F ((.int i, d) :: ds) ((.inl i, v) :: vs)
  | str {s : List Nat} {d : D} {ds : List (D × D)} {v : V} {vs : List (Key × V)} : Rp K w F d v → RpK K w F ds vs → RpK K w F ((.str s, d) :: ds) ((.inr ⟨s.toArray⟩, v) :: vs)
inductive RpW (K : Frag) (w : World) (F : Hp) : Addr → List (D × D) → Prop
  | nil {a : Addr} : RpW K w F a []
  | str {a : Addr} {s : List Nat} {d : D} {u : Value} {v : V} {ds : List (D × D)} : PySem.W.nsIn K a ⟨s.toArray⟩ = some (some u) → RelV v u → Rp K w F d v → RpW K w F a ds → RpW K w F a ((.str s, d) :: ds)
end

section
variable {K : Frag} {w : World} {F F' H H' : Hp}
mutual
theorem Rp.mono (e : Ex F F') : ∀ {d : D} {v : V}, Rp K w F d v → Rp K w F' d v
  | _, _, .non => .non
  | _, _, .bl b => .bl b
  | _, _, .int i => .int i
  | _, _, .str s => .str s
  | _, _, .ref a => .ref a
  | _, _, .ty n => .ty n
  | _, _, .tup h hs => .tup (Evl.ex_t e h) (RpL.mono e hs)
  | _, _, .lst h hs => .lst (e _ _ h) (RpL.mono e hs)
  | _, _, .scr h => .scr (Evl.ex_l e h)
  | _, _, .dic h hs => .dic (e _ _ h) (RpK.mono e hs)
  | _, _, .dcw h hs => .dcw h (RpW.mono e hs)
theorem RpL.mono (e : Ex F F') : ∀ {ds : List D} {vs : List V}, RpL K w F ds vs → RpL K w F' ds vs
  | _, _, .nil => .nil
  | _, _, .cons h hs => .cons (Rp.mono e h) (RpL.mono e hs)
theorem RpK.mono (e : Ex F F') : ∀ {ds : List (D × D)} {vs : List (Key × V)}, RpK K w F ds vs → RpK K w F' ds vs
  | _, _, .nil => .nil
  | _, _, .int h hs => .int (Rp.mono e h) (RpK.mono e hs)
  | _, _, .str h hs => .str (Rp.mono e h) (RpK.mono e hs)
theorem RpW.mono (e : Ex F F') : ∀ {a : Addr} {ds : List (D × D)}, RpW K w F a ds → RpW K w F' a ds
  | _, _, .nil => .nil
  | _, _, .str h r p hs => .str h r (Rp.mono e p) (RpW.mono e hs)
end
theorem RpL.length : ∀ {ds : List D} {vs : List V}, RpL K w F ds vs → ds.length = vs.length
  | _, _, .nil => rfl
  | _, _, .cons _ hs => congrArg (· + 1) (RpL.length hs)
theorem RpL.append : ∀ {ds es : List D} {vs us : List V}, RpL K w F ds vs → RpL K w F es us → RpL K w F (ds ++ es) (vs ++ us)
  | _, _, _, _, .nil, h => h
  | _, _, _, _, .cons h hs, h' => .cons h (RpL.append hs h')
theorem RpL.get : ∀ {ds : List D} {vs : List V} {i : Nat} {d : D}, RpL K w F ds vs → ds[i]? = some d → ∃ v, vs[i]? = some v ∧ Rp K w F d v
  | _, _, 0, _, .cons h _, e => by
    simp at e
    subst e
    exact ⟨_, rfl, h⟩
  | _, _, i + 1, _, .cons _ hs, e => by
    obtain ⟨v, h1, h2⟩ := RpL.get (i := i) hs (by simpa using e)
    exact ⟨v, by simpa using h1, h2⟩
  | _, _, _, _, .nil, e => by simp at e
theorem RpL.get' : ∀ {ds : List D} {vs : List V} {i : Nat} {v : V}, RpL K w F ds vs → vs[i]? = some v → ∃ d, ds[i]? = some d ∧ Rp K w F d v
  | _, _, 0, _, .cons h _, e => by
    simp at e
    subst e
    exact ⟨_, rfl, h⟩
  | _, _, i + 1, _, .cons _ hs, e => by
    obtain ⟨v, h1, h2⟩ := RpL.get' (i := i) hs (by simpa using e)
    exact ⟨v, by simpa using h1, h2⟩
  | _, _, _, _, .nil, e => by simp at e
theorem RpL.take : ∀ {ds : List D} {vs : List V} (n : Nat), RpL K w F ds vs → RpL K w F (ds.take n) (vs.take n)
  | _, _, 0, _ => by simpa using RpL.nil
  | _, _, n + 1, .nil => by simpa using RpL.nil
  | _, _, n + 1, .cons h hs => .cons h (RpL.take n hs)
theorem RpL.drop : ∀ {ds : List D} {vs : List V} (n : Nat), RpL K w F ds vs → RpL K w F (ds.drop n) (vs.drop n)
  | _, _, 0, h => h
  | _, _, n + 1, .nil => by simpa using RpL.nil
  | _, _, n + 1, .cons _ hs => RpL.drop n hs
theorem RpL.reverse {ds : List D} {vs : List V} (h : RpL K w F ds vs) : RpL K w F ds.reverse vs.reverse := by
  induction ds generalizing vs with
  | nil => cases h; exact .nil
  | cons d ds ih =>
    cases h with
    | cons h hs =>
      rw [List.reverse_cons, List.reverse_cons]
      exact (ih hs).append (.cons h .nil)
theorem RpL.set : ∀ {ds : List D} {vs : List V} {d : D} {v : V} (i : Nat), Rp K w F d v → RpL K w F ds vs → RpL K w F (ds.set i d) (vs.set i v)
  | _, _, _, _, _, _, .nil => .nil
  | _, _, _, _, 0, r, .cons _ hs => .cons r hs
  | _, _, _, _, i + 1, r, .cons h hs => .cons h (RpL.set i r hs)
theorem RpL.dropLast {ds : List D} {vs : List V} (h : RpL K w F ds vs) : RpL K w F ds.dropLast vs.dropLast := by
  rw [List.dropLast_eq_take, List.dropLast_eq_take, h.length]
  exact h.take _

/-- data that one owner alone holds; P: whose addresses these are -/
inductive OwnAt (K : Frag) (w : World) (F H : Hp) (P : Addr → Prop) : D → V → Prop
  | lst {a : Addr} {vs : List V} {ds : List D} : P a → H a = some (.lst vs) → RpL K w F ds vs → OwnAt K w F H P (.lst ds) (.ref a)
  | dic {a : Addr} {kk : List (Key × V)} {kvs : List (D × D)} : P a → H a = some (.dK kk) → RpK K w F kvs kk → OwnAt K w F H P (.dic kvs) (.ref a)
theorem OwnAt.mono {P P' : Addr → Prop} {d : D} {v : V} (h : OwnAt K w F H P d v) (e : Ex F F') (k : ∀ a o, P a → H a = some o → P' a ∧ H' a = some o) : OwnAt K w F' H' P' d v := by
  cases h with
  | lst p q r => exact .lst (k _ _ p q).1 (k _ _ p q).2 (r.mono e)
  | dic p q r => exact .dic (k _ _ p q).1 (k _ _ p q).2 (r.mono e)

inductive Sl where
  | fz (d : D) | ow (d : D)
abbrev SD := List (Option Sl)
inductive Rs where
  | fz (d : D) | ow (d : D) | pk (i : Nat)
/-- a slot's value -/
def SlR (K : Frag) (w : World) (F H : Hp) (P : Addr → Prop) : Sl → V → Prop
  | .fz d, v => Rp K w F d v
  | .ow d, v => OwnAt K w F H P d v

abbrev Own := Addr → Option (Sum Nat Nat)
/-- the activation: the frozen heap and the heap at its entry, what was lent to it -/
structure Ctx where
  F0 : Hp
  H0 : Hp
  B : Addr → Prop
  pin : Nat → Option Addr
abbrev Tms := List (D × V)
structure Rel (K : Frag) (w : World) (c : Ctx) (own : Own) (F H : Hp) (σd : SD) (σ : L2.St) (T : Tms) : Prop where
  fh : Ex F H
  f0 : Ex c.F0 F
  slot : ∀ i s, σd[i]? = some (some s) → ∃ v, σ[i]? = some (some v) ∧ SlR K w F H (fun a => own a = some (.inl i)) s v
  tmp : ∀ k d v, T[k]? = some (d, v) → OwnAt K w F H (fun a => own a = some (.inr k)) d v
  owns : ∀ a k, own a = some k → F a = none ∧ H a ≠ none ∧ (c.H0 a = none ∨ c.B a)
  keep : ∀ a o, c.H0 a = some o → ¬ c.B a → H a = some o ∧ (c.F0 a = none → F a = none)
  mono : ∀ a, H a = none → c.H0 a = none
  len : σd.length = σ.length
  pins : ∀ i a, c.pin i = some a → σ[i]? = some (some (.ref a))
variable {c : Ctx} {own : Own} {σd : SD} {σ : L2.St} {T : Tms}

theorem pins_set {i j : Nat} {a : Addr} {ov : Option V} (hp : c.pin i = none) (h : σ[j]? = some (some (.ref a))) (q : c.pin j = some a) : (σ.set i ov)[j]? = some (some (.ref a)) := by
  have z : i ≠ j := fun z => by
    subst z
    rw [hp] at q
    cases q
  rw [List.getElem?_set_ne z]
  exact h
theorem Rel.notF (R : Rel K w c own F H σd σ T) {p : Addr} (h : H p = none) : F p = none := by
  cases q : F p with
  | none => rfl
  | some o =>
    rw [R.fh p o q] at h
    cases h
theorem Rel.notOwn (R : Rel K w c own F H σd σ T) {p : Addr} (h : H p = none) : own p = none := by
  cases q : own p with
  | none => rfl
  | some k => exact absurd h (R.owns p k q).2.1
/-- a new frozen object -/
theorem Rel.newF (R : Rel K w c own F H σd σ T) {p : Addr} {o : HO} (h : H p = none) : Rel K w c own (upd F p o) (upd H p o) σd σ T := by
  have hF := R.notF h
  have hO := R.notOwn h
  have e : Ex F (upd F p o) := ex_upd hF
  have k : ∀ (q : Addr → Prop) a u, q a → H a = some u → q a ∧ upd H p o a = some u := fun q a u qa ha => ⟨qa, by rw [upd_ne (ne_of_none ha h)]; exact ha⟩
  refine ⟨fun a u q => ?_, fun a u q => e a u (R.f0 a u q), fun i s q => ?_, fun j d v q => (R.tmp j d v q).mono e (k _), fun a j q => ?_, fun a u q nb => ?_, fun a q => ?_, R.len, R.pins⟩
  · by_cases z : a = p
    · subst z
      rw [upd_same] at q ⊢
      exact q
    · rw [upd_ne z] at q ⊢
      exact R.fh a u q
  · obtain ⟨v, h1, h2⟩ := R.slot i s q
    refine ⟨v, h1, ?_⟩
    cases s with
    | fz d => exact Rp.mono e h2
    | ow d => exact OwnAt.mono h2 e (k _)
  · have np : a ≠ p := fun z => by
      subst z
      rw [hO] at q
      cases q
    obtain ⟨h1, h2, h3⟩ := R.owns a j q
    exact ⟨by rw [upd_ne np]; exact h1, by rw [upd_ne np]; exact h2, h3⟩
  · obtain ⟨h1, h2⟩ := R.keep a u q nb
    have np : a ≠ p := ne_of_none h1 h
    exact ⟨by rw [upd_ne np]; exact h1, fun z => by rw [upd_ne np]; exact h2 z⟩
  · by_cases z : a = p
    · subst z
      rw [upd_same] at q
      cases q
    · rw [upd_ne z] at q
      exact R.mono a q
/-- a new owned object, a temporary -/
theorem Rel.newT (R : Rel K w c own F H σd σ T) {p : Addr} {o : HO} {d : D} (h : H p = none) (ho : OwnAt K w F (upd H p o) (fun a => a = p) d (.ref p)) :
    Rel K w c (fun a => if a = p then some (.inr T.length) else own a) F (upd H p o) σd σ (T ++ [(d, .ref p)]) := by
  have hF := R.notF h
  have hO := R.notOwn h
  have k : ∀ (x : Sum Nat Nat) a u, own a = some x → H a = some u → (if a = p then some (.inr T.length) else own a) = some x ∧ upd H p o a = some u := fun x a u qa ha => by
    have np : a ≠ p := ne_of_none ha h
    rw [if_neg np, upd_ne np]
    exact ⟨qa, ha⟩
  refine ⟨ex_lift R.fh hF, R.f0, fun i s q => ?_, fun j d' v q => ?_, fun a j q => ?_, fun a u q nb => ?_, fun a q => ?_, R.len, R.pins⟩
  · obtain ⟨v, h1, h2⟩ := R.slot i s q
    refine ⟨v, h1, ?_⟩
    cases s with
    | fz d => exact h2
    | ow d => exact OwnAt.mono h2 (Evl.Ex.refl F) (k _)
  · by_cases hj : j < T.length
    · rw [List.getElem?_append_left hj] at q
      exact (R.tmp j d' v q).mono (Evl.Ex.refl F) (k _)
    · rw [List.getElem?_append_right (by omega)] at q
      have e0 : j - T.length = 0 := by
        cases z : j - T.length with
        | zero => rfl
        | succ m => rw [z] at q; simp at q
      rw [e0] at q
      simp at q
      obtain ⟨rfl, rfl⟩ := q
      have ej : j = T.length := by omega
      subst ej
      exact ho.mono (Evl.Ex.refl F) fun a u pa ha => ⟨by rw [if_pos pa], ha⟩
  · by_cases z : a = p
    · subst z
      exact ⟨hF, (by rw [upd_same]; exact fun z => (nomatch z)), .inl (R.mono a h)⟩
    · rw [if_neg z] at q
      obtain ⟨h1, h2, h3⟩ := R.owns a j q
      exact ⟨h1, by rw [upd_ne z]; exact h2, h3⟩
  · obtain ⟨h1, h2⟩ := R.keep a u q nb
    have np : a ≠ p := ne_of_none h1 h
    exact ⟨by rw [upd_ne np]; exact h1, h2⟩
  · by_cases z : a = p
    · subst z
      rw [upd_same] at q
      cases q
    · rw [upd_ne z] at q
      exact R.mono a q
/-- a temporary forgotten -/
theorem Rel.dropT {T' : Tms} (R : Rel K w c own F H σd σ (T ++ T')) : Rel K w c own F H σd σ T :=
  ⟨R.fh, R.f0, R.slot, fun k d v q => R.tmp k d v (by
    have hk : k < T.length := (List.getElem?_eq_some_iff.mp q).1
    rw [List.getElem?_append_left hk]
    exact q), R.owns, R.keep, R.mono, R.len, R.pins⟩
/-- the owner x's objects frozen -/
def frzF (own : Own) (x : Sum Nat Nat) (F H : Hp) : Hp := fun a => if own a = some x then H a else F a
def frzO (own : Own) (x : Sum Nat Nat) : Own := fun a => if own a = some x then none else own a
theorem Rel.frz_ex (R : Rel K w c own F H σd σ T) (x : Sum Nat Nat) : Ex F (frzF own x F H) := fun a o q => by
  unfold frzF
  by_cases z : own a = some x
  · rw [if_pos z]
    exact R.fh a o q
  · rw [if_neg z]
    exact q
/-- what may be frozen as it stands -/
def isLst : D → Bool
  | .lst _ => true
  | _ => false
theorem OwnAt.frozen {P : Addr → Prop} {d : D} {v : V} (h : OwnAt K w F H P d v) (hd : isLst d = true) (e : Ex F F') (k : ∀ a, P a → F' a = H a) : Rp K w F' d v := by
  cases h with
  | lst p q r => exact .lst (by rw [k _ p]; exact q) (r.mono e)
  | dic p q r => cases hd
theorem OwnAt.frozenLst {P : Addr → Prop} {ds : List D} {v : V} (h : OwnAt K w F H P (.lst ds) v) (e : Ex F F') (k : ∀ a, P a → F' a = H a) : Rp K w F' (.lst ds) v := by
  cases h with
  | lst p q r => exact .lst (by rw [k _ p]; exact q) (r.mono e)

theorem Rel.freezeT (R : Rel K w c own F H σd σ (T ++ [(d, v)])) (hd : isLst d = true) :
    Rel K w c (frzO own (.inr T.length)) (frzF own (.inr T.length) F H) H σd σ T ∧ Rp K w (frzF own (.inr T.length) F H) d v := by
  have e := R.frz_ex (.inr T.length)
  refine ⟨⟨fun a u q => ?_, fun a u q => e a u (R.f0 a u q), fun i s q => ?_, fun j d' v' q => ?_, fun a j q => ?_, fun a u q nb => ?_, R.mono, R.len, R.pins⟩, ?_⟩
  · unfold frzF at q
    by_cases z : own a = some (.inr T.length)
    · rw [if_pos z] at q
      exact q
    · rw [if_neg z] at q
      exact R.fh a u q
  · obtain ⟨v', h1, h2⟩ := R.slot i s q
    refine ⟨v', h1, ?_⟩
    cases s with
    | fz d => exact Rp.mono e h2
    | ow d =>
      refine OwnAt.mono h2 e fun a u pa ha => ⟨?_, ha⟩
      show frzO own (.inr T.length) a = some (.inl i)
      unfold frzO
      rw [if_neg (by rw [pa]; exact fun z => by cases z)]
      exact pa
  · have hj : j < T.length := (List.getElem?_eq_some_iff.mp q).1
    refine (R.tmp j d' v' (by rw [List.getElem?_append_left hj]; exact q)).mono e fun a u pa ha => ⟨?_, ha⟩
    show frzO own (.inr T.length) a = some (.inr j)
    unfold frzO
    rw [if_neg (by
      rw [pa]
      intro z
      injection z with z
      injection z with z
      omega)]
    exact pa
  · unfold frzO at q
    by_cases z : own a = some (.inr T.length)
    · rw [if_pos z] at q
      cases q
    · rw [if_neg z] at q
      obtain ⟨h1, h2, h3⟩ := R.owns a j q
      refine ⟨?_, h2, h3⟩
      unfold frzF
      rw [if_neg z]
      exact h1
  · obtain ⟨h1, h2⟩ := R.keep a u q nb
    refine ⟨h1, fun z => ?_⟩
    unfold frzF
    rw [if_neg ?_]
    · exact h2 z
    · intro z2
      rcases (R.owns a _ z2).2.2 with z3 | z3
      · rw [z3] at q
        cases q
      · exact nb z3
  · refine (R.tmp T.length d v (by simp)).frozen hd e fun a pa => ?_
    unfold frzF
    rw [if_pos pa]
theorem Rel.freezeS {i : Nat} {v : V} (R : Rel K w c own F H σd σ T) (hi : σd[i]? = some (some (.ow d))) (hv : σ[i]? = some (some v)) (hd : isLst d = true) :
    Rel K w c (frzO own (.inl i)) (frzF own (.inl i) F H) H (σd.set i (some (.fz d))) σ T ∧ Rp K w (frzF own (.inl i) F H) d v := by
  have e := R.frz_ex (.inl i)
  have rp : Rp K w (frzF own (.inl i) F H) d v := by
    obtain ⟨v', h1, h2⟩ := R.slot i _ hi
    rw [hv] at h1
    cases h1
    refine OwnAt.frozen h2 hd e fun a pa => ?_
    unfold frzF
    rw [if_pos pa]
  refine ⟨⟨fun a u q => ?_, fun a u q => e a u (R.f0 a u q), fun j s q => ?_, fun j d' v' q => ?_, fun a j q => ?_, fun a u q nb => ?_, R.mono, by rw [List.length_set]; exact R.len, R.pins⟩, rp⟩
  · unfold frzF at q
    by_cases z : own a = some (.inl i)
    · rw [if_pos z] at q
      exact q
    · rw [if_neg z] at q
      exact R.fh a u q
  · by_cases hj : i = j
    · subst hj
      have hl : i < σd.length := (List.getElem?_eq_some_iff.mp hi).1
      rw [List.getElem?_set_self hl] at q
      cases q
      exact ⟨v, hv, rp⟩
    · rw [List.getElem?_set_ne hj] at q
      obtain ⟨v', h1, h2⟩ := R.slot j s q
      refine ⟨v', h1, ?_⟩
      cases s with
      | fz d => exact Rp.mono e h2
      | ow d =>
        refine OwnAt.mono h2 e fun a u pa ha => ⟨?_, ha⟩
        show frzO own (.inl i) a = some (.inl j)
        unfold frzO
        rw [if_neg (by
          rw [pa]
          intro z
          injection z with z
          injection z with z
          exact hj z.symm)]
        exact pa
  · refine (R.tmp j d' v' q).mono e fun a u pa ha => ⟨?_, ha⟩
    show frzO own (.inl i) a = some (.inr j)
    unfold frzO
    rw [if_neg (by rw [pa]; exact fun z => by cases z)]
    exact pa
  · unfold frzO at q
    by_cases z : own a = some (.inl i)
    · rw [if_pos z] at q
      cases q
    · rw [if_neg z] at q
      obtain ⟨h1, h2, h3⟩ := R.owns a j q
      refine ⟨?_, h2, h3⟩
      unfold frzF
      rw [if_neg z]
      exact h1
  · obtain ⟨h1, h2⟩ := R.keep a u q nb
    refine ⟨h1, fun z => ?_⟩
    unfold frzF
    rw [if_neg ?_]
    · exact h2 z
    · intro z2
      rcases (R.owns a _ z2).2.2 with z3 | z3
      · rw [z3] at q
        cases q
      · exact nb z3
/-- a slot holds frozen data -/
theorem Rel.setF {i : Nat} {v : V} (R : Rel K w c own F H σd σ T) (hp : c.pin i = none) (hi : i < σd.length) (r : Rp K w F d v) : Rel K w c own F H (σd.set i (some (.fz d))) (σ.set i (some v)) T := by
  refine ⟨R.fh, R.f0, fun j s q => ?_, R.tmp, R.owns, R.keep, R.mono, by rw [List.length_set, List.length_set]; exact R.len, fun j a q => pins_set hp (R.pins j a q) q⟩
  by_cases hj : i = j
  · subst hj
    rw [List.getElem?_set_self hi] at q
    cases q
    exact ⟨v, by rw [List.getElem?_set_self (by rw [← R.len]; exact hi)], r⟩
  · rw [List.getElem?_set_ne hj] at q
    obtain ⟨v', h1, h2⟩ := R.slot j s q
    exact ⟨v', by rw [List.getElem?_set_ne hj]; exact h1, h2⟩
/-- a slot is forgotten -/
theorem Rel.setN {i : Nat} {o : Option V} (R : Rel K w c own F H σd σ T) (hp : c.pin i = none) : Rel K w c own F H (σd.set i none) (σ.set i o) T := by
  refine ⟨R.fh, R.f0, fun j s q => ?_, R.tmp, R.owns, R.keep, R.mono, by rw [List.length_set, List.length_set]; exact R.len, fun j a q => pins_set hp (R.pins j a q) q⟩
  by_cases hj : i = j
  · subst hj
    by_cases hl : i < σd.length
    · rw [List.getElem?_set_self hl] at q
      cases q
    · rw [List.getElem?_eq_none (by simpa using hl)] at q
      cases q
  · rw [List.getElem?_set_ne hj] at q
    obtain ⟨v', h1, h2⟩ := R.slot j s q
    exact ⟨v', by rw [List.getElem?_set_ne hj]; exact h1, h2⟩
/-- the last temporary goes into a slot -/
def movO (own : Own) (k i : Nat) : Own := fun a => if own a = some (.inr k) then some (.inl i) else if own a = some (.inl i) then none else own a
theorem Rel.setT {i : Nat} {v : V} (R : Rel K w c own F H σd σ (T ++ [(d, v)])) (hp : c.pin i = none) (hi : i < σd.length) : Rel K w c (movO own T.length i) F H (σd.set i (some (.ow d))) (σ.set i (some v)) T := by
  refine ⟨R.fh, R.f0, fun j s q => ?_, fun j d' v' q => ?_, fun a j q => ?_, R.keep, R.mono, by rw [List.length_set, List.length_set]; exact R.len, fun j a q => pins_set hp (R.pins j a q) q⟩
  · by_cases hj : i = j
    · subst hj
      rw [List.getElem?_set_self hi] at q
      cases q
      refine ⟨v, by rw [List.getElem?_set_self (by rw [← R.len]; exact hi)], ?_⟩
      refine (R.tmp T.length d v (by simp)).mono (Evl.Ex.refl F) fun a u pa ha => ⟨?_, ha⟩
      show movO own T.length i a = _
      unfold movO
      rw [if_pos pa]
    · rw [List.getElem?_set_ne hj] at q
      obtain ⟨v', h1, h2⟩ := R.slot j s q
      refine ⟨v', by rw [List.getElem?_set_ne hj]; exact h1, ?_⟩
      cases s with
      | fz d => exact h2
      | ow d =>
        refine OwnAt.mono h2 (Evl.Ex.refl F) fun a u pa ha => ⟨?_, ha⟩
        show movO own T.length i a = _
        unfold movO
        rw [if_neg (by rw [pa]; exact fun z => by cases z), if_neg (by
          rw [pa]
          intro z
          injection z with z
          injection z with z
          exact hj z.symm)]
        exact pa
  · have hj : j < T.length := (List.getElem?_eq_some_iff.mp q).1
    refine (R.tmp j d' v' (by rw [List.getElem?_append_left hj]; exact q)).mono (Evl.Ex.refl F) fun a u pa ha => ⟨?_, ha⟩
    show movO own T.length i a = _
    unfold movO
    rw [if_neg (by
      rw [pa]
      intro z
      injection z with z
      injection z with z
      omega), if_neg (by rw [pa]; exact fun z => by cases z)]
    exact pa
  · unfold movO at q
    by_cases z : own a = some (.inr T.length)
    · exact R.owns a _ z
    · rw [if_neg z] at q
      by_cases z2 : own a = some (.inl i)
      · rw [if_pos z2] at q
        cases q
      · rw [if_neg z2] at q
        exact R.owns a j q
/-- the object of a slot is changed -/
theorem Rel.mutS {i : Nat} {a : Addr} {o : HO} {d d' : D} (R : Rel K w c own F H σd σ T) (hi : σd[i]? = some (some (.ow d))) (hv : σ[i]? = some (some (.ref a))) (ha : own a = some (.inl i))
    (ho : OwnAt K w F (upd H a o) (fun b => b = a) d' (.ref a)) : Rel K w c own F (upd H a o) (σd.set i (some (.ow d'))) σ T := by
  obtain ⟨hF, hN, hB⟩ := R.owns a _ ha
  have hl : i < σd.length := (List.getElem?_eq_some_iff.mp hi).1
  have k : ∀ (x : Sum Nat Nat), x ≠ .inl i → ∀ b u, own b = some x → H b = some u → own b = some x ∧ upd H a o b = some u := fun x hx b u qb hb => ⟨qb, by
    rw [upd_ne fun z => hx ?_]
    · exact hb
    · rw [z, ha] at qb
      exact (Option.some.inj qb).symm⟩
  refine ⟨ex_lift R.fh hF, R.f0, fun j s q => ?_, fun j d' v' q => (R.tmp j d' v' q).mono (Evl.Ex.refl F) (k _ (fun z => by cases z)), fun b j q => ?_, fun b u q nb => ?_, fun b q => ?_, by rw [List.length_set]; exact R.len, R.pins⟩
  · by_cases hj : i = j
    · subst hj
      rw [List.getElem?_set_self hl] at q
      cases q
      exact ⟨_, hv, OwnAt.mono ho (Evl.Ex.refl F) fun b u pb hb => ⟨by rw [pb]; exact ha, hb⟩⟩
    · rw [List.getElem?_set_ne hj] at q
      obtain ⟨v', h1, h2⟩ := R.slot j s q
      refine ⟨v', h1, ?_⟩
      cases s with
      | fz d => exact h2
      | ow d => exact OwnAt.mono h2 (Evl.Ex.refl F) (k _ fun z => by injection z with z; exact hj z.symm)
  · obtain ⟨h1, h2, h3⟩ := R.owns b j q
    refine ⟨h1, ?_, h3⟩
    by_cases z : b = a
    · subst z
      rw [upd_same]
      exact fun z => nomatch z
    · rw [upd_ne z]
      exact h2
  · obtain ⟨h1, h2⟩ := R.keep b u q nb
    refine ⟨?_, h2⟩
    rw [upd_ne fun z => ?_]
    · exact h1
    · subst z
      rcases hB with z | z
      · rw [z] at q
        cases q
      · exact nb z
  · by_cases z : b = a
    · subst z
      rw [upd_same] at q
      cases q
    · rw [upd_ne z] at q
      exact R.mono b q
end
end DL

namespace DL
open PySem PySem.Spec PyProof.Rows L2
/-- an exception: its class, its own attributes -/
structure Xd where
  cls : Value
  fs : List (Str × D)
inductive Out (α : Type) where
  | ok (a : α) (σ : SD) | exc (x : Xd) (σ : SD) | stuck
abbrev M (α : Type) := SD → Out α
@[inline] def Out.bind {α β : Type} (o : Out α) (f : α → SD → Out β) : Out β := match o with
  | .ok a σ => f a σ
  | .exc x σ => .exc x σ
  | .stuck => .stuck
@[inline] def M.pure {α : Type} (a : α) : M α := fun σ => .ok a σ
@[inline] def M.bind {α β : Type} (m : M α) (f : α → M β) : M β := fun σ => (m σ).bind fun a σ' => f a σ'
def M.stuck {α : Type} : M α := fun _ => .stuck
@[simp] theorem bind_ok {α β : Type} (a : α) (σ : SD) (f : α → SD → Out β) : (Out.ok a σ).bind f = f a σ := rfl
@[simp] theorem bind_exc {α β : Type} (x : Xd) (σ : SD) (f : α → SD → Out β) : (Out.exc x σ : Out α).bind f = .exc x σ := rfl
@[simp] theorem bind_stuck {α β : Type} (f : α → SD → Out β) : (Out.stuck : Out α).bind f = .stuck := rfl

def slD (σ : SD) (i : Nat) : Option Sl := (σ[i]?).join
/-- the data, as it stands -/
def peek (r : Rs) : M D := fun σ => match r with
  | .fz d => .ok d σ
  | .ow d => .ok d σ
  | .pk i => match σ[i]? with
    | some (some (.fz d)) => .ok d σ
    | some (some (.ow d)) => .ok d σ
    | _ => .stuck
/-- the data, frozen -/
def frz (r : Rs) : M D := fun σ => match r with
  | .fz d => .ok d σ
  | .ow d => if isLst d then .ok d σ else .stuck
  | .pk i => match σ[i]? with
    | some (some (.fz d)) => .ok d σ
    | some (some (.ow d)) => if isLst d then .ok d (σ.set i (some (.fz d))) else .stuck
    | _ => .stuck

/-- the readings that ask just what is wanted -/
def weE (X : Cx) (e : Expr) : TE := fun σ H Q => ∀ (pins : List (Addr × Obj)) (s : Shared), Inv X pins σ H s → wpAny (model X.prog X.w) X.A (eval e X.env) (EP X pins σ Q) X.xe s
theorem pe_we {X : Cx} {e : Expr} : PE X e (weE X e) := ⟨fun pins s σ H Q I h => h pins s I⟩
theorem _root_.L2.PE.we {X : Cx} {e : Expr} {t : TE} (h : PE X e t) {σ : L2.St} {H : Hp} {Q : VK} (q : t σ H Q) : weE X e σ H Q := fun pins s I => h.run pins s σ H Q I q
def weT (X : Cx) (e : Expr) : TT := fun σ H Q => ∀ (pins : List (Addr × Obj)) (s : Shared), Inv X pins σ H s → wpAny (model X.prog X.w) X.A (isTrue e X.env (eval e X.env)) (TP X pins σ Q) X.xe s
theorem pt_we {X : Cx} {e : Expr} : PT X e (weT X e) := ⟨fun pins s σ H Q I h => h pins s I⟩
theorem _root_.L2.PT.we {X : Cx} {e : Expr} {t : TT} (h : PT X e t) {σ : L2.St} {H : Hp} {Q : Bool → Hp → Prop} (q : t σ H Q) : weT X e σ H Q := fun pins s I => h.run pins s σ H Q I q
def weW (X : Cx) (e : Expr) : TT := fun σ H Q => ∀ (wh : Sem Value) (pins : List (Addr × Obj)) (s : Shared), Inv X pins σ H s → wpAny (model X.prog X.w) X.A (isTrue e X.env wh) (TP X pins σ Q) X.xe s
theorem pw_we {X : Cx} {e : Expr} : PW X e (weW X e) := ⟨fun wh pins s σ H Q I h => h wh pins s I⟩
theorem _root_.L2.PW.we {X : Cx} {e : Expr} {t : TT} (h : PW X e t) {σ : L2.St} {H : Hp} {Q : Bool → Hp → Prop} (q : t σ H Q) : weW X e σ H Q := fun wh pins s I => h.run wh pins s σ H Q I q
def weA (X : Cx) (es : List Expr) : TA := fun σ H Q => ∀ (pos : Pos) (pins : List (Addr × Obj)) (s : Shared), Inv X pins σ H s → wpAny (model X.prog X.w) X.A (spliced (backTo pos (starEach es X.env))) (AP X pins σ Q) X.xe s
theorem pa_we {X : Cx} {es : List Expr} : PA X es (weA X es) := ⟨fun pos pins s σ H Q I h => h pos pins s I⟩
theorem _root_.L2.PA.we {X : Cx} {es : List Expr} {t : TA} (h : PA X es t) {σ : L2.St} {H : Hp} {Q : List V → Hp → Prop} (q : t σ H Q) : weA X es σ H Q := fun pos pins s I => h.run pos pins s σ H Q I q
def weS (X : Cx) (st : Stmt) : TS := fun D σ H => ∀ (pins : List (Addr × Obj)) (s : Shared), Inv X pins σ H s → wpAny (model X.prog X.w) X.A (exec st X.env) (SP X pins D) X.xe s
theorem ps_we {X : Cx} {st : Stmt} : PS X st (weS X st) := ⟨fun pins s σ H D I h => h pins s I⟩
theorem _root_.L2.PS.we {X : Cx} {st : Stmt} {t : TS} (h : PS X st t) {σ : L2.St} {H : Hp} {D : Ends} (q : t D σ H) : weS X st D σ H := fun pins s I => h.run pins s σ H D I q
def weB (X : Cx) (st : List Stmt) : TS := fun D σ H => ∀ (pins : List (Addr × Obj)) (s : Shared), Inv X pins σ H s → wpAny (model X.prog X.w) X.A (execs st X.env) (SP X pins D) X.xe s
theorem pss_we {X : Cx} {st : List Stmt} : PSs X st (weB X st) := ⟨fun pins s σ H D I h => h pins s I⟩
theorem _root_.L2.PSs.we {X : Cx} {st : List Stmt} {t : TS} (h : PSs X st t) {σ : L2.St} {H : Hp} {D : Ends} (q : t D σ H) : weB X st D σ H := fun pins s I => h.run pins s σ H D I q

def push (T : Tms) (r : Rs) (v : V) : Tms := match r with
  | .ow d => T ++ [(d, v)]
  | _ => T
def RsR (K : Frag) (w : World) (F : Hp) (σ : L2.St) (r : Rs) (v : V) : Prop := match r with
  | .fz d => Rp K w F d v
  | .ow _ => True
  | .pk i => σ[i]? = some (some v)
/-- data that can be read as it stands -/
def Vw (K : Frag) (w : World) (F H : Hp) (d : D) (v : V) : Prop := Rp K w F d v ∨ ∃ P, OwnAt K w F H P d v
section
variable {K : Frag} {w : World} {F F' H H' : Hp} {c : Ctx} {own : Own} {σd σd' : SD} {σ : L2.St} {T : Tms} {r : Rs} {v : V} {d : D}
theorem RsR.mono (h : RsR K w F σ r v) (e : Ex F F') : RsR K w F' σ r v := by
  cases r with
  | fz d => exact Rp.mono e h
  | ow d => trivial
  | pk i => exact h
theorem Rel.popR (R : Rel K w c own F H σd σ (push T r v)) : Rel K w c own F H σd σ T := by
  cases r with
  | fz d => exact R
  | ow d => exact R.dropT
  | pk i => exact R
theorem peek_ok (R : Rel K w c own F H σd σ (push T r v)) (h : RsR K w F σ r v) (e : peek r σd = .ok d σd') : σd' = σd ∧ Vw K w F H d v := by
  cases r with
  | fz d0 =>
    cases e
    exact ⟨rfl, .inl h⟩
  | ow d0 =>
    cases e
    exact ⟨rfl, .inr ⟨_, R.tmp T.length d v (by simp [push])⟩⟩
  | pk i =>
    simp only [peek] at e
    split at e
    · rename_i d0 hd
      cases e
      obtain ⟨v', h1, h2⟩ := R.slot i _ hd
      rw [show σ[i]? = some (some v) from h] at h1
      cases h1
      exact ⟨rfl, .inl h2⟩
    · rename_i d0 hd
      cases e
      obtain ⟨v', h1, h2⟩ := R.slot i _ hd
      rw [show σ[i]? = some (some v) from h] at h1
      cases h1
      exact ⟨rfl, .inr ⟨_, h2⟩⟩
    · cases e
theorem peek_noexc {x : Xd} : peek r σd ≠ .exc x σd' := by
  cases r with
  | fz d => exact fun z => nomatch z
  | ow d => exact fun z => nomatch z
  | pk i =>
    intro e
    simp only [peek] at e
    split at e <;> cases e
theorem frz_noexc {x : Xd} : frz r σd ≠ .exc x σd' := by
  cases r with
  | fz d => exact fun z => nomatch z
  | ow d =>
    intro e
    simp only [frz] at e
    split at e <;> cases e
  | pk i =>
    intro e
    simp only [frz] at e
    split at e
    · cases e
    · split at e <;> cases e
    · cases e
theorem frz_ok (R : Rel K w c own F H σd σ (push T r v)) (h : RsR K w F σ r v) (e : frz r σd = .ok d σd') : ∃ own' F', Ex F F' ∧ Rel K w c own' F' H σd' σ T ∧ Rp K w F' d v := by
  cases r with
  | fz d0 =>
    cases e
    exact ⟨own, F, Evl.Ex.refl F, R, h⟩
  | ow d0 =>
    simp only [frz] at e
    split at e
    · rename_i hd
      cases e
      have R' : Rel K w c own F H σd σ (T ++ [(d, v)]) := R
      exact ⟨_, _, R.frz_ex _, R'.freezeT hd⟩
    · cases e
  | pk i =>
    simp only [frz] at e
    split at e
    · rename_i d0 hd
      cases e
      obtain ⟨v', h1, h2⟩ := R.slot i _ hd
      rw [show σ[i]? = some (some v) from h] at h1
      cases h1
      exact ⟨own, F, Evl.Ex.refl F, R, h2⟩
    · rename_i d0 hd
      split at e
      · rename_i hl
        cases e
        exact ⟨_, _, R.frz_ex _, Rel.freezeS R hd h hl⟩
      · cases e
    · cases e
theorem Vw.int {i : Int} (h : Vw K w F H (.int i) v) : v = .int i := by
  rcases h with h | ⟨_, h⟩
  · cases h; rfl
  · cases h
theorem Vw.bl {b : Bool} (h : Vw K w F H (.bl b) v) : v = .bl b := by
  rcases h with h | ⟨_, h⟩
  · cases h; rfl
  · cases h
theorem Vw.non (h : Vw K w F H .non v) : v = .non := by
  rcases h with h | ⟨_, h⟩
  · cases h; rfl
  · cases h
theorem Vw.str {s : List Nat} (h : Vw K w F H (.str s) v) : v = .str ⟨s.toArray⟩ := by
  rcases h with h | ⟨_, h⟩
  · cases h; rfl
  · cases h
theorem Vw.ref {a : Addr} (h : Vw K w F H (.ref a) v) : v = .ref a := by
  rcases h with h | ⟨_, h⟩
  · cases h; rfl
  · cases h
theorem Vw.ty {n : String} (h : Vw K w F H (.ty n) v) : v = .ty n := by
  rcases h with h | ⟨_, h⟩
  · cases h; rfl
  · cases h
theorem Vw.lst {ds : List D} (h : Vw K w F H (.lst ds) v) (e : Ex F H) : ∃ a vs, v = .ref a ∧ H a = some (.lst vs) ∧ RpL K w F ds vs := by
  rcases h with h | ⟨_, h⟩
  · cases h with
    | lst h1 h2 => exact ⟨_, _, rfl, e _ _ h1, h2⟩
  · cases h with
    | lst h1 h2 h3 => exact ⟨_, _, rfl, h2, h3⟩
theorem Vw.scr {ns : List Int} (h : Vw K w F H (.scr ns) v) (e : Ex F H) : ∃ a, v = .ref a ∧ SqL K H a (ns.map V.int) := by
  rcases h with h | ⟨_, h⟩
  · cases h with
    | scr h1 => exact ⟨_, rfl, Evl.ex_l e h1⟩
  · cases h
theorem Vw.tup {ds : List D} (h : Vw K w F H (.tup ds) v) (e : Ex F H) : ∃ a vs, v = .ref a ∧ SqT K H a vs ∧ RpL K w F ds vs := by
  rcases h with h | ⟨_, h⟩
  · cases h with
    | tup h1 h2 => exact ⟨_, _, rfl, Evl.ex_t e h1, h2⟩
  · cases h
end

def XR (K : Frag) (w : World) (F : Hp) (x : Xd) (cls : Value) (d : Option Addr) : Prop := cls = x.cls ∧ (x.fs = [] ∨ ∃ a vs, d = some a ∧ F a = some (.xd vs) ∧ x.fs.map (·.1) = vs.map (·.1) ∧ RpL K w F (x.fs.map (·.2)) (vs.map (·.2)))
section
variable (X : Cx) (W : WX) (c : Ctx) (T : Tms) (σ : L2.St) (F : Hp)
/-- what a run must lead to -/
def Pst (o : Out Rs) (Q : VK) : Prop := match o with
  | .ok r σd => ∀ v own F' H', Ex F F' → Rel X.K X.w c own F' H' σd σ (push T r v) → RsR X.K X.w F' σ r v → Q v H'
  | .exc x σd => ∀ own F' H' cls d, Ex F F' → Rel X.K X.w c own F' H' σd σ T → XR X.K X.w F' x cls d → W cls d σ H'
  | .stuck => False
/-- the same of a plain answer a -/
def PstP {α : Type} (o : Out α) (Q : α → SD → Own → Hp → Hp → Prop) : Prop := match o with
  | .ok a σd => ∀ own F' H', Ex F F' → Rel X.K X.w c own F' H' σd σ T → Q a σd own F' H'
  | .exc x σd => ∀ own F' H' cls d, Ex F F' → Rel X.K X.w c own F' H' σd σ T → XR X.K X.w F' x cls d → W cls d σ H'
  | .stuck => False
end
/-- the expression's mirror is sound -/
def SE (X : Cx) (W : WX) (e : Expr) (m : M Rs) : Prop :=
  ∀ (c : Ctx) (own : Own) (F H : Hp) (σd : SD) (σ : L2.St) (T : Tms) (Q : VK), Rel X.K X.w c own F H σd σ T → Pst X W c T σ F (m σd) Q → weE X e σ H Q
/-- a test's -/
def ST (X : Cx) (W : WX) (e : Expr) (m : M Bool) : Prop :=
  ∀ (c : Ctx) (own : Own) (F H : Hp) (σd : SD) (σ : L2.St) (T : Tms) (Q : Bool → Hp → Prop), Rel X.K X.w c own F H σd σ T → PstP X W c T σ F (m σd) (fun b _ _ _ H' => Q b H') → weT X e σ H Q
def SW (X : Cx) (W : WX) (e : Expr) (m : M Bool) : Prop :=
  ∀ (c : Ctx) (own : Own) (F H : Hp) (σd : SD) (σ : L2.St) (T : Tms) (Q : Bool → Hp → Prop), Rel X.K X.w c own F H σd σ T → PstP X W c T σ F (m σd) (fun b _ _ _ H' => Q b H') → weW X e σ H Q
section
variable {X : Cx} {W : WX} {c : Ctx} {T : Tms} {σ : L2.St} {F F' H : Hp} {own : Own} {σd : SD}
theorem Pst.ex {o : Out Rs} {Q : VK} (h : Pst X W c T σ F o Q) (e : Ex F F') : Pst X W c T σ F' o Q := by
  cases o with
  | ok r σd => exact fun v own F2 H' e2 => h v own F2 H' (e.trans e2)
  | exc x σd => exact fun own F2 H' cls d e2 => h own F2 H' cls d (e.trans e2)
  | stuck => exact h
theorem PstP.ex {α : Type} {o : Out α} {Q : α → SD → Own → Hp → Hp → Prop} (h : PstP X W c T σ F o Q) (e : Ex F F') : PstP X W c T σ F' o Q := by
  cases o with
  | ok r σd => exact fun own F2 H' e2 => h own F2 H' (e.trans e2)
  | exc x σd => exact fun own F2 H' cls d e2 => h own F2 H' cls d (e.trans e2)
  | stuck => exact h
/-- one part ahead of the rest -/
theorem Pst.seq {o : Out Rs} {f : Rs → SD → Out Rs} {Q Q1 : VK} (h : Pst X W c T σ F (o.bind f) Q)
    (k : ∀ r σd', o = .ok r σd' → Pst X W c T σ F (f r σd') Q → ∀ v own' F' H', Ex F F' → Rel X.K X.w c own' F' H' σd' σ (push T r v) → RsR X.K X.w F' σ r v → Q1 v H') : Pst X W c T σ F o Q1 := by
  cases o with
  | ok r σd' => exact fun v own' F' H' e R r => k _ _ rfl h v own' F' H' e R r
  | exc x σd' => exact h
  | stuck => exact h
/-- the same behind a part that holds the temporaries T' -/
theorem Pst.seqT {T' : Tms} {o : Out Rs} {f : Rs → SD → Out Rs} {Q Q1 : VK} (h : Pst X W c T σ F (o.bind f) Q) (hT : ∀ own F' H' σd', Rel X.K X.w c own F' H' σd' σ T' → Rel X.K X.w c own F' H' σd' σ T)
    (k : ∀ r σd', o = .ok r σd' → Pst X W c T σ F (f r σd') Q → ∀ v own' F' H', Ex F F' → Rel X.K X.w c own' F' H' σd' σ (push T' r v) → RsR X.K X.w F' σ r v → Q1 v H') : Pst X W c T' σ F o Q1 := by
  cases o with
  | ok r σd' => exact fun v own' F' H' e R r => k _ _ rfl h v own' F' H' e R r
  | exc x σd' => exact fun own' F' H' cls d e R x => h own' F' H' cls d e (hT _ _ _ _ R) x
  | stuck => exact h
/-- an expression, then what is made of it -/
theorem SE.then {e : Expr} {m : M Rs} (h : SE X W e m) (R : Rel X.K X.w c own F H σd σ T) {f : Rs → SD → Out Rs} {Q : VK} {Q1 : VK} (p : Pst X W c T σ F ((m σd).bind f) Q)
    (k : ∀ r σd', Pst X W c T σ F (f r σd') Q → ∀ v own' F' H', Ex F F' → Rel X.K X.w c own' F' H' σd' σ (push T r v) → RsR X.K X.w F' σ r v → Q1 v H') : weE X e σ H Q1 :=
  h c own F H σd σ T Q1 R (p.seq fun r σd' _ => k r σd')
/-- a second one, the first one's result held -/
theorem SE.thenT {T' : Tms} {e : Expr} {m : M Rs} (h : SE X W e m) (R : Rel X.K X.w c own F H σd σ T') (hT : ∀ own F' H' σd', Rel X.K X.w c own F' H' σd' σ T' → Rel X.K X.w c own F' H' σd' σ T) {f : Rs → SD → Out Rs} {Q : VK} {Q1 : VK} (p : Pst X W c T σ F ((m σd).bind f) Q)
    (k : ∀ r σd', Pst X W c T σ F (f r σd') Q → ∀ v own' F' H', Ex F F' → Rel X.K X.w c own' F' H' σd' σ (push T' r v) → RsR X.K X.w F' σ r v → Q1 v H') : weE X e σ H Q1 :=
  h c own F H σd σ T' Q1 R (p.seqT hT fun r σd' _ => k r σd')
end
end DL

namespace DL
open PySem PySem.Spec PyProof.Rows L2
/-- what an operation answers: standing data, a new list, a new tuple -/
inductive Rn where
  | val (d : D) | newL (ds : List D) | newT (ds : List D)
def Rn.rs : Rn → Rs
  | .val d => .fz d
  | .newL ds => .ow (.lst ds)
  | .newT ds => .fz (.tup ds)
def KQ (K : Frag) (w : World) (F H : Hp) (n : Rn) (Q : VK) : Prop := match n with
  | .val d => ∀ v, Rp K w F d v → Q v H
  | .newL ds => ∀ p vs, H p = none → RpL K w F ds vs → Q (.ref p) (upd H p (.lst vs))
  | .newT ds => ∀ p vs, H p = none → RpL K w F ds vs → Q (.ref p) (upd H p (.tup vs))
/-- a plain answer -/
def ans (σ : SD) : Option Rn → Out Rs
  | some n => .ok n.rs σ
  | none => .stuck
section
variable {X : Cx} {W : WX} {c : Ctx} {T : Tms} {σ : L2.St} {F F' H : Hp} {own : Own} {σd : SD}
theorem fin_ok {o : Option Rn} {Q : VK} (R : Rel X.K X.w c own F H σd σ T) (p : Pst X W c T σ F (ans σd o) Q) : ∃ n, o = some n ∧ KQ X.K X.w F H n Q := by
  cases o with
  | none => exact p.elim
  | some n =>
    refine ⟨n, rfl, ?_⟩
    cases n with
    | val d => exact fun v r => p v own F H (Evl.Ex.refl F) R r
    | newL ds => exact fun a vs ha r => p _ _ _ _ (Evl.Ex.refl F) (R.newT (d := .lst ds) ha (.lst rfl upd_same r)) trivial
    | newT ds =>
      refine fun a vs ha r => p _ _ _ _ (ex_upd (R.notF ha)) (R.newF ha) (.tup (.inl (.inl upd_same)) (r.mono (ex_upd (R.notF ha))))
/-- a two-place operation by data -/
def e2 (f : D → D → Option Rn) (ma mb : M Rs) : M Rs := fun σ => (ma σ).bind fun ra σ1 => (mb σ1).bind fun rb σ2 => (peek rb σ2).bind fun db σ3 => (peek ra σ3).bind fun da σ4 => ans σ4 (f da db)
def e1 (f : D → Option Rn) (ma : M Rs) : M Rs := fun σ => (ma σ).bind fun ra σ1 => (peek ra σ1).bind fun da σ2 => ans σ2 (f da)
/-- a rule by values serves an operation by data -/
def Serves2 (X : Cx) (r : R2) (f : D → D → Option Rn) : Prop := ∀ (F H : Hp) (da db : D) (va vb : V) (n : Rn) (Q : VK), Ex F H → Vw X.K X.w F H da va → Vw X.K X.w F H db vb → f da db = some n → KQ X.K X.w F H n Q → r va vb H Q
def Op2 (X : Cx) (fn : Value → Value → Sem Value) (f : D → D → Option Rn) : Prop := ∃ r : R2, OpR X fn r ∧ Serves2 X r f
def Op1 (X : Cx) (fn : Value → Sem Value) (f : D → Option Rn) : Prop := ∃ r : V → Hp → VK → Prop, UnR X fn r ∧
  ∀ (F H : Hp) (da : D) (va : V) (n : Rn) (Q : VK), Ex F H → Vw X.K X.w F H da va → f da = some n → KQ X.K X.w F H n Q → r va H Q
/-- two values held, the operation asked -/
theorem two_ok {r : R2} {f : D → D → Option Rn} (hf : Serves2 X r f) {ra rb : Rs} {va vb : V} {Q : VK} {F1 : Hp} (R : Rel X.K X.w c own F' H σd σ (push (push T ra va) rb vb)) (h1 : RsR X.K X.w F1 σ ra va) (e : Ex F1 F') (h2 : RsR X.K X.w F' σ rb vb)
    (e0 : Ex F F') (p : Pst X W c T σ F ((peek rb σd).bind fun db σ3 => (peek ra σ3).bind fun da σ4 => ans σ4 (f da db)) Q) : r va vb H Q := by
  cases hb : peek rb σd with
  | exc x σ' => exact absurd hb peek_noexc
  | stuck => rw [hb] at p; exact p.elim
  | ok db σ3 =>
    obtain ⟨rfl, vwb⟩ := peek_ok R h2 hb
    rw [hb, bind_ok] at p
    cases ha : peek ra σ3 with
    | exc x σ' => exact absurd ha peek_noexc
    | stuck => rw [ha] at p; exact p.elim
    | ok da σ4 =>
      obtain ⟨rfl, vwa⟩ := peek_ok R.popR (h1.mono e) ha
      rw [ha, bind_ok] at p
      obtain ⟨n, e1, k⟩ := fin_ok R.popR.popR (p.ex e0)
      exact hf F' H da db va vb n Q R.fh vwa vwb e1 k
theorem one_ok {r : V → Hp → VK → Prop} {f : D → Option Rn} (hf : ∀ (F H : Hp) (da : D) (va : V) (n : Rn) (Q : VK), Ex F H → Vw X.K X.w F H da va → f da = some n → KQ X.K X.w F H n Q → r va H Q) {ra : Rs} {va : V} {Q : VK}
    (R : Rel X.K X.w c own F' H σd σ (push T ra va)) (h1 : RsR X.K X.w F' σ ra va) (e0 : Ex F F') (p : Pst X W c T σ F ((peek ra σd).bind fun da σ4 => ans σ4 (f da)) Q) : r va H Q := by
  cases ha : peek ra σd with
  | exc x σ' => exact absurd ha peek_noexc
  | stuck => rw [ha] at p; exact p.elim
  | ok da σ4 =>
    obtain ⟨rfl, vwa⟩ := peek_ok R h1 ha
    rw [ha, bind_ok] at p
    obtain ⟨n, e1, k⟩ := fin_ok R.popR (p.ex e0)
    exact hf F' H da va n Q R.fh vwa e1 k
theorem popT {ra : Rs} {va : V} : ∀ own F' H' σd', Rel X.K X.w c own F' H' σd' σ (push T ra va) → Rel X.K X.w c own F' H' σd' σ T := fun _ _ _ _ R => R.popR
variable {a b e : Expr} {ma mb m : M Rs} {pos : Pos}
/-- the reading of two parts and a rule by values -/
theorem two_read {r : R2} {f : D → D → Option Rn} (hf : Serves2 X r f) (ha : SE X W a ma) (hb : SE X W b mb) {Q : VK} (R : Rel X.K X.w c own F H σd σ T) (p : Pst X W c T σ F (e2 f ma mb σd) Q) :
    tOp r (weE X a) (weE X b) σ H Q := by
  refine ha.then R p fun ra σ1 p1 va own1 F1 H1 x1 R1 r1 => ?_
  refine hb.thenT R1 (T := T) popT (p1.ex x1) fun rb σ2 p2 vb own2 F2 H2 x2 R2 r2 => ?_
  exact two_ok hf R2 r1 x2 r2 x2 p2
theorem se_bin {op : Operator} {f : D → D → Option Rn} (ho : Op2 X (binaryOp op) f) (ha : SE X W a ma) (hb : SE X W b mb) : SE X W (.BinOp a op b pos) (e2 f ma mb) := by
  obtain ⟨r, hr, hf⟩ := ho
  intro c own F H σd σ T Q R p
  exact (pe_op hr pe_we pe_we).we (two_read hf ha hb R p)
theorem se_cmp {op : CmpOp} {f : D → D → Option Rn} (ho : Op2 X (compareOp op) f) (ha : SE X W a ma) (hb : SE X W b mb) (hm : behindInMarks op b = false) : SE X W (.Compare a [op] [b] pos) (e2 f ma mb) := by
  obtain ⟨r, hr, hf⟩ := ho
  intro c own F H σd σ T Q R p
  exact (pe_cmpR hr pe_we pe_we hm).we (two_read hf ha hb R p)
theorem se_un {op : UnaryOp} {f : D → Option Rn} (ho : Op1 X (unaryOp op) f) (ha : SE X W a ma) : SE X W (.UnaryOp op a pos) (e1 f ma) := by
  obtain ⟨r, hr, hf⟩ := ho
  intro c own F H σd σ T Q R p
  refine (pe_un hr pe_we).we ?_
  refine ha.then R p fun ra σ1 p1 va own1 F1 H1 x1 R1 r1 => ?_
  exact one_ok hf R1 r1 x1 p1
/-- a test by an expression that answers a bool: as the test's own answer -/
def tB1 (m : M Rs) : M Bool := fun σ => (m σ).bind fun r σ1 => match r with
  | .fz (.bl b) => .ok b σ1
  | _ => .stuck
theorem toBl {m : M Rs} {Q : Bool → Hp → Prop} (p : PstP X W c T σ F (tB1 m σd) (fun b _ _ _ H' => Q b H')) : Pst X W c T σ F (m σd) (fun v H' => ∃ k, v = .bl k ∧ Q k H') := by
  unfold tB1 at p
  cases hm : m σd with
  | ok r σ1 =>
    rw [hm, bind_ok] at p
    cases r with
    | fz d =>
      cases d with
      | bl b =>
        intro v own F' H' e R r
        cases (show Rp X.K X.w F' (.bl b) v from r)
        exact ⟨b, rfl, p own F' H' e R⟩
      | _ => exact p.elim
    | ow d => exact p.elim
    | pk i => exact p.elim
  | exc x σ1 => rw [hm] at p; exact p
  | stuck => rw [hm] at p; exact p
theorem st_cmp {op : CmpOp} {f : D → D → Option Rn} (ho : Op2 X (compareOp op) f) (ha : SE X W a ma) (hb : SE X W b mb) (hm : behindInMarks op b = false) : ST X W (.Compare a [op] [b] pos) (tB1 (e2 f ma mb)) := by
  obtain ⟨r, hr, hf⟩ := ho
  intro c own F H σd σ T Q R p
  exact (pt_cmpR hr pe_we pe_we hm).we (two_read hf ha hb R (toBl p))
/-- a comparison of three -/
def e3c (f g : D → D → Option Rn) (ma mb mc : M Rs) : M Rs := fun σ => (ma σ).bind fun ra σ1 => (mb σ1).bind fun rb σ2 => (frz rb σ2).bind fun db σ3 => (peek ra σ3).bind fun da σ4 => match f da db with
  | some (.val (.bl true)) => (mc σ4).bind fun rc σ5 => (peek rc σ5).bind fun dc σ6 => ans σ6 (g db dc)
  | some (.val (.bl false)) => .ok (.fz (.bl false)) σ4
  | _ => .stuck
theorem chain_read {r r' : R2} {f g : D → D → Option Rn} {cc : Expr} {mc : M Rs} (hf : Serves2 X r f) (hg : Serves2 X r' g) (ha : SE X W a ma) (hb : SE X W b mb) (hc : SE X W cc mc) {Q : VK} (R : Rel X.K X.w c own F H σd σ T)
    (p : Pst X W c T σ F (e3c f g ma mb mc σd) Q) : tChain r r' (weE X a) (weE X b) (weE X cc) σ H Q := by
  refine ha.then R p fun ra σ1 p1 va own1 F1 H1 x1 R1 r1 => ?_
  refine hb.thenT R1 (T := T) popT (p1.ex x1) fun rb σ2 p2 vb own2 F2 H2 x2 R2 r2 => ?_
  cases hzb : frz rb σ2 with
  | exc x σ' => exact absurd hzb frz_noexc
  | stuck => rw [hzb] at p2; exact p2.elim
  | ok db σ3 =>
    obtain ⟨own3, F3, x3, R3, rpb⟩ := frz_ok R2 r2 hzb
    rw [hzb, bind_ok] at p2
    cases hza : peek ra σ3 with
    | exc x σ' => exact absurd hza peek_noexc
    | stuck => rw [hza] at p2; exact p2.elim
    | ok da σ4 =>
      obtain ⟨rfl, vwa⟩ := peek_ok R3 (r1.mono (x2.trans x3)) hza
      rw [hza, bind_ok] at p2
      have R4 := R3.popR
      cases hfd : f da db with
      | none => rw [hfd] at p2; exact p2.elim
      | some n =>
        rw [hfd] at p2
        cases n with
        | newL ds => exact p2.elim
        | newT ds => exact p2.elim
        | val d =>
          cases d with
          | bl k =>
            refine hf F3 H2 da db va vb _ _ R3.fh vwa (.inl rpb) hfd fun v rv => ?_
            cases rv
            refine ⟨k, rfl, ?_⟩
            cases k with
            | false =>
              rw [if_neg Bool.false_ne_true]
              exact (p2.ex (x2.trans x3)) _ own3 F3 H2 (Evl.Ex.refl _) R4 (.bl false)
            | true =>
              rw [if_pos rfl]
              refine hc.then R4 (p2.ex (x2.trans x3)) fun rc σ5 p5 vc own5 F5 H5 x5 R5 r5 => ?_
              cases hzc : peek rc σ5 with
              | exc x σ' => exact absurd hzc peek_noexc
              | stuck => rw [hzc] at p5; exact p5.elim
              | ok dc σ6 =>
                obtain ⟨rfl, vwc⟩ := peek_ok R5 r5 hzc
                rw [hzc, bind_ok] at p5
                obtain ⟨n, e1, k⟩ := fin_ok R5.popR (p5.ex x5)
                exact hg F5 H5 db dc vb vc n Q R5.fh (.inl (rpb.mono x5)) vwc e1 k
          | _ => exact p2.elim
end
end DL

namespace DL
open PySem PySem.Spec PyProof.Rows L2
section
variable {X : Cx} {W : WX} {c : Ctx} {T : Tms} {σ : L2.St} {F F' H : Hp} {own : Own} {σd : SD} {a b e : Expr} {ma mb m : M Rs} {pos : Pos}
/-- the name in slot i -/
def eVar (i : Nat) : M Rs := fun σ => match σ[i]? with
  | some (some (.fz d)) => .ok (.fz d) σ
  | some (some (.ow _)) => .ok (.pk i) σ
  | _ => .stuck
theorem se_var {i : Nat} {x : Str} (hN : X.N[i]? = some x) (hv : Vis X.env.scope x) (hd : (x == ("__debug__" : Str)) = false := by decide) (hcd : (x == ("__classdict__" : Str)) = false := by decide) : SE X W (.Name x pos) (eVar i) := by
  intro c own F H σd σ T Q R p
  refine (pe_var hN hv hd hcd).we ?_
  unfold eVar at p
  split at p
  · rename_i d hd
    obtain ⟨v, h1, h2⟩ := R.slot i _ hd
    exact ⟨v, h1, p v own F H (Evl.Ex.refl F) R h2⟩
  · rename_i d hd
    obtain ⟨v, h1, h2⟩ := R.slot i _ hd
    exact ⟨v, h1, p v own F H (Evl.Ex.refl F) R h1⟩
  · exact p.elim
def eC (d : D) : M Rs := fun σ => .ok (.fz d) σ
theorem se_int {i : Int} {j pos} : SE X W (.Constant (.int i) j pos) (eC (.int i)) := fun c own F H σd σ T Q R p => pe_int.we (p _ own F H (Evl.Ex.refl F) R (.int i))
theorem se_bl {b : Bool} {j pos} : SE X W (.Constant (.bool b) j pos) (eC (.bl b)) := fun c own F H σd σ T Q R p => pe_bl.we (p _ own F H (Evl.Ex.refl F) R (.bl b))
theorem se_non {j pos} : SE X W (.Constant .none j pos) (eC .non) := fun c own F H σd σ T Q R p => pe_non.we (p _ own F H (Evl.Ex.refl F) R .non)
theorem se_str {x : Str} {s : List Nat} {j pos} (h : x = ⟨s.toArray⟩) : SE X W (.Constant (.str x) j pos) (eC (.str s)) := fun c own F H σd σ T Q R p => pe_str.we (p _ own F H (Evl.Ex.refl F) R (by rw [h]; exact .str s))
/-- a module's constant -/
theorem se_glob {x : Str} {v : V} {u : Value} {d : D} (hg : Gl X x) (hm : X.mg x = some u) (r : RelV v u) (rp : ∀ F, Rp X.K X.w F d v) (hd : (x == ("__debug__" : Str)) = false := by decide) : SE X W (.Name x pos) (eC d) :=
  fun c own F H σd σ T Q R p => (pe_glob hg hm r hd).we (p v own F H (Evl.Ex.refl F) R (rp F))
/-- a built-in type as a value -/
theorem se_bty {x : Str} {n : String} (hg : Gl X x) (hm : X.mg x = none) (hv : bootBuiltins x = some (.type n)) (hn : x ≠ "__name__" := by decide) (hd : (x == ("__debug__" : Str)) = false := by decide) : SE X W (.Name x pos) (eC (.ty n)) :=
  fun c own F H σd σ T Q R p => (pe_bltn (v := .ty n) hg hm hv rfl hn hd).we (p _ own F H (Evl.Ex.refl F) R (.ty n))

def isBl (r : Rs) (σ : SD) {α : Type} (f : Bool → Out α) : Out α := match r with
  | .fz (.bl b) => f b
  | _ => .stuck
def eAnd (ma mb : M Rs) : M Rs := fun σ => (ma σ).bind fun r σ1 => isBl r σ1 fun b => if b then mb σ1 else .ok (.fz (.bl false)) σ1
def eOr (ma mb : M Rs) : M Rs := fun σ => (ma σ).bind fun r σ1 => isBl r σ1 fun b => if b then .ok (.fz (.bl true)) σ1 else mb σ1
def eNot (ma : M Rs) : M Rs := fun σ => (ma σ).bind fun r σ1 => isBl r σ1 fun b => .ok (.fz (.bl (!b))) σ1
theorem isBl_ok {r : Rs} {f : Bool → Out Rs} {Q : VK} {v : V} (h : RsR X.K X.w F' σ r v) (p : Pst X W c T σ F (isBl r σd f) Q) : ∃ b, r = .fz (.bl b) ∧ v = .bl b ∧ Pst X W c T σ F (f b) Q := by
  cases r with
  | fz d =>
    cases d with
    | bl b =>
      cases (show Rp X.K X.w F' (.bl b) v from h)
      exact ⟨b, rfl, rfl, p⟩
    | _ => exact p.elim
  | ow d => exact p.elim
  | pk i => exact p.elim
theorem se_one {op} (h : SE X W a ma) : SE X W (.BoolOp op [a] pos) ma := fun c own F H σd σ T Q R p => (pe_one pe_we).we (h c own F H σd σ T Q R p)
theorem se_and {rest : List Expr} (ha : SE X W a ma) (hb : SE X W (.BoolOp .And (b :: rest) pos) mb) : SE X W (.BoolOp .And (a :: b :: rest) pos) (eAnd ma mb) := by
  intro c own F H σd σ T Q R p
  refine (pe_and pe_we pe_we).we ?_
  refine ha.then R p fun ra σ1 p1 va own1 F1 H1 x1 R1 r1 => ?_
  obtain ⟨b, rfl, rfl, p2⟩ := isBl_ok r1 p1
  refine ⟨b, rfl, ?_⟩
  cases b with
  | true => exact hb _ _ _ _ _ _ _ _ R1 (p2.ex x1)
  | false => exact p2 _ own1 F1 H1 x1 R1 (.bl false)
theorem se_or {rest : List Expr} (ha : SE X W a ma) (hb : SE X W (.BoolOp .Or (b :: rest) pos) mb) : SE X W (.BoolOp .Or (a :: b :: rest) pos) (eOr ma mb) := by
  intro c own F H σd σ T Q R p
  refine (pe_or pe_we pe_we).we ?_
  refine ha.then R p fun ra σ1 p1 va own1 F1 H1 x1 R1 r1 => ?_
  obtain ⟨b, rfl, rfl, p2⟩ := isBl_ok r1 p1
  refine ⟨b, rfl, ?_⟩
  cases b with
  | false => exact hb _ _ _ _ _ _ _ _ R1 (p2.ex x1)
  | true => exact p2 _ own1 F1 H1 x1 R1 (.bl true)
theorem se_not (ha : SE X W a ma) : SE X W (.UnaryOp .Not a pos) (eNot ma) := by
  intro c own F H σd σ T Q R p
  refine (pe_not pe_we).we ?_
  refine ha.then R p fun ra σ1 p1 va own1 F1 H1 x1 R1 r1 => ?_
  obtain ⟨b, rfl, rfl, p2⟩ := isBl_ok r1 p1
  exact ⟨b, rfl, p2 _ own1 F1 H1 x1 R1 (.bl (!b))⟩
/-- data's truth -/
def truth : D → Option Bool
  | .non => some false
  | .bl b => some b
  | .int i => some (i != 0)
  | .str s => if s.length ≤ 16777216 then some (!s.isEmpty) else none
  | .lst xs => some (!xs.isEmpty)
  | .tup xs => some (!xs.isEmpty)
  | _ => none
def tTru (m : M Rs) : M Bool := fun σ => (m σ).bind fun r σ1 => (peek r σ1).bind fun d σ2 => match truth d with
  | some b => .ok b σ2
  | none => .stuck
theorem truth_ok {d : D} {v : V} {b : Bool} {K : Frag} {w : World} (e : Ex F H) (h : Vw K w F H d v) (t : truth d = some b) : TruV K v H b := by
  cases d with
  | non => cases h.non; exact (Option.some.inj t).symm
  | bl k => cases h.bl; exact (Option.some.inj t).symm
  | int i => cases h.int; exact (Option.some.inj t).symm
  | str s =>
    cases h.str
    simp only [truth] at t
    split at t
    · rename_i hl
      refine ⟨by show (s.toArray).size ≤ sizeLine; rw [sizeLine_eq, List.size_toArray]; exact hl, ?_⟩
      rw [← Option.some.inj t]
      show (!s.isEmpty) = (((s.toArray.size : Nat) : Int) != 0)
      cases s <;> simp
      omega
    · cases t
  | lst xs =>
    obtain ⟨a, vs, rfl, h1, h2⟩ := h.lst e
    refine .inl ⟨vs, SqL.of h1, ?_⟩
    rw [← Option.some.inj t]
    cases h2 <;> rfl
  | tup xs =>
    obtain ⟨a, vs, rfl, h1, h2⟩ := h.tup e
    refine .inr (.inl ⟨vs, h1, ?_⟩)
    rw [← Option.some.inj t]
    cases h2 <;> rfl
  | _ => cases t
theorem st_val (h : SE X W a m) (he : ∀ whole, isTrue a X.env whole = (do let v ← whole; standAt a.pos; holding [v] (truthy v)) := by intro _; rfl) : ST X W a (tTru m) := by
  intro c own F H σd σ T Q R p
  refine (pt_truth pe_we he).we ?_
  show weE X a σ H _
  refine h c own F H σd σ T _ R ?_
  unfold tTru at p
  cases hm : m σd with
  | ok r σ1 =>
    rw [hm, bind_ok] at p
    intro v own1 F1 H1 e1 R1 r1
    cases hp : peek r σ1 with
    | exc x σ' => exact absurd hp peek_noexc
    | stuck => rw [hp] at p; exact p.elim
    | ok d σ2 =>
      obtain ⟨rfl, vw⟩ := peek_ok R1 r1 hp
      rw [hp, bind_ok] at p
      cases ht : truth d with
      | none => rw [ht] at p; exact p.elim
      | some b =>
        rw [ht] at p
        exact ⟨b, truth_ok R1.fh vw ht, p own1 F1 H1 e1 R1.popR⟩
  | exc x σ1 => rw [hm] at p; exact p
  | stuck => rw [hm] at p; exact p
theorem PstP.seq {α β : Type} {o : Out α} {f : α → SD → Out β} {Q : β → SD → Own → Hp → Hp → Prop} {Q1 : α → SD → Own → Hp → Hp → Prop} (h : PstP X W c T σ F (o.bind f) Q)
    (k : ∀ r σd', PstP X W c T σ F (f r σd') Q → ∀ own' F' H', Ex F F' → Rel X.K X.w c own' F' H' σd' σ T → Q1 r σd' own' F' H') : PstP X W c T σ F o Q1 := by
  cases o with
  | ok r σd' => exact fun own' F' H' e R => k _ _ h own' F' H' e R
  | exc x σd' => exact h
  | stuck => exact h
def tAnd' (ma mb : M Bool) : M Bool := fun σ => (ma σ).bind fun b σ1 => if b then mb σ1 else .ok false σ1
def tOr' (ma mb : M Bool) : M Bool := fun σ => (ma σ).bind fun b σ1 => if b then .ok true σ1 else mb σ1
def tNot' (ma : M Bool) : M Bool := fun σ => (ma σ).bind fun b σ1 => .ok (!b) σ1
variable {ta tb : M Bool}
theorem SW.st (h : SW X W a ta) : ST X W a ta := fun c own F H σd σ T Q R p => (pw_we.pt).we (h c own F H σd σ T Q R p)
/-- a test, then what follows; the answer and the state -/
theorem ST.then (ha : ST X W a ta) {β : Type} {f : Bool → SD → Out β} {Q : β → SD → Own → Hp → Hp → Prop} (R : Rel X.K X.w c own F H σd σ T) (p : PstP X W c T σ F ((ta σd).bind f) Q) {Q1 : Bool → Hp → Prop}
    (k : ∀ b σd', PstP X W c T σ F (f b σd') Q → ∀ own' F' H', Ex F F' → Rel X.K X.w c own' F' H' σd' σ T → Q1 b H') : weT X a σ H Q1 :=
  ha c own F H σd σ T Q1 R (p.seq (Q1 := fun b _ _ _ H' => Q1 b H') fun b σd' q own' F' H' e R' => k b σd' q own' F' H' e R')
theorem sw_and1 (ha : ST X W a ta) : SW X W (.BoolOp .And [a] pos) ta := fun c own F H σd σ T Q R p => (pw_and1 pt_we).we (ha c own F H σd σ T Q R p)
theorem sw_or1 (ha : ST X W a ta) : SW X W (.BoolOp .Or [a] pos) ta := fun c own F H σd σ T Q R p => (pw_or1 pt_we).we (ha c own F H σd σ T Q R p)
theorem sw_and {rest : List Expr} (ha : ST X W a ta) (hb : SW X W (.BoolOp .And (b :: rest) pos) tb) : SW X W (.BoolOp .And (a :: b :: rest) pos) (tAnd' ta tb) := by
  intro c own F H σd σ T Q R p
  refine (pw_and pt_we pw_we).we ?_
  refine ha.then R p fun k σ1 p1 own1 F1 H1 x1 R1 => ?_
  cases k with
  | true => exact hb _ _ _ _ _ _ _ _ R1 (p1.ex x1)
  | false => exact p1 own1 F1 H1 x1 R1
theorem sw_or {rest : List Expr} (ha : ST X W a ta) (hb : SW X W (.BoolOp .Or (b :: rest) pos) tb) : SW X W (.BoolOp .Or (a :: b :: rest) pos) (tOr' ta tb) := by
  intro c own F H σd σ T Q R p
  refine (pw_or pt_we pw_we).we ?_
  refine ha.then R p fun k σ1 p1 own1 F1 H1 x1 R1 => ?_
  cases k with
  | false => exact hb _ _ _ _ _ _ _ _ R1 (p1.ex x1)
  | true => exact p1 own1 F1 H1 x1 R1
theorem st_not (ha : ST X W a ta) : ST X W (.UnaryOp .Not a pos) (tNot' ta) := by
  intro c own F H σd σ T Q R p
  refine (pt_not pt_we).we ?_
  exact ha.then R p fun k σ1 p1 own1 F1 H1 x1 R1 => p1 own1 F1 H1 x1 R1
/-- an answer with its value held, as Pst -/
def ebT (m : M Bool) (f : Bool → M Rs) : M Rs := fun σ => (m σ).bind fun b σ1 => f b σ1
theorem ST.thenE (ha : ST X W a ta) {f : Bool → M Rs} {Q : VK} (R : Rel X.K X.w c own F H σd σ T) (p : Pst X W c T σ F (ebT ta f σd) Q) {Q1 : Bool → Hp → Prop}
    (k : ∀ b σd', Pst X W c T σ F (f b σd') Q → ∀ own' F' H', Ex F F' → Rel X.K X.w c own' F' H' σd' σ T → Q1 b H') : weT X a σ H Q1 := by
  refine ha c own F H σd σ T Q1 R ?_
  unfold ebT at p
  cases hm : ta σd with
  | ok b σ1 => rw [hm] at p; exact fun own' F' H' e R' => k b σ1 p own' F' H' e R'
  | exc x σ1 => rw [hm] at p; exact p
  | stuck => rw [hm] at p; exact p
def eIf (mt : M Bool) (ma mb : M Rs) : M Rs := ebT mt fun b => if b then ma else mb
theorem se_if {t : Expr} {mt : M Bool} (ht : ST X W t mt) (ha : SE X W a ma) (hb : SE X W b mb) : SE X W (.IfExp t a b pos) (eIf mt ma mb) := by
  intro c own F H σd σ T Q R p
  refine (pe_ifExp pt_we pe_we pe_we).we ?_
  refine ht.thenE R p fun k σ1 p1 own1 F1 H1 x1 R1 => ?_
  cases k with
  | true => exact ha _ _ _ _ _ _ _ _ R1 (p1.ex x1)
  | false => exact hb _ _ _ _ _ _ _ _ R1 (p1.ex x1)
theorem se_chain {op op' : CmpOp} {f g : D → D → Option Rn} {cc : Expr} {mc : M Rs} (ho : Op2 X (compareOp op) f) (ho' : Op2 X (compareOp op') g) (ha : SE X W a ma) (hb : SE X W b mb) (hc : SE X W cc mc)
    (hm : lastMarks [op, op'] [b, cc] = false := by with_unfolding_all rfl) : SE X W (.Compare a [op, op'] [b, cc] pos) (e3c f g ma mb mc) := by
  obtain ⟨r, hr, hf⟩ := ho
  obtain ⟨r', hr', hf'⟩ := ho'
  intro c own F H σd σ T Q R p
  exact (pe_chain hr hr' pe_we pe_we pe_we hm).we (chain_read hf hf' ha hb hc R p)
theorem st_chain {op op' : CmpOp} {f g : D → D → Option Rn} {cc : Expr} {mc : M Rs} (ho : Op2 X (compareOp op) f) (ho' : Op2 X (compareOp op') g) (ha : SE X W a ma) (hb : SE X W b mb) (hc : SE X W cc mc)
    (hm : lastMarks [op, op'] [b, cc] = false := by with_unfolding_all rfl) : ST X W (.Compare a [op, op'] [b, cc] pos) (tB1 (e3c f g ma mb mc)) := by
  obtain ⟨r, hr, hf⟩ := ho
  obtain ⟨r', hr', hf'⟩ := ho'
  intro c own F H σd σ T Q R p
  exact (pt_chain hr hr' pe_we pe_we pe_we hm).we (chain_read hf hf' ha hb hc R (toBl p))
end
def pushL (T : Tms) : List Rs → List V → Tms
  | r :: rs, v :: vs => pushL (push T r v) rs vs
  | _, _ => T
inductive RsL (K : Frag) (w : World) (F : Hp) (σ : L2.St) : List Rs → List V → Prop
  | nil : RsL K w F σ [] []
  | cons {r : Rs} {rs : List Rs} {v : V} {vs : List V} : RsR K w F σ r v → RsL K w F σ rs vs → RsL K w F σ (r :: rs) (v :: vs)
section
variable {K : Frag} {w : World} {F F' H H' : Hp} {c : Ctx} {own : Own} {σd σd' : SD} {σ : L2.St} {T : Tms} {r : Rs} {v : V} {d : D}
theorem RsL.mono (e : Ex F F') : ∀ {rs : List Rs} {vs : List V}, RsL K w F σ rs vs → RsL K w F' σ rs vs
  | _, _, .nil => .nil
  | _, _, .cons h hs => .cons (h.mono e) (RsL.mono e hs)
theorem Rel.popL : ∀ {rs : List Rs} {vs : List V} {T : Tms}, Rel K w c own F H σd σ (pushL T rs vs) → Rel K w c own F H σd σ T
  | [], _, _, R => by unfold pushL at R; exact R
  | _ :: _, [], _, R => by unfold pushL at R; exact R
  | r :: rs, v :: vs, _, R => by
    unfold pushL at R
    exact (Rel.popL R).popR
/-- what is read of the arguments -/
def peekL : List Rs → M (List D)
  | [] => fun σ => .ok [] σ
  | r :: rs => fun σ => (peekL rs σ).bind fun ds σ1 => (peek r σ1).bind fun d σ2 => .ok (d :: ds) σ2
/-- they are frozen -/
def frzL : List Rs → M (List D)
  | [] => fun σ => .ok [] σ
  | r :: rs => fun σ => (frzL rs σ).bind fun ds σ1 => (frz r σ1).bind fun d σ2 => .ok (d :: ds) σ2
inductive VwL (K : Frag) (w : World) (F H : Hp) : List D → List V → Prop
  | nil : VwL K w F H [] []
  | cons {d : D} {ds : List D} {v : V} {vs : List V} : Vw K w F H d v → VwL K w F H ds vs → VwL K w F H (d :: ds) (v :: vs)
theorem peekL_noexc {x : Xd} : ∀ {rs : List Rs} {σd σd' : SD}, peekL rs σd ≠ .exc x σd'
  | [], _, _ => fun z => nomatch z
  | r :: rs, σd, σd' => by
    unfold peekL
    intro e
    cases h : peekL rs σd with
    | exc y σ1 => exact absurd h peekL_noexc
    | stuck => rw [h] at e; cases e
    | ok ds σ1 =>
      rw [h, bind_ok] at e
      cases h2 : peek r σ1 with
      | exc y σ2 => exact absurd h2 peek_noexc
      | stuck => rw [h2] at e; cases e
      | ok d σ2 => rw [h2, bind_ok] at e; cases e
theorem frzL_noexc {x : Xd} : ∀ {rs : List Rs} {σd σd' : SD}, frzL rs σd ≠ .exc x σd'
  | [], _, _ => fun z => nomatch z
  | r :: rs, σd, σd' => by
    unfold frzL
    intro e
    cases h : frzL rs σd with
    | exc y σ1 => exact absurd h frzL_noexc
    | stuck => rw [h] at e; cases e
    | ok ds σ1 =>
      rw [h, bind_ok] at e
      cases h2 : frz r σ1 with
      | exc y σ2 => exact absurd h2 frz_noexc
      | stuck => rw [h2] at e; cases e
      | ok d σ2 => rw [h2, bind_ok] at e; cases e
theorem peekL_ok : ∀ {rs : List Rs} {vs : List V} {T : Tms} {ds : List D} {σd' : SD}, Rel K w c own F H σd σ (pushL T rs vs) → RsL K w F σ rs vs → peekL rs σd = .ok ds σd' → σd' = σd ∧ VwL K w F H ds vs
  | [], _, _, _, _, R, .nil, e => by
    cases e
    exact ⟨rfl, .nil⟩
  | r :: rs, v :: vs, T, ds, σd', R, .cons h hs, e => by
    unfold peekL at e
    unfold pushL at R
    cases h1 : peekL rs σd with
    | exc y σ1 => exact absurd h1 peekL_noexc
    | stuck => rw [h1] at e; cases e
    | ok ds1 σ1 =>
      rw [h1, bind_ok] at e
      obtain ⟨rfl, q⟩ := peekL_ok R hs h1
      cases h2 : peek r σ1 with
      | exc y σ2 => exact absurd h2 peek_noexc
      | stuck => rw [h2] at e; cases e
      | ok d σ2 =>
        rw [h2, bind_ok] at e
        cases e
        obtain ⟨rfl, q2⟩ := peek_ok R.popL h h2
        exact ⟨rfl, .cons q2 q⟩
theorem frzL_ok : ∀ {rs : List Rs} {vs : List V} {T : Tms} {ds : List D} {σd' : SD} {own : Own} {F : Hp}, Rel K w c own F H σd σ (pushL T rs vs) → RsL K w F σ rs vs → frzL rs σd = .ok ds σd' →
    ∃ own' F', Ex F F' ∧ Rel K w c own' F' H σd' σ T ∧ RpL K w F' ds vs
  | [], _, _, _, _, own, F, R, .nil, e => by
    cases e
    exact ⟨own, F, Evl.Ex.refl F, R, .nil⟩
  | r :: rs, v :: vs, T, ds, σd', own, F, R, .cons h hs, e => by
    unfold frzL at e
    unfold pushL at R
    cases h1 : frzL rs σd with
    | exc y σ1 => exact absurd h1 frzL_noexc
    | stuck => rw [h1] at e; cases e
    | ok ds1 σ1 =>
      rw [h1, bind_ok] at e
      obtain ⟨own1, F1, x1, R1, q⟩ := frzL_ok R hs h1
      cases h2 : frz r σ1 with
      | exc y σ2 => exact absurd h2 frz_noexc
      | stuck => rw [h2] at e; cases e
      | ok d σ2 =>
        rw [h2, bind_ok] at e
        cases e
        obtain ⟨own2, F2, x2, R2, q2⟩ := frz_ok R1 (h.mono x1) h2
        exact ⟨own2, F2, x1.trans x2, R2, .cons q2 (q.mono x2)⟩
end
section
variable (X : Cx) (W : WX) (c : Ctx) (T : Tms) (σ : L2.St) (F : Hp)
def PstA (o : Out (List Rs)) (Q : List V → Hp → Prop) : Prop := match o with
  | .ok rs σd => ∀ vs own F' H', Ex F F' → Rel X.K X.w c own F' H' σd σ (pushL T rs vs) → RsL X.K X.w F' σ rs vs → Q vs H'
  | .exc x σd => ∀ own F' H' cls d, Ex F F' → Rel X.K X.w c own F' H' σd σ T → XR X.K X.w F' x cls d → W cls d σ H'
  | .stuck => False
end
def SA (X : Cx) (W : WX) (es : List Expr) (m : M (List Rs)) : Prop :=
  ∀ (c : Ctx) (own : Own) (F H : Hp) (σd : SD) (σ : L2.St) (T : Tms) (Q : List V → Hp → Prop), Rel X.K X.w c own F H σd σ T → PstA X W c T σ F (m σd) Q → weA X es σ H Q
def aNil : M (List Rs) := fun σ => .ok [] σ
def aCons (m : M Rs) (ms : M (List Rs)) : M (List Rs) := fun σ => (m σ).bind fun r σ1 => (ms σ1).bind fun rs σ2 => .ok (r :: rs) σ2
section
variable {X : Cx} {W : WX} {c : Ctx} {T : Tms} {σ : L2.St} {F F' H : Hp} {own : Own} {σd : SD} {a b e : Expr} {es : List Expr} {ma mb m : M Rs} {ms : M (List Rs)} {pos : Pos}
theorem sa_nil : SA X W [] aNil := fun c own F H σd σ T Q R p => pa_nil.we (p [] own F H (Evl.Ex.refl F) R .nil)
theorem sa_cons (h : SE X W e m) (hs : SA X W es ms) (hst : starEach (e :: es) X.env = (false, eval e X.env) :: starEach es X.env := by rfl) : SA X W (e :: es) (aCons m ms) := by
  intro c own F H σd σ T Q R p
  refine (pa_cons pe_we pa_we hst).we ?_
  show weE X e σ H fun x H1 => weA X es σ H1 fun xs H2 => Q (x :: xs) H2
  unfold aCons at p
  refine h c own F H σd σ T _ R ?_
  cases hm : m σd with
  | stuck => rw [hm] at p; exact p
  | exc x σ1 => rw [hm] at p; exact p
  | ok r σ1 =>
    rw [hm, bind_ok] at p
    intro v own1 F1 H1 x1 R1 r1
    refine hs c own1 F1 H1 σ1 σ _ _ R1 ?_
    cases hms : ms σ1 with
    | stuck => rw [hms] at p; exact p
    | exc x σ2 => rw [hms] at p; exact fun own2 F2 H2 cls d e R2 xr => p own2 F2 H2 cls d (x1.trans e) R2.popR xr
    | ok rs σ2 =>
      rw [hms, bind_ok] at p
      exact fun vs own2 F2 H2 x2 R2 r2 => p (v :: vs) own2 F2 H2 (x1.trans x2) R2 (.cons (r1.mono x2) r2)
/-- a built-in called with values -/
def OpC (X : Cx) (f : Value) (g : List D → Option Rn) : Prop := ∃ r : List V → Hp → VK → Prop, CallR X f r ∧
  ∀ (F H : Hp) (ds : List D) (vs : List V) (n : Rn) (Q : VK), Ex F H → VwL X.K X.w F H ds vs → g ds = some n → KQ X.K X.w F H n Q → r vs H Q
def eCB (g : List D → Option Rn) (ms : M (List Rs)) : M Rs := fun σ => (ms σ).bind fun rs σ1 => (peekL rs σ1).bind fun ds σ2 => ans σ2 (g ds)
theorem cb_read {r : List V → Hp → VK → Prop} {g : List D → Option Rn} (hg : ∀ (F H : Hp) (ds : List D) (vs : List V) (n : Rn) (Q : VK), Ex F H → VwL X.K X.w F H ds vs → g ds = some n → KQ X.K X.w F H n Q → r vs H Q)
    (ha : SA X W es ms) {Q : VK} (R : Rel X.K X.w c own F H σd σ T) (p : Pst X W c T σ F (eCB g ms σd) Q) : weA X es σ H fun vs H1 => r vs H1 Q := by
  unfold eCB at p
  refine ha c own F H σd σ T _ R ?_
  cases hm : ms σd with
  | stuck => rw [hm] at p; exact p
  | exc x σ1 => rw [hm] at p; exact p
  | ok rs σ1 =>
    rw [hm, bind_ok] at p
    intro vs own1 F1 H1 x1 R1 r1
    cases hp : peekL rs σ1 with
    | exc x σ' => exact absurd hp peekL_noexc
    | stuck => rw [hp] at p; exact p.elim
    | ok ds σ2 =>
      obtain ⟨rfl, vw⟩ := peekL_ok R1 r1 hp
      rw [hp, bind_ok] at p
      obtain ⟨n, e1, k⟩ := fin_ok R1.popL (p.ex x1)
      exact hg F1 H1 ds vs n Q R1.fh vw e1 k
theorem se_callB {id : String} {x : Str} {p' : Pos} {g : List D → Option Rn} (hc : OpC X (.builtin id) g) (hg : Gl X x) (hm : X.mg x = none) (hv : bootBuiltins x = some (.builtin id)) (ha : SA X W (e :: es) ms) (hn : x ≠ "__name__" := by decide) (hdb : (x == ("__debug__" : Str)) = false := by decide)
    (he : starEach (e :: es) X.env = (false, eval e X.env) :: starEach es X.env := by rfl) (hpl : (backTo pos (starEach es X.env)).any (·.1) = false := by rfl) : SE X W (.Call (.Name x p') (e :: es) [] pos) (eCB g ms) := by
  obtain ⟨r, hr, hf⟩ := hc
  intro c own F H σd σ T Q R p
  exact (pe_callB hr hg hm hv pa_we hn hdb he hpl).we (cb_read hf ha R p)
theorem se_callTy {id : String} {x : Str} {p' : Pos} {g : List D → Option Rn} (hc : OpC X (.type id) g) (hg : Gl X x) (hm : X.mg x = none) (hv : bootBuiltins x = some (.type id)) (ha : SA X W (e :: es) ms) (hn : x ≠ "__name__" := by decide) (hdb : (x == ("__debug__" : Str)) = false := by decide)
    (he : starEach (e :: es) X.env = (false, eval e X.env) :: starEach es X.env := by rfl) (hpl : (backTo pos (starEach es X.env)).any (·.1) = false := by rfl) : SE X W (.Call (.Name x p') (e :: es) [] pos) (eCB g ms) := by
  obtain ⟨r, hr, hf⟩ := hc
  intro c own F H σd σ T Q R p
  exact (pe_callTy hr hg hm hv pa_we hn hdb he hpl).we (cb_read hf ha R p)
def small (n : Nat) : Prop := n ≤ 16777216
instance (n : Nat) : Decidable (small n) := by unfold small; infer_instance
def eTup (ms : M (List Rs)) : M Rs := fun σ => (ms σ).bind fun rs σ1 => (frzL rs σ1).bind fun ds σ2 => if small ds.length then .ok (.fz (.tup ds)) σ2 else .stuck
def eLst (ms : M (List Rs)) : M Rs := fun σ => (ms σ).bind fun rs σ1 => (frzL rs σ1).bind fun ds σ2 => if small ds.length then .ok (.ow (.lst ds)) σ2 else .stuck
theorem disp_read (ha : SA X W es ms) {o : List D → Rs} {Q : VK} (R : Rel X.K X.w c own F H σd σ T) (p : Pst X W c T σ F ((ms σd).bind fun rs σ1 => (frzL rs σ1).bind fun ds σ2 => if small ds.length then .ok (o ds) σ2 else .stuck) Q) {Q1 : List V → Hp → Prop}
    (k : ∀ ds σ2, Pst X W c T σ F (.ok (o ds) σ2) Q → ∀ vs own' F' H', Ex F F' → Rel X.K X.w c own' F' H' σ2 σ T → RpL X.K X.w F' ds vs → vs.length ≤ sizeLine → Q1 vs H') : weA X es σ H Q1 := by
  refine ha c own F H σd σ T _ R ?_
  cases hm : ms σd with
  | stuck => rw [hm] at p; exact p
  | exc x σ1 => rw [hm] at p; exact p
  | ok rs σ1 =>
    rw [hm, bind_ok] at p
    intro vs own1 F1 H1 x1 R1 r1
    cases hp : frzL rs σ1 with
    | exc x σ' => exact absurd hp frzL_noexc
    | stuck => rw [hp] at p; exact p.elim
    | ok ds σ2 =>
      obtain ⟨own2, F2, x2, R2, q⟩ := frzL_ok R1 r1 hp
      rw [hp, bind_ok] at p
      split at p
      · rename_i hs
        exact k ds σ2 p vs own2 F2 H1 (x1.trans x2) R2 q (by rw [← q.length, sizeLine_eq]; exact hs)
      · exact p.elim
theorem se_tup {x1} (ha : SA X W es ms) : SE X W (.Tuple es x1 pos) (eTup ms) := by
  intro c own F H σd σ T Q R p
  refine (pe_tup pa_we).we ?_
  refine disp_read (o := fun ds => .fz (.tup ds)) ha R p fun ds σ2 p2 vs own2 F2 H2 x2 R2 q hs => ⟨hs, fun a ha => ?_⟩
  exact p2 _ _ _ _ (x2.trans (ex_upd (R2.notF ha))) (R2.newF ha) (.tup (.inl (.inl upd_same)) (q.mono (ex_upd (R2.notF ha))))
theorem se_lst (ha : SA X W es ms) : SE X W (.List es pos) (eLst ms) := by
  intro c own F H σd σ T Q R p
  refine (pe_lst pa_we).we ?_
  refine disp_read (o := fun ds => .ow (.lst ds)) ha R p fun ds σ2 p2 vs own2 F2 H2 x2 R2 q hs => ⟨hs, fun a ha => ?_⟩
  exact p2 _ _ _ _ x2 (R2.newT (d := .lst ds) ha (.lst rfl upd_same q)) trivial
def OpIx (X : Cx) (f : D → D → Option Rn) : Prop := ∃ r : R2, IxR X r ∧ Serves2 X r f
theorem se_ix {f : D → D → Option Rn} (ho : OpIx X f) (ha : SE X W a ma) (hb : SE X W b mb) (hs : PlainIx b) : SE X W (.Subscript a b pos) (e2 f ma mb) := by
  obtain ⟨r, hr, hf⟩ := ho
  intro c own F H σd σ T Q R p
  exact (pe_ix hr pe_we pe_we hs).we (two_read hf ha hb R p)
/-- a slice's part -/
def pNo : M (Option Int) := fun σ => .ok none σ
def pSo (m : M Rs) : M (Option Int) := fun σ => (m σ).bind fun r σ1 => match r with
  | .fz (.int i) => .ok (some i) σ1
  | _ => .stuck
def weO (X : Cx) (e : Option Expr) : TO := fun σ H Q => ∀ (pins : List (Addr × Obj)) (s : Shared), Inv X pins σ H s →
    wpAny (model X.prog X.w) X.A (evalPart e X.env) (fun u s' => ∃ o H', Inv X pins σ H' s' ∧ IsPart u o ∧ Q o H') X.xe s
theorem po_we {e : Option Expr} : PO X e (weO X e) := ⟨fun pins s σ H Q I h => h pins s I⟩
theorem _root_.L2.PO.we {e : Option Expr} {t : TO} (h : PO X e t) {σ : L2.St} {H : Hp} {Q : Option Int → Hp → Prop} (q : t σ H Q) : weO X e σ H Q := fun pins s I => h.run pins s σ H Q I q
def SO (X : Cx) (W : WX) (e : Option Expr) (m : M (Option Int)) : Prop :=
  ∀ (c : Ctx) (own : Own) (F H : Hp) (σd : SD) (σ : L2.St) (T : Tms) (Q : Option Int → Hp → Prop), Rel X.K X.w c own F H σd σ T → PstP X W c T σ F (m σd) (fun b _ _ _ H' => Q b H') → weO X e σ H Q
theorem so_none : SO X W none pNo := fun c own F H σd σ T Q R p => po_none.we (p own F H (Evl.Ex.refl F) R)
theorem so_some (h : SE X W e m) : SO X W (some e) (pSo m) := by
  intro c own F H σd σ T Q R p
  refine (po_some pe_we).we ?_
  show weE X e σ H _
  refine h c own F H σd σ T _ R ?_
  unfold pSo at p
  cases hm : m σd with
  | stuck => rw [hm] at p; exact p
  | exc x σ1 => rw [hm] at p; exact p
  | ok r σ1 =>
    rw [hm, bind_ok] at p
    cases r with
    | fz d =>
      cases d with
      | int i =>
        intro v own F' H' e R r
        cases (show Rp X.K X.w F' (.int i) v from r)
        exact ⟨i, rfl, p own F' H' e R⟩
      | _ => exact p.elim
    | ow d => exact p.elim
    | pk i => exact p.elim
def OpSl (X : Cx) (f : D → Option Int → Option Int → Option Rn) : Prop := ∃ r : V → Option Int → Option Int → Hp → VK → Prop, L2.SlR X r ∧
  ∀ (F H : Hp) (d : D) (v : V) (lo hi : Option Int) (n : Rn) (Q : VK), Ex F H → Vw X.K X.w F H d v → f d lo hi = some n → KQ X.K X.w F H n Q → r v lo hi H Q
def eSl (f : D → Option Int → Option Int → Option Rn) (m : M Rs) (ml mh : M (Option Int)) : M Rs := fun σ => (m σ).bind fun r σ1 => (ml σ1).bind fun lo σ2 => (mh σ2).bind fun hi σ3 => (peek r σ3).bind fun d σ4 => ans σ4 (f d lo hi)
theorem se_slice {f : D → Option Int → Option Int → Option Rn} {lo hi : Option Expr} {p2 : Pos} {ml mh : M (Option Int)} (ho : OpSl X f) (h : SE X W e m) (hl : SO X W lo ml) (hh : SO X W hi mh) :
    SE X W (.Subscript e (.Slice lo hi none p2) pos) (eSl f m ml mh) := by
  obtain ⟨r, hr, hf⟩ := ho
  intro c own F H σd σ T Q R p
  refine (pe_slice hr pe_we po_we po_we).we ?_
  unfold eSl at p
  refine h.then R p fun ra σ1 p1 va own1 F1 H1 x1 R1 r1 => ?_
  refine hl c own1 F1 H1 σ1 σ _ _ R1 ?_
  cases hml : ml σ1 with
  | stuck => rw [hml] at p1; exact p1
  | exc x σ2 => rw [hml] at p1; exact fun own2 F2 H2 cls d e R2 xr => p1 own2 F2 H2 cls d (x1.trans e) R2.popR xr
  | ok l σ2 =>
    rw [hml, bind_ok] at p1
    intro own2 F2 H2 x2 R2
    refine hh c own2 F2 H2 σ2 σ _ _ R2 ?_
    cases hmh : mh σ2 with
    | stuck => rw [hmh] at p1; exact p1
    | exc x σ3 => rw [hmh] at p1; exact fun own3 F3 H3 cls d e R3 xr => p1 own3 F3 H3 cls d ((x1.trans x2).trans e) R3.popR xr
    | ok h2 σ3 =>
      rw [hmh, bind_ok] at p1
      intro own3 F3 H3 x3 R3
      exact one_ok (f := fun d => f d l h2) (r := fun v H Q => r v l h2 H Q) (fun F H d v n Q e1 e2 e3 k => hf F H d v l h2 n Q e1 e2 e3 k) R3 (r1.mono (x2.trans x3)) ((x1.trans x2).trans x3) p1
end
end DL

namespace DL
open PySem PySem.Spec PyProof.Rows L2
mutual
def toPy : D → PyData
  | .non => .none
  | .bl b => .bool b
  | .int i => .int i
  | .str s => .str ⟨s.toArray⟩
  | .lst xs => .list (toPyL xs)
  | .tup xs => .tuple (toPyL xs)
  | .ref _ | .ty _ | .scr _ | .dic _ | .dcw _ | .obj _ _ => .none
def toPyL : List D → List PyData
  | [] => []
  | x :: xs => toPy x :: toPyL xs
end
/-- plain data: no objects, no dicts; every sign of a text is one -/
def sOk (s : List Nat) : Bool := s.all fun c => decide (c < 1114112)
mutual
def dOk : D → Bool
  | .non | .bl _ | .int _ => true
  | .str s => sOk s
  | .lst xs | .tup xs => dOkL xs
  | .ref _ | .ty _ | .scr _ | .dic _ | .dcw _ | .obj _ _ => false
def dOkL : List D → Bool
  | [] => true
  | x :: xs => dOk x && dOkL xs
end
mutual
def dDep : D → Nat
  | .lst xs | .tup xs => dDepL xs + 1
  | .non | .bl _ | .int _ | .str _ | .ref _ | .ty _ | .scr _ | .dic _ | .dcw _ | .obj _ _ => 0
def dDepL : List D → Nat
  | [] => 0
  | x :: xs => max (dDep x) (dDepL xs)
end
mutual
def deq : D → D → Bool
  | .non, .non => true
  | .bl a, .bl b => a == b
  | .bl a, .int j => (if a then 1 else 0) == j
  | .int i, .bl b => i == (if b then 1 else 0)
  | .int i, .int j => i == j
  | .str x, .str y => x == y
  | .lst xs, .lst ys => deqL xs ys
  | .tup xs, .tup ys => deqL xs ys
  | _, _ => false
def deqL : List D → List D → Bool
  | [], [] => true
  | x :: xs, y :: ys => deq x y && deqL xs ys
  | _, _ => false
end
section
variable {K : Frag} {w : World} {F H : Hp}
mutual
theorem Rp.dp (e : Ex F H) : ∀ {d : D} {v : V}, Rp K w F d v → dOk d = true → Dp K H v (toPy d)
  | _, _, .non, _ => by simp only [toPy]; exact .non
  | _, _, .bl b, _ => by simp only [toPy]; exact .bl b
  | _, _, .int i, _ => by simp only [toPy]; exact .int i
  | _, _, .str s, _ => by simp only [toPy]; exact .str _
  | _, _, .tup h hs, o => by
    simp only [toPy]
    simp only [dOk] at o
    exact .tup (Evl.ex_t e h) (RpL.dp e hs o)
  | _, _, .lst h hs, o => by
    simp only [toPy]
    simp only [dOk] at o
    exact .lst (SqL.of (e _ _ h)) (RpL.dp e hs o)
  | _, _, .ref _, o => by simp [dOk] at o
  | _, _, .ty _, o => by simp [dOk] at o
  | _, _, .scr _, o => by simp [dOk] at o
  | _, _, .dic _ _, o => by simp [dOk] at o
  | _, _, .dcw _ _, o => by simp [dOk] at o
theorem RpL.dp (e : Ex F H) : ∀ {ds : List D} {vs : List V}, RpL K w F ds vs → dOkL ds = true → DpAll K H vs (toPyL ds)
  | _, _, .nil, _ => by simp only [toPyL]; exact .nil
  | _, _, .cons h hs, o => by
    simp only [toPyL]
    simp only [dOkL, Bool.and_eq_true] at o
    exact .cons (Rp.dp e h o.1) (RpL.dp e hs o.2)
end
theorem Vw.dp {d : D} {v : V} (h : Vw K w F H d v) (e : Ex F H) (o : dOk d = true) : Dp K H v (toPy d) := by
  rcases h with h | ⟨P, h⟩
  · exact h.dp e o
  · cases h with
    | lst _ h1 h2 =>
      simp only [toPy]
      simp only [dOk] at o
      exact .lst (SqL.of h1) (RpL.dp e h2 o)
    | dic _ _ _ => simp [dOk] at o
end
mutual
theorem canLay_of_dOk : ∀ {d : D}, dOk d = true → (toPy d).canLay0 = true
  | .non, _ => by simp only [toPy, PyData.canLay0]
  | .bl _, _ => by simp only [toPy, PyData.canLay0]
  | .int _, _ => by simp only [toPy, PyData.canLay0]
  | .str s, o => by
    simp only [toPy, PyData.canLay0]
    simp only [dOk, sOk] at o
    unfold PyData.strOk
    rw [List.all_toArray]
    exact o
  | .lst xs, o => by
    simp only [toPy, PyData.canLay0]
    exact canLay_of_dOkL (by simpa only [dOk] using o)
  | .tup xs, o => by
    simp only [toPy, PyData.canLay0]
    exact canLay_of_dOkL (by simpa only [dOk] using o)
  | .ref _, o => by simp [dOk] at o
  | .ty _, o => by simp [dOk] at o
  | .scr _, o => by simp [dOk] at o
  | .dic _, o => by simp [dOk] at o
  | .dcw _, o => by simp [dOk] at o
  | .obj _ _, o => by simp [dOk] at o
theorem canLay_of_dOkL : ∀ {ds : List D}, dOkL ds = true → PyData.canLayAll0 (toPyL ds) = true
  | [], _ => by simp only [toPyL, PyData.canLayAll0]
  | x :: xs, o => by
    simp only [dOkL, Bool.and_eq_true] at o
    simp only [toPyL, PyData.canLayAll0, canLay_of_dOk o.1, canLay_of_dOkL o.2, Bool.and_self]
end
mutual
theorem depth_toPy : ∀ d : D, (toPy d).depth = dDep d
  | .non => by simp only [toPy, PyData.depth, dDep]
  | .bl _ => by simp only [toPy, PyData.depth, dDep]
  | .int _ => by simp only [toPy, PyData.depth, dDep]
  | .str s => by simp only [toPy, PyData.depth, dDep]
  | .lst xs => by simp only [toPy, PyData.depth, dDep, depth_toPyL xs]
  | .tup xs => by simp only [toPy, PyData.depth, dDep, depth_toPyL xs]
  | .ref _ => by simp only [toPy, PyData.depth, dDep]
  | .ty _ => by simp only [toPy, PyData.depth, dDep]
  | .scr _ => by simp only [toPy, PyData.depth, dDep]
  | .dic _ => by simp only [toPy, PyData.depth, dDep]
  | .dcw _ => by simp only [toPy, PyData.depth, dDep]
  | .obj _ _ => by simp only [toPy, PyData.depth, dDep]
theorem depth_toPyL : ∀ ds : List D, PyData.depthAll (toPyL ds) = dDepL ds
  | [] => by simp only [toPyL, PyData.depthAll, dDepL]
  | x :: xs => by simp only [toPyL, PyData.depthAll, dDepL, depth_toPy x, depth_toPyL xs]
end
theorem str_beq {x y : List Nat} : ((⟨x.toArray⟩ : Str) == ⟨y.toArray⟩) = (x == y) := by
  by_cases h : x = y
  · subst h; simp
  · have h1 : ¬ (⟨x.toArray⟩ : Str) = ⟨y.toArray⟩ := fun z => h (by
      injection z with z
      simpa using congrArg Array.toList z)
    rw [beq_eq_false_iff_ne.mpr h1, beq_eq_false_iff_ne.mpr h]
mutual
theorem eqv_toPy : ∀ {a b : D}, dOk a = true → dOk b = true → PyData.eqv (toPy a) (toPy b) = deq a b := by
  intro a b ha hb
  cases a <;> cases b <;> first
    | (simp [dOk] at ha; done)
    | (simp [dOk] at hb; done)
    | (simp only [toPy, PyData.eqv, deq]; done)
    | (simp only [toPy, PyData.eqv, deq, str_beq]; done)
    | (simp only [toPy, PyData.eqv, deq]
       simp only [dOk] at ha hb
       exact eqvL_toPy ha hb)
theorem eqvL_toPy : ∀ {as bs : List D}, dOkL as = true → dOkL bs = true → PyData.eqvAll (toPyL as) (toPyL bs) = deqL as bs := by
  intro as bs ha hb
  match as, bs with
  | [], [] => simp only [toPyL, PyData.eqvAll, deqL]
  | [], _ :: _ => simp only [toPyL, PyData.eqvAll, deqL]
  | _ :: _, [] => simp only [toPyL, PyData.eqvAll, deqL]
  | a :: as, b :: bs =>
    simp only [dOkL, Bool.and_eq_true] at ha hb
    simp only [toPyL, PyData.eqvAll, deqL, eqv_toPy ha.1 hb.1, eqvL_toPy ha.2 hb.2]
end
/-- what == serves -/
def dGood (d : D) : Bool := dOk d && decide (dDep d ≤ 64)
theorem shaped_of {d : D} (h : dGood d = true) : SeqAt.shaped (toPy d) = true := by
  simp only [dGood, Bool.and_eq_true, decide_eq_true_eq] at h
  unfold SeqAt.shaped
  rw [canLay_of_dOk h.1, depth_toPy]
  simpa using h.2
theorem good_ok {d : D} (h : dGood d = true) : dOk d = true := by
  simp only [dGood, Bool.and_eq_true] at h
  exact h.1
def rb (b : Bool) : Option Rn := some (.val (.bl b))
def ri (i : Int) : Option Rn := some (.val (.int i))
def rs (s : List Nat) : Option Rn := some (.val (.str s))
theorem kq_bl {K : Frag} {w : World} {F H : Hp} {b : Bool} {Q : VK} (k : KQ K w F H (.val (.bl b)) Q) : Q (.bl b) H := k _ (.bl b)
theorem kq_int {K : Frag} {w : World} {F H : Hp} {b : Int} {Q : VK} (k : KQ K w F H (.val (.int b)) Q) : Q (.int b) H := k _ (.int b)
theorem kq_str {K : Frag} {w : World} {F H : Hp} {b : List Nat} {Q : VK} (k : KQ K w F H (.val (.str b)) Q) : Q (.str ⟨b.toArray⟩) H := k _ (.str b)
def dEq (a b : D) : Option Rn := if dGood a && dGood b then rb (deq a b) else none
def dNe (a b : D) : Option Rn := if dGood a && dGood b then rb (!deq a b) else none
section
variable {X : Cx}
theorem op_dEq (hu : X.A.units + 64 < cLine) : Op2 X (compareOp .Eq) dEq := by
  refine ⟨_, op_eqD hu, fun F H da db va vb n Q e ha hb h k => ?_⟩
  unfold dEq at h
  split at h
  · rename_i hg
    simp only [Bool.and_eq_true] at hg
    cases h
    exact ⟨_, _, ha.dp e (good_ok hg.1), hb.dp e (good_ok hg.2), shaped_of hg.1, shaped_of hg.2, by rw [eqv_toPy (good_ok hg.1) (good_ok hg.2)]; exact kq_bl k⟩
  · cases h
theorem op_dNe (hu : X.A.units + 64 < cLine) : Op2 X (compareOp .NotEq) dNe := by
  refine ⟨_, op_neD hu, fun F H da db va vb n Q e ha hb h k => ?_⟩
  unfold dNe at h
  split at h
  · rename_i hg
    simp only [Bool.and_eq_true] at hg
    cases h
    exact ⟨_, _, ha.dp e (good_ok hg.1), hb.dp e (good_ok hg.2), shaped_of hg.1, shaped_of hg.2, by rw [eqv_toPy (good_ok hg.1) (good_ok hg.2)]; exact kq_bl k⟩
  · cases h
end
def sLt (a b : List Nat) : Bool := decide (a < b)
def dLt : D → D → Option Rn
  | .int i, .int j => rb (decide (i < j))
  | .str a, .str b => rb (decide (a < b))
  | _, _ => none
def dLe : D → D → Option Rn
  | .int i, .int j => rb (decide (i ≤ j))
  | .str a, .str b => rb (!decide (b < a))
  | _, _ => none
def dGt : D → D → Option Rn
  | .int i, .int j => rb (decide (j < i))
  | .str a, .str b => rb (decide (b < a))
  | _, _ => none
def dGe : D → D → Option Rn
  | .int i, .int j => rb (decide (j ≤ i))
  | .str a, .str b => rb (!decide (a < b))
  | _, _ => none
section
variable {X : Cx}
theorem op_dLt : Op2 X (compareOp .Lt) dLt := by
  refine ⟨_, op_lt.or op_lt_str, fun F H da db va vb n Q e ha hb h k => ?_⟩
  cases da <;> cases db <;> first
    | (cases h; done)
    | (cases h; cases ha.int; cases hb.int; exact .inl ⟨_, _, rfl, rfl, kq_bl k⟩)
    | (cases h; cases ha.str; cases hb.str; exact .inr ⟨_, _, rfl, rfl, by simpa using kq_bl k⟩)
theorem op_dLe : Op2 X (compareOp .LtE) dLe := by
  refine ⟨_, op_le.or op_le_str, fun F H da db va vb n Q e ha hb h k => ?_⟩
  cases da <;> cases db <;> first
    | (cases h; done)
    | (cases h; cases ha.int; cases hb.int; exact .inl ⟨_, _, rfl, rfl, kq_bl k⟩)
    | (cases h; cases ha.str; cases hb.str; exact .inr ⟨_, _, rfl, rfl, kq_bl k⟩)
theorem op_dGt : Op2 X (compareOp .Gt) dGt := by
  refine ⟨_, op_gt.or op_gt_str, fun F H da db va vb n Q e ha hb h k => ?_⟩
  cases da <;> cases db <;> first
    | (cases h; done)
    | (cases h; cases ha.int; cases hb.int; exact .inl ⟨_, _, rfl, rfl, kq_bl k⟩)
    | (cases h; cases ha.str; cases hb.str; exact .inr ⟨_, _, rfl, rfl, kq_bl k⟩)
theorem op_dGe : Op2 X (compareOp .GtE) dGe := by
  refine ⟨_, op_ge.or op_ge_str, fun F H da db va vb n Q e ha hb h k => ?_⟩
  cases da <;> cases db <;> first
    | (cases h; done)
    | (cases h; cases ha.int; cases hb.int; exact .inl ⟨_, _, rfl, rfl, kq_bl k⟩)
    | (cases h; cases ha.str; cases hb.str; exact .inr ⟨_, _, rfl, rfl, kq_bl k⟩)
end
def dIsN (a b : D) : Option Rn := match b with
  | .non => (match a with | .non => rb true | .obj _ _ => none | _ => rb false)
  | _ => none
def dNotN (a b : D) : Option Rn := match b with
  | .non => (match a with | .non => rb false | .obj _ _ => none | _ => rb true)
  | _ => none
section
variable {X : Cx} {K : Frag} {w : World} {F H : Hp}
theorem vw_not_non {d : D} {v : V} (h : Vw K w F H d v) (hd : d ≠ .non) : v ≠ .non := by
  rintro rfl
  rcases h with h | ⟨P, h⟩
  · cases h
    exact hd rfl
  · cases h
theorem op_dIsN : Op2 X (compareOp .Is) dIsN := by
  refine ⟨_, op_isN, fun F H da db va vb n Q e ha hb h k => ?_⟩
  cases db <;> first
    | (cases h; done)
    | skip
  cases hb.non
  cases da <;> first
    | (cases h; cases ha.non; exact ⟨rfl, kq_bl k⟩)
    | (cases h; done)
    | (cases h; refine ⟨rfl, ?_⟩; rw [decide_eq_false (vw_not_non ha (by intro z; cases z))]; exact kq_bl k)
theorem op_dNotN : Op2 X (compareOp .IsNot) dNotN := by
  refine ⟨_, op_notN, fun F H da db va vb n Q e ha hb h k => ?_⟩
  cases db <;> first
    | (cases h; done)
    | skip
  cases hb.non
  cases da <;> first
    | (cases h; cases ha.non; exact ⟨rfl, kq_bl k⟩)
    | (cases h; done)
    | (cases h; refine ⟨rfl, ?_⟩; rw [decide_eq_false (vw_not_non ha (by intro z; cases z))]; exact kq_bl k)
end
def big64 (i : Int) : Bool := decide (-(2 ^ 64) < i ∧ i < 2 ^ 64)
/-- below 2 ^ 4000 -/
def big4k (i : Int) : Bool := decide (i.natAbs < 2 ^ 4000)
def dAdd : D → D → Option Rn
  | .int i, .int j => ri (i + j)
  | .str a, .str b => if small (a.length + b.length) then rs (a ++ b) else none
  | .lst a, .lst b => if small (a.length + b.length) then some (.newL (a ++ b)) else none
  | .tup a, .tup b => if small (a.length + b.length) then (if a.isEmpty then some (.val (.tup b)) else if b.isEmpty then some (.val (.tup a)) else some (.newT (a ++ b))) else none
  | _, _ => none
def dSub : D → D → Option Rn
  | .int i, .int j => ri (i - j)
  | _, _ => none
end DL

namespace DL
open PySem PySem.Spec PyProof.Rows L2
theorem str_append {a b : List Nat} : ((⟨a.toArray⟩ : Str) ++ ⟨b.toArray⟩) = ⟨(a ++ b).toArray⟩ := by
  show (⟨a.toArray ++ b.toArray⟩ : Str) = _
  rw [List.append_toArray]
theorem str_len {a : List Nat} : (⟨a.toArray⟩ : Str).length = a.length := by
  show a.toArray.size = _
  rw [List.size_toArray]
theorem small_line {n : Nat} (h : small n) : n ≤ sizeLine := by rw [sizeLine_eq]; exact h
def dMul : D → D → Option Rn
  | .int i, .int j => if big64 i || big64 j || (big4k i && big4k j) then ri (i * j) else none
  | .str a, .int k => if k < 1 then (if -(2 ^ 63) ≤ k then rs [] else none) else if small (a.length * k.toNat) && decide (k < 2 ^ 30) then rs (List.replicate k.toNat a).flatten else none
  | .lst a, .int k => if decide (-(2 ^ 63) ≤ k) && decide (k < 2 ^ 63) && decide (small (a.length * k.toNat)) then some (.newL (List.replicate k.toNat a).flatten) else none
  | _, _ => none
def dMod : D → D → Option Rn
  | .int i, .int j => if 0 < j then ri (i % j) else if j < 0 then ri (i.fmod j) else none
  | _, _ => none
def dFdiv : D → D → Option Rn
  | .int i, .int j => if 0 < j && big4k j then ri (i / j) else if j ≠ 0 ∧ j.natAbs < 1073741824 then ri (i.fdiv j) else none
  | _, _ => none
def dPow : D → D → Option Rn
  | .int i, .int j => if 0 ≤ j ∧ j ≤ 1000000 ∧ i.natAbs < 2 ^ 64 then ri (i ^ j.toNat) else none
  | _, _ => none
def dShl : D → D → Option Rn
  | .int i, .int j => if 0 ≤ j ∧ j ≤ 1000000 ∧ i.natAbs < 2 ^ 64 then ri (i * 2 ^ j.toNat) else none
  | _, _ => none
def dShr : D → D → Option Rn
  | .int i, .int j => if 0 ≤ j then ri (i / 2 ^ j.toNat) else none
  | _, _ => none
def dBand : D → D → Option Rn
  | .int i, .int j => ri (Builtin.bitAnd i j)
  | _, _ => none
def dBor : D → D → Option Rn
  | .int i, .int j => ri (Builtin.bitOr i j)
  | _, _ => none
def dBxor : D → D → Option Rn
  | .int i, .int j => ri (Builtin.bitXor i j)
  | _, _ => none
def dNeg : D → Option Rn
  | .int i => ri (-i)
  | _ => none
def dInv : D → Option Rn
  | .int i => ri (Builtin.bitNot i)
  | _ => none
theorem log_of_4k {i : Int} (h : big4k i = true) : i.natAbs.log2 < 4000 := by
  have h : i.natAbs < 2 ^ 4000 := of_decide_eq_true h
  by_cases z : i.natAbs = 0
  · rw [z]; decide
  · exact (Nat.log2_lt z).mpr h
theorem repL {K : Frag} {w : World} {F : Hp} {ds : List D} {vs : List V} (h : RpL K w F ds vs) : ∀ n : Nat, RpL K w F (List.replicate n ds).flatten (List.replicate n vs).flatten
  | 0 => .nil
  | n + 1 => by
    rw [List.replicate_succ, List.replicate_succ, List.flatten_cons, List.flatten_cons]
    exact h.append (repL h n)
theorem foldl_repA (xs : List Nat) : ∀ (k : Nat) (acc : List Nat), (List.replicate k xs.toArray).foldl (· ++ ·) acc.toArray = (acc ++ (List.replicate k xs).flatten).toArray
  | 0, acc => by simp
  | k + 1, acc => by
    rw [List.replicate_succ, List.foldl_cons, List.append_toArray, foldl_repA xs k, List.replicate_succ, List.flatten_cons, List.append_assoc]
section
variable {X : Cx}
theorem op_dAdd : Op2 X (binaryOp .Add) dAdd := by
  refine ⟨_, op_add.or (op_add_str.or (op_cat.or op_catA)), fun F H da db va vb n Q e ha hb h k => ?_⟩
  cases da <;> cases db <;> first
    | (cases h; done)
    | (cases h; cases ha.int; cases hb.int; exact .inl ⟨_, _, rfl, rfl, kq_int k⟩)
    | skip
  · simp only [dAdd] at h
    split at h
    · rename_i hs
      cases h
      cases ha.str
      cases hb.str
      exact .inr (.inl ⟨_, _, rfl, rfl, by rw [str_len, str_len]; exact small_line hs, by rw [str_append]; exact kq_str k⟩)
    · cases h
  · rename_i as bs
    simp only [dAdd] at h
    split at h
    · rename_i hs
      obtain ⟨a, vs, rfl, h1, h2⟩ := ha.tup e
      obtain ⟨b, us, rfl, h3, h4⟩ := hb.tup e
      have n1 : as = [] ↔ vs = [] := by cases h2 <;> simp
      have n2 : bs = [] ↔ us = [] := by cases h4 <;> simp
      refine .inr (.inr (.inr ⟨a, b, vs, us, rfl, rfl, h1, h3, by rw [← h2.length, ← h4.length]; exact small_line hs, fun z => ?_, fun z z2 => ?_, fun z z2 p hp => ?_⟩))
      · rw [if_pos (by simpa using n1.mpr z)] at h
        cases h
        rcases hb with hb | ⟨P, hb⟩
        · exact k _ hb
        · cases hb
      · rw [if_neg (by simpa using fun y => z (n1.mp y)), if_pos (by simpa using n2.mpr z2)] at h
        cases h
        rcases ha with ha | ⟨P, ha⟩
        · exact k _ ha
        · cases ha
      · rw [if_neg (by simpa using fun y => z (n1.mp y)), if_neg (by simpa using fun y => z2 (n2.mp y))] at h
        cases h
        exact k p _ hp (h2.append h4)
    · cases h
  · simp only [dAdd] at h
    split at h
    · rename_i hs
      cases h
      obtain ⟨a, vs, rfl, h1, h2⟩ := ha.lst e
      obtain ⟨b, us, rfl, h3, h4⟩ := hb.lst e
      exact .inr (.inr (.inl ⟨a, b, vs, us, rfl, rfl, h1, h3, by rw [← h2.length, ← h4.length]; exact small_line hs, fun p hp => k p _ hp (h2.append h4)⟩))
    · cases h
theorem op_dSub : Op2 X (binaryOp .Sub) dSub := by
  refine ⟨_, op_sub, fun F H da db va vb n Q e ha hb h k => ?_⟩
  cases da <;> cases db <;> first
    | (cases h; done)
    | (cases h; cases ha.int; cases hb.int; exact ⟨_, _, rfl, rfl, kq_int k⟩)
def rMulS : R2 := fun x y H Q => ∃ (a : List Nat) (k : Int), x = .str ⟨a.toArray⟩ ∧ y = .int k ∧ ((k < 1 ∧ -(2 ^ 63) ≤ k ∧ Q (.str ⟨#[]⟩) H) ∨ (¬ k < 1 ∧ k < 2 ^ 30 ∧ a.length * k.toNat ≤ 16777216 ∧ Q (.str ⟨(List.replicate k.toNat a).flatten.toArray⟩) H))
theorem op_mulS : OpR X (binaryOp .Mult) rMulS := by
  intro pins s σ H x y v u Q I rx ry h
  obtain ⟨a, k, rfl, rfl, h⟩ := h
  obtain ⟨t, rfl⟩ := rx
  obtain ⟨t', rfl⟩ := ry
  rcases h with ⟨h1, h2, q⟩ | ⟨h1, h2, h3, q⟩
  · exact PySem.P.mul_str_none h1 (by omega) ⟨.str ⟨#[]⟩, H, I.tok _, ⟨_, rfl⟩, q⟩
  · refine PySem.P.mul_str (by rw [decide_eq_false (show ¬ k < -(2 ^ 63 : Int) by omega), decide_eq_false (show ¬ k ≥ (2 ^ 63 : Int) by omega)]; rfl) (fun _ hne z => ?_) (fun _ _ => ?_) ?_
    · rw [str_len] at z
      have e1 : (16777216 : Int) ≤ (2 ^ 63 - 1) / k := (Int.le_ediv_iff_mul_le (by omega)).mpr (by omega)
      have e2 : a.length ≤ a.length * k.toNat := Nat.le_mul_of_pos_right _ (by omega)
      have e3 : (a.length : Int) ≤ 16777216 := Int.ofNat_le.mpr (Nat.le_trans e2 h3)
      exact Int.not_le.mpr z (Int.le_trans e3 e1)
    · rw [str_len]
      unfold Builtin.Str.tooLong
      simp only [decide_eq_false_iff_not]
      first
        | omega
        | (rw [sizeLine_eq]; omega)
    · rw [if_neg h1]
      split
      · rename_i hc
        rw [str_len] at hc
        refine ⟨.str ⟨a.toArray⟩, H, I, ⟨_, rfl⟩, ?_⟩
        have e : (List.replicate k.toNat a).flatten = a := by
          rcases Bool.or_eq_true_iff.mp hc with z | z
          · have : k = 1 := by simpa using z
            subst this
            simp
          · have : a = [] := by simpa using z
            subst this
            simp
        rw [e] at q
        exact q
      · have hf := foldl_repA a k.toNat []
        rw [List.nil_append] at hf
        refine ⟨?_, ⟨.str ⟨(List.replicate k.toNat a).flatten.toArray⟩, H, I.tok _, ⟨s.toks, congrArg (fun z => Value.str ⟨z⟩ s.toks) hf⟩, q⟩⟩
        show _ ≤ _
        rw [show (⟨(List.replicate k.toNat (⟨a.toArray⟩ : Str).cps).foldl (· ++ ·) #[]⟩ : Str) = ⟨(List.replicate k.toNat a).flatten.toArray⟩ from congrArg Str.mk hf, str_len, PyProof.Rows.lm_len_rep_flat, Nat.mul_comm, sizeLine_eq]
        exact h3
theorem op_dMul : Op2 X (binaryOp .Mult) dMul := by
  refine ⟨_, op_mul.or (op_mulW.or (op_mulS.or op_rep)), fun F H da db va vb n Q e ha hb h k => ?_⟩
  cases da <;> cases db <;> first
    | (cases h; done)
    | skip
  · rename_i i j
    simp only [dMul] at h
    split at h
    · rename_i hc
      cases h
      cases ha.int
      cases hb.int
      simp only [Bool.or_eq_true, Bool.and_eq_true] at hc
      rcases hc with (hc | hc) | hc
      · exact .inl ⟨_, _, rfl, rfl, .inl (of_decide_eq_true hc), kq_int k⟩
      · exact .inl ⟨_, _, rfl, rfl, .inr (of_decide_eq_true hc), kq_int k⟩
      · refine .inr (.inl ⟨_, _, rfl, rfl, ?_, kq_int k⟩)
        show i.natAbs.log2 + j.natAbs.log2 < 1000000
        have := log_of_4k hc.1
        have := log_of_4k hc.2
        omega
    · cases h
  · rename_i a j
    simp only [dMul] at h
    cases ha.str
    cases hb.int
    refine .inr (.inr (.inl ⟨a, j, rfl, rfl, ?_⟩))
    split at h
    · rename_i h1
      split at h
      · rename_i h2
        cases h
        exact .inl ⟨h1, h2, kq_str k⟩
      · cases h
    · rename_i h1
      split at h
      · rename_i h2
        simp only [Bool.and_eq_true, decide_eq_true_eq] at h2
        cases h
        exact .inr ⟨h1, h2.2, h2.1, kq_str k⟩
      · cases h
  · rename_i a j
    simp only [dMul] at h
    split at h
    · rename_i h2
      simp only [Bool.and_eq_true, decide_eq_true_eq] at h2
      cases h
      cases hb.int
      obtain ⟨l, vs, rfl, h3, h4⟩ := ha.lst e
      exact .inr (.inr (.inr ⟨l, j, vs, rfl, rfl, h3, h2.1.1, h2.1.2, by rw [← h4.length]; exact small_line h2.2, fun p hp => k p _ hp (repL h4 _)⟩))
    · cases h
theorem op_dMod : Op2 X (binaryOp .Mod) dMod := by
  refine ⟨_, op_mod.or op_modN, fun F H da db va vb n Q e ha hb h k => ?_⟩
  cases da <;> cases db <;> first
    | (cases h; done)
    | skip
  simp only [dMod] at h
  cases ha.int
  cases hb.int
  split at h
  · rename_i hc
    cases h
    exact .inl ⟨_, _, rfl, rfl, hc, kq_int k⟩
  · split at h
    · rename_i hc
      cases h
      exact .inr ⟨_, _, rfl, rfl, (by intro z; rw [z] at hc; exact absurd hc (by decide)), kq_int k⟩
    · cases h
theorem op_dFdiv : Op2 X (binaryOp .FloorDiv) dFdiv := by
  refine ⟨_, op_fdivW.or op_fdivN, fun F H da db va vb n Q e ha hb h k => ?_⟩
  cases da <;> cases db <;> first
    | (cases h; done)
    | skip
  simp only [dFdiv] at h
  cases ha.int
  cases hb.int
  split at h
  · rename_i hc
    simp only [Bool.and_eq_true, decide_eq_true_eq] at hc
    cases h
    exact .inl ⟨_, _, rfl, rfl, ⟨hc.1, Nat.lt_of_lt_of_le (log_of_4k hc.2) (by decide)⟩, kq_int k⟩
  · split at h
    · rename_i hc
      cases h
      exact .inr ⟨_, _, rfl, rfl, hc, kq_int k⟩
    · cases h
theorem op_dPow : Op2 X (binaryOp .Pow) dPow := by
  refine ⟨_, op_pow, fun F H da db va vb n Q e ha hb h k => ?_⟩
  cases da <;> cases db <;> first
    | (cases h; done)
    | skip
  simp only [dPow] at h
  cases ha.int
  cases hb.int
  split at h
  · rename_i hc
    cases h
    exact ⟨_, _, rfl, rfl, hc, kq_int k⟩
  · cases h
theorem op_dShl : Op2 X (binaryOp .LShift) dShl := by
  refine ⟨_, op_shl, fun F H da db va vb n Q e ha hb h k => ?_⟩
  cases da <;> cases db <;> first
    | (cases h; done)
    | skip
  simp only [dShl] at h
  cases ha.int
  cases hb.int
  split at h
  · rename_i hc
    cases h
    exact ⟨_, _, rfl, rfl, hc, kq_int k⟩
  · cases h
theorem op_dShr : Op2 X (binaryOp .RShift) dShr := by
  refine ⟨_, op_shr, fun F H da db va vb n Q e ha hb h k => ?_⟩
  cases da <;> cases db <;> first
    | (cases h; done)
    | skip
  simp only [dShr] at h
  cases ha.int
  cases hb.int
  split at h
  · rename_i hc
    cases h
    exact ⟨_, _, rfl, rfl, hc, kq_int k⟩
  · cases h
theorem op_dBand : Op2 X (binaryOp .BitAnd) dBand := by
  refine ⟨_, op_and, fun F H da db va vb n Q e ha hb h k => ?_⟩
  cases da <;> cases db <;> first
    | (cases h; done)
    | (cases h; cases ha.int; cases hb.int; exact ⟨_, _, rfl, rfl, kq_int k⟩)
theorem op_dBor : Op2 X (binaryOp .BitOr) dBor := by
  refine ⟨_, op_or, fun F H da db va vb n Q e ha hb h k => ?_⟩
  cases da <;> cases db <;> first
    | (cases h; done)
    | (cases h; cases ha.int; cases hb.int; exact ⟨_, _, rfl, rfl, kq_int k⟩)
theorem op_dBxor : Op2 X (binaryOp .BitXor) dBxor := by
  refine ⟨_, op_xor, fun F H da db va vb n Q e ha hb h k => ?_⟩
  cases da <;> cases db <;> first
    | (cases h; done)
    | (cases h; cases ha.int; cases hb.int; exact ⟨_, _, rfl, rfl, kq_int k⟩)
theorem op_dNeg : Op1 X (unaryOp .USub) dNeg := by
  refine ⟨_, un_neg, fun F H da va n Q e ha h k => ?_⟩
  cases da <;> first
    | (cases h; done)
    | (cases h; cases ha.int; exact ⟨_, rfl, kq_int k⟩)
theorem op_dInv : Op1 X (unaryOp .Invert) dInv := by
  refine ⟨_, un_inv, fun F H da va n Q e ha h k => ?_⟩
  cases da <;> first
    | (cases h; done)
    | (cases h; cases ha.int; exact ⟨_, rfl, kq_int k⟩)
end
def dIn : D → D → Option Rn
  | .str [c], .str z => rb (decide (c ∈ z))
  | d, .lst ds => if dGood d && dGood (.lst ds) then rb (ds.any fun z => deq z d) else none
  | d, .tup ds => if dGood d && dGood (.tup ds) then rb (ds.any fun z => deq z d) else none
  | _, _ => none
def dNotIn (a b : D) : Option Rn := match dIn a b with
  | some (.val (.bl k)) => rb (!k)
  | _ => none
theorem any_toPy {d : D} (hd : dOk d = true) : ∀ {ds : List D}, dOkL ds = true → ((toPyL ds).any fun z => PyData.eqv z (toPy d)) = ds.any fun z => deq z d
  | [], _ => by simp only [toPyL, List.any_nil]
  | x :: xs, h => by
    simp only [dOkL, Bool.and_eq_true] at h
    simp only [toPyL, List.any_cons, eqv_toPy h.1 hd, any_toPy hd h.2]
section
variable {X : Cx}
/-- x in t, t a tuple of data -/
def rInDT (K : PySem.W.Frag) : R2 := fun x y H Q => ∃ d ds, Dp K H x d ∧ Dp K H y (.tuple ds) ∧ SeqAt.shaped d = true ∧ SeqAt.shaped (.tuple ds) = true ∧ Q (.bl (ds.any fun z => PyData.eqv z d)) H
def rNotInDT (K : PySem.W.Frag) : R2 := fun x y H Q => ∃ d ds, Dp K H x d ∧ Dp K H y (.tuple ds) ∧ SeqAt.shaped d = true ∧ SeqAt.shaped (.tuple ds) = true ∧ Q (.bl (!ds.any fun z => PyData.eqv z d)) H
theorem op_inDT (hu : X.A.units + 65 < cLine) : OpR X (compareOp .In) (rInDT X.K) := by
  intro pins s σ H x y v u Q I rx ry h
  obtain ⟨d, ds, hd, he, sd, se, q⟩ := h
  obtain ⟨as, r1⟩ := Dp.reads I d x v hd rx
  obtain ⟨bs, r2⟩ := Dp.reads I (.tuple ds) y u he ry
  exact SeqAt.in_tuple_reads r2 r1 (SeqAt.canLay_of_shaped se) (SeqAt.canLay_of_shaped sd) (room_in_shaped sd hu) ⟨.bl _, H, I, rfl, q⟩
theorem op_notInDT (hu : X.A.units + 65 < cLine) : OpR X (compareOp .NotIn) (rNotInDT X.K) := by
  intro pins s σ H x y v u Q I rx ry h
  obtain ⟨d, ds, hd, he, sd, se, q⟩ := h
  obtain ⟨as, r1⟩ := Dp.reads I d x v hd rx
  obtain ⟨bs, r2⟩ := Dp.reads I (.tuple ds) y u he ry
  exact SeqAt.notIn_tuple_reads r2 r1 (SeqAt.canLay_of_shaped se) (SeqAt.canLay_of_shaped sd) (room_in_shaped sd hu) ⟨.bl _, H, I, rfl, q⟩
theorem serve_in {neg : Bool} {F H : Hp} {da db : D} {va vb : V} {n : Rn} {Q : VK} (e : Ex F H) (ha : Vw X.K X.w F H da va) (hb : Vw X.K X.w F H db vb) (h : dIn da db = some n) (k : KQ X.K X.w F H (match n with | .val (.bl b) => .val (.bl (if neg then !b else b)) | m => m) Q) :
    (∃ (c : Nat) (z : Str), va = .str ⟨#[c]⟩ ∧ vb = .str z ∧ Q (.bl (if neg then !decide (c ∈ z.cps.toList) else decide (c ∈ z.cps.toList))) H) ∨
    (∃ d ds, Dp X.K H va d ∧ Dp X.K H vb (.list ds) ∧ SeqAt.shaped d = true ∧ SeqAt.shaped (.list ds) = true ∧ Q (.bl (if neg then !ds.any fun z => PyData.eqv z d else ds.any fun z => PyData.eqv z d)) H) ∨
    (∃ d ds, Dp X.K H va d ∧ Dp X.K H vb (.tuple ds) ∧ SeqAt.shaped d = true ∧ SeqAt.shaped (.tuple ds) = true ∧ Q (.bl (if neg then !ds.any fun z => PyData.eqv z d else ds.any fun z => PyData.eqv z d)) H) := by
  unfold dIn at h
  split at h
  · cases h
    cases ha.str
    cases hb.str
    exact .inl ⟨_, _, rfl, rfl, by simpa using kq_bl k⟩
  · split at h
    · rename_i hg
      simp only [Bool.and_eq_true] at hg
      cases h
      refine .inr (.inl ⟨_, _, ha.dp e (good_ok hg.1), (by have := hb.dp e (good_ok hg.2); simpa only [toPy] using this), shaped_of hg.1, (by have := shaped_of hg.2; simpa only [toPy] using this), ?_⟩)
      rw [any_toPy (good_ok hg.1) (by have := good_ok hg.2; simpa only [dOk] using this)]
      exact kq_bl k
    · cases h
  · split at h
    · rename_i hg
      simp only [Bool.and_eq_true] at hg
      cases h
      refine .inr (.inr ⟨_, _, ha.dp e (good_ok hg.1), (by have := hb.dp e (good_ok hg.2); simpa only [toPy] using this), shaped_of hg.1, (by have := shaped_of hg.2; simpa only [toPy] using this), ?_⟩)
      rw [any_toPy (good_ok hg.1) (by have := good_ok hg.2; simpa only [dOk] using this)]
      exact kq_bl k
    · cases h
  · cases h
theorem op_dIn (hu : X.A.units + 65 < cLine) : Op2 X (compareOp .In) dIn := by
  refine ⟨_, op_in_sign.or ((op_inD hu).or (op_inDT hu)), fun F H da db va vb n Q e ha hb h k => ?_⟩
  exact serve_in (neg := false) e ha hb h (by
    cases n with
    | val d => cases d <;> exact k
    | newL _ => exact k
    | newT _ => exact k)
theorem op_dNotIn (hu : X.A.units + 65 < cLine) : Op2 X (compareOp .NotIn) dNotIn := by
  refine ⟨_, op_notIn_sign.or ((op_notInD hu).or (op_notInDT hu)), fun F H da db va vb n Q e ha hb h k => ?_⟩
  unfold dNotIn at h
  split at h
  · rename_i k0 hk
    cases h
    exact serve_in (neg := true) e ha hb hk k
  · cases h
end
end DL

namespace DL
open PySem PySem.Spec PyProof.Rows L2
open TL (joinL tl tl_join join_eq)
section
variable {K : Frag} {w : World} {F H : Hp}
theorem VwL.one {ds : List D} {d : D} {vs : List V} (h : VwL K w F H ds vs) (e : ds = [d]) : ∃ v, vs = [v] ∧ Vw K w F H d v := by
  subst e
  cases h with
  | cons h1 h2 => cases h2; exact ⟨_, rfl, h1⟩
theorem VwL.two {ds : List D} {d d' : D} {vs : List V} (h : VwL K w F H ds vs) (e : ds = [d, d']) : ∃ v v', vs = [v, v'] ∧ Vw K w F H d v ∧ Vw K w F H d' v' := by
  subst e
  cases h with
  | cons h1 h2 =>
    cases h2 with
    | cons h2 h3 => cases h3; exact ⟨_, _, rfl, h1, h2⟩
end
def dLen : List D → Option Rn
  | [.lst xs] => ri xs.length
  | [.tup xs] => ri xs.length
  | [.scr xs] => ri xs.length
  | [.str s] => if small s.length then ri s.length else none
  | _ => none
def dAbs : List D → Option Rn
  | [.int i] => ri (if i < 0 then -i else i)
  | _ => none
def dMax2 : List D → Option Rn
  | [.int i, .int j] => ri (if j > i then j else i)
  | _ => none
def dMin2 : List D → Option Rn
  | [.int i, .int j] => ri (if j < i then j else i)
  | _ => none
def dInt : List D → Option Rn
  | [.int i] => ri i
  | [.bl b] => ri (if b then 1 else 0)
  | _ => none
def dTuple : List D → Option Rn
  | [.lst xs] => some (.newT xs)
  | [.tup xs] => some (.val (.tup xs))
  | _ => none
def dList : List D → Option Rn
  | [.lst xs] => some (.newL xs)
  | [.tup xs] => some (.newL xs)
  | _ => none
def allBl : List D → Option (List Bool)
  | [] => some []
  | .bl b :: xs => (allBl xs).map (b :: ·)
  | _ => none
def allInt : List D → Option (List Int)
  | [] => some []
  | .int b :: xs => (allInt xs).map (b :: ·)
  | _ => none
def allStr : List D → Option (List (List Nat))
  | [] => some []
  | .str b :: xs => (allStr xs).map (b :: ·)
  | _ => none
def dAll : List D → Option Rn
  | [.lst xs] => (allBl xs).map fun bs => .val (.bl (bs.all id))
  | _ => none
def dAny : List D → Option Rn
  | [.lst xs] => (allBl xs).map fun bs => .val (.bl (bs.any id))
  | _ => none
def dSum : List D → Option Rn
  | [.lst xs] => (allInt xs).map fun bs => .val (.int bs.sum)
  | _ => none
def tyName : D → Option String
  | .non => some "NoneType"
  | .bl _ => some "bool"
  | .int _ => some "int"
  | .str _ => some "str"
  | .lst _ => some "list"
  | .scr _ => some "list"
  | .tup _ => some "tuple"
  | .dic _ => some "dict"
  | .dcw _ => some "dict"
  | _ => none
def dIsi : List D → Option Rn
  | [d, .ty n] => match tyName d with
    | some t => (L2.kitB t n).map fun b => .val (.bl b)
    | none => none
  | _ => none
section
variable {K : Frag} {w : World} {F H : Hp}
theorem allBl_ok : ∀ {ds : List D} {bs : List Bool} {vs : List V}, RpL K w F ds vs → allBl ds = some bs → vs = bs.map V.bl
  | [], _, _, .nil, e => by cases e; rfl
  | d :: ds, bs, _, .cons h hs, e => by
    cases d <;> first
      | (cases e; done)
      | skip
    simp only [allBl, Option.map_eq_some_iff] at e
    obtain ⟨cs, e1, rfl⟩ := e
    cases h
    rw [allBl_ok hs e1]
    rfl
theorem allInt_ok : ∀ {ds : List D} {bs : List Int} {vs : List V}, RpL K w F ds vs → allInt ds = some bs → vs = bs.map V.int
  | [], _, _, .nil, e => by cases e; rfl
  | d :: ds, bs, _, .cons h hs, e => by
    cases d <;> first
      | (cases e; done)
      | skip
    simp only [allInt, Option.map_eq_some_iff] at e
    obtain ⟨cs, e1, rfl⟩ := e
    cases h
    rw [allInt_ok hs e1]
    rfl
theorem allStr_ok : ∀ {ds : List D} {bs : List (List Nat)} {vs : List V}, RpL K w F ds vs → allStr ds = some bs → vs = (bs.map fun s => (⟨s.toArray⟩ : Str)).map V.str
  | [], _, _, .nil, e => by cases e; rfl
  | d :: ds, bs, _, .cons h hs, e => by
    cases d <;> first
      | (cases e; done)
      | skip
    simp only [allStr, Option.map_eq_some_iff] at e
    obtain ⟨cs, e1, rfl⟩ := e
    cases h
    rw [allStr_ok hs e1]
    rfl
theorem sqT_ty {a : Addr} {vs : List V} (h : SqT K H a vs) : TyX K H (.ref a) (.type "tuple") := by
  rcases h with (h | ⟨o, h⟩) | ⟨o, its, n, h, hc, _⟩
  · exact .base (.tup h)
  · exact .fTuple h
  · exact .kTuple h hc
theorem sqL_ty {a : Addr} {vs : List V} (h : SqL K H a vs) : TyX K H (.ref a) (.type "list") := by
  rcases h with (h | ⟨o, h⟩) | ⟨o, its, n, h, hc, _⟩
  · exact .base (.lst h)
  · exact .base (.frz h)
  · exact .kList h hc
theorem ty_ok {d : D} {v : V} {t : String} (e : Ex F H) (h : Vw K w F H d v) (ht : tyName d = some t) : TyX K H v (.type t) := by
  cases d with
  | non => cases ht; cases h.non; exact .base .non
  | bl b => cases ht; cases h.bl; exact .base (.bl b)
  | int b => cases ht; cases h.int; exact .base (.int b)
  | str b => cases ht; cases h.str; exact .base (.str _)
  | lst xs => cases ht; obtain ⟨a, vs, rfl, h1, _⟩ := h.lst e; exact .base (.lst h1)
  | scr xs => cases ht; obtain ⟨a, rfl, h1⟩ := h.scr e; exact sqL_ty h1
  | tup xs => cases ht; obtain ⟨a, vs, rfl, h1, _⟩ := h.tup e; exact sqT_ty h1
  | dic kvs =>
    cases ht
    rcases h with h | ⟨P, h⟩
    · cases h with
      | dic h1 _ => exact .fDict (e _ _ h1)
    · cases h with
      | dic _ h1 _ => exact .base (.dK h1)
  | dcw kvs =>
    cases ht
    rcases h with h | ⟨P, h⟩
    · cases h with
      | dcw h1 _ => exact .kDict h1.at_ rfl
    · cases h
  | _ => cases ht
end
section
variable {X : Cx}
theorem oc_len : OpC X (.builtin "len") dLen := by
  refine ⟨_, call_len_seq.or call_len_str, fun F H ds vs n Q e h hg k => ?_⟩
  unfold dLen at hg
  split at hg
  · obtain ⟨v, rfl, h1⟩ := h.one rfl
    obtain ⟨a, us, rfl, h2, h3⟩ := h1.lst e
    cases hg
    exact .inl ⟨a, us, rfl, .inl (SqL.of h2), by rw [← h3.length]; exact kq_int k⟩
  · obtain ⟨v, rfl, h1⟩ := h.one rfl
    obtain ⟨a, us, rfl, h2, h3⟩ := h1.tup e
    cases hg
    exact .inl ⟨a, us, rfl, .inr h2, by rw [← h3.length]; exact kq_int k⟩
  · obtain ⟨v, rfl, h1⟩ := h.one rfl
    obtain ⟨a, rfl, h2⟩ := h1.scr e
    cases hg
    exact .inl ⟨a, _, rfl, .inl h2, by rw [List.length_map]; exact kq_int k⟩
  · obtain ⟨v, rfl, h1⟩ := h.one rfl
    split at hg
    · rename_i hs
      cases hg
      cases h1.str
      exact .inr ⟨_, rfl, by rw [str_len]; exact small_line hs, by rw [str_len]; exact kq_int k⟩
    · cases hg
  · cases hg
theorem oc_abs : OpC X (.builtin "abs") dAbs := by
  refine ⟨_, call_abs, fun F H ds vs n Q e h hg k => ?_⟩
  unfold dAbs at hg
  split at hg
  · obtain ⟨v, rfl, h1⟩ := h.one rfl
    cases hg
    cases h1.int
    exact ⟨_, rfl, kq_int k⟩
  · cases hg
theorem oc_max2 (hc : X.calm = true) : OpC X (.builtin "max") dMax2 := by
  refine ⟨_, call_max2 hc, fun F H ds vs n Q e h hg k => ?_⟩
  unfold dMax2 at hg
  split at hg
  · obtain ⟨v, v', rfl, h1, h2⟩ := h.two rfl
    cases hg
    cases h1.int
    cases h2.int
    exact ⟨_, _, rfl, kq_int k⟩
  · cases hg
theorem oc_min2 (hc : X.calm = true) : OpC X (.builtin "min") dMin2 := by
  refine ⟨_, call_min2 hc, fun F H ds vs n Q e h hg k => ?_⟩
  unfold dMin2 at hg
  split at hg
  · obtain ⟨v, v', rfl, h1, h2⟩ := h.two rfl
    cases hg
    cases h1.int
    cases h2.int
    exact ⟨_, _, rfl, kq_int k⟩
  · cases hg
theorem oc_int : OpC X (.type "int") dInt := by
  refine ⟨_, call_int1, fun F H ds vs n Q e h hg k => ?_⟩
  unfold dInt at hg
  split at hg
  · obtain ⟨v, rfl, h1⟩ := h.one rfl
    cases hg
    cases h1.int
    exact .inl ⟨_, rfl, kq_int k⟩
  · obtain ⟨v, rfl, h1⟩ := h.one rfl
    cases hg
    cases h1.bl
    exact .inr ⟨_, rfl, kq_int k⟩
  · cases hg
theorem oc_tuple : OpC X (.type "tuple") dTuple := by
  refine ⟨_, call_tuple_of, fun F H ds vs n Q e h hg k => ?_⟩
  unfold dTuple at hg
  split at hg
  · obtain ⟨v, rfl, h1⟩ := h.one rfl
    obtain ⟨a, us, rfl, h2, h3⟩ := h1.lst e
    cases hg
    exact ⟨a, us, rfl, .inl ⟨SqL.of h2, fun l hl => k l us hl h3⟩⟩
  · obtain ⟨v, rfl, h1⟩ := h.one rfl
    obtain ⟨a, us, rfl, h2, h3⟩ := h1.tup e
    cases hg
    rcases h1 with h1 | ⟨P, h1⟩
    · exact ⟨a, us, rfl, .inr ⟨h2, k _ h1⟩⟩
    · cases h1
  · cases hg
theorem oc_list : OpC X (.type "list") dList := by
  refine ⟨_, call_list_of, fun F H ds vs n Q e h hg k => ?_⟩
  unfold dList at hg
  split at hg
  · obtain ⟨v, rfl, h1⟩ := h.one rfl
    obtain ⟨a, us, rfl, h2, h3⟩ := h1.lst e
    cases hg
    exact ⟨a, us, rfl, .inl (SqL.of h2), fun l hl => k l us hl h3⟩
  · obtain ⟨v, rfl, h1⟩ := h.one rfl
    obtain ⟨a, us, rfl, h2, h3⟩ := h1.tup e
    cases hg
    exact ⟨a, us, rfl, .inr h2, fun l hl => k l us hl h3⟩
  · cases hg
theorem oc_all (hc : X.calm = true) : OpC X (.builtin "all") dAll := by
  refine ⟨_, cr_all hc, fun F H ds vs n Q e h hg k => ?_⟩
  unfold dAll at hg
  split at hg
  · obtain ⟨v, rfl, h1⟩ := h.one rfl
    obtain ⟨a, us, rfl, h2, h3⟩ := h1.lst e
    obtain ⟨bs, e1, rfl⟩ := Option.map_eq_some_iff.mp hg
    rw [allBl_ok h3 e1] at h2
    exact ⟨a, bs, rfl, SqL.of h2, kq_bl k⟩
  · cases hg
theorem oc_any (hc : X.calm = true) : OpC X (.builtin "any") dAny := by
  refine ⟨_, cr_any hc, fun F H ds vs n Q e h hg k => ?_⟩
  unfold dAny at hg
  split at hg
  · obtain ⟨v, rfl, h1⟩ := h.one rfl
    obtain ⟨a, us, rfl, h2, h3⟩ := h1.lst e
    obtain ⟨bs, e1, rfl⟩ := Option.map_eq_some_iff.mp hg
    rw [allBl_ok h3 e1] at h2
    exact ⟨a, bs, rfl, SqL.of h2, kq_bl k⟩
  · cases hg
theorem oc_sum (hc : X.calm = true) : OpC X (.builtin "sum") dSum := by
  refine ⟨_, cr_sum hc, fun F H ds vs n Q e h hg k => ?_⟩
  unfold dSum at hg
  split at hg
  · obtain ⟨v, rfl, h1⟩ := h.one rfl
    obtain ⟨a, us, rfl, h2, h3⟩ := h1.lst e
    obtain ⟨bs, e1, rfl⟩ := Option.map_eq_some_iff.mp hg
    rw [allInt_ok h3 e1] at h2
    exact ⟨a, bs, rfl, SqL.of h2, kq_int k⟩
  · cases hg
theorem oc_isi : OpC X (.builtin "isinstance") dIsi := by
  refine ⟨_, call_isi, fun F H ds vs n Q e h hg k => ?_⟩
  unfold dIsi at hg
  split at hg
  · rename_i d nm
    obtain ⟨v, v', rfl, h1, h2⟩ := h.two rfl
    cases h2.ty
    split at hg
    · rename_i t ht
      obtain ⟨b, e1, rfl⟩ := Option.map_eq_some_iff.mp hg
      exact ⟨v, _, _, _, b, rfl, .ty nm, ty_ok e h1 ht, L2.kit_ty e1, kq_bl k⟩
    · cases hg
  · cases hg
end
def dLook : List (D × D) → D → Option D
  | [], _ => none
  | (k, d) :: r, y => if deq k y then some d else dLook r y
def dIx : D → D → Option Rn
  | .lst xs, .int i => (atI xs i).map .val
  | .tup xs, .int i => (atI xs i).map .val
  | .scr xs, .int i => (atI xs i).map fun j => .val (.int j)
  | .str s, .int i => if small s.length then (atI s i).map fun c => .val (.str [c]) else none
  | .dcw kvs, .str s => (dLook kvs (.str s)).map .val
  | .dic kvs, .str s => (dLook kvs (.str s)).map .val
  | .dic kvs, .int i => (dLook kvs (.int i)).map .val
  | _, _ => none
section
variable {K : Frag} {w : World} {F H : Hp}
theorem RpL.len_eq {ds : List D} {vs : List V} (h : RpL K w F ds vs) : ds.length = vs.length := h.length
theorem atI_rp {ds : List D} {vs : List V} {i : Int} {d : D} (h : RpL K w F ds vs) (e : atI ds i = some d) : ∃ v, atI vs i = some v ∧ Rp K w F d v := by
  unfold atI at e ⊢
  rw [← h.length]
  cases z : ixN ds.length i with
  | none => rw [z] at e; cases e
  | some j =>
    rw [z] at e
    exact h.get e
theorem atI_map {α β : Type} {f : α → β} {xs : List α} {i : Int} {a : α} (e : atI xs i = some a) : atI (xs.map f) i = some (f a) := by
  unfold atI at e ⊢
  rw [List.length_map]
  cases z : ixN xs.length i with
  | none => rw [z] at e; cases e
  | some j =>
    rw [z] at e
    show (xs.map f)[j]? = some (f a)
    rw [List.getElem?_map, show xs[j]? = some a from e]
    rfl
theorem valV_pos {kk : List (Key × V)} {k k0 : Key} {v : V} (h : k0 = k) : valV ((k0, v) :: kk) k = some v := by
  unfold valV
  simp [h]
theorem valV_neg {kk : List (Key × V)} {k k0 : Key} {v : V} (h : k0 ≠ k) : valV ((k0, v) :: kk) k = valV kk k := by
  unfold valV
  simp [h]
theorem look_k : ∀ {kvs : List (D × D)} {kk : List (Key × V)} {k : Key} {y d : D}, RpK K w F kvs kk → ((∃ i, y = .int i ∧ k = .inl i) ∨ ∃ s, y = .str s ∧ k = .inr ⟨s.toArray⟩) → dLook kvs y = some d → ∃ v, valV kk k = some v ∧ Rp K w F d v
  | [], _, _, _, _, .nil, _, e => by cases e
  | _, _, k, y, d, .int (i := j) (d := d0) (v := v0) h hs, hy, e => by
    unfold dLook at e
    rcases hy with ⟨i, rfl, rfl⟩ | ⟨s, rfl, rfl⟩
    · by_cases hij : j = i
      · subst hij
        simp only [deq, beq_self_eq_true, if_true] at e
        cases e
        exact ⟨v0, valV_pos rfl, h⟩
      · rw [if_neg (by simp only [deq, beq_iff_eq]; exact hij)] at e
        obtain ⟨v, h1, h2⟩ := look_k hs (.inl ⟨i, rfl, rfl⟩) e
        exact ⟨v, by rw [valV_neg fun z => hij (Sum.inl.inj z)]; exact h1, h2⟩
    · rw [if_neg (by simp [deq])] at e
      obtain ⟨v, h1, h2⟩ := look_k hs (.inr ⟨s, rfl, rfl⟩) e
      exact ⟨v, by rw [valV_neg fun z => by cases z]; exact h1, h2⟩
  | _, _, k, y, d, .str (s := t) (d := d0) (v := v0) h hs, hy, e => by
    unfold dLook at e
    rcases hy with ⟨i, rfl, rfl⟩ | ⟨s, rfl, rfl⟩
    · rw [if_neg (by simp [deq])] at e
      obtain ⟨v, h1, h2⟩ := look_k hs (.inl ⟨i, rfl, rfl⟩) e
      exact ⟨v, by rw [valV_neg fun z => by cases z]; exact h1, h2⟩
    · by_cases hij : t = s
      · subst hij
        simp only [deq, beq_self_eq_true, if_true] at e
        cases e
        exact ⟨v0, valV_pos rfl, h⟩
      · rw [if_neg (by simp only [deq, beq_iff_eq]; exact hij)] at e
        obtain ⟨v, h1, h2⟩ := look_k hs (.inr ⟨s, rfl, rfl⟩) e
        refine ⟨v, ?_, h2⟩
        rw [valV_neg fun z => ?_]
        · exact h1
        · have z := Sum.inr.inj z
          injection z with z
          exact hij (by simpa using congrArg Array.toList z)
theorem look_w : ∀ {a : Addr} {kvs : List (D × D)} {s : List Nat} {d : D}, RpW K w F a kvs → dLook kvs (.str s) = some d → ∃ u v, PySem.W.nsIn K a ⟨s.toArray⟩ = some (some u) ∧ RelV v u ∧ Rp K w F d v
  | _, [], _, _, .nil, e => by cases e
  | _, _, s, d, .str (s := t) (d := d0) (v := v0) h r p hs, e => by
    unfold dLook at e
    by_cases hij : t = s
    · subst hij
      simp only [deq, beq_self_eq_true, if_true] at e
      cases e
      exact ⟨_, _, h, r, p⟩
    · rw [if_neg (by simp only [deq, beq_iff_eq]; exact hij)] at e
      exact look_w hs e
end
section
variable {X : Cx}
def rIxDg : R2 := fun x y H Q => ∃ a v, x = .ref a ∧ DGet H a y (some v) ∧ Q v H
theorem ix_dg (hu : X.A.units + 1 < cLine) : IxR X rIxDg := by
  intro value slice pins s σ H x y v u Q I rx ry h hs
  obtain ⟨a, r, rfl, hg, q⟩ := h
  obtain rfl : v = Value.ref a := rx
  exact tail_any (dict_typeIs I hg) slot_dict_getitem.lookup (d_getItem hu I hg ry fun w' s' I' r' => ⟨r, H, I', r', q⟩) hs
theorem dget_of {F H : Hp} {kvs : List (D × D)} {k : Key} {y d : D} {v : V} (e : Ex F H) (h : Vw X.K X.w F H (.dic kvs) v) (hy : (∃ i, y = .int i ∧ k = .inl i) ∨ ∃ s, y = .str s ∧ k = .inr ⟨s.toArray⟩) (hl : dLook kvs y = some d) :
    ∃ a r, v = .ref a ∧ DGet H a (kV k) (some r) ∧ Rp X.K X.w F d r := by
  rcases h with h | ⟨P, h⟩
  · cases h with
    | dic h1 h2 =>
      obtain ⟨r, h3, h4⟩ := look_k h2 hy hl
      exact ⟨_, r, rfl, .inl ⟨_, k, .inr ⟨_, e _ _ h1⟩, rfl, h3.symm⟩, h4⟩
  · cases h with
    | dic _ h1 h2 =>
      obtain ⟨r, h3, h4⟩ := look_k h2 hy hl
      exact ⟨_, r, rfl, .inl ⟨_, k, .inl h1, rfl, h3.symm⟩, h4⟩
theorem ox_ix (hu : X.A.units + 1 < cLine) : OpIx X dIx := by
  refine ⟨_, ix_list.or (ix_tup.or (ix_str.or (ix_kdict.or (ix_dg hu)))), fun F H da db va vb n Q e ha hb h k => ?_⟩
  unfold dIx at h
  split at h
  · obtain ⟨d, e1, rfl⟩ := Option.map_eq_some_iff.mp h
    obtain ⟨a, vs, rfl, h1, h2⟩ := ha.lst e
    cases hb.int
    obtain ⟨v, e2, r⟩ := atI_rp h2 e1
    exact .inl ⟨a, vs, _, v, rfl, rfl, SqL.of h1, e2, k _ r⟩
  · obtain ⟨d, e1, rfl⟩ := Option.map_eq_some_iff.mp h
    obtain ⟨a, vs, rfl, h1, h2⟩ := ha.tup e
    cases hb.int
    obtain ⟨v, e2, r⟩ := atI_rp h2 e1
    exact .inr (.inl ⟨a, vs, _, v, rfl, rfl, h1, e2, k _ r⟩)
  · obtain ⟨d, e1, rfl⟩ := Option.map_eq_some_iff.mp h
    obtain ⟨a, rfl, h1⟩ := ha.scr e
    cases hb.int
    exact .inl ⟨a, _, _, _, rfl, rfl, h1, atI_map e1, kq_int k⟩
  · split at h
    · rename_i hs
      obtain ⟨d, e1, rfl⟩ := Option.map_eq_some_iff.mp h
      cases ha.str
      cases hb.int
      exact .inr (.inr (.inl ⟨_, _, d, rfl, rfl, by rw [str_len]; exact small_line hs, by simpa using e1, by simpa using kq_str k⟩))
    · cases h
  · obtain ⟨d, e1, rfl⟩ := Option.map_eq_some_iff.mp h
    cases hb.str
    rcases ha with ha | ⟨P, ha⟩
    · cases ha with
      | dcw h1 h2 =>
        obtain ⟨u, v, e2, r, rp⟩ := look_w h2 e1
        exact .inr (.inr (.inr (.inl ⟨_, _, v, rfl, rfl, ⟨_, _, u, h1.at_, h1.lit, e2, r⟩, k _ rp⟩)))
    · cases ha
  · obtain ⟨d, e1, rfl⟩ := Option.map_eq_some_iff.mp h
    cases hb.str
    obtain ⟨a, r, rfl, g, rp⟩ := dget_of e ha (.inr ⟨_, rfl, rfl⟩) e1
    exact .inr (.inr (.inr (.inr ⟨a, r, rfl, g, k _ rp⟩)))
  · obtain ⟨d, e1, rfl⟩ := Option.map_eq_some_iff.mp h
    cases hb.int
    obtain ⟨a, r, rfl, g, rp⟩ := dget_of e ha (.inl ⟨_, rfl, rfl⟩) e1
    exact .inr (.inr (.inr (.inr ⟨a, r, rfl, g, k _ rp⟩)))
  · cases h
end
def cutD {α : Type} (xs : List α) (lo hi : Option Int) : List α := (xs.drop (HT.sIx xs.length 0 lo)).take (HT.sIx xs.length xs.length hi - HT.sIx xs.length 0 lo)
def dSl : D → Option Int → Option Int → Option Rn
  | .lst xs, lo, hi => some (.newL (cutD xs lo hi))
  | .tup xs, lo, hi => if HT.sIx xs.length 0 lo = 0 ∧ HT.sIx xs.length xs.length hi = xs.length then some (.val (.tup xs)) else some (.newT (cutD xs lo hi))
  | .str s, lo, hi => if small s.length then rs (cutD s lo hi) else none
  | _, _, _ => none
section
variable {X : Cx}
theorem ox_sl : OpSl X dSl := by
  refine ⟨_, sl_list.or (sl_tupA.or sl_str), fun F H d v lo hi n Q e ha h k => ?_⟩
  unfold dSl at h
  split at h
  · obtain ⟨a, vs, rfl, h1, h2⟩ := ha.lst e
    cases h
    refine .inl ⟨a, vs, rfl, SqL.of h1, fun p hp => k p _ hp ?_⟩
    unfold cutV cutD
    rw [h2.length]
    exact (h2.drop _).take _
  · obtain ⟨a, vs, rfl, h1, h2⟩ := ha.tup e
    rename_i xs
    refine .inr (.inl ⟨a, vs, rfl, h1, fun hz => ?_, fun hz p hp => ?_⟩)
    · rw [← h2.length] at hz
      rw [if_pos hz] at h
      cases h
      rcases ha with ha | ⟨P, ha⟩
      · exact k _ ha
      · cases ha
    · rw [← h2.length] at hz
      rw [if_neg hz] at h
      cases h
      refine k p _ hp ?_
      unfold cutV cutD
      rw [h2.length]
      exact (h2.drop _).take _
  · split at h
    · rename_i hs
      cases h
      cases ha.str
      refine .inr (.inr ⟨_, rfl, by rw [str_len]; exact small_line hs, ?_⟩)
      unfold cutS
      rw [str_len]
      exact kq_str k
    · cases h
  · cases h
end
def dJoin (s : List Nat) : D → Option Rn
  | .lst xs => match allStr xs with
    | some ys => if small ((ys.map (·.length)).sum + ys.length * s.length) then rs (joinL s ys) else none
    | none => none
  | _ => none
def eJoin (ma mb : M Rs) : M Rs := fun σ => (ma σ).bind fun ra σ1 => match ra with
  | .fz (.str s) => (mb σ1).bind fun rb σ2 => (peek rb σ2).bind fun db σ3 => ans σ3 (dJoin s db)
  | _ => .stuck
theorem tl_mk (s : List Nat) : tl (⟨s.toArray⟩ : Str) = s := by
  show s.toArray.toList = s
  simp
theorem join_mk (s : List Nat) (ys : List (List Nat)) : Txt.join ⟨s.toArray⟩ (ys.map fun s => (⟨s.toArray⟩ : Str)) = ⟨(joinL s ys).toArray⟩ := by
  have h := tl_join ⟨s.toArray⟩ (ys.map fun s => (⟨s.toArray⟩ : Str))
  rw [join_eq]
  have h2 : (ys.map fun s => (⟨s.toArray⟩ : Str)).map tl = ys := by
    rw [List.map_map]
    conv => rhs; rw [← List.map_id ys]
    exact List.map_congr_left fun a _ => tl_mk a
  rw [h2, tl_mk] at h
  show _ = (⟨(joinL s ys).toArray⟩ : Str)
  rw [← h]
section
variable {X : Cx} {W : WX} {o e : Expr} {ma mb : M Rs} {apos pos : Pos}
theorem se_join (ho : SE X W o ma) (he : SE X W e mb) (hs : starEach [e] X.env = [(false, eval e X.env)] := by rfl) (hbase : attributeBase o "join" X.env (eval o X.env) = eval o X.env := by rfl) (hline : (apos.endLine == pos.line) = true := by rfl) :
    SE X W (.Call (.Attribute o "join" apos) [e] [] pos) (eJoin ma mb) := by
  intro c own F H σd σ T Q R p
  refine (pe_join pe_we pe_we hs hbase hline).we ?_
  refine ho.then R p fun ra σ1 p1 va own1 F1 H1 x1 R1 r1 => ?_
  cases ra with
  | ow d => exact p1.elim
  | pk i => exact p1.elim
  | fz d =>
    cases d with
    | str s =>
      cases (show Rp X.K X.w F1 (.str s) va from r1)
      refine ⟨⟨_, rfl⟩, ?_⟩
      refine he.then R1 (p1.ex x1) fun rb σ2 p2 vb own2 F2 H2 x2 R2 r2 => ?_
      refine one_ok (f := fun d => dJoin s d) (r := fun y H Q => ∃ a p, ∃ ys : List Str, V.str ⟨s.toArray⟩ = .str a ∧ [y] = [.ref p] ∧ (SqL X.K H p (ys.map V.str) ∨ SqT X.K H p (ys.map V.str)) ∧ (ys.map (·.length)).sum + ys.length * a.length ≤ 16777216 ∧ Q (.str (Txt.join a ys)) H)
        (fun F H d v n Q e h1 h2 k => ?_) R2 r2 x2 p2
      unfold dJoin at h2
      split at h2
      · split at h2
        · rename_i ys hy
          split at h2
          · rename_i hz
            cases h2
            obtain ⟨a, vs, rfl, h3, h4⟩ := h1.lst e
            rw [allStr_ok h4 hy] at h3
            refine ⟨_, a, ys.map fun s => ⟨s.toArray⟩, rfl, rfl, .inl (SqL.of h3), ?_, ?_⟩
            · rw [List.length_map, List.map_map, str_len]
              have : (ys.map ((fun x : Str => x.length) ∘ fun s : List Nat => (⟨s.toArray⟩ : Str))) = ys.map (·.length) := List.map_congr_left fun a _ => str_len
              rw [this]
              exact hz
            · rw [join_mk]
              exact kq_str k
          · cases h2
        · cases h2
      · cases h2
    | _ => exact p1.elim
end
def dRepr : List D → Option Rn
  | [.bl b] => rs (if b then [84, 114, 117, 101] else [70, 97, 108, 115, 101])
  | _ => none
section
variable {X : Cx}
theorem cr_reprB : CallR X (.builtin "repr") (fun xs H Q => ∃ b, xs = [.bl b] ∧ Q (.str (if b then "True" else "False")) H) := by
  intro pins s σ H xs us Q I r h
  obtain ⟨b, rfl, q⟩ := h
  obtain ⟨u, rfl, r1⟩ := vals1 r
  obtain rfl : u = Value.bool b := r1
  exact PySem.P.repr_of_bool (show EP X pins σ Q _ _ from ⟨.str _, H, I.tok _, ⟨_, rfl⟩, q⟩)
theorem oc_repr : OpC X (.builtin "repr") dRepr := by
  refine ⟨_, cr_reprB, fun F H ds vs n Q e h hg k => ?_⟩
  unfold dRepr at hg
  split at hg
  · rename_i b
    obtain ⟨v, rfl, h1⟩ := h.one rfl
    cases hg
    cases h1.bl
    refine ⟨_, rfl, ?_⟩
    have := kq_str k
    cases b with
    | true => exact this
    | false => exact this
  · cases hg
end
end DL

namespace DL
open PySem PySem.Spec PyProof.Rows L2
inductive Fl where
  | nx | bk | ct | rt (r : Rs)
section
variable (X : Cx) (W : WX) (c : Ctx) (T : Tms) (F : Hp)
def PstS (o : Out Fl) (D : Ends) : Prop := match o with
  | .ok .nx σd => ∀ σ own F' H', Ex F F' → Rel X.K X.w c own F' H' σd σ T → D.nx σ H'
  | .ok .bk σd => ∀ σ own F' H', Ex F F' → Rel X.K X.w c own F' H' σd σ T → D.bk σ H'
  | .ok .ct σd => ∀ σ own F' H', Ex F F' → Rel X.K X.w c own F' H' σd σ T → D.ct σ H'
  | .ok (.rt r) σd => ∀ v σ own F' H', Ex F F' → Rel X.K X.w c own F' H' σd σ (push T r v) → RsR X.K X.w F' σ r v → D.rt v H'
  | .exc x σd => ∀ σ own F' H' cls d, Ex F F' → Rel X.K X.w c own F' H' σd σ T → XR X.K X.w F' x cls d → W cls d σ H'
  | .stuck => False
end
/-- the slots from np on are the frame's own -/
def Free (np : Nat) (c : Ctx) : Prop := ∀ i, np ≤ i → c.pin i = none
def SS (X : Cx) (W : WX) (np : Nat) (st : Stmt) (m : M Fl) : Prop :=
  ∀ (c : Ctx) (own : Own) (F H : Hp) (σd : SD) (σ : L2.St) (T : Tms) (D : Ends), Free np c → Rel X.K X.w c own F H σd σ T → PstS X W c T F (m σd) D → weS X st D σ H
def SB (X : Cx) (W : WX) (np : Nat) (st : List Stmt) (m : M Fl) : Prop :=
  ∀ (c : Ctx) (own : Own) (F H : Hp) (σd : SD) (σ : L2.St) (T : Tms) (D : Ends), Free np c → Rel X.K X.w c own F H σd σ T → PstS X W c T F (m σd) D → weB X st D σ H
section
variable {X : Cx} {W : WX} {np : Nat} {c : Ctx} {T : Tms} {σ : L2.St} {F F' H : Hp} {own : Own} {σd : SD} {a b e : Expr} {st : Stmt} {rest : List Stmt} {ma mb m : M Rs} {ms mr : M Fl} {pos : Pos}
theorem PstS.ex {o : Out Fl} {D : Ends} (h : PstS X W c T F o D) (e : Ex F F') : PstS X W c T F' o D := by
  cases o with
  | ok f σd =>
    cases f with
    | nx => exact fun σ own F2 H' e2 => h σ own F2 H' (e.trans e2)
    | bk => exact fun σ own F2 H' e2 => h σ own F2 H' (e.trans e2)
    | ct => exact fun σ own F2 H' e2 => h σ own F2 H' (e.trans e2)
    | rt r => exact fun v σ own F2 H' e2 => h v σ own F2 H' (e.trans e2)
  | exc x σd => exact fun σ own F2 H' cls d e2 => h σ own F2 H' cls d (e.trans e2)
  | stuck => exact h
/-- an expression ahead of a statement's end -/
theorem SE.thenS (h : SE X W e m) (R : Rel X.K X.w c own F H σd σ T) {f : Rs → SD → Out Fl} {D : Ends} {Q1 : VK} (p : PstS X W c T F ((m σd).bind f) D)
    (k : ∀ r σd', PstS X W c T F (f r σd') D → ∀ v own' F' H', Ex F F' → Rel X.K X.w c own' F' H' σd' σ (push T r v) → RsR X.K X.w F' σ r v → Q1 v H') : weE X e σ H Q1 := by
  refine h c own F H σd σ T Q1 R ?_
  cases hm : m σd with
  | stuck => rw [hm] at p; exact p
  | exc x σ1 => rw [hm] at p; exact fun own' F' H' cls d e R x => p σ own' F' H' cls d e R x
  | ok r σ1 => rw [hm] at p; exact fun v own' F' H' e R r1 => k r σ1 p v own' F' H' e R r1
theorem ST.thenS {t : M Bool} (h : ST X W e t) (R : Rel X.K X.w c own F H σd σ T) {f : Bool → SD → Out Fl} {D : Ends} {Q1 : Bool → Hp → Prop} (p : PstS X W c T F ((t σd).bind f) D)
    (k : ∀ r σd', PstS X W c T F (f r σd') D → ∀ own' F' H', Ex F F' → Rel X.K X.w c own' F' H' σd' σ T → Q1 r H') : weT X e σ H Q1 := by
  refine h c own F H σd σ T Q1 R ?_
  cases hm : t σd with
  | stuck => rw [hm] at p; exact p
  | exc x σ1 => rw [hm] at p; exact fun own' F' H' cls d e R x => p σ own' F' H' cls d e R x
  | ok r σ1 => rw [hm] at p; exact fun own' F' H' e R => k r σ1 p own' F' H' e R
def bNil : M Fl := fun σ => .ok .nx σ
def bCons (ms mr : M Fl) : M Fl := fun σ => (ms σ).bind fun f σ1 => match f with
  | .nx => mr σ1
  | f => .ok f σ1
theorem sb_nil : SB X W np [] bNil := fun c own F H σd σ T D fr R p => pss_nil.we (p σ own F H (Evl.Ex.refl F) R)
theorem sb_one (h : SS X W np st ms) : SB X W np [st] ms := fun c own F H σd σ T D fr R p => (pss_one ps_we).we (h c own F H σd σ T D fr R p)
theorem sb_cons (h : SS X W np st ms) (hr : SB X W np rest mr) : SB X W np (st :: rest) (bCons ms mr) := by
  intro c own F H σd σ T D fr R p
  refine (pss_cons ps_we pss_we).we ?_
  show weS X st { D with nx := weB X rest D } σ H
  refine h c own F H σd σ T _ fr R ?_
  unfold bCons at p
  cases hm : ms σd with
  | stuck => rw [hm] at p; exact p
  | exc x σ1 => rw [hm] at p; exact p
  | ok f σ1 =>
    rw [hm, bind_ok] at p
    cases f with
    | nx => exact fun σ' own' F' H' e R' => hr c own' F' H' σ1 σ' T D fr R' (p.ex e)
    | bk => exact p
    | ct => exact p
    | rt r => exact p
def sPass : M Fl := fun σ => .ok .nx σ
def sBreak : M Fl := fun σ => .ok .bk σ
def sCont : M Fl := fun σ => .ok .ct σ
def sExpr (m : M Rs) : M Fl := fun σ => (m σ).bind fun _ σ1 => .ok .nx σ1
def sRet (m : M Rs) : M Fl := fun σ => (m σ).bind fun r σ1 => .ok (.rt r) σ1
def sRetN : M Fl := fun σ => .ok (.rt (.fz .non)) σ
def sIf (t : M Bool) (ma mb : M Fl) : M Fl := fun σ => (t σ).bind fun b σ1 => if b then ma σ1 else mb σ1
def sNever : M Fl := fun _ => .stuck
theorem ss_pass : SS X W np (.Pass pos) sPass := fun c own F H σd σ T D fr R p => ps_pass.we (p σ own F H (Evl.Ex.refl F) R)
theorem ss_break : SS X W np (.Break pos) sBreak := fun c own F H σd σ T D fr R p => ps_break.we (p σ own F H (Evl.Ex.refl F) R)
theorem ss_cont : SS X W np (.Continue pos) sCont := fun c own F H σd σ T D fr R p => ps_continue.we (p σ own F H (Evl.Ex.refl F) R)
theorem ss_never : SS X W np st sNever := fun c own F H σd σ T D fr R p => p.elim
theorem ss_expr (h : SE X W e m) (hs : swapsWith e none pos.line X.env = pure false := by rfl) : SS X W np (.Expr e pos) (sExpr m) := by
  intro c own F H σd σ T D fr R p
  refine (ps_expr pe_we hs).we ?_
  show weE X e σ H fun _ H1 => D.nx σ H1
  exact h.thenS R p fun r σ1 p1 v own1 F1 H1 x1 R1 r1 => p1 σ own1 F1 H1 x1 R1.popR
theorem ss_ret (h : SE X W e m) : SS X W np (.Return (some e) pos) (sRet m) := by
  intro c own F H σd σ T D fr R p
  refine (ps_ret pe_we).we ?_
  show weE X e σ H D.rt
  exact h.thenS R p fun r σ1 p1 v own1 F1 H1 x1 R1 r1 => p1 v σ own1 F1 H1 x1 R1 r1
theorem ss_retN : SS X W np (.Return none pos) sRetN := fun c own F H σd σ T D fr R p => ps_retN.we (p .non σ own F H (Evl.Ex.refl F) R .non)
theorem ss_if {t : M Bool} {sa sb : List Stmt} {ba bb : M Fl} (ht : ST X W a t) (ha : SB X W np sa ba) (hb : SB X W np sb bb) : SS X W np (.If a sa sb pos) (sIf t ba bb) := by
  intro c own F H σd σ T D fr R p
  refine (ps_if pt_we pss_we pss_we).we ?_
  show weT X a σ H _
  refine ht.thenS R p fun k σ1 p1 own1 F1 H1 x1 R1 => ?_
  cases k with
  | true => exact ha _ _ _ _ _ _ _ _ fr R1 (p1.ex x1)
  | false => exact hb _ _ _ _ _ _ _ _ fr R1 (p1.ex x1)
/-- what a name gets -/
def setSl (i : Nat) (r : Rs) (σ : SD) : Out Unit := if i < σ.length then (match r with
  | .fz d => .ok () (σ.set i (some (.fz d)))
  | .ow d => .ok () (σ.set i (some (.ow d)))
  | .pk j => match σ[j]? with
    | some (some (.fz d)) => .ok () (σ.set i (some (.fz d)))
    | some (some (.ow d)) => if isLst d then .ok () ((σ.set j (some (.fz d))).set i (some (.fz d))) else .stuck
    | _ => .stuck) else .stuck
theorem setSl_ok {i : Nat} {r : Rs} {v : V} {σd' : SD} (fr : c.pin i = none) (R : Rel X.K X.w c own F H σd σ (push T r v)) (h : RsR X.K X.w F σ r v) (e : setSl i r σd = .ok () σd') :
    ∃ own' F', Ex F F' ∧ Rel X.K X.w c own' F' H σd' (σ.set i (some v)) T := by
  unfold setSl at e
  split at e
  · rename_i hi
    cases r with
    | fz d =>
      cases e
      exact ⟨own, F, Evl.Ex.refl F, R.setF fr hi h⟩
    | ow d =>
      cases e
      exact ⟨_, F, Evl.Ex.refl F, Rel.setT R fr hi⟩
    | pk j =>
      simp only at e
      split at e
      · rename_i d hd
        cases e
        obtain ⟨v', h1, h2⟩ := R.slot j _ hd
        rw [show σ[j]? = some (some v) from h] at h1
        cases h1
        exact ⟨own, F, Evl.Ex.refl F, R.setF fr hi h2⟩
      · rename_i d hd
        split at e
        · rename_i hl
          cases e
          obtain ⟨R1, rp⟩ := Rel.freezeS R hd h hl
          exact ⟨_, _, R.frz_ex _, R1.setF fr (by rw [List.length_set]; exact hi) rp⟩
        · cases e
      · cases e
  · cases e
theorem setSl_noexc {i : Nat} {r : Rs} {x : Xd} {σd' : SD} : setSl i r σd ≠ .exc x σd' := by
  intro e
  unfold setSl at e
  split at e
  · cases r with
    | fz d => cases e
    | ow d => cases e
    | pk j =>
      simp only at e
      split at e
      · cases e
      · split at e <;> cases e
      · cases e
  · cases e
def sSet (i : Nat) (m : M Rs) : M Fl := fun σ => (m σ).bind fun r σ1 => (setSl i r σ1).bind fun _ σ2 => .ok .nx σ2
theorem ss_set {i : Nat} {x : Str} {pos' : Pos} (hnp : np ≤ i) (hN : X.N.Nodup) (hi : X.N[i]? = some x) (hx : Loc X.env.scope x) (h : SE X W e m) (hs : swapsWith e (some (.Name x pos')) pos.line X.env = pure false := by rfl)
    (hf : X.fn x = true ∨ X.env.scope.names.lookup x = some .local := by first | exact .inl rfl | exact .inr rfl | assumption) : SS X W np (.Assign [.Name x pos'] e pos) (sSet i m) := by
  intro c own F H σd σ T D fr R p
  refine (ps_set hN hi hx pe_we hs hf).we ?_
  show weE X e σ H fun v H1 => D.nx (σ.set i (some v)) H1
  refine h.thenS R p fun r σ1 p1 v own1 F1 H1 x1 R1 r1 => ?_
  cases hz : setSl i r σ1 with
  | stuck => rw [hz] at p1; exact p1.elim
  | exc x σ2 => exact absurd hz setSl_noexc
  | ok u σ2 =>
    rw [hz, bind_ok] at p1
    obtain ⟨own2, F2, x2, R2⟩ := setSl_ok (fr i hnp) R1 r1 hz
    exact p1 _ own2 F2 H1 (x1.trans x2) R2
def SG (X : Cx) (W : WX) (np : Nat) (tg : Expr) (g : D → SD → Out Unit) : Prop :=
  ∀ (c : Ctx) (own : Own) (F H : Hp) (σd : SD) (σ : L2.St) (T : Tms) (d : D) (v : V) (Q : L2.St → Hp → Prop), Free np c → Rel X.K X.w c own F H σd σ T → Rp X.K X.w F d v →
    (match g d σd with
      | .ok _ σd' => ∀ σ' own' F' H', Ex F F' → Rel X.K X.w c own' F' H' σd' σ' T → Q σ' H'
      | _ => False) → ∃ t, PG X tg t ∧ t v σ H Q
/-- a written target: one name, a tuple of names -/
def gNm (i : Nat) (d : D) (σ : SD) : Out Unit := if i < σ.length then .ok () (σ.set i (some (.fz d))) else .stuck
def gNms : List Nat → List D → SD → Out Unit
  | [], [], σ => .ok () σ
  | i :: is, d :: ds, σ => (gNm i d σ).bind fun _ σ1 => gNms is ds σ1
  | _, _, _ => .stuck
def gTp (is : List Nat) (d : D) (σ : SD) : Out Unit := match d with
  | .tup ds => gNms is ds σ
  | _ => .stuck
def tNms : List Nat → TGs
  | [] => gNil
  | i :: is => gCons (gName i) (tNms is)
/-- the target's reading -/
structure PGn (X : Cx) (np : Nat) (tg : Expr) (t : TG) (is : List Nat) (g : D → SD → Out Unit) : Prop where
  pg : PG X tg t
  ok : ∀ (c : Ctx) (own : Own) (F H : Hp) (σd σd' : SD) (σ : L2.St) (T : Tms) (d : D) (v : V) (Q : L2.St → Hp → Prop), Free np c → Rel X.K X.w c own F H σd σ T → Rp X.K X.w F d v →
    g d σd = .ok () σd' → (∀ σ', Rel X.K X.w c own F H σd' σ' T → (∀ vs : List Nat, (∀ i ∈ is, i ∈ vs) → wipe σ' vs = wipe σ vs) → Q σ' H) → t v σ H Q
  nx : ∀ d σd x σd', g d σd ≠ .exc x σd'
theorem wipe_get {σ : L2.St} : ∀ {vs : List Nat} {j : Nat}, (wipe σ vs)[j]? = if j ∈ vs ∧ j < σ.length then some none else σ[j]?
  | [], j => by
    unfold wipe
    simp
  | v :: vs, j => by
    unfold wipe
    by_cases h : v = j
    · subst h
      by_cases hl : v < σ.length
      · rw [List.getElem?_set_self (by rw [wipe_length]; exact hl), if_pos ⟨List.mem_cons_self, hl⟩]
      · rw [List.getElem?_eq_none (by rw [List.length_set, wipe_length]; omega), if_neg (fun z => hl z.2), List.getElem?_eq_none (by omega)]
    · rw [List.getElem?_set_ne h, wipe_get]
      have e : (j ∈ v :: vs) ↔ j ∈ vs := by simp [Ne.symm h]
      simp only [e]
theorem wipe_set {σ : L2.St} {vs : List Nat} {i : Nat} {x : Option V} (h : i ∈ vs) : wipe (σ.set i x) vs = wipe σ vs := by
  apply List.ext_getElem?
  intro j
  rw [wipe_get, wipe_get, List.length_set]
  by_cases hj : j ∈ vs ∧ j < σ.length
  · rw [if_pos hj, if_pos hj]
  · rw [if_neg hj, if_neg hj]
    by_cases hij : i = j
    · subst hij
      have hl : ¬ i < σ.length := fun z => hj ⟨h, z⟩
      rw [List.getElem?_eq_none (by rw [List.length_set]; omega), List.getElem?_eq_none (by omega)]
    · rw [List.getElem?_set_ne hij]
theorem gn_name {i : Nat} {x : Str} (hnp : np ≤ i) (h : PG X (.Name x pos) (gName i)) : PGn X np (.Name x pos) (gName i) [i] (gNm i) := by
  refine ⟨h, fun c own F H σd σd' σ T d v Q fr R r e q => ?_, fun d σd x σd' e => ?_⟩
  · unfold gNm at e
    split at e
    · rename_i hi
      cases e
      exact q _ (R.setF (fr i hnp) hi r) fun vs h => wipe_set (h i (List.mem_singleton.mpr rfl))
    · cases e
  · unfold gNm at e
    split at e <;> cases e
theorem gNms_ok : ∀ {is : List Nat} {ds : List D} {vs : List V} {σd σd' : SD} {σ : L2.St} {Q : L2.St → Hp → Prop}, (∀ i ∈ is, c.pin i = none) → Rel X.K X.w c own F H σd σ T → RpL X.K X.w F ds vs → gNms is ds σd = .ok () σd' →
    (∀ σ', Rel X.K X.w c own F H σd' σ' T → (∀ vs : List Nat, (∀ i ∈ is, i ∈ vs) → wipe σ' vs = wipe σ vs) → Q σ' H) → tNms is vs σ H Q
  | [], [], [], _, _, _, _, _, R, .nil, e, q => by
    cases e
    exact ⟨rfl, q _ R fun _ _ => rfl⟩
  | i :: is, d :: ds, v :: vs, σd, σd', σ, Q, fr, R, .cons h hs, e, q => by
    unfold gNms gNm at e
    split at e
    · rename_i hi
      rw [bind_ok] at e
      exact ⟨v, vs, rfl, gNms_ok (fun j hj => fr j (List.mem_cons_of_mem _ hj)) (R.setF (fr i List.mem_cons_self) hi h) hs e fun σ' R' hw => q σ' R' fun us hu => (hw us fun j hj => hu j (List.mem_cons_of_mem _ hj)).trans (wipe_set (hu i List.mem_cons_self))⟩
    · cases e
  | [], _ :: _, _, _, _, _, _, _, _, _, e, _ => by cases e
  | _ :: _, [], _, _, _, _, _, _, _, _, e, _ => by cases e
theorem gNms_noexc : ∀ {is : List Nat} {ds : List D} {σd σd' : SD} {x : Xd}, gNms is ds σd ≠ .exc x σd'
  | [], [], _, _, _ => fun z => nomatch z
  | i :: is, d :: ds, σd, σd', x => by
    unfold gNms gNm
    intro e
    split at e
    · rw [bind_ok] at e
      exact gNms_noexc e
    · cases e
  | [], _ :: _, _, _, _ => fun z => nomatch z
  | _ :: _, [], _, _, _ => fun z => nomatch z
theorem gNms_len : ∀ {is : List Nat} {ds : List D} {σd σd' : SD}, gNms is ds σd = .ok () σd' → ds.length = is.length
  | [], [], _, _, _ => rfl
  | i :: is, d :: ds, σd, σd', e => by
    unfold gNms gNm at e
    split at e
    · rw [bind_ok] at e
      rw [List.length_cons, List.length_cons, gNms_len e]
    · cases e
  | [], _ :: _, _, _, e => by cases e
  | _ :: _, [], _, _, e => by cases e
theorem gn_tup {es : List Expr} {kk : Nat} {is : List Nat} (hnp : ∀ i ∈ is, np ≤ i) (h : PG X (.Tuple es kk pos) (gTup X.K is.length (tNms is))) : PGn X np (.Tuple es kk pos) (gTup X.K is.length (tNms is)) is (gTp is) := by
  refine ⟨h, fun c own F H σd σd' σ T d v Q fr R r e q => ?_, fun d σd x σd' e => ?_⟩
  · unfold gTp at e
    split at e
    · cases r with
      | tup h1 h2 =>
        exact ⟨_, _, rfl, Evl.ex_t R.fh h1, by rw [← h2.length]; exact gNms_len e, gNms_ok (fun i hi => fr i (hnp i hi)) R h2 e q⟩
    · cases e
  · unfold gTp at e
    split at e
    · exact gNms_noexc e
    · cases e
/-- target = value -/
def sAsg (g : D → SD → Out Unit) (m : M Rs) : M Fl := fun σ => (m σ).bind fun r σ1 => (frz r σ1).bind fun d σ2 => (g d σ2).bind fun _ σ3 => .ok .nx σ3
theorem ss_asg {tg : Expr} {t : TG} {g : D → SD → Out Unit} (h : SE X W e m) {is : List Nat} (hg : PGn X np tg t is g) (hs : swapsWithSole [tg] e pos.line X.env = pure false := by rfl) (hw : swappedStores [tg] e X.env = pure none := by rfl)
    (h1 : (assignEach [tg] X.env).map (·.2) = [assign tg X.env] := by rfl) : SS X W np (.Assign [tg] e pos) (sAsg g m) := by
  intro c own F H σd σ T D fr R p
  refine (ps_asg pe_we hg.pg hs hw h1).we ?_
  show weE X e σ H fun v H1 => t v σ H1 D.nx
  refine h.thenS R p fun r σ1 p1 v own1 F1 H1 x1 R1 r1 => ?_
  cases hz : frz r σ1 with
  | stuck => rw [hz] at p1; exact p1.elim
  | exc x σ2 => exact absurd hz frz_noexc
  | ok d σ2 =>
    rw [hz, bind_ok] at p1
    obtain ⟨own2, F2, x2, R2, rp⟩ := frz_ok R1 r1 hz
    cases hgd : g d σ2 with
    | stuck => rw [hgd] at p1; exact p1.elim
    | exc x σ3 => exact absurd hgd (hg.nx _ _ _ _)
    | ok u σ3 =>
      rw [hgd, bind_ok] at p1
      exact hg.ok c own2 F2 H1 σ2 σ3 σ T d v D.nx fr R2 rp hgd fun σ' R' _ => p1 σ' own2 F2 H1 (x1.trans x2) R'
/-- x = e op, for ints and texts: name op= e -/
def sAug (f : D → D → Option Rn) (i : Nat) (m : M Rs) : M Fl := fun σ => match σ[i]? with
  | some (some (.fz d)) => (m σ).bind fun r σ1 => (peek r σ1).bind fun d2 σ2 => match f d d2 with
    | some (.val z) => if i < σ2.length then .ok .nx (σ2.set i (some (.fz z))) else .stuck
    | _ => .stuck
  | _ => .stuck
theorem ss_aug {i : Nat} {x : Str} {op : Operator} {f : D → D → Option Rn} {pos' : Pos} (hnp : np ≤ i) (ho : Op2 X (inplaceOp op) f) (hN : X.N.Nodup) (hi : X.N[i]? = some x) (hx : Loc X.env.scope x) (h : SE X W e m)
    (hf : X.fn x = true ∨ X.env.scope.names.lookup x = some .local := by first | exact .inl rfl | exact .inr rfl | assumption) : SS X W np (.AugAssign (.Name x pos') op e pos) (sAug f i m) := by
  obtain ⟨r0, hr, hf0⟩ := ho
  intro c own F H σd σ T D fr R p
  refine (ps_aug (ti := r0) hN hi hx pe_we hr hf).we ?_
  unfold sAug at p
  split at p
  · rename_i d hd
    obtain ⟨v0, h1, h2⟩ := R.slot i _ hd
    refine ⟨v0, h1, ?_⟩
    refine h.thenS R p fun r σ1 p1 v own1 F1 H1 x1 R1 r1 => ?_
    cases hz : peek r σ1 with
    | stuck => rw [hz] at p1; exact p1.elim
    | exc x σ2 => exact absurd hz peek_noexc
    | ok d2 σ2 =>
      rw [hz, bind_ok] at p1
      obtain ⟨rfl, vw⟩ := peek_ok R1 r1 hz
      cases hfd : f d d2 with
      | none => rw [hfd] at p1; exact p1.elim
      | some n =>
        rw [hfd] at p1
        cases n with
        | newL ds => exact p1.elim
        | newT ds => exact p1.elim
        | val z =>
          simp only at p1
          split at p1
          · rename_i hl
            exact hf0 F1 H1 d d2 v0 v _ _ R1.fh (.inl (Rp.mono x1 h2)) vw hfd fun v3 r3 => p1 _ own1 F1 H1 x1 (R1.popR.setF (fr i hnp) hl r3)
          · exact p1.elim
  · exact p.elim
end
end DL

namespace DL
open PySem PySem.Spec PyProof.Rows L2
/-- what a walk over v is: its own record's states, what must stand -/
structure Src (P : Program) (w : World) (K : Frag) (u : Value) (f : Nat → V) (n : Nat) (G : Hp → Prop) (o : Obj) (StI : Addr → Nat → Heap → Prop) : Prop where
  obj : ∀ it i h, StI it i h → ∃ ob, h.get? it = some ob ∧ ∀ v, ob.data ≠ .cell v
  keep : ∀ it i h h', StI it i h → (∀ ob, h.get? it = some ob → h'.get? it = some ob) → StI it i h'
  start : ∀ it h, h.get? it = some o → StI it 0 h
  begins : ∀ (X : Cx), X.prog = P → X.w = w → X.K = K → ∀ (pins : List (Addr × Obj)) (σ : L2.St) (H : Hp) (s : Shared), Inv X pins σ H s → G H → ∃ Hb, Begins u o Hb ∧ Hb s.heap
  draw : ∀ (X : Cx), X.prog = P → X.w = w → X.K = K → X.calm = true → ∀ (pins : List (Addr × Obj)) (σ : L2.St) (H : Hp) (s : Shared) (it : Addr) (i : Nat), Inv X pins σ H s → FpOk X pins H it → G H → StI it i s.heap →
    ∃ (fp : List Addr) (St : Nat → Heap → Prop) (Pr : Nat → Value → Prop), Draws P w X.A.in1 it fp n Pr St ∧ St i s.heap ∧ (∀ j x, Pr j x → RelV (f j) x) ∧ (∀ j h, St j h → StI it j h) ∧ it ∈ fp ∧
      ∀ b ∈ fp, b = it ∨ H b ≠ none ∨ X.base.get? b ≠ none
theorem src_list {P : Program} {w : World} {K : Frag} {a : Addr} {xs : List V} : Src P w K (.ref a) (fun i => xs.getD i .non) xs.length (fun H => H a = some (.lst xs)) { cls := .type "list_iterator", data := .fields #[.ref a, .int 0 0] } (fun it i h => h.IsListIter it a i) where
  obj := fun it i h ⟨o, e, _, d⟩ => ⟨o, e, fun v z => by rw [d] at z; cases z⟩
  keep := fun it i h h' st k => st.at fun o e => k o e
  start := fun it h e => ⟨_, e, rfl, rfl⟩
  begins := fun X hP hw hK pins σ H s I g => by
    subst hP hw hK
    obtain ⟨its, rv, p, _⟩ := I.list (SqL.of g)
    exact ⟨_, begins_list a its.toArray, p.isList⟩
  draw := fun X hP hw hK hc pins σ H s it i I hf g st => by
    subst hP hw hK
    obtain ⟨its, rv, p, _⟩ := I.list (SqL.of g)
    have hl := rv.length
    have ne : a ≠ it := fun z => by
      rw [z, hf.1] at g
      cases g
    have D := Draws.list (prog := X.prog) (w := X.w) (A := X.A.in1) (I.ok.hd hc) it a ne its.toArray
    rw [List.size_toArray, ← hl] at D
    refine ⟨[it, a], _, _, D, ⟨st, p.isList⟩, fun j x hx => ?_, fun j h q => q.1, by simp, fun b hb => ?_⟩
    · have hx : its[j]? = some x := by simpa using hx
      have hj : j < xs.length := by rw [hl]; exact (List.getElem?_eq_some_iff.mp hx).1
      obtain ⟨u, h1, h2⟩ := rv.get (i := j) (x := xs[j]) (by simp [hj])
      rw [h1] at hx
      cases hx
      rw [List.getD_eq_getElem?_getD, List.getElem?_eq_getElem hj]
      exact h2
    · rcases List.mem_cons.mp hb with z | z
      · exact .inl z
      · rw [List.mem_singleton.mp z, g]
        exact .inr (.inl (by simp))
theorem src_tup {P : Program} {w : World} {K : Frag} {a : Addr} {xs : List V} : Src P w K (.ref a) (fun i => xs.getD i .non) xs.length (fun H => SqT K H a xs) { cls := .type "tuple_iterator", data := .fields #[.ref a, .int 0 0] } (fun it i h => h.IsTupleIter it a i) where
  obj := fun it i h ⟨o, e, _, d⟩ => ⟨o, e, fun v z => by rw [d] at z; cases z⟩
  keep := fun it i h h' st k => st.at fun o e => k o e
  start := fun it h e => ⟨_, e, rfl, rfl⟩
  begins := fun X hP hw hK pins σ H s I g => by
    subst hP hw hK
    obtain ⟨its, rv, p, _⟩ := I.tuple g
    exact ⟨_, begins_tuple a its.toArray, p⟩
  draw := fun X hP hw hK hc pins σ H s it i I hf g st => by
    subst hP hw hK
    obtain ⟨its, rv, p, _⟩ := I.tuple g
    have hl := rv.length
    have hb : H a ≠ none ∨ X.base.get? a ≠ none := by
      rcases g with (g | ⟨_, g⟩) | ⟨o, _, _, g, _⟩
      · exact .inl (by rw [g]; simp)
      · exact .inl (by rw [g]; simp)
      · exact .inr (by rw [I.ok.mod.kin a o g]; simp)
    have ne : a ≠ it := fun z => by
      rcases hb with g | g
      · rw [z] at g
        exact g hf.1
      · cases q : X.base.get? a with
        | none => exact g q
        | some o =>
          rcases hf.2.2.2.1 with y | y
          · exact I.ok.noex a o q (by rw [z]; exact y)
          · have l1 : a < X.base.objs.size := Heap.lt_size q
            have l2 := I.ok.bsz
            rw [z] at l1
            exact absurd (Nat.lt_of_lt_of_le l1 (Nat.le_trans l2 y)) (Nat.lt_irrefl _)
    have D := Draws.tuple (prog := X.prog) (w := X.w) (A := X.A.in1) (I.ok.hd hc) it a ne its.toArray
    rw [List.size_toArray, ← hl] at D
    refine ⟨[it, a], _, _, D, ⟨st, p⟩, fun j x hx => ?_, fun j h q => q.1, by simp, fun b hb' => ?_⟩
    · have hx : its[j]? = some x := by simpa using hx
      have hj : j < xs.length := by rw [hl]; exact (List.getElem?_eq_some_iff.mp hx).1
      obtain ⟨u, h1, h2⟩ := rv.get (i := j) (x := xs[j]) (by simp [hj])
      rw [h1] at hx
      cases hx
      rw [List.getD_eq_getElem?_getD, List.getElem?_eq_getElem hj]
      exact h2
    · rcases List.mem_cons.mp hb' with z | z
      · exact .inl z
      · rw [List.mem_singleton.mp z]
        exact .inr hb
theorem src_str {P : Program} {w : World} {K : Frag} {x : Str} {t : Tok} : Src P w K (.str x t) (fun i => .str ⟨#[x.cps.getD i 0]⟩) x.cps.size (fun _ => True) { cls := .type (strIterType x), data := .fields #[.str x t, .int 0 0] } (fun it i h => h.IsStrIter it (strIterType x) x t i) where
  obj := fun it i h ⟨o, e, _, d⟩ => ⟨o, e, fun v z => by rw [d] at z; cases z⟩
  keep := fun it i h h' ⟨o, e, c, d⟩ k => ⟨o, k o e, c, d⟩
  start := fun it h e => ⟨_, e, rfl, rfl⟩
  begins := fun X hP hw hK pins σ H s I g => ⟨_, begins_text x t, trivial⟩
  draw := fun X hP hw hK hc pins σ H s it i I hf g st => by
    subst hP hw hK
    have D := Draws.text (prog := X.prog) (w := X.w) (A := X.A.in1) (I.ok.hd hc) it x t
    refine ⟨[it], _, _, D, st, fun j y hy => ?_, fun j h q => q, by simp, fun b hb => .inl (by simpa using hb)⟩
    obtain ⟨c, u, h1, rfl⟩ := hy
    refine ⟨u, ?_⟩
    rw [Array.getD_eq_getD_getElem?, h1]
    rfl
/-- the walk of zip: the i-th pair is new -/
def ItZ (G1 G2 : Hp → Prop) (n1 n2 : Nat) (f1 f2 : Nat → V) : It :=
  ⟨fun i H => G1 H ∧ G2 H ∧ i < min n1 n2, fun i H v H' => ∃ T, v = .ref T ∧ H T = none ∧ H' = upd H T (.tup [f1 i, f2 i]), fun i H => G1 H ∧ G2 H ∧ i = min n1 n2⟩
theorem fp_not_base {X : Cx} {pins : List (Addr × Obj)} {σ : L2.St} {H : Hp} {s : Shared} {b : Addr} (I : Inv X pins σ H s) (hf : FpOk X pins H b) : X.base.get? b = none := by
  cases q : X.base.get? b with
  | none => rfl
  | some o =>
    rcases hf.2.2.2.1 with y | y
    · exact absurd y (I.ok.noex b o q)
    · exact absurd (Nat.lt_of_lt_of_le (Heap.lt_size q) (Nat.le_trans I.ok.bsz y)) (Nat.lt_irrefl _)
theorem turn_zipS {P : Program} {w : World} {K : Frag} {elts : List Expr} {kk : Nat} {tpos : Pos} {z TI TO i1 i2 : Addr} {u1 u2 : Value} {f1 f2 : Nat → V} {n1 n2 : Nat} {G1 G2 : Hp → Prop} {o1 o2 : Obj} {S1 S2 : Addr → Nat → Heap → Prop}
    (A1 : Src P w K u1 f1 n1 G1 o1 S1) (A2 : Src P w K u2 f2 n2 G2 o2 S2) (hz1 : TI ≠ z) (hz2 : TO ≠ z) (hz3 : TI ≠ TO) (hz4 : TI ≠ i1) (hz5 : TI ≠ i2) (hz6 : z ≠ i1) (hz7 : z ≠ i2) (hz8 : TO ≠ i1) (hz9 : TO ≠ i2) (hz0 : i1 ≠ i2) :
    Turn P w K (.Tuple elts kk tpos) (ItZ G1 G2 n1 n2 f1 f2) [z, TI, TO, i1, i2] z (fun i h => IsZip h z TI TO .none ∧ IsTupOf2 h TI (.ref i1) (.ref i2) ∧ (∃ a1 a2, IsTupOf2 h TO a1 a2) ∧ S1 i1 i h ∧ S2 i2 i h) where
  mem := by simp
  obj := fun i h st c hc => by
    obtain ⟨hz, hTI, ⟨x, y, hTO⟩, s1, s2⟩ := st
    have e' : c = z ∨ c = TI ∨ c = TO ∨ c = i1 ∨ c = i2 := by simpa using hc
    rcases e' with q | q | q | q | q
    · rw [q]; exact ⟨_, hz, fun v q => nomatch q⟩
    · rw [q]; exact ⟨_, hTI, fun v q => nomatch q⟩
    · rw [q]; exact ⟨_, hTO, fun v q => nomatch q⟩
    · rw [q]; exact A1.obj _ _ _ s1
    · rw [q]; exact A2.obj _ _ _ s2
  keep := fun i h h' st k => by
    obtain ⟨hz, hTI, ⟨x, y, hTO⟩, s1, s2⟩ := st
    exact ⟨k z (by simp) _ hz, k TI (by simp) _ hTI, ⟨x, y, k TO (by simp) _ hTO⟩, A1.keep _ _ _ _ s1 fun o e => k i1 (by simp) o e, A2.keep _ _ _ _ s2 fun o e => k i2 (by simp) o e⟩
  item := by
    intro X hP hw hK hc i pins s σ H E I hf st hg
    subst hP hw hK
    obtain ⟨hz, hTI, hTO, s1, s2⟩ := st
    obtain ⟨g1, g2, hi⟩ := hg
    obtain ⟨fp1, St1, Pr1, D1, t1, r1, b1, m1, k1⟩ := A1.draw X rfl rfl rfl hc pins σ H s i1 i I (hf i1 (by simp)) g1 s1
    obtain ⟨fp2, St2, Pr2, D2, t2, r2, b2, m2, k2⟩ := A2.draw X rfl rfl rfl hc pins σ H s i2 i I (hf i2 (by simp)) g2 s2
    have out : ∀ c, c ∈ [z, TI, TO, i1, i2] → ∀ (it : Addr) (fp : List Addr), (∀ b ∈ fp, b = it ∨ H b ≠ none ∨ X.base.get? b ≠ none) → c ≠ it → c ∉ fp := fun c hcm it fp hk hne hm => by
      rcases hk c hm with q | q | q
      · exact hne q
      · exact q (hf c hcm).1
      · exact q (fp_not_base I (hf c hcm))
    have S : ZipSep2 z TI TO i1 i2 fp1 fp2 := ⟨hz1, hz2, hz3, hz4, m1, out z (by simp) i1 fp1 k1 hz6, out TO (by simp) i1 fp1 k1 hz8, hz5, m2, out z (by simp) i2 fp2 k2 hz7, out TO (by simp) i2 fp2 k2 hz9,
      out i1 (by simp) i2 fp2 k2 hz0, out i2 (by simp) i1 fp1 k1 (Ne.symm hz0)⟩
    refine (GoesN.zip2 (elts := elts) (x1 := kk) (pos := tpos) S D1 D2).goes i s (fun u s2 => ∃ x H', Inv X pins σ H' s2 ∧ RelV x u ∧ (ItZ G1 G2 n1 n2 f1 f2).yld i H x H' ∧
      (IsZip s2.heap z TI TO .none ∧ IsTupOf2 s2.heap TI (.ref i1) (.ref i2) ∧ (∃ a1 a2, IsTupOf2 s2.heap TO a1 a2) ∧ S1 i1 (i + 1) s2.heap ∧ S2 i2 (i + 1) s2.heap) ∧ ∀ b ∈ [z, TI, TO, i1, i2], H' b = none) E hi ⟨hz, hTI, hTO, t1, t2⟩ fun v h' tk hY hst hk htk => ?_
    obtain ⟨T, x, y, rfl, hT, p1, p2, hTup⟩ := hY
    obtain ⟨c1, c2, c3, c4, c5⟩ := hst
    obtain ⟨oT, eT, cT, nT, dT⟩ := hTup
    have new : ObjOk X.prog X.w (upd H T (.tup [f1 i, f2 i])) h' T (.tup [f1 i, f2 i]) :=
      ⟨by show 2 ≤ sizeLine; decide, [x, y], .cons (r1 _ _ p1) (.cons (r2 _ _ p2) .nil), ⟨oT, eT, cT, nT, dT⟩⟩
    have I1 : Inv X pins σ (upd H T (.tup [f1 i, f2 i])) { s with heap := h', toks := tk } :=
      I.turnedNew (ch := [z, TI, TO, i1, i2]) (fun c o hb q => hk c o (fun q' => hb (by
        have q2 : c = z ∨ c = TO ∨ c = i1 ∨ c = i2 := by simpa using q'
        simp only [List.mem_cons, List.not_mem_nil, or_false]
        rcases q2 with q2 | q2 | q2 | q2 <;> simp [q2])) q) hf hT new
    refine ⟨.ref T, _, I1, rfl, ⟨T, rfl, I.hok.fresh hT, rfl⟩, ⟨c1, c2, c3, b1 _ _ c4, b2 _ _ c5⟩, fun c hcm => ?_⟩
    have hlt : c < s.heap.objs.size := by
      have e' : c = z ∨ c = TI ∨ c = TO ∨ c = i1 ∨ c = i2 := by simpa using hcm
      obtain ⟨x0, y0, hTO⟩ := hTO
      rcases e' with q | q | q | q | q
      · rw [q]; exact Heap.lt_size hz
      · rw [q]; exact Heap.lt_size hTI
      · rw [q]; exact Heap.lt_size hTO
      · rw [q]; obtain ⟨_, e1, _⟩ := A1.obj _ _ _ s1; exact Heap.lt_size e1
      · rw [q]; obtain ⟨_, e2, _⟩ := A2.obj _ _ _ s2; exact Heap.lt_size e2
    rw [upd_ne (Nat.ne_of_lt (Nat.lt_of_lt_of_le hlt hT))]
    exact (hf c hcm).1
  done := by
    intro X hP hw hK hc i pins s σ H E I hf st hg
    subst hP hw hK
    obtain ⟨hz, hTI, hTO, s1, s2⟩ := st
    obtain ⟨g1, g2, hi⟩ := hg
    subst hi
    obtain ⟨fp1, St1, Pr1, D1, t1, r1, b1, m1, k1⟩ := A1.draw X rfl rfl rfl hc pins σ H s i1 _ I (hf i1 (by simp)) g1 s1
    obtain ⟨fp2, St2, Pr2, D2, t2, r2, b2, m2, k2⟩ := A2.draw X rfl rfl rfl hc pins σ H s i2 _ I (hf i2 (by simp)) g2 s2
    have out : ∀ c, c ∈ [z, TI, TO, i1, i2] → ∀ (it : Addr) (fp : List Addr), (∀ b ∈ fp, b = it ∨ H b ≠ none ∨ X.base.get? b ≠ none) → c ≠ it → c ∉ fp := fun c hcm it fp hk hne hm => by
      rcases hk c hm with q | q | q
      · exact hne q
      · exact q (hf c hcm).1
      · exact q (fp_not_base I (hf c hcm))
    have S : ZipSep2 z TI TO i1 i2 fp1 fp2 := ⟨hz1, hz2, hz3, hz4, m1, out z (by simp) i1 fp1 k1 hz6, out TO (by simp) i1 fp1 k1 hz8, hz5, m2, out z (by simp) i2 fp2 k2 hz7, out TO (by simp) i2 fp2 k2 hz9,
      out i1 (by simp) i2 fp2 k2 hz0, out i2 (by simp) i1 fp1 k1 (Ne.symm hz0)⟩
    refine (GoesN.zip2 (elts := elts) (x1 := kk) (pos := tpos) S D1 D2).stops s (fun s1 => Inv X pins σ H s1) E ⟨hz, hTI, hTO, t1, t2⟩ fun h' tk hk htk => ?_
    exact I.turnedL (ch := [z, TI, TO, i1, i2]) (fun c o hb q => hk c o (fun q' => hb (by
        have q2 : c = z ∨ c = TO ∨ c = i1 ∨ c = i2 := by simpa using q'
        simp only [List.mem_cons, List.not_mem_nil, or_false]
        rcases q2 with q2 | q2 | q2 | q2 <;> simp [q2])) q) hf
  self := fun A i s Q E st h => wpAny_pyIter_zip st.1 h
def ItE (G : Hp → Prop) (n : Nat) (f : Nat → V) : It :=
  ⟨fun i H => G H ∧ i < n, fun i H v H' => ∃ T, v = .ref T ∧ H T = none ∧ H' = upd H T (.tup [.int (i : Int), f i]), fun i H => G H ∧ i = n⟩
theorem turn_enumS {P : Program} {w : World} {K : Frag} {elts : List Expr} {kk : Nat} {tpos : Pos} {e it : Addr} {u : Value} {f : Nat → V} {n : Nat} {G : Hp → Prop} {o : Obj} {S : Addr → Nat → Heap → Prop}
    (A1 : Src P w K u f n G o S) (hne : e ≠ it) : Turn P w K (.Tuple elts kk tpos) (ItE G n f) [e, it] e (fun i h => (∃ old, IsEnum h e it ((i : Int)) old) ∧ S it i h) where
  mem := by simp
  obj := fun i h st c hc => by
    obtain ⟨⟨old, he⟩, s1⟩ := st
    have e' : c = e ∨ c = it := by simpa using hc
    rcases e' with q | q
    · rw [q]; exact ⟨_, he, fun v q => nomatch q⟩
    · rw [q]; exact A1.obj _ _ _ s1
  keep := fun i h h' st k => by
    obtain ⟨⟨old, he⟩, s1⟩ := st
    exact ⟨⟨old, k e (by simp) _ he⟩, A1.keep _ _ _ _ s1 fun o e' => k it (by simp) o e'⟩
  item := by
    intro X hP hw hK hc i pins s σ H E I hf st hg
    subst hP hw hK
    obtain ⟨⟨old, he⟩, s1⟩ := st
    obtain ⟨g1, hi⟩ := hg
    obtain ⟨fp1, St1, Pr1, D1, t1, r1, b1, m1, k1⟩ := A1.draw X rfl rfl rfl hc pins σ H s it i I (hf it (by simp)) g1 s1
    have hef : e ∉ fp1 := fun hm => by
      rcases k1 e hm with q | q | q
      · exact hne q
      · exact q (hf e (by simp)).1
      · exact q (fp_not_base I (hf e (by simp)))
    have z0 : (0 : Int) + (i : Int) = (i : Int) := Int.zero_add _
    refine (GoesN.enumFrom (elts := elts) (x1 := kk) (pos := tpos) 0 D1 e hne hef m1).goes i s (fun u s2 => ∃ x H', Inv X pins σ H' s2 ∧ RelV x u ∧ (ItE G n f).yld i H x H' ∧
      ((∃ old, IsEnum s2.heap e it (((i + 1 : Nat) : Int)) old) ∧ S it (i + 1) s2.heap) ∧ ∀ b ∈ [e, it], H' b = none) E hi ⟨⟨old, by rw [z0]; exact he⟩, t1⟩ fun v h' tk hY hst hk htk => ?_
    obtain ⟨T, t, x, rfl, hT, p1, hTup⟩ := hY
    obtain ⟨⟨old', c1⟩, c2⟩ := hst
    obtain ⟨oT, eT, cT, nT, dT⟩ := hTup
    rw [z0] at dT
    have new : ObjOk X.prog X.w (upd H T (.tup [.int (i : Int), f i])) h' T (.tup [.int (i : Int), f i]) :=
      ⟨by show 2 ≤ sizeLine; decide, [.int (i : Int) t, x], .cons ⟨t, rfl⟩ (.cons (r1 _ _ p1) .nil), ⟨oT, eT, cT, nT, dT⟩⟩
    have I1 : Inv X pins σ (upd H T (.tup [.int (i : Int), f i])) { s with heap := h', toks := tk } :=
      I.turnedNew (ch := [e, it]) (fun c o hb q => hk c o hb q) hf hT new
    refine ⟨.ref T, _, I1, rfl, ⟨T, rfl, I.hok.fresh hT, rfl⟩, ⟨⟨old', by rw [Int.zero_add] at c1; exact c1⟩, b1 _ _ c2⟩, fun c hcm => ?_⟩
    have hlt : c < s.heap.objs.size := by
      have e' : c = e ∨ c = it := by simpa using hcm
      rcases e' with q | q
      · rw [q]; exact Heap.lt_size he
      · rw [q]; obtain ⟨_, e1, _⟩ := A1.obj _ _ _ s1; exact Heap.lt_size e1
    rw [upd_ne (Nat.ne_of_lt (Nat.lt_of_lt_of_le hlt hT))]
    exact (hf c hcm).1
  done := by
    intro X hP hw hK hc i pins s σ H E I hf st hg
    subst hP hw hK
    obtain ⟨⟨old, he⟩, s1⟩ := st
    obtain ⟨g1, hi⟩ := hg
    subst hi
    obtain ⟨fp1, St1, Pr1, D1, t1, r1, b1, m1, k1⟩ := A1.draw X rfl rfl rfl hc pins σ H s it _ I (hf it (by simp)) g1 s1
    have hef : e ∉ fp1 := fun hm => by
      rcases k1 e hm with q | q | q
      · exact hne q
      · exact q (hf e (by simp)).1
      · exact q (fp_not_base I (hf e (by simp)))
    refine (GoesN.enumFrom (elts := elts) (x1 := kk) (pos := tpos) 0 D1 e hne hef m1).stops s (fun s1 => Inv X pins σ H s1) E ⟨⟨old, by rw [Int.zero_add]; exact he⟩, t1⟩ fun h' tk hk htk => ?_
    exact I.turnedL (ch := [e, it]) (fun c o hb q => hk c o hb q) hf
  self := fun A i s Q E st h => let ⟨⟨old, he⟩, _⟩ := st; wpAny_pyIter_enum he h
end DL

namespace DL
open PySem PySem.Spec PyProof.Rows L2
/-- J walks the data ds -/
structure DWalk (K : Frag) (w : World) (F : Hp) (J : It) (ds : List D) : Prop where
  go : ∀ i H, i < ds.length → Ex F H → J.go i H
  stop : ∀ H, Ex F H → J.stop ds.length H
  yld : ∀ i H x H', i < ds.length → Ex F H → J.yld i H x H' → ∃ d, ds[i]? = some d ∧
    ((H' = H ∧ Rp K w F d x) ∨ ∃ T x1 x2 d1 d2, x = .ref T ∧ H T = none ∧ H' = upd H T (.tup [x1, x2]) ∧ d = .tup [d1, d2] ∧ Rp K w F d1 x1 ∧ Rp K w F d2 x2)
def itemsOf : D → Option (List D)
  | .lst ds => some ds
  | .tup ds => some ds
  | .str s => some (s.map fun c => .str [c])
  | .scr ns => some (ns.map .int)
  | _ => none
def itemsZ : D → Option (List D)
  | .lst ds => some ds
  | .tup ds => some ds
  | .str s => some (s.map fun c => .str [c])
  | _ => none
section
variable {P : Program} {w : World} {K : Frag} {F H : Hp} {c : Ctx} {own : Own} {σd : SD} {σ : L2.St} {T : Tms}
theorem getD_eq {α : Type} {xs : List α} {i : Nat} {a d : α} (h : xs[i]? = some a) : xs.getD i d = a := by
  rw [List.getD_eq_getElem?_getD, h]
  rfl
/-- the source that data is -/
theorem src_of {d : D} {v : V} {u : Value} {ds : List D} (h : Rp K w F d v) (e : itemsZ d = some ds) (r : RelV v u) : ∃ f G o StI, Src P w K u f ds.length G o StI ∧ (∀ H, Ex F H → G H) ∧ ∀ i d', ds[i]? = some d' → Rp K w F d' (f i) := by
  cases h with
  | lst h1 h2 =>
    cases e
    obtain rfl : u = _ := r
    rw [h2.length]
    refine ⟨_, _, _, _, src_list, fun H x => x _ _ h1, fun i d' q => ?_⟩
    obtain ⟨v, q1, q2⟩ := h2.get q
    rw [getD_eq q1]
    exact q2
  | tup h1 h2 =>
    cases e
    obtain rfl : u = _ := r
    rw [h2.length]
    refine ⟨_, _, _, _, src_tup, fun H x => Evl.ex_t x h1, fun i d' q => ?_⟩
    obtain ⟨v, q1, q2⟩ := h2.get q
    rw [getD_eq q1]
    exact q2
  | str s =>
    cases e
    obtain ⟨t, rfl⟩ := r
    rw [List.length_map]
    have hs := src_str (P := P) (w := w) (K := K) (x := ⟨s.toArray⟩) (t := t)
    simp only [List.size_toArray] at hs
    refine ⟨_, _, _, _, hs, fun H x => trivial, fun i d' q => ?_⟩
    rw [List.getElem?_map] at q
    obtain ⟨cc, q1, rfl⟩ := Option.map_eq_some_iff.mp q
    have : (s.toArray.getD i 0) = cc := by
      rw [Array.getD_eq_getD_getElem?, List.getElem?_toArray, q1]
      rfl
    rw [this]
    exact .str [cc]
  | _ => cases e
/-- what a turn brings -/
theorem Rel.yielded {J : It} {ds : List D} {F0 H' : Hp} {i : Nat} {x : V} (R : Rel K w c own F H σd σ T) (wk : DWalk K w F0 J ds) (e : Ex F0 F) (hi : i < ds.length) (y : J.yld i H x H') :
    ∃ d F', ds[i]? = some d ∧ Ex F F' ∧ Rel K w c own F' H' σd σ T ∧ Rp K w F' d x := by
  obtain ⟨d, hd, h⟩ := wk.yld i H x H' hi (e.trans R.fh) y
  rcases h with ⟨rfl, r⟩ | ⟨T, x1, x2, d1, d2, rfl, hT, rfl, rfl, r1, r2⟩
  · exact ⟨d, F, hd, Evl.Ex.refl F, R, r.mono e⟩
  · have ex := ex_upd (o := .tup [x1, x2]) (R.notF hT)
    exact ⟨_, _, hd, ex, R.newF hT, .tup (.inl (.inl upd_same)) (.cons ((r1.mono e).mono ex) (.cons ((r2.mono e).mono ex) .nil))⟩
end
section
variable (X : Cx) (W : WX) (c : Ctx) (T : Tms) (σ : L2.St) (F : Hp)
def PstI (o : Out (List D)) (R : It → Hp → Prop) : Prop := match o with
  | .ok ds σd => ∀ J own F' H', Ex F F' → Rel X.K X.w c own F' H' σd σ T → DWalk X.K X.w F' J ds → R J H'
  | .exc x σd => ∀ own F' H' cls d, Ex F F' → Rel X.K X.w c own F' H' σd σ T → XR X.K X.w F' x cls d → W cls d σ H'
  | .stuck => False
end
def weI (X : Cx) (tg iter : Expr) : TI := fun σ H R => ∀ (pins : List (Addr × Obj)) (s : Shared), Inv X pins σ H s →
    wpAny (model X.prog X.w) X.A (eval iter X.env) (fun v s1 => wpAny (model X.prog X.w) X.A (pyIter v) (PIE X pins σ tg R) X.xe s1) X.xe s
theorem pi_we {X : Cx} {tg iter : Expr} : PI X tg iter (weI X tg iter) := ⟨fun pins s σ H R I h => h pins s I⟩
def SI (X : Cx) (W : WX) (tg iter : Expr) (m : M (List D)) : Prop :=
  ∀ (c : Ctx) (own : Own) (F H : Hp) (σd : SD) (σ : L2.St) (T : Tms) (Q : It → Hp → Prop), Rel X.K X.w c own F H σd σ T → PstI X W c T σ F (m σd) Q → weI X tg iter σ H Q
section
variable {X : Cx} {W : WX} {c : Ctx} {T : Tms} {σ : L2.St} {F F' H : Hp} {own : Own} {σd : SD} {a b e : Expr} {tg : Expr} {es : List Expr} {ma mb m : M Rs} {ms : M (List Rs)} {pos : Pos}
theorem PstI.ex {o : Out (List D)} {Q : It → Hp → Prop} (h : PstI X W c T σ F o Q) (e : Ex F F') : PstI X W c T σ F' o Q := by
  cases o with
  | ok ds σd => exact fun J own F2 H' e2 => h J own F2 H' (e.trans e2)
  | exc x σd => exact fun own F2 H' cls d e2 => h own F2 H' cls d (e.trans e2)
  | stuck => exact h
theorem SE.thenI (h : SE X W e m) (R : Rel X.K X.w c own F H σd σ T) {f : Rs → SD → Out (List D)} {Q : It → Hp → Prop} {Q1 : VK} (p : PstI X W c T σ F ((m σd).bind f) Q)
    (k : ∀ r σd', PstI X W c T σ F (f r σd') Q → ∀ v own' F' H', Ex F F' → Rel X.K X.w c own' F' H' σd' σ (push T r v) → RsR X.K X.w F' σ r v → Q1 v H') : weE X e σ H Q1 := by
  refine h c own F H σd σ T Q1 R ?_
  cases hm : m σd with
  | stuck => rw [hm] at p; exact p
  | exc x σ1 => rw [hm] at p; exact p
  | ok r σ1 => rw [hm] at p; exact fun v own' F' H' e R r1 => k r σ1 p v own' F' H' e R r1
theorem SA.thenI (h : SA X W es ms) (R : Rel X.K X.w c own F H σd σ T) {f : List Rs → SD → Out (List D)} {Q : It → Hp → Prop} {Q1 : List V → Hp → Prop} (p : PstI X W c T σ F ((ms σd).bind f) Q)
    (k : ∀ rs σd', PstI X W c T σ F (f rs σd') Q → ∀ vs own' F' H', Ex F F' → Rel X.K X.w c own' F' H' σd' σ (pushL T rs vs) → RsL X.K X.w F' σ rs vs → Q1 vs H') : weA X es σ H Q1 := by
  refine h c own F H σd σ T Q1 R ?_
  cases hm : ms σd with
  | stuck => rw [hm] at p; exact p
  | exc x σ1 => rw [hm] at p; exact p
  | ok rs σ1 => rw [hm] at p; exact fun vs own' F' H' e R r1 => k rs σ1 p vs own' F' H' e R r1
/-- data walked -/
def eIter (m : M Rs) : M (List D) := fun σ => (m σ).bind fun r σ1 => (frz r σ1).bind fun d σ2 => match itemsOf d with
  | some ds => .ok ds σ2
  | none => .stuck
theorem walk_l {a : Addr} {vs : List V} {ds : List D} {K : Frag} {w : World} {F : Hp} (h : ∀ H, Ex F H → SqL K H a vs) (r : RpL K w F ds vs) (inj : ∀ H, Ex F H → ∀ ys, SqL K H a ys → ys = vs → True) : DWalk K w F (Itl K a) ds := by
  refine ⟨fun i H hi x => ?_, fun H x => ⟨vs, h H x, by rw [r.length]; exact Nat.le_refl _⟩, fun i H y H' hi x q => ?_⟩
  · rw [r.length] at hi
    exact ⟨vs, vs[i], h H x, by simp [hi]⟩
  · obtain ⟨rfl, q⟩ := q
    obtain ⟨d, h1, h2⟩ := r.get' (q vs (h H' x))
    exact ⟨d, h1, .inl ⟨rfl, h2⟩⟩
theorem walk_t {a : Addr} {vs : List V} {ds : List D} {K : Frag} {w : World} {F : Hp} (h : ∀ H, Ex F H → SqT K H a vs) (r : RpL K w F ds vs) : DWalk K w F (Itt K a) ds := by
  refine ⟨fun i H hi x => ?_, fun H x => ⟨vs, h H x, by rw [r.length]; exact Nat.le_refl _⟩, fun i H y H' hi x q => ?_⟩
  · rw [r.length] at hi
    exact ⟨vs, vs[i], h H x, by simp [hi]⟩
  · obtain ⟨rfl, q⟩ := q
    obtain ⟨d, h1, h2⟩ := r.get' (q vs (h H' x))
    exact ⟨d, h1, .inl ⟨rfl, h2⟩⟩
theorem ints_rp {K : Frag} {w : World} {F : Hp} : ∀ ns : List Int, RpL K w F (ns.map .int) (ns.map V.int)
  | [] => .nil
  | n :: ns => .cons (.int n) (ints_rp ns)
theorem iter_list {pins : List (Addr × Obj)} {s1 : Shared} {a : Addr} {xs : List V} {R : It → Hp → Prop} {E : Value → Shared → Prop} (I1 : Inv X pins σ H s1) (hq : SqL X.K H a xs) (q : R (Itl X.K a) H) : wpAny (model X.prog X.w) X.A (pyIter (.ref a)) (PIE X pins σ tg R) E s1 := by
  obtain ⟨its, rv, p, hz⟩ := I1.list hq
  refine wpAny_pyIter_list p.isList ?_
  refine ⟨s1.heap.objs.size, [s1.heap.objs.size], _, _, H, rfl, I1.kept (t' := s1.toks) fun b o e => Heap.get?_push_of_some _ e, turn_list a _, ⟨_, Heap.get?_push_size _ rfl, rfl, rfl⟩, fun b hb => ?_, q⟩
  have e : b = s1.heap.objs.size := by simpa using hb
  subst e
  exact I1.fpOk (Nat.le_refl _) (I1.hok.fresh (Nat.le_refl _))
theorem iter_tup {pins : List (Addr × Obj)} {s1 : Shared} {a : Addr} {xs : List V} {R : It → Hp → Prop} {E : Value → Shared → Prop} (I1 : Inv X pins σ H s1) (hq : SqT X.K H a xs) (q : R (Itt X.K a) H) : wpAny (model X.prog X.w) X.A (pyIter (.ref a)) (PIE X pins σ tg R) E s1 := by
  obtain ⟨its, rv, p, hz⟩ := I1.tuple hq
  refine wpAny_pyIter_tuple (show s1.heap.IsTuple a its.toArray from p) ?_
  refine ⟨s1.heap.objs.size, [s1.heap.objs.size], _, _, H, rfl, I1.kept (t' := s1.toks) fun b o e => Heap.get?_push_of_some _ e, turn_tuple a _, ⟨_, Heap.get?_push_size _ rfl, rfl, rfl⟩, fun b hb => ?_, q⟩
  have e : b = s1.heap.objs.size := by simpa using hb
  subst e
  exact I1.fpOk (Nat.le_refl _) (I1.hok.fresh (Nat.le_refl _))
theorem iter_str {pins : List (Addr × Obj)} {s1 : Shared} {x : Str} {t : Tok} {R : It → Hp → Prop} {E : Value → Shared → Prop} (I1 : Inv X pins σ H s1) (q : R (Its x) H) : wpAny (model X.prog X.w) X.A (pyIter (.str x t)) (PIE X pins σ tg R) E s1 := by
  have hn : H s1.heap.objs.size = none := I1.hok.fresh (Nat.le_refl _)
  refine wpAny_pyIter_strU ?_
  refine ⟨s1.heap.objs.size, [s1.heap.objs.size], _, _, H, rfl, I1.kept (t' := s1.toks) fun b o e => Heap.get?_push_of_some _ e, turn_str (P := X.prog) (w := X.w) (K := X.K) (tg := tg) s1.heap.objs.size x t (strIterType x) ?_, ?_, fun b hb => ?_, q⟩
  · unfold strIterType
    by_cases h : x.cps.all (· < 128) = true
    · rw [if_pos h]; exact .inl rfl
    · rw [if_neg h]; exact .inr rfl
  · exact ⟨_, Heap.get?_push_size _ rfl, rfl, rfl⟩
  · have e : b = s1.heap.objs.size := by simpa using hb
    subst e
    exact I1.fpOk (Nat.le_refl _) hn
theorem walk_s {s : List Nat} {K : Frag} {w : World} {F : Hp} : DWalk K w F (Its ⟨s.toArray⟩) (s.map fun c => .str [c]) := by
  refine ⟨fun i H hi x => ?_, fun H x => ?_, fun i H y H' hi x q => ?_⟩
  · rw [List.length_map] at hi
    show i < s.toArray.size
    simpa using hi
  · show s.toArray.size ≤ _
    simp
  · obtain ⟨rfl, cc, q1, rfl⟩ := q
    refine ⟨.str [cc], ?_, .inl ⟨rfl, .str [cc]⟩⟩
    rw [List.getElem?_map]
    have : s[i]? = some cc := by simpa using q1
    rw [this]
    rfl
theorem si_val (h : SE X W e m) : SI X W tg e (eIter m) := by
  intro c own F H σd σ T Q R p pins s I
  have h1 : weE X e σ H fun v H1 => ∃ d own' F' σd' ds, Ex F F' ∧ Rel X.K X.w c own' F' H1 σd' σ T ∧ Rp X.K X.w F' d v ∧ itemsOf d = some ds ∧ PstI X W c T σ F (.ok ds σd') Q := by
    unfold eIter at p
    refine h.thenI R p fun r σ1 p1 v own1 F1 H1 x1 R1 r1 => ?_
    cases hz : frz r σ1 with
    | stuck => rw [hz] at p1; exact p1.elim
    | exc x σ2 => exact absurd hz frz_noexc
    | ok d σ2 =>
      rw [hz, bind_ok] at p1
      obtain ⟨own2, F2, x2, R2, rp⟩ := frz_ok R1 r1 hz
      cases hd : itemsOf d with
      | none => rw [hd] at p1; exact p1.elim
      | some ds => rw [hd] at p1; exact ⟨d, own2, F2, σ2, ds, x1.trans x2, R2, rp, hd, p1⟩
  refine thn (h1 pins s I) fun u s1 hq => ?_
  obtain ⟨v, H1, I1, rv, d, own2, F2, σ2, ds, x2, R2, rp, hd, p2⟩ := hq
  have p3 : ∀ J, DWalk X.K X.w F2 J ds → Q J H1 := fun J => p2 J own2 F2 H1 x2 R2
  cases rp with
  | lst h1 h2 =>
    cases hd
    obtain rfl : u = _ := rv
    exact iter_list I1 (SqL.of (R2.fh _ _ h1)) (p3 _ (walk_l (fun H x => SqL.of (x _ _ h1)) h2 fun _ _ _ _ _ => trivial))
  | tup h1 h2 =>
    cases hd
    obtain rfl : u = _ := rv
    exact iter_tup I1 (Evl.ex_t R2.fh h1) (p3 _ (walk_t (fun H x => Evl.ex_t x h1) h2))
  | scr h1 =>
    cases hd
    obtain rfl : u = _ := rv
    exact iter_list I1 (Evl.ex_l R2.fh h1) (p3 _ (walk_l (fun H x => Evl.ex_l x h1) (ints_rp _) fun _ _ _ _ _ => trivial))
  | str s =>
    cases hd
    obtain ⟨t, rfl⟩ := rv
    exact iter_str I1 (p3 _ walk_s)
  | _ => cases hd
def dInts (lo : Int) (n : Nat) : List D := (List.range n).map fun (i : Nat) => D.int (lo + (i : Int))
def dIntsC (lo cc : Int) (n : Nat) : List D := (List.range n).map fun (i : Nat) => D.int (lo + (i : Int) * cc)
def in62 (i : Int) : Bool := decide (-(2 ^ 62) ≤ i ∧ i < 2 ^ 62)
def iRng (f : List D → Option (List D)) (ms : M (List Rs)) : M (List D) := fun σ => (ms σ).bind fun rs σ1 => (peekL rs σ1).bind fun ds σ2 => match f ds with
  | some is => .ok is σ2
  | none => .stuck
def rng1 : List D → Option (List D)
  | [.int n] => if in62 n then some (dInts 0 n.toNat) else none
  | _ => none
def rng2 : List D → Option (List D)
  | [.int a, .int b] => if in62 a && in62 b then some (dInts a (b - a).toNat) else none
  | _ => none
/-- a downward range by ones -/
def rng3 : List D → Option (List D)
  | [.int a, .int b, .int (-1)] => if in62 a && in62 b then some (dIntsC a (-1) (a - b).toNat) else none
  | _ => none
theorem walk_r {lo : Int} {n : Nat} {K : Frag} {w : World} {F : Hp} : DWalk K w F (Itr lo n) (dInts lo n) := by
  refine ⟨fun i H hi x => ?_, fun H x => ?_, fun i H y H' hi x q => ?_⟩
  · unfold dInts at hi
    rw [List.length_map, List.length_range] at hi
    exact hi
  · unfold dInts
    rw [List.length_map, List.length_range]
    exact Nat.le_refl _
  · obtain ⟨rfl, rfl⟩ := q
    unfold dInts at hi ⊢
    rw [List.length_map, List.length_range] at hi
    exact ⟨.int (lo + i), by simp [hi], .inl ⟨rfl, .int _⟩⟩
theorem walk_rC {lo cc : Int} {n : Nat} {K : Frag} {w : World} {F : Hp} : DWalk K w F (Itc lo cc n) (dIntsC lo cc n) := by
  refine ⟨fun i H hi x => ?_, fun H x => ?_, fun i H y H' hi x q => ?_⟩
  · unfold dIntsC at hi
    rw [List.length_map, List.length_range] at hi
    exact hi
  · unfold dIntsC
    rw [List.length_map, List.length_range]
    exact Nat.le_refl _
  · obtain ⟨rfl, rfl⟩ := q
    unfold dIntsC at hi ⊢
    rw [List.length_map, List.length_range] at hi
    exact ⟨.int (lo + i * cc), by simp [hi], .inl ⟨rfl, .int _⟩⟩
theorem rng_read {f : List D → Option (List D)} (ha : SA X W es ms) {Q : It → Hp → Prop} (R : Rel X.K X.w c own F H σd σ T) (p : PstI X W c T σ F (iRng f ms σd) Q) {Q1 : List V → Hp → Prop}
    (k : ∀ ds is vs F' H', Ex F' H' → VwL X.K X.w F' H' ds vs → f ds = some is → (∀ J, DWalk X.K X.w F' J is → Q J H') → Q1 vs H') : weA X es σ H Q1 := by
  unfold iRng at p
  refine ha.thenI R p fun rs σ1 p1 vs own1 F1 H1 x1 R1 r1 => ?_
  cases hz : peekL rs σ1 with
  | stuck => rw [hz] at p1; exact p1.elim
  | exc x σ2 => exact absurd hz peekL_noexc
  | ok ds σ2 =>
    rw [hz, bind_ok] at p1
    obtain ⟨rfl, vw⟩ := peekL_ok R1 r1 hz
    cases hf : f ds with
    | none => rw [hf] at p1; exact p1.elim
    | some is =>
      rw [hf] at p1
      exact k ds is vs F1 H1 R1.fh vw hf fun J wk => p1 J own1 F1 H1 x1 R1.popL wk
theorem si_range1 {p' : Pos} (hg : Gl X "range") (hm : X.mg "range" = none) (ha : SA X W [a] ms) (hs : starEach [a] X.env = [(false, eval a X.env)] := by rfl) : SI X W tg (.Call (.Name "range" p') [a] [] pos) (iRng rng1 ms) := by
  intro c own F H σd σ T Q R p pins s I
  refine (pi_range1 (tg := tg) (p := p') (pos := pos) hg hm pa_we hs).run pins s σ H Q I ?_
  refine rng_read ha R p fun ds is vs F' H' e vw hf k => ?_
  unfold rng1 at hf
  split at hf
  · split at hf
    · rename_i n hn
      obtain ⟨v, rfl, h1⟩ := vw.one rfl
      cases h1.int
      cases hf
      have hn := of_decide_eq_true hn
      exact ⟨n, rfl, hn.1, hn.2, k _ walk_r⟩
    · cases hf
  · cases hf
theorem si_range2 {p' : Pos} (hg : Gl X "range") (hm : X.mg "range" = none) (ha : SA X W [a, b] ms) (hs : starEach [a, b] X.env = [(false, eval a X.env), (false, eval b X.env)] := by rfl) (hs2 : starEach [b] X.env = [(false, eval b X.env)] := by rfl) :
    SI X W tg (.Call (.Name "range" p') [a, b] [] pos) (iRng rng2 ms) := by
  intro c own F H σd σ T Q R p pins s I
  refine (pi_range2 (tg := tg) (p := p') (pos := pos) hg hm pa_we hs hs2).run pins s σ H Q I ?_
  refine rng_read ha R p fun ds is vs F' H' e vw hf k => ?_
  unfold rng2 at hf
  split at hf
  · split at hf
    · rename_i n m hn
      obtain ⟨v, v', rfl, h1, h2⟩ := vw.two rfl
      cases h1.int
      cases h2.int
      cases hf
      simp only [Bool.and_eq_true] at hn
      have hn1 := of_decide_eq_true hn.1
      have hn2 := of_decide_eq_true hn.2
      exact ⟨n, m, rfl, ⟨hn1.1, hn1.2, hn2.1, hn2.2⟩, k _ walk_r⟩
    · cases hf
  · cases hf
theorem VwL.three {K : Frag} {w : World} {F H : Hp} {ds : List D} {d d' d'' : D} {vs : List V} (h : VwL K w F H ds vs) (e : ds = [d, d', d'']) : ∃ v v' v'', vs = [v, v', v''] ∧ Vw K w F H d v ∧ Vw K w F H d' v' ∧ Vw K w F H d'' v'' := by
  subst e
  cases h with
  | cons h1 h2 =>
    obtain ⟨v', v'', rfl, h3, h4⟩ := h2.two rfl
    exact ⟨_, v', v'', rfl, h1, h3, h4⟩
theorem si_range3 {cc : Expr} {p' : Pos} (hg : Gl X "range") (hm : X.mg "range" = none) (ha : SA X W [a, b, cc] ms) (hs : starEach [a, b, cc] X.env = (false, eval a X.env) :: starEach [b, cc] X.env := by rfl) (hpl : (backTo pos (starEach [b, cc] X.env)).any (·.1) = false := by rfl) :
    SI X W tg (.Call (.Name "range" p') [a, b, cc] [] pos) (iRng rng3 ms) := by
  intro c own F H σd σ T Q R p pins s I
  refine (pi_range3 (tg := tg) (p := p') (pos := pos) hg hm pa_we hs hpl).run pins s σ H Q I ?_
  refine rng_read ha R p fun ds is vs F' H' e vw hf k => ?_
  unfold rng3 at hf
  split at hf
  · split at hf
    · rename_i n m hn
      obtain ⟨v, v', v'', rfl, h1, h2, h3⟩ := vw.three rfl
      cases h1.int
      cases h2.int
      cases h3.int
      cases hf
      simp only [Bool.and_eq_true] at hn
      have hn1 := of_decide_eq_true hn.1
      have hn2 := of_decide_eq_true hn.2
      exact ⟨n, m, -1, _, rfl, RgC.neg hn1.1 hn1.2 hn2.1 hn2.2, k _ walk_rC⟩
    · cases hf
  · cases hf
def zipD : List D → List D → List D
  | x :: xs, y :: ys => .tup [x, y] :: zipD xs ys
  | _, _ => []
def enumD : Nat → List D → List D
  | _, [] => []
  | k, x :: xs => .tup [.int (k : Int), x] :: enumD (k + 1) xs
theorem zipD_length : ∀ xs ys : List D, (zipD xs ys).length = min xs.length ys.length
  | [], _ => by simp [zipD]
  | _ :: _, [] => by simp [zipD]
  | x :: xs, y :: ys => by simp [zipD, zipD_length xs ys, Nat.succ_min_succ]
theorem zipD_get : ∀ {xs ys : List D} {i : Nat} {x y : D}, xs[i]? = some x → ys[i]? = some y → (zipD xs ys)[i]? = some (.tup [x, y])
  | [], _, _, _, _, h, _ => by simp at h
  | _ :: _, [], _, _, _, _, h => by simp at h
  | a :: xs, b :: ys, 0, x, y, h1, h2 => by
    simp at h1 h2
    subst h1 h2
    rfl
  | a :: xs, b :: ys, i + 1, x, y, h1, h2 => by
    simp only [List.getElem?_cons_succ] at h1 h2
    show (zipD xs ys)[i]? = _
    exact zipD_get h1 h2
theorem enumD_length : ∀ (k : Nat) (xs : List D), (enumD k xs).length = xs.length
  | _, [] => rfl
  | k, x :: xs => congrArg (· + 1) (enumD_length (k + 1) xs)
theorem enumD_get : ∀ {k : Nat} {xs : List D} {i : Nat} {x : D}, xs[i]? = some x → (enumD k xs)[i]? = some (.tup [.int ((k + i : Nat) : Int), x])
  | _, [], _, _, h => by simp at h
  | k, a :: xs, 0, x, h => by
    simp at h
    subst h
    rfl
  | k, a :: xs, i + 1, x, h => by
    simp only [List.getElem?_cons_succ] at h
    have := enumD_get (k := k + 1) h
    rw [show k + 1 + i = k + (i + 1) by omega] at this
    exact this
theorem offNe {N i j : Nat} (h : i ≠ j) : N + i ≠ N + j := fun z => h (Nat.add_left_cancel z)
theorem off0 {N i : Nat} (h : i ≠ 0) : N + i ≠ N := fun z => h (by omega)
theorem off0' {N i : Nat} (h : i ≠ 0) : N ≠ N + i := fun z => h (by omega)
theorem offLe {N i : Nat} : N ≤ N + i := Nat.le_add_right _ _
def iZip (ms : M (List Rs)) : M (List D) := fun σ => (ms σ).bind fun rs σ1 => (frzL rs σ1).bind fun ds σ2 => match ds with
  | [x, y] => (match itemsZ x, itemsZ y with
    | some xs, some ys => .ok (zipD xs ys) σ2
    | _, _ => .stuck)
  | _ => .stuck
def iEnum (ms : M (List Rs)) : M (List D) := fun σ => (ms σ).bind fun rs σ1 => (frzL rs σ1).bind fun ds σ2 => match ds with
  | [x] => (match itemsZ x with
    | some xs => .ok (enumD 0 xs) σ2
    | _ => .stuck)
  | _ => .stuck
theorem RpL.two {K : Frag} {w : World} {F : Hp} {d d' : D} {vs : List V} (h : RpL K w F [d, d'] vs) : ∃ v v', vs = [v, v'] ∧ Rp K w F d v ∧ Rp K w F d' v' := by
  cases h with
  | cons h1 h2 =>
    cases h2 with
    | cons h2 h3 => cases h3; exact ⟨_, _, rfl, h1, h2⟩
theorem RpL.one {K : Frag} {w : World} {F : Hp} {d : D} {vs : List V} (h : RpL K w F [d] vs) : ∃ v, vs = [v] ∧ Rp K w F d v := by
  cases h with
  | cons h1 h2 => cases h2; exact ⟨_, rfl, h1⟩
theorem Vals.two' {x y : V} {us : List Value} (r : Vals [x, y] us) : ∃ u1 u2, us = [u1, u2] ∧ RelV x u1 ∧ RelV y u2 := by
  cases r with
  | cons r1 r2 =>
    cases r2 with
    | cons r2 r3 => cases r3; exact ⟨_, _, rfl, r1, r2⟩
theorem Vals.one' {x : V} {us : List Value} (r : Vals [x] us) : ∃ u1, us = [u1] ∧ RelV x u1 := by
  cases r with
  | cons r1 r2 => cases r2; exact ⟨_, rfl, r1⟩
theorem si_zip {p' tpos : Pos} {elts : List Expr} {kk : Nat} (hg : Gl X "zip") (hm : X.mg "zip" = none) (ha : SA X W [a, b] ms)
    (hs : starEach [a, b] X.env = (false, eval a X.env) :: starEach [b] X.env := by rfl) (hpl : (backTo pos (starEach [b] X.env)).any (·.1) = false := by rfl) :
    SI X W (.Tuple elts kk tpos) (.Call (.Name "zip" p') [a, b] [] pos) (iZip ms) := by
  intro c own F H σd σ T Q R p pins s I
  have h1 : weA X [a, b] σ H fun vs H1 => ∃ x y xs ys own' F' σd', Ex F F' ∧ Rel X.K X.w c own' F' H1 σd' σ T ∧ RpL X.K X.w F' [x, y] vs ∧ itemsZ x = some xs ∧ itemsZ y = some ys ∧ PstI X W c T σ F (.ok (zipD xs ys) σd') Q := by
    unfold iZip at p
    refine ha.thenI R p fun rs σ1 p1 vs own1 F1 H1 x1 R1 r1 => ?_
    cases hz : frzL rs σ1 with
    | stuck => rw [hz] at p1; exact p1.elim
    | exc x σ2 => exact absurd hz frzL_noexc
    | ok ds σ2 =>
      rw [hz, bind_ok] at p1
      obtain ⟨own2, F2, x2, R2, rp⟩ := frzL_ok R1 r1 hz
      split at p1
      · rename_i x y
        split at p1
        · rename_i xs ys e1 e2
          exact ⟨x, y, xs, ys, own2, F2, σ2, x1.trans x2, R2, rp, e1, e2, p1⟩
        · exact p1.elim
      · exact p1.elim
  refine Call_ (ld_blt I hg hm PyProof.Rows.boot_zip (PyProof.Rows.callWith_type1 (thn (h1 pos pins s I) fun us s1 ⟨vs, H1, I1, rv, x, y, xs, ys, own2, F2, σ2, x2, R2, rp, ex, ey, p2⟩ => ?_) hs hpl))
  obtain ⟨v1, v2, rfl, rp1, rp2⟩ := rp.two
  obtain ⟨u1, u2, rfl, ru1, ru2⟩ := Vals.two' rv
  obtain ⟨f1, G1, o1, S1, A1, g1, r1⟩ := src_of (P := X.prog) rp1 ex ru1
  obtain ⟨f2, G2, o2, S2, A2, g2, r2⟩ := src_of (P := X.prog) rp2 ey ru2
  obtain ⟨Hb1, B1, b1⟩ := A1.begins X rfl rfl rfl pins σ H1 s1 I1 (g1 _ R2.fh)
  obtain ⟨Hb2, B2, b2⟩ := A2.begins X rfl rfl rfl pins σ H1 s1 I1 (g2 _ R2.fh)
  refine zip_begins2 B1 B2 b1 b2 fun h' hz hTI hTO h1 h2 hsz hk => wpAny_pyIter_zip hz ?_
  have I2 : Inv X pins σ H1 { s1 with heap := h' } := I1.kept (t' := s1.toks) hk
  generalize hN : s1.heap.objs.size = N at hz hTI hTO h1 h2 hsz ⊢
  refine ⟨N + 4, [N + 4, N + 2, N + 3, N, N + 1], _, _, H1, rfl, I2, turn_zipS A1 A2 (offNe (by decide)) (offNe (by decide)) (offNe (by decide)) (off0 (by decide)) (offNe (by decide)) (off0 (by decide)) (offNe (by decide)) (off0 (by decide)) (offNe (by decide)) (off0' (by decide)), ⟨hz, hTI, ⟨_, _, hTO⟩, A1.start _ _ h1, A2.start _ _ h2⟩, fun cc hcm => ?_, p2 _ own2 F2 H1 x2 R2 ?_⟩
  · have e' : cc = N + 4 ∨ cc = N + 2 ∨ cc = N + 3 ∨ cc = N ∨ cc = N + 1 := by simpa using hcm
    have hle : s1.heap.objs.size ≤ cc := by
      rw [hN]
      rcases e' with z | z | z | z | z <;> (rw [z]; first | exact offLe | exact Nat.le_refl _)
    exact I1.fpOk hle (I1.hok.fresh hle)
  · refine ⟨fun i H hi x => ⟨g1 H x, g2 H x, by rw [zipD_length] at hi; exact hi⟩, fun H x => ⟨g1 H x, g2 H x, zipD_length xs ys⟩, fun i H y' H' hi x q => ?_⟩
    obtain ⟨T', rfl, hT, rfl⟩ := q
    rw [zipD_length] at hi
    have h1 : xs[i]? = some (xs[i]'(by omega)) := by simp
    have h2 : ys[i]? = some (ys[i]'(by omega)) := by simp
    exact ⟨_, zipD_get h1 h2, .inr ⟨T', _, _, _, _, rfl, hT, rfl, rfl, r1 i _ h1, r2 i _ h2⟩⟩
set_option maxHeartbeats 1000000 in
theorem meets_enumerate_newB1 {v : Value} {o : Obj} {H : Heap → Prop} (B : Begins v o H) :
    Meets (Builtin.«enumerate.__new__» ⟨[.type "enumerate", v], []⟩) (fun _ R s => H s.heap ∧
      R (.ok (.ret (.ref (s.heap.push o).objs.size))) { s with heap := (s.heap.push o).push { cls := .type "enumerate", data := .fields #[.none, .bool false, .ref s.heap.objs.size, rawInt 0, .none, .none] } }) :=
  .of_wp fun prog w A R s h => by
    obtain ⟨hp, g, d, tk, os⟩ := s
    obtain ⟨h1, h⟩ := h
    have hsub := sub_enumerate
    have q1 : ∀ {A' : Around} {E : Value → Shared → Prop} {Q : Value → Shared → Prop}, Q (.ref hp.objs.size) ⟨hp.push o, g, d, tk, os⟩ → wpAny (model prog w) A' (pyIter v) Q E ⟨hp, g, d, tk, os⟩ :=
      fun q => B.iter prog w _ _ ⟨hp, g, d, tk, os⟩ _ h1 q
    wp_walk using q1
    refine wpAny_stack_any fun st => wpAny_pure ?_
    split
    · rename_i c _ _ _ _ _
      cases (c == Value.type "enumerate")
      · wp_walk using q1
        exact ⟨_, rfl, h⟩
      · wp_walk using q1
        exact ⟨_, rfl, h⟩
    · wp_walk using q1
      exact ⟨_, rfl, h⟩
theorem enum_begins1 {prog : Program} {w : World} {A : Around} {E : Value → Shared → Prop} {s : Shared} {v : Value} {o : Obj} {H : Heap → Prop} {Q : Value → Shared → Prop} (B : Begins v o H) (h1 : H s.heap)
    (h : ∀ h', IsEnum h' (s.heap.objs.size + 1) s.heap.objs.size 0 .none → h'.get? s.heap.objs.size = some o → h'.objs.size = s.heap.objs.size + 2 →
      (∀ b o, s.heap.get? b = some o → h'.get? b = some o) → Q (.ref (s.heap.objs.size + 1)) { s with heap := h' }) :
    wpAny (model prog w) A (call (.type "enumerate") [v]) Q E s := by
  refine callType_new F.called_enumerate (by decide) (F.typeCall_enumerate_1 _) (F.newCall_enumerate_1 _) (fun obj => F.args_object_init_2 obj _) F.entry_enumerate_new
    (meets_enumerate_newB1 B) ⟨h1, ?_⟩
  have hz : (s.heap.push o).objs.size = s.heap.objs.size + 1 := Heap.size_push ..
  show _ ∧ _
  rw [hz]
  have he : IsEnum ((s.heap.push o).push { cls := .type "enumerate", data := .fields #[.none, .bool false, .ref s.heap.objs.size, rawInt 0, .none, .none] }) (s.heap.objs.size + 1) s.heap.objs.size 0 .none := by
    have := Heap.get?_push_size (s.heap.push o) (o := { cls := .type "enumerate", data := .fields #[.none, .bool false, .ref s.heap.objs.size, rawInt 0, .none, .none] }) rfl
    rw [hz] at this; exact this
  refine ⟨⟨_, he, rfl⟩, h _ he (Heap.get?_push_of_some _ (Heap.get?_push_size _ B.free)) (by rw [Heap.size_push, hz]) fun b o x => Heap.get?_push_of_some _ (Heap.get?_push_of_some _ x)⟩
theorem si_enum {p' tpos : Pos} {elts : List Expr} {kk : Nat} (hg : Gl X "enumerate") (hm : X.mg "enumerate" = none) (ha : SA X W [a] ms) (hs : starEach [a] X.env = [(false, eval a X.env)] := by rfl) :
    SI X W (.Tuple elts kk tpos) (.Call (.Name "enumerate" p') [a] [] pos) (iEnum ms) := by
  intro c own F H σd σ T Q R p pins s I
  have h1 : weA X [a] σ H fun vs H1 => ∃ x xs own' F' σd', Ex F F' ∧ Rel X.K X.w c own' F' H1 σd' σ T ∧ RpL X.K X.w F' [x] vs ∧ itemsZ x = some xs ∧ PstI X W c T σ F (.ok (enumD 0 xs) σd') Q := by
    unfold iEnum at p
    refine ha.thenI R p fun rs σ1 p1 vs own1 F1 H1 x1 R1 r1 => ?_
    cases hz : frzL rs σ1 with
    | stuck => rw [hz] at p1; exact p1.elim
    | exc x σ2 => exact absurd hz frzL_noexc
    | ok ds σ2 =>
      rw [hz, bind_ok] at p1
      obtain ⟨own2, F2, x2, R2, rp⟩ := frzL_ok R1 r1 hz
      split at p1
      · rename_i x
        split at p1
        · rename_i xs e1
          exact ⟨x, xs, own2, F2, σ2, x1.trans x2, R2, rp, e1, p1⟩
        · exact p1.elim
      · exact p1.elim
  refine Call_ (ld_blt I hg hm PyProof.Rows.boot_enumerate (PyProof.Rows.callWith_type1 (thn (h1 pos pins s I) fun us s1 ⟨vs, H1, I1, rv, x, xs, own2, F2, σ2, x2, R2, rp, ex, p2⟩ => ?_) hs rfl))
  obtain ⟨v1, rfl, rp1⟩ := rp.one
  obtain ⟨u1, rfl, ru1⟩ := Vals.one' rv
  obtain ⟨f1, G1, o1, S1, A1, g1, r1⟩ := src_of (P := X.prog) rp1 ex ru1
  obtain ⟨Hb1, B1, b1⟩ := A1.begins X rfl rfl rfl pins σ H1 s1 I1 (g1 _ R2.fh)
  refine enum_begins1 B1 b1 fun h' he h1 hsz hk => wpAny_pyIter_enum he ?_
  have I2 : Inv X pins σ H1 { s1 with heap := h' } := I1.kept (t' := s1.toks) hk
  generalize hN : s1.heap.objs.size = N at he h1 hsz ⊢
  refine ⟨N + 1, [N + 1, N], _, _, H1, rfl, I2, turn_enumS A1 (off0 (by decide)), ⟨⟨_, he⟩, A1.start _ _ h1⟩, fun cc hcm => ?_, p2 _ own2 F2 H1 x2 R2 ?_⟩
  · have e' : cc = N + 1 ∨ cc = N := by simpa using hcm
    have hle : s1.heap.objs.size ≤ cc := by
      rw [hN]
      rcases e' with z | z <;> (rw [z]; first | exact offLe | exact Nat.le_refl _)
    exact I1.fpOk hle (I1.hok.fresh hle)
  · refine ⟨fun i H hi x => ⟨g1 H x, by rw [enumD_length] at hi; exact hi⟩, fun H x => ⟨g1 H x, enumD_length 0 xs⟩, fun i H y' H' hi x q => ?_⟩
    obtain ⟨T', rfl, hT, rfl⟩ := q
    rw [enumD_length] at hi
    have h1 : xs[i]? = some (xs[i]'(by omega)) := by simp
    have h2 := enumD_get (k := 0) h1
    rw [Nat.zero_add] at h2
    exact ⟨_, h2, .inr ⟨T', _, _, _, _, rfl, hT, rfl, rfl, .int _, r1 i _ h1⟩⟩
end
end DL

namespace DL
open PySem PySem.Spec PyProof.Rows L2
/-- the turns of a for -/
def forL (g : D → SD → Out Unit) (body : M Fl) : List D → SD → Out Fl
  | [], σ => .ok .nx σ
  | d :: ds, σ => (g d σ).bind fun _ σ1 => (body σ1).bind fun f σ2 => match f with
    | .nx => forL g body ds σ2
    | .ct => forL g body ds σ2
    | .bk => .ok .nx σ2
    | .rt r => .ok (.rt r) σ2
def sFor (it : M (List D)) (g : D → SD → Out Unit) (body : M Fl) : M Fl := fun σ => (it σ).bind fun ds σ1 => forL g body ds σ1
def whileL (t : M Bool) (body : M Fl) : Nat → SD → Out Fl
  | 0, _ => .stuck
  | n + 1, σ => (t σ).bind fun b σ1 => if b then (body σ1).bind fun f σ2 => (match f with
    | .nx => whileL t body n σ2
    | .ct => whileL t body n σ2
    | .bk => .ok .nx σ2
    | .rt r => .ok (.rt r) σ2) else .ok .nx σ1
def sWhile (n : Nat) (t : M Bool) (body : M Fl) : M Fl := fun σ => whileL t body n σ
section
variable {X : Cx} {W : WX} {np : Nat} {c : Ctx} {T : Tms} {σ : L2.St} {F F' H : Hp} {own : Own} {σd : SD} {a b e iter tg : Expr} {body : List Stmt} {mi : M (List D)} {g : D → SD → Out Unit} {tt : TG} {is : List Nat} {mb : M Fl} {pos : Pos}
theorem ss_for (hp : PassesOwn (model X.prog X.w) X.A X.env X.xe) (hc : X.calm = true) (hi : SI X W tg iter mi) (hg : PGn X np tg tt is g) (hb : SB X W np body mb)
    (hs : ∀ x, foldedSetIterable iter X.env x = pure x := by intro _; rfl) : SS X W np (.For tg iter body [] pos) (sFor mi g mb) := by
  intro c own F H σd σ T D fr R p
  refine (ps_for hp hc pi_we hg.pg pss_we hs).we ?_
  show weI X tg iter σ H _
  refine hi c own F H σd σ T _ R ?_
  unfold sFor at p
  cases hm : mi σd with
  | stuck => rw [hm] at p; exact p
  | exc x σ1 => rw [hm] at p; exact fun own' F' H' cls d e R x => p σ own' F' H' cls d e R x
  | ok ds σ1 =>
    rw [hm, bind_ok] at p
    intro J own1 F1 H1 x1 R1 wk
    refine ⟨fun i m σ' H' => m = ds.length - i ∧ i ≤ ds.length ∧ ∃ own' F' σd', Ex F1 F' ∧ Rel X.K X.w c own' F' H' σd' σ' T ∧ PstS X W c T F' (forL g mb (ds.drop i) σd') D, ⟨_, rfl, Nat.zero_le _, own1, F1, σ1, Evl.Ex.refl F1, R1, p.ex x1⟩, ?_⟩
    rintro i m σ' H' ⟨rfl, hle, own', F', σd', x', R', p'⟩
    by_cases hlt : i < ds.length
    · refine .inr ⟨wk.go i H' hlt (x'.trans R'.fh), fun σ2 H2 => ∃ own2 F2 σd2, Ex F1 F2 ∧ Rel X.K X.w c own2 F2 H2 σd2 σ2 T ∧ PstS X W c T F2 (forL g mb (ds.drop (i + 1)) σd2) D,
        fun σ2 H2 ⟨own2, F2, σd2, x2, R2, p2⟩ => ⟨ds.length - (i + 1), by omega, rfl, hlt, own2, F2, σd2, x2, R2, p2⟩, fun x H2 y => ?_⟩
      obtain ⟨d, F2, hd, x2, R2, rp⟩ := R'.yielded wk x' hlt y
      have hdr : ds.drop i = d :: ds.drop (i + 1) := by
        rw [List.drop_eq_getElem_cons hlt]
        have : ds[i] = d := by
          rw [List.getElem?_eq_getElem hlt] at hd
          exact Option.some.inj hd
        rw [this]
      rw [hdr] at p'
      unfold forL at p'
      cases hgd : g d σd' with
      | stuck => rw [hgd] at p'; exact p'.elim
      | exc x σ3 => exact absurd hgd (hg.nx _ _ _ _)
      | ok u σ3 =>
        rw [hgd, bind_ok] at p'
        refine hg.ok c own' F2 H2 σd' σ3 σ' T d x _ fr R2 rp hgd fun σ4 R4 _ => ?_
        refine hb c own' F2 H2 σ3 σ4 T _ fr R4 ?_
        cases hbd : mb σ3 with
        | stuck => rw [hbd] at p'; exact p'
        | exc x σ5 => rw [hbd] at p'; exact p'.ex x2
        | ok f σ5 =>
          rw [hbd, bind_ok] at p'
          cases f with
          | nx => exact fun σ6 own6 F6 H6 e6 R6 => ⟨own6, F6, σ5, (x'.trans x2).trans e6, R6, p'.ex (x2.trans e6)⟩
          | ct => exact fun σ6 own6 F6 H6 e6 R6 => ⟨own6, F6, σ5, (x'.trans x2).trans e6, R6, p'.ex (x2.trans e6)⟩
          | bk => exact fun σ6 own6 F6 H6 e6 R6 => p' σ6 own6 F6 H6 (x2.trans e6) R6
          | rt r => exact fun v σ6 own6 F6 H6 e6 R6 r6 => p' v σ6 own6 F6 H6 (x2.trans e6) R6 r6
    · have e : i = ds.length := by omega
      subst e
      refine .inl ⟨wk.stop H' (x'.trans R'.fh), ?_⟩
      rw [List.drop_length] at p'
      exact p' σ' own' F' H' (Evl.Ex.refl F') R'
theorem ss_while {n : Nat} {t : M Bool} (hp : PassesOwn (model X.prog X.w) X.A X.env X.xe) (ht : ST X W e t) (hb : SB X W np body mb) : SS X W np (.While e body [] pos) (sWhile n t mb) := by
  intro c own F H σd σ T D fr R p
  refine (ps_while hp pt_we pss_we).we ?_
  refine ⟨fun m σ' H' => ∃ own' F' σd', Ex F F' ∧ Rel X.K X.w c own' F' H' σd' σ' T ∧ PstS X W c T F' (whileL t mb m σd') D, ⟨n, own, F, σd, Evl.Ex.refl F, R, p⟩, ?_⟩
  rintro m σ' H' ⟨own', F', σd', x', R', p'⟩
  cases m with
  | zero => exact p'.elim
  | succ m =>
    unfold whileL at p'
    refine ht.thenS R' p' fun k σ1 p1 own1 F1 H1 x1 R1 => ?_
    cases k with
    | false =>
      rw [if_neg Bool.false_ne_true] at p1 ⊢
      exact p1 σ' own1 F1 H1 x1 R1
    | true =>
      rw [if_pos rfl] at p1 ⊢
      refine ⟨fun σ2 H2 => ∃ own2 F2 σd2, Ex F F2 ∧ Rel X.K X.w c own2 F2 H2 σd2 σ2 T ∧ PstS X W c T F2 (whileL t mb m σd2) D, fun σ2 H2 ⟨own2, F2, σd2, x2, R2, p2⟩ => ⟨m, Nat.lt_succ_self m, own2, F2, σd2, x2, R2, p2⟩, ?_⟩
      refine hb c own1 F1 H1 σ1 σ' T _ fr R1 ?_
      cases hbd : mb σ1 with
      | stuck => rw [hbd] at p1; exact p1
      | exc x σ5 => rw [hbd] at p1; exact p1.ex x1
      | ok f σ5 =>
        rw [hbd, bind_ok] at p1
        cases f with
        | nx => exact fun σ6 own6 F6 H6 e6 R6 => ⟨own6, F6, σ5, (x'.trans x1).trans e6, R6, p1.ex (x1.trans e6)⟩
        | ct => exact fun σ6 own6 F6 H6 e6 R6 => ⟨own6, F6, σ5, (x'.trans x1).trans e6, R6, p1.ex (x1.trans e6)⟩
        | bk => exact fun σ6 own6 F6 H6 e6 R6 => p1 σ6 own6 F6 H6 (x1.trans e6) R6
        | rt r => exact fun v σ6 own6 F6 H6 e6 R6 r6 => p1 v σ6 own6 F6 H6 (x1.trans e6) R6 r6
end
/-- the block's own slots forgotten -/
def wipeD (σ : SD) : List Nat → SD
  | [] => σ
  | v :: vs => (wipeD σ vs).set v none
/-- none of them is owned -/
def plainAt (σ : SD) (vs : List Nat) : Bool := vs.all fun v => match σ[v]? with
  | some (some (.ow _)) => false
  | _ => true
/-- the slots as they were -/
def backD (σ0 σ : SD) : List Nat → SD
  | [] => σ
  | v :: vs => (backD σ0 σ vs).set v (σ0.getD v none)
def lcL (g : D → SD → Out Unit) (t : M Bool) (elt : M Rs) (vs : List Nat) : List D → List D → SD → Out (List D)
  | [], acc, σ => .ok acc σ
  | d :: ds, acc, σ => (g d (wipeD σ vs)).bind fun _ σ1 => (t σ1).bind fun b σ2 => if b then
      (elt σ2).bind fun r σ3 => (frz r σ3).bind fun x σ4 => if acc.length < 16777216 then lcL g t elt vs ds (acc ++ [x]) σ4 else .stuck
    else lcL g t elt vs ds acc σ2
def noExc {α : Type} (o : Out α) : Out α := match o with
  | .ok a σ => .ok a σ
  | .exc _ _ => .stuck
  | .stuck => .stuck
def eLc (it : M (List D)) (g : D → SD → Out Unit) (t : M Bool) (elt : M Rs) (vs : List Nat) : M Rs := fun σ => (it σ).bind fun ds σ1 =>
  if plainAt σ1 vs then (noExc (lcL g t elt vs ds [] σ1)).bind fun acc σ2 => .ok (.ow (.lst acc)) (backD σ1 σ2 vs) else .stuck
def tTrue : M Bool := fun σ => .ok true σ
section
variable {K : Frag} {w : World} {c : Ctx} {own : Own} {F F' H : Hp} {σd σd' : SD} {σ σ' : L2.St} {T : Tms}
theorem wipeD_length (σ : SD) : ∀ vs, (wipeD σ vs).length = σ.length
  | [] => rfl
  | v :: vs => by unfold wipeD; rw [List.length_set, wipeD_length σ vs]
theorem wipeD_get {σ : SD} : ∀ {vs : List Nat} {j : Nat}, (wipeD σ vs)[j]? = if j ∈ vs ∧ j < σ.length then some none else σ[j]?
  | [], j => by
    unfold wipeD
    simp
  | v :: vs, j => by
    unfold wipeD
    by_cases h : v = j
    · subst h
      by_cases hl : v < σ.length
      · rw [List.getElem?_set_self (by rw [wipeD_length]; exact hl), if_pos ⟨List.mem_cons_self, hl⟩]
      · rw [List.getElem?_eq_none (by rw [List.length_set, wipeD_length]; omega), if_neg (fun z => hl z.2), List.getElem?_eq_none (by omega)]
    · rw [List.getElem?_set_ne h, wipeD_get]
      have e : (j ∈ v :: vs) ↔ j ∈ vs := by simp [Ne.symm h]
      simp only [e]
theorem backD_length (σ0 σ : SD) : ∀ vs, (backD σ0 σ vs).length = σ.length
  | [] => rfl
  | v :: vs => by unfold backD; rw [List.length_set, backD_length σ0 σ vs]
theorem backD_get {σ0 σ : SD} (hl : σ0.length = σ.length) : ∀ {vs : List Nat} {j : Nat}, (backD σ0 σ vs)[j]? = if j ∈ vs ∧ j < σ.length then σ0[j]? else σ[j]?
  | [], j => by
    unfold backD
    simp
  | v :: vs, j => by
    unfold backD
    by_cases h : v = j
    · subst h
      by_cases hv : v < σ.length
      · rw [List.getElem?_set_self (by rw [backD_length]; exact hv), if_pos ⟨List.mem_cons_self, hv⟩, List.getD_eq_getElem?_getD, List.getElem?_eq_getElem (by omega)]
        rfl
      · rw [List.getElem?_eq_none (by rw [List.length_set, backD_length]; omega), if_neg (fun z => hv z.2), List.getElem?_eq_none (by omega)]
    · rw [List.getElem?_set_ne h, backD_get hl]
      have e : (j ∈ v :: vs) ↔ j ∈ vs := by simp [Ne.symm h]
      simp only [e]
/-- the context without pins -/
def Ctx.unpin (c : Ctx) : Ctx := { c with pin := fun _ => none }
theorem free0 {np : Nat} : Free np c.unpin := fun _ _ => rfl
/-- into the block -/
theorem Rel.wiped (R : Rel K w c own F H σd σ T) (vs : List Nat) : Rel K w c.unpin own F H (wipeD σd vs) (wipe σ vs) T := by
  refine ⟨R.fh, R.f0, fun i s q => ?_, R.tmp, R.owns, R.keep, R.mono, by rw [wipeD_length, wipe_length]; exact R.len, fun i a q => by cases q⟩
  rw [wipeD_get] at q
  by_cases h : i ∈ vs ∧ i < σd.length
  · rw [if_pos h] at q
    cases q
  · rw [if_neg h] at q
    obtain ⟨v, h1, h2⟩ := R.slot i s q
    refine ⟨v, ?_, h2⟩
    rw [wipe_get, if_neg (fun z => h ⟨z.1, by rw [R.len]; exact z.2⟩)]
    exact h1
/-- a block's state on other slots: another σ that agrees behind the wipe -/
theorem Rel.rewipe {c' : Ctx} (R : Rel K w c' own F H σd σ' T) (vs : List Nat) (hw : wipe σ' vs = wipe σ vs) (hc : c' = c.unpin) : Rel K w c.unpin own F H (wipeD σd vs) (wipe σ vs) T := by
  subst hc
  have := R.wiped vs
  rw [hw] at this
  exact this
/-- out of the block -/
theorem Rel.back {own0 : Own} {F0 H0 : Hp} {σ0 : SD} {T0 : Tms} (R0 : Rel K w c own0 F0 H0 σ0 σ T0) (vs : List Nat) (hp : plainAt σ0 vs = true) (e : Ex F0 F) (R : Rel K w c.unpin own F H (wipeD σd vs) (wipe σ vs) T) :
    Rel K w c own F H (backD σ0 σd vs) σ T := by
  have hl : σd.length = σ.length := by
    have := R.len
    rw [wipeD_length, wipe_length] at this
    exact this
  have hl0 : σ0.length = σd.length := by rw [R0.len, hl]
  have plain : ∀ j ∈ vs, ∀ d, σ0[j]? ≠ some (some (.ow d)) := fun j hj d q => by
    have z := List.all_eq_true.mp hp j hj
    rw [q] at z
    cases z
  refine ⟨R.fh, R.f0, fun i s q => ?_, R.tmp, R.owns, R.keep, R.mono, by rw [backD_length]; exact hl, fun i a q => ?_⟩
  · rw [backD_get hl0] at q
    by_cases h : i ∈ vs ∧ i < σd.length
    · rw [if_pos h] at q
      obtain ⟨v, h1, h2⟩ := R0.slot i s q
      refine ⟨v, h1, ?_⟩
      cases s with
      | fz d => exact Rp.mono e h2
      | ow d => exact absurd q (plain i h.1 d)
    · rw [if_neg h] at q
      obtain ⟨v, h1, h2⟩ := R.slot i s (by rw [wipeD_get, if_neg h]; exact q)
      refine ⟨v, ?_, h2⟩
      rw [wipe_get, if_neg (fun z => h ⟨z.1, by rw [hl]; exact z.2⟩)] at h1
      exact h1
  · exact R0.pins i a q
/-- the last temporary's list grows -/
theorem Rel.mutT {a : Addr} {o : HO} {d d' : D} (R : Rel K w c own F H σd σ (T ++ [(d, .ref a)])) (ha : own a = some (.inr T.length))
    (ho : OwnAt K w F (upd H a o) (fun b => b = a) d' (.ref a)) : Rel K w c own F (upd H a o) σd σ (T ++ [(d', .ref a)]) := by
  obtain ⟨hF, hN, hB⟩ := R.owns a _ ha
  have k : ∀ (x : Sum Nat Nat), x ≠ .inr T.length → ∀ b u, own b = some x → H b = some u → own b = some x ∧ upd H a o b = some u := fun x hx b u qb hb => ⟨qb, by
    rw [upd_ne fun z => hx ?_]
    · exact hb
    · rw [z, ha] at qb
      exact (Option.some.inj qb).symm⟩
  refine ⟨ex_lift R.fh hF, R.f0, fun j s q => ?_, fun j d'' v' q => ?_, fun b j q => ?_, fun b u q nb => ?_, fun b q => ?_, R.len, R.pins⟩
  · obtain ⟨v', h1, h2⟩ := R.slot j s q
    refine ⟨v', h1, ?_⟩
    cases s with
    | fz d => exact h2
    | ow d => exact OwnAt.mono h2 (Evl.Ex.refl F) (k _ fun z => by cases z)
  · by_cases hj : j < T.length
    · rw [List.getElem?_append_left hj] at q
      exact (R.tmp j d'' v' (by rw [List.getElem?_append_left hj]; exact q)).mono (Evl.Ex.refl F) (k _ fun z => by
        injection z with z
        omega)
    · rw [List.getElem?_append_right (by omega)] at q
      have e0 : j - T.length = 0 := by
        cases z : j - T.length with
        | zero => rfl
        | succ m => rw [z] at q; simp at q
      rw [e0] at q
      simp at q
      obtain ⟨rfl, rfl⟩ := q
      have ej : j = T.length := by omega
      subst ej
      exact ho.mono (Evl.Ex.refl F) fun b u pb hb => ⟨by rw [pb]; exact ha, hb⟩
  · obtain ⟨h1, h2, h3⟩ := R.owns b j q
    refine ⟨h1, ?_, h3⟩
    by_cases z : b = a
    · subst z
      rw [upd_same]
      exact fun z => nomatch z
    · rw [upd_ne z]
      exact h2
  · obtain ⟨h1, h2⟩ := R.keep b u q nb
    refine ⟨?_, h2⟩
    rw [upd_ne fun z => ?_]
    · exact h1
    · subst z
      rcases hB with z | z
      · rw [z] at q
        cases q
      · exact nb z
  · by_cases z : b = a
    · subst z
      rw [upd_same] at q
      cases q
    · rw [upd_ne z] at q
      exact R.mono b q
end
section
variable {X : Cx} {W : WX} {c : Ctx} {T : Tms} {σ : L2.St} {F F' H : Hp} {own : Own} {σd : SD} {elt iter tg : Expr} {ifs : List Expr} {mi : M (List D)} {g : D → SD → Out Unit} {gt : TG} {is : List Nat} {me : M Rs} {mt : M Bool} {pos : Pos}
def weTs (X : Cx) (ifs : List Expr) : TT := fun σ H Q => ∀ (pins : List (Addr × Obj)) (s : Shared), Inv X pins σ H s →
    wpAny (model X.prog X.w) X.A (forIn ifs true fun c r => if r = true then do let ok ← isTrue c X.env (eval c X.env); pure (ForInStep.yield ok) else pure (ForInStep.yield r)) (TP X pins σ Q) X.xe s
theorem pts_we {X : Cx} : PTs X ifs (weTs X ifs) := ⟨fun pins s σ H Q I h => h pins s I⟩
theorem _root_.L2.PTs.we {X : Cx} {t : TT} (h : PTs X ifs t) {σ : L2.St} {H : Hp} {Q : Bool → Hp → Prop} (q : t σ H Q) : weTs X ifs σ H Q := fun pins s I => h.run pins s σ H Q I q
def STs (X : Cx) (W : WX) (ifs : List Expr) (m : M Bool) : Prop :=
  ∀ (c : Ctx) (own : Own) (F H : Hp) (σd : SD) (σ : L2.St) (T : Tms) (Q : Bool → Hp → Prop), Rel X.K X.w c own F H σd σ T → PstP X W c T σ F (m σd) (fun b _ _ _ H' => Q b H') → weTs X ifs σ H Q
theorem sts_nil : STs X W [] tTrue := fun c own F H σd σ T Q R p => pts_nil.we (p own F H (Evl.Ex.refl F) R)
theorem sts_one {t : Expr} (h : ST X W t mt) : STs X W [t] mt := fun c own F H σd σ T Q R p => (pts_one pt_we).we (h c own F H σd σ T Q R p)
/-- nothing is raised -/
abbrev WF : WX := fun _ _ _ _ => False
/-- a block's parts, whatever its context -/
structure LcOk (X : Cx) (tg elt : Expr) (ifs : List Expr) (scope : Scope) (gt : TG) (is : List Nat) (g : D → SD → Out Unit) (mt : M Bool) (me : M Rs) : Prop where
  tg : ∀ (s : Shared) (H : Hp) (C : Addr) (cl : List (Str × Addr)) (fp : List Addr), PGn (X.blk s H scope (compEnvC scope cl C X.env) fp) 0 tg gt is g
  ts : ∀ (s : Shared) (H : Hp) (C : Addr) (cl : List (Str × Addr)) (fp : List Addr), STs (X.blk s H scope (compEnvC scope cl C X.env) fp) WF ifs mt
  el : ∀ (s : Shared) (H : Hp) (C : Addr) (cl : List (Str × Addr)) (fp : List Addr), SE (X.blk s H scope (compEnvC scope cl C X.env) fp) WF elt me
/-- the block's reading of tests, of the element: what a mirror asks, in any block -/
def blT (X : Cx) (mt : M Bool) : TT := fun σ H Q => ∃ (c : Ctx) (own : Own) (F : Hp) (σd : SD) (T : Tms), Rel X.K X.w c own F H σd σ T ∧ PstP X WF c T σ F (mt σd) (fun b _ _ _ H' => Q b H')
def blE (X : Cx) (me : M Rs) : TE := fun σ H Q => ∃ (c : Ctx) (own : Own) (F : Hp) (σd : SD) (T : Tms), Rel X.K X.w c own F H σd σ T ∧ Pst X WF c T σ F (me σd) Q
theorem noExc_ok {α : Type} {o : Out α} {a : α} {σ : SD} (h : noExc o = .ok a σ) : o = .ok a σ := by
  cases o with
  | ok b σ' => exact h
  | exc x σ' => cases h
  | stuck => cases h
theorem wipe_wipe {σ : L2.St} {vs : List Nat} : wipe (wipe σ vs) vs = wipe σ vs := by
  apply List.ext_getElem?
  intro j
  rw [wipe_get, wipe_get, wipe_length]
  split <;> rfl
/-- the last temporary, a list -/
theorem Rel.topList {K : Frag} {w : World} {ds : List D} {v : V} (R : Rel K w c own F H σd σ (T ++ [(.lst ds, v)])) : ∃ a vs, v = .ref a ∧ own a = some (.inr T.length) ∧ H a = some (.lst vs) ∧ RpL K w F ds vs := by
  have h := R.tmp T.length (.lst ds) v (by simp)
  cases h with
  | lst h1 h2 h3 => exact ⟨_, _, rfl, h1, h2, h3⟩
/-- the comprehension's reading -/
theorem lc_read (s0 : Shared) (hi : SI X W tg iter mi) {scope : Scope} {vs : List Nat} (L : LcOk X tg elt ifs scope gt is g mt me) (hvs : ∀ i ∈ is, i ∈ vs) {Q : VK} (R : Rel X.K X.w c own F H σd σ T) (p : Pst X W c T σ F (eLc mi g mt me vs σd) Q) :
    tLc (weI X tg iter) gt (blT X mt) (blE X me) vs σ H Q := by
  refine hi c own F H σd σ T _ R ?_
  unfold eLc at p
  cases hm : mi σd with
  | stuck => rw [hm] at p; exact p
  | exc x σ1 => rw [hm] at p; exact p
  | ok ds σ1 =>
    rw [hm, bind_ok] at p
    intro J own1 F1 H1 x1 R1 wk Dl hD
    split at p
    · rename_i hpl
      cases hrun : noExc (lcL g mt me vs ds [] σ1) with
      | stuck => rw [hrun] at p; exact p.elim
      | exc x σ2 =>
        exfalso
        revert hrun
        cases lcL g mt me vs ds [] σ1 <;> exact fun z => nomatch z
      | ok accE σE =>
        rw [hrun, bind_ok] at p
        replace hrun := noExc_ok hrun
        have hN := R1.newT (p := Dl) (o := .lst []) (d := .lst []) hD (.lst rfl upd_same .nil)
        refine ⟨fun i m H' => m = ds.length - i ∧ i ≤ ds.length ∧ ∃ own' F' σd' acc, Ex F1 F' ∧ Rel X.K X.w c.unpin own' F' H' (wipeD σd' vs) (wipe σ vs) (T ++ [(.lst acc, .ref Dl)]) ∧
          lcL g mt me vs (ds.drop i) acc σd' = .ok accE σE, ⟨_, rfl, Nat.zero_le _, _, F1, σ1, [], Evl.Ex.refl F1, hN.wiped vs, hrun⟩, ?_⟩
        rintro i m H' ⟨rfl, hle, own', F', σd', acc, x', R', hr'⟩
        by_cases hlt : i < ds.length
        · refine .inr ⟨wk.go i H' hlt (x'.trans R'.fh), fun H2 => ∃ own2 F2 σd2 acc2, Ex F1 F2 ∧ Rel X.K X.w c.unpin own2 F2 H2 (wipeD σd2 vs) (wipe σ vs) (T ++ [(.lst acc2, .ref Dl)]) ∧
            lcL g mt me vs (ds.drop (i + 1)) acc2 σd2 = .ok accE σE, fun H2 ⟨own2, F2, σd2, acc2, x2, R2, hr2⟩ => ⟨ds.length - (i + 1), by omega, rfl, hlt, own2, F2, σd2, acc2, x2, R2, hr2⟩, fun x H2 y => ?_⟩
          obtain ⟨d, F2, hd, x2, R2, rp⟩ := R'.yielded wk x' hlt y
          have hdr : ds.drop i = d :: ds.drop (i + 1) := by
            rw [List.drop_eq_getElem_cons hlt]
            have : ds[i] = d := by
              rw [List.getElem?_eq_getElem hlt] at hd
              exact Option.some.inj hd
            rw [this]
          rw [hdr] at hr'
          unfold lcL at hr'
          cases hgd : g d (wipeD σd' vs) with
          | stuck => rw [hgd] at hr'; cases hr'
          | exc x σ3 => rw [hgd] at hr'; cases hr'
          | ok u σ3 =>
            rw [hgd, bind_ok] at hr'
            refine (L.tg s0 H 0 [] []).ok c.unpin own' F2 H2 _ σ3 _ _ d x _ free0 R2 rp hgd fun σ4 R4 hw4 => ?_
            have hw : wipe σ4 vs = wipe σ vs := (hw4 vs hvs).trans wipe_wipe
            refine ⟨hw, c.unpin, own', F2, σ3, _, R4, ?_⟩
            cases hmt : mt σ3 with
            | stuck => rw [hmt] at hr'; cases hr'
            | exc x σ5 => rw [hmt] at hr'; cases hr'
            | ok b σ5 =>
              rw [hmt, bind_ok] at hr'
              intro own5 F5 H5 x5 R5
              cases b with
              | false =>
                rw [if_neg Bool.false_ne_true] at hr' ⊢
                exact ⟨own5, F5, σ5, acc, (x'.trans x2).trans x5, R5.rewipe vs hw rfl, hr'⟩
              | true =>
                rw [if_pos rfl] at hr' ⊢
                refine ⟨c.unpin, own5, F5, σ5, _, R5, ?_⟩
                cases hme : me σ5 with
                | stuck => rw [hme] at hr'; cases hr'
                | exc x σ6 => rw [hme] at hr'; cases hr'
                | ok r σ6 =>
                  rw [hme, bind_ok] at hr'
                  intro v own6 F6 H6 x6 R6 r6
                  cases hfz : frz r σ6 with
                  | stuck => rw [hfz] at hr'; cases hr'
                  | exc x σ7 => exact absurd hfz frz_noexc
                  | ok xd σ7 =>
                    rw [hfz, bind_ok] at hr'
                    obtain ⟨own7, F7, x7, R7, rp7⟩ := frz_ok R6 r6 hfz
                    obtain ⟨a0, us, ea, h1, h2, h3⟩ := R7.topList
                    cases ea
                    split at hr'
                    · rename_i hlen
                      refine ⟨us, h2, by rw [← h3.length, sizeLine_eq]; exact hlen, own7, F7, σ7, acc ++ [xd], (((x'.trans x2).trans x5).trans x6).trans x7, ?_, hr'⟩
                      have R8 := R7.mutT (o := .lst (us ++ [v])) (d' := .lst (acc ++ [xd])) h1 (.lst rfl upd_same (h3.append (.cons rp7 .nil)))
                      exact R8.rewipe vs hw rfl
                    · cases hr'
        · have e : i = ds.length := by omega
          subst e
          refine .inl ⟨wk.stop H' (x'.trans R'.fh), ?_⟩
          rw [List.drop_length] at hr'
          cases hr'
          exact p _ own' F' H' (x1.trans x') (Rel.back (R1.newT (p := Dl) (o := .lst []) (d := .lst []) hD (.lst rfl upd_same .nil)) vs hpl x' R') trivial
    · exact p.elim
theorem se_lc {scope : Scope} {own : List (Str × Nat)} (hc : X.calm = true) (hN : X.N.Nodup) (hi : SI X W tg iter mi) (ok : BlkOk X.N X.env.scope scope own) (L : LcOk X tg elt ifs scope gt is g mt me) (hvs : ∀ i ∈ is, i ∈ own.map (·.2))
    (hs : ∀ x, foldedSetIterable iter X.env x = pure x := by intro _; rfl) : SE X W (.ListComp elt [⟨tg, iter, ifs, 0⟩] scope pos) (eLc mi g mt me (own.map (·.2))) := by
  intro c own' F H σd σ T Q R p pins s I
  refine (pe_lc (te := blE X me) (tt := blT X mt) hc hN pi_we ok (fun s H C cl fp => (L.tg s H C cl fp).pg) (fun s H C cl fp => ⟨fun pins s' σ' H' Q' I' h => ?_⟩) (fun s H C cl fp => ⟨fun pins s' σ' H' Q' I' h => ?_⟩) hs).run pins s σ H Q I (lc_read s hi L hvs R p)
  · obtain ⟨c1, own1, F1, σ1, T1, R1, p1⟩ := h
    exact L.ts s H C cl fp c1 own1 F1 H' σ1 σ' T1 Q' R1 p1 pins s' I'
  · obtain ⟨c1, own1, F1, σ1, T1, R1, p1⟩ := h
    exact L.el s H C cl fp c1 own1 F1 H' σ1 σ' T1 Q' R1 p1 pins s' I'
/-- name = [..] on one line -/
theorem ss_setLc {np i : Nat} {y : Str} {py : Pos} {spos : Pos} {scope : Scope} {own : List (Str × Nat)} (hnp : np ≤ i) (hc : X.calm = true) (hN : X.N.Nodup) (hy : X.N[i]? = some y) (hyl : X.env.scope.names.lookup y = some .local)
    (hsw : swapsWith (.ListComp elt [⟨tg, iter, ifs, 0⟩] scope pos) (some (.Name y py)) spos.line X.env = pure true) (hi : SI X W tg iter mi) (ok : BlkOk X.N X.env.scope scope own) (L : LcOk X tg elt ifs scope gt is g mt me) (hvs : ∀ i ∈ is, i ∈ own.map (·.2))
    (hs : ∀ x, foldedSetIterable iter X.env x = pure x := by intro _; rfl) : SS X W np (.Assign [.Name y py] (.ListComp elt [⟨tg, iter, ifs, 0⟩] scope pos) spos) (sSet i (eLc mi g mt me (own.map (·.2)))) := by
  intro c own' F H σd σ T D fr R p pins s I
  refine (ps_setLc (te := blE X me) (tt := blT X mt) hc hN hy hyl hsw pi_we ok (fun s H C cl fp => (L.tg s H C cl fp).pg) (fun s H C cl fp => ⟨fun pins s' σ' H' Q' I' h => ?_⟩) (fun s H C cl fp => ⟨fun pins s' σ' H' Q' I' h => ?_⟩) hs).run pins s σ H D I ?_
  · obtain ⟨c1, own1, F1, σ1, T1, R1, p1⟩ := h
    exact L.ts s H C cl fp c1 own1 F1 H' σ1 σ' T1 Q' R1 p1 pins s' I'
  · obtain ⟨c1, own1, F1, σ1, T1, R1, p1⟩ := h
    exact L.el s H C cl fp c1 own1 F1 H' σ1 σ' T1 Q' R1 p1 pins s' I'
  · show tLc _ _ _ _ _ σ H fun v H1 => D.nx (σ.set i (some v)) H1
    refine lc_read (c := c) (T := T) (F := F) (σd := σd) (own := own') s hi L hvs R ?_
    unfold sSet at p
    cases hm : eLc mi g mt me (own.map (·.2)) σd with
    | stuck => rw [hm] at p; exact p
    | exc x σ1 => rw [hm] at p; exact fun own' F' H' cls d e R x => p σ own' F' H' cls d e R x
    | ok r σ1 =>
      rw [hm, bind_ok] at p
      intro v own1 F1 H1 x1 R1 r1
      cases hz : setSl i r σ1 with
      | stuck => rw [hz] at p; exact p.elim
      | exc x σ2 => exact absurd hz setSl_noexc
      | ok u σ2 =>
        rw [hz, bind_ok] at p
        obtain ⟨own2, F2, x2, R2⟩ := setSl_ok (fr i hnp) R1 r1 hz
        exact p _ own2 F2 H1 (x1.trans x2) R2
end
end DL

namespace DL
open PySem PySem.Spec PyProof.Rows L2
section
variable {K : Frag} {w : World} {F F' H H' : Hp} {c : Ctx} {own : Own} {σd σd' : SD} {σ : L2.St} {T : Tms} {r : Rs} {v : V} {d : D}
theorem Rel.ownList {i : Nat} {ds : List D} (R : Rel K w c own F H σd σ T) (hi : σd[i]? = some (some (.ow (.lst ds)))) :
    ∃ a vs, σ[i]? = some (some (.ref a)) ∧ own a = some (.inl i) ∧ H a = some (.lst vs) ∧ RpL K w F ds vs := by
  obtain ⟨v, h1, h2⟩ := R.slot i _ hi
  cases h2 with
  | lst p q r => exact ⟨_, _, h1, p, q, r⟩
theorem rpL_vwL {ds : List D} {vs : List V} (h : RpL K w F ds vs) : VwL K w F H ds vs := by
  induction ds generalizing vs with
  | nil => cases h; exact .nil
  | cons d ds ih =>
    cases h with
    | cons a b => exact .cons (.inl a) (ih b)
end
/-- a method of the list in slot i; fr: its arguments are kept in it -/
def OpM (X : Cx) (id : String) (fr : Bool) (f : List D → List D → Option (D × List D)) : Prop := ∃ r : V → List V → Hp → VK → Prop, MtR X id r ∧
  ∀ (F H : Hp) (xs as : List D) (a : Addr) (vs us : List V) (d : D) (ys : List D) (Q : VK), Ex F H → H a = some (.lst vs) → RpL X.K X.w F xs vs → VwL X.K X.w F H as us → (fr = true → RpL X.K X.w F as us) → f xs as = some (d, ys) →
    (∀ v ws, Rp X.K X.w F d v → RpL X.K X.w F ys ws → Q v (upd H a (.lst ws))) → r (.ref a) us H Q
def rdA (fr : Bool) (rs : List Rs) : M (List D) := if fr then frzL rs else peekL rs
def eMt (fr : Bool) (f : List D → List D → Option (D × List D)) (i : Nat) (ms : M (List Rs)) : M Rs := fun σ => match σ[i]? with
  | some (some (.ow (.lst _))) => (ms σ).bind fun rs σ1 => (rdA fr rs σ1).bind fun as σ2 => (match σ2[i]? with
    | some (some (.ow (.lst xs))) => (match f xs as with
      | some (d, ys) => .ok (.fz d) (σ2.set i (some (.ow (.lst ys))))
      | none => .stuck)
    | _ => .stuck)
  | _ => .stuck
section
variable {X : Cx} {W : WX} {np : Nat} {c : Ctx} {T : Tms} {σ : L2.St} {F F' H : Hp} {own : Own} {σd : SD} {a b e : Expr} {es : List Expr} {ma mb m : M Rs} {ms : M (List Rs)} {pos : Pos}
theorem rdA_noexc {fr : Bool} {rs : List Rs} {x : Xd} {σd' : SD} : rdA fr rs σd ≠ .exc x σd' := by
  unfold rdA
  cases fr with
  | true => exact frzL_noexc
  | false => exact peekL_noexc
theorem rdA_ok {K : Frag} {w : World} {fr : Bool} {rs : List Rs} {vs : List V} {ds : List D} {σd' : SD} (R : Rel K w c own F H σd σ (pushL T rs vs)) (h : RsL K w F σ rs vs) (e : rdA fr rs σd = .ok ds σd') :
    ∃ own' F', Ex F F' ∧ Rel K w c own' F' H σd' σ T ∧ VwL K w F' H ds vs ∧ (fr = true → RpL K w F' ds vs) := by
  unfold rdA at e
  cases fr with
  | true =>
    rw [if_pos rfl] at e
    obtain ⟨own', F', x, R', q⟩ := frzL_ok R h e
    exact ⟨own', F', x, R', rpL_vwL q, fun _ => q⟩
  | false =>
    rw [if_neg Bool.false_ne_true] at e
    obtain ⟨rfl, q⟩ := peekL_ok R h e
    exact ⟨own, F, Evl.Ex.refl F, R.popL, q, fun z => nomatch z⟩
/-- the rule's end -/
theorem mt_end {fr : Bool} {f : List D → List D → Option (D × List D)} {i : Nat} {r : V → List V → Hp → VK → Prop}
    (hf : ∀ (F H : Hp) (xs as : List D) (a : Addr) (vs us : List V) (d : D) (ys : List D) (Q : VK), Ex F H → H a = some (.lst vs) → RpL X.K X.w F xs vs → VwL X.K X.w F H as us → (fr = true → RpL X.K X.w F as us) → f xs as = some (d, ys) →
      (∀ v ws, Rp X.K X.w F d v → RpL X.K X.w F ys ws → Q v (upd H a (.lst ws))) → r (.ref a) us H Q)
    {rs : List Rs} {us : List V} {F1 : Hp} {a0 : Addr} {Q : VK} (ha0 : σ[i]? = some (some (.ref a0))) (R : Rel X.K X.w c own F1 H σd σ (pushL T rs us)) (h : RsL X.K X.w F1 σ rs us) (e0 : Ex F F1)
    (p : Pst X W c T σ F ((rdA fr rs σd).bind fun as σ2 => (match σ2[i]? with
    | some (some (.ow (.lst xs))) => (match f xs as with
      | some (d, ys) => .ok (.fz d) (σ2.set i (some (.ow (.lst ys))))
      | none => .stuck)
    | _ => .stuck)) Q) : r (.ref a0) us H Q := by
  cases hz : rdA fr rs σd with
  | stuck => rw [hz] at p; exact p.elim
  | exc x σ2 => exact absurd hz rdA_noexc
  | ok as σ2 =>
    obtain ⟨own2, F2, x2, R2, vw, rp⟩ := rdA_ok R h hz
    rw [hz, bind_ok] at p
    split at p
    · rename_i xs hx
      cases hfx : f xs as with
      | none => rw [hfx] at p; exact p.elim
      | some dy =>
        obtain ⟨d, ys⟩ := dy
        rw [hfx] at p
        obtain ⟨a, vs, h1, h2, h3, h4⟩ := R2.ownList hx
        rw [ha0] at h1
        cases h1
        refine hf F2 H xs as a0 vs us d ys Q R2.fh h3 h4 vw rp hfx fun v ws rv rw' => ?_
        have hna : F2 a0 = none := (R2.owns a0 _ h2).1
        exact p v own2 F2 _ (e0.trans x2) (R2.mutS (o := .lst ws) (d' := .lst ys) hx ha0 h2 (.lst rfl upd_same rw')) rv
    · exact p.elim
theorem se_mt {id : String} {name : Str} {fr : Bool} {f : List D → List D → Option (D × List D)} {i : Nat} {x : Str} {apos cpos xpos : Pos} (ho : OpM X id fr f) (slot : Slot "list" name id) (hty : typeOf (.builtin id) = pure (.type "method_descriptor"))
    (hN : X.N[i]? = some x) (hv : Vis X.env.scope x) (ha : SA X W (e :: es) ms) (hd : (x == ("__debug__" : Str)) = false := by decide) (hcd : (x == ("__classdict__" : Str)) = false := by decide)
    (hbase : attributeBase (.Name x xpos) name X.env (eval (.Name x xpos) X.env) = eval (.Name x xpos) X.env := by rfl)
    (hfew : ((backTo cpos (starEach (e :: es) X.env)).all (fun x => !x.1) && (backToKw cpos (keywordEach [] X.env)).all (fun x => x.1.isSome)
      && decide ((e :: es).length + ([] : List Keyword).length + (if ([] : List Keyword).isEmpty then 0 else 1) < 30)) = true := by rfl)
    (hline : (apos.endLine == cpos.line) = true := by rfl) (hs : starEach (e :: es) X.env = (false, eval e X.env) :: starEach es X.env := by rfl) (hplain : (backTo cpos (starEach es X.env)).any (·.1) = false := by rfl) :
    SE X W (.Call (.Attribute (.Name x xpos) name apos) (e :: es) [] cpos) (eMt fr f i ms) := by
  obtain ⟨r, hr, hf⟩ := ho
  intro c own F H σd σ T Q R p
  refine (pe_bm PySem.F.plainAttrs_list slot hty hr (pe_var hN hv hd hcd) pa_we hbase hfew hline hs hplain).we ?_
  unfold eMt at p
  split at p
  · rename_i xs0 hx0
    obtain ⟨a0, vs0, h1, h2, h3, h4⟩ := R.ownList hx0
    refine ⟨.ref a0, h1, .inl ⟨rfl, vs0, SqL.of h3⟩, ?_⟩
    show weA X (e :: es) σ H _
    refine ha c own F H σd σ T _ R ?_
    cases hm : ms σd with
    | stuck => rw [hm] at p; exact p
    | exc x σ1 => rw [hm] at p; exact p
    | ok rs σ1 =>
      rw [hm, bind_ok] at p
      intro us own1 F1 H1 x1 R1 r1
      exact mt_end hf h1 R1 r1 x1 p
  · exact p.elim
theorem se_mt0 {id : String} {name : Str} {fr : Bool} {f : List D → List D → Option (D × List D)} {i : Nat} {x : Str} {apos cpos xpos : Pos} (ho : OpM X id fr f) (slot : Slot "list" name id) (hty : typeOf (.builtin id) = pure (.type "method_descriptor"))
    (hN : X.N[i]? = some x) (hv : Vis X.env.scope x) (hd : (x == ("__debug__" : Str)) = false := by decide) (hcd : (x == ("__classdict__" : Str)) = false := by decide)
    (hbase : attributeBase (.Name x xpos) name X.env (eval (.Name x xpos) X.env) = eval (.Name x xpos) X.env := by rfl)
    (hline : (apos.endLine == cpos.line) = true := by rfl) :
    SE X W (.Call (.Attribute (.Name x xpos) name apos) [] [] cpos) (eMt fr f i aNil) := by
  obtain ⟨r, hr, hf⟩ := ho
  intro c own F H σd σ T Q R p
  refine (pe_bm0 PySem.F.plainAttrs_list slot hty hr (pe_var hN hv hd hcd) hbase hline).we ?_
  unfold eMt at p
  split at p
  · rename_i xs0 hx0
    obtain ⟨a0, vs0, h1, h2, h3, h4⟩ := R.ownList hx0
    refine ⟨.ref a0, h1, .inl ⟨rfl, vs0, SqL.of h3⟩, ?_⟩
    unfold aNil at p
    rw [bind_ok] at p
    exact mt_end (rs := []) (us := []) hf h1 R .nil (Evl.Ex.refl F) p
  · exact p.elim
def mAppend : List D → List D → Option (D × List D)
  | xs, [d] => if xs.length < 16777216 then some (.non, xs ++ [d]) else none
  | _, _ => none
theorem om_append : OpM X "list.append" true mAppend := by
  refine ⟨rAppend, mt_append, fun F H xs as a vs us d ys Q e h1 h2 h3 h4 hf k => ?_⟩
  have h5 := h4 rfl
  unfold mAppend at hf
  split at hf
  · rename_i d0
    split at hf
    · rename_i hl
      cases hf
      cases h5 with
      | cons q q2 =>
        cases q2
        exact ⟨a, vs, _, rfl, rfl, h1, by rw [← h2.length, sizeLine_eq]; exact hl, k _ _ .non (h2.append (.cons q .nil))⟩
    · cases hf
  · cases hf
def mExtend : List D → List D → Option (D × List D)
  | xs, [.lst zs] => if small (xs.length + zs.length) then some (.non, xs ++ zs) else none
  | _, _ => none
theorem om_extend : OpM X "list.extend" false mExtend := by
  refine ⟨rExtend, mt_extend, fun F H xs as a vs us d ys Q e h1 h2 h3 h4 hf k => ?_⟩
  unfold mExtend at hf
  split at hf
  · rename_i zs
    split at hf
    · rename_i hl
      cases hf
      cases h3 with
      | cons q q2 =>
        cases q2
        obtain ⟨b, ws, rfl, g1, g2⟩ := q.lst e
        exact ⟨a, b, vs, ws, rfl, rfl, h1, g1, by rw [← h2.length, ← g2.length, sizeLine_eq]; exact hl, k _ _ .non (h2.append g2)⟩
    · cases hf
  · cases hf
def mPop : List D → List D → Option (D × List D)
  | xs, [] => (xs[xs.length - 1]?).map fun d => (d, xs.dropLast)
  | _, _ => none
theorem om_pop : OpM X "list.pop" true mPop := by
  refine ⟨rPop, mt_pop, fun F H xs as a vs us d ys Q e h1 h2 h3 h4 hf k => ?_⟩
  unfold mPop at hf
  split at hf
  · cases h3
    obtain ⟨d0, e1, e2⟩ := Option.map_eq_some_iff.mp hf
    cases e2
    obtain ⟨v, g1, g2⟩ := h2.get e1
    exact ⟨a, vs, v, rfl, rfl, h1, by rw [← h2.length]; exact g1, k _ _ g2 h2.dropLast⟩
  · cases hf
def sPut (i : Nat) (mk m : M Rs) : M Fl := fun σ => (m σ).bind fun r σ1 => (frz r σ1).bind fun d σ2 => (match σ2[i]? with
  | some (some (.ow (.lst _))) => (mk σ2).bind fun rk σ3 => (match rk, σ3[i]? with
    | .fz (.int k), some (some (.ow (.lst xs))) => (match ixN xs.length k with
      | some j => .ok .nx (σ3.set i (some (.ow (.lst (xs.set j d)))))
      | none => .stuck)
    | _, _ => .stuck)
  | _ => .stuck)
theorem ss_put {i : Nat} {x : Str} {ei : Expr} {mk : M Rs} {xpos tpos : Pos} (hN : X.N[i]? = some x) (hv : Vis X.env.scope x) (hi : SE X W ei mk) (he : SE X W e m)
    (hd : (x == ("__debug__" : Str)) = false := by decide) (hcd : (x == ("__classdict__" : Str)) = false := by decide)
    (ha : ∀ v, assign (.Subscript (.Name x xpos) ei tpos) X.env v = (do
      let ov ← holding [v] (eval (.Name x xpos) X.env)
      let iv ← holding [v, ov] (eval ei X.env)
      standAt tpos
      holding [v, ov, iv] (setItem ov iv v)
      release [v, ov, iv] []) := by intro _; rfl)
    (hs : swapsWithSole [.Subscript (.Name x xpos) ei tpos] e pos.line X.env = pure false := by rfl) (hw : swappedStores [.Subscript (.Name x xpos) ei tpos] e X.env = pure none := by rfl)
    (h1 : (assignEach [.Subscript (.Name x xpos) ei tpos] X.env).map (·.2) = [assign (.Subscript (.Name x xpos) ei tpos) X.env] := by rfl) : SS X W np (.Assign [.Subscript (.Name x xpos) ei tpos] e pos) (sPut i mk m) := by
  intro c own F H σd σ T D fr R p
  refine (ps_asg pe_we (pg_sub (pe_var hN hv hd hcd) pe_we set_list ha) hs hw h1).we ?_
  show weE X e σ H fun v H1 => gSub _ (weE X ei) rSetL v σ H1 D.nx
  unfold sPut at p
  refine he.thenS R p fun r σ1 p1 v own1 F1 H1 x1 R1 r1 => ?_
  cases hz : frz r σ1 with
  | stuck => rw [hz] at p1; exact p1.elim
  | exc x σ2 => exact absurd hz frz_noexc
  | ok d σ2 =>
    rw [hz, bind_ok] at p1
    obtain ⟨own2, F2, x2, R2, rp⟩ := frz_ok R1 r1 hz
    split at p1
    · rename_i xs0 hx0
      obtain ⟨a0, vs0, g1, g2, g3, g4⟩ := R2.ownList hx0
      refine ⟨.ref a0, g1, ?_⟩
      show weE X ei σ H1 _
      refine hi.thenS R2 (p1.ex (x1.trans x2)) fun rk σ3 p3 vk own3 F3 H3 x3 R3 r3 => ?_
      split at p3
      · rename_i k xs hx
        cases hj : ixN xs.length k with
        | none => rw [hj] at p3; exact p3.elim
        | some j =>
          rw [hj] at p3
          cases (show Rp X.K X.w F3 (.int k) vk from r3)
          obtain ⟨a, vs, k1, k2, k3, k4⟩ := R3.popR.ownList hx
          rw [g1] at k1
          cases k1
          refine ⟨a0, vs, k, j, rfl, rfl, k3, by rw [← k4.length]; exact hj, ?_⟩
          exact p3 σ own3 F3 _ x3 (R3.popR.mutS (o := .lst (vs.set j v)) (d' := .lst (xs.set j d)) hx g1 k2 (.lst rfl upd_same (k4.set j (rp.mono x3))))
      · exact p3.elim
    · exact p1.elim
def noPk : Rs → Bool
  | .pk _ => false
  | _ => true
theorem RsR.mov {K : Frag} {w : World} {r : Rs} {v : V} {σ' : L2.St} (h : RsR K w F σ r v) (n : noPk r = true) : RsR K w F σ' r v := by
  cases r with
  | fz d => exact h
  | ow d => trivial
  | pk i => cases n
def sPar (i j : Nat) (ma mb : M Rs) : M Fl := fun σ => (ma σ).bind fun ra σ1 => (mb σ1).bind fun rb σ2 => if noPk ra then (setSl j rb σ2).bind fun _ σ3 => (setSl i ra σ3).bind fun _ σ4 => .ok .nx σ4 else .stuck
def sPar3 (i j l : Nat) (ma mb mc : M Rs) : M Fl := fun σ => (ma σ).bind fun ra σ1 => (mb σ1).bind fun rb σ2 => (mc σ2).bind fun rc σ3 => if noPk ra && noPk rb then
  (setSl l rc σ3).bind fun _ σ4 => (setSl j rb σ4).bind fun _ σ5 => (setSl i ra σ5).bind fun _ σ6 => .ok .nx σ6 else .stuck
theorem setSl_then {i : Nat} {r : Rs} {v : V} {f : Unit → SD → Out Fl} {D : Ends} (fr : c.pin i = none) (R : Rel X.K X.w c own F H σd σ (push T r v)) (h : RsR X.K X.w F σ r v) {F0 : Hp} {T0 : Tms} (p : PstS X W c T0 F0 ((setSl i r σd).bind f) D) :
    ∃ σd' own' F', Ex F F' ∧ Rel X.K X.w c own' F' H σd' (σ.set i (some v)) T ∧ PstS X W c T0 F0 (f () σd') D := by
  cases hz : setSl i r σd with
  | stuck => rw [hz] at p; exact p.elim
  | exc x σ2 => exact absurd hz setSl_noexc
  | ok u σ2 =>
    rw [hz, bind_ok] at p
    obtain ⟨own2, F2, x2, R2⟩ := setSl_ok fr R h hz
    exact ⟨σ2, own2, F2, x2, R2, p⟩
theorem ss_par {i j : Nat} {x y : Str} {px py pt : Pos} {kt k2 pt2} (hc : X.calm = true) (hN : X.N.Nodup) (hi : X.N[i]? = some x) (hj : X.N[j]? = some y) (hij : i ≠ j) (hni : np ≤ i) (hnj : np ≤ j)
    (hx : X.env.scope.names.lookup x = some .local) (hy : X.env.scope.names.lookup y = some .local) (ha : SE X W a ma) (hb : SE X W b mb)
    (hw : swappedStores [.Tuple [.Name x px, .Name y py] kt pt] (.Tuple [a, b] k2 pt2) X.env = pure (some [x, y]))
    (hs : swapsWithSole [.Tuple [.Name x px, .Name y py] kt pt] (.Tuple [a, b] k2 pt2) pos.line X.env = pure false := by rfl)
    (hst : starEach (a :: [b]) X.env = (false, eval a X.env) :: starEach [b] X.env := by rfl) (hst2 : starEach (b :: []) X.env = (false, eval b X.env) :: starEach [] X.env := by rfl) :
    SS X W np (.Assign [.Tuple [.Name x px, .Name y py] kt pt] (.Tuple [a, b] k2 pt2) pos) (sPar i j ma mb) := by
  intro c own F H σd σ T D fr R p
  refine (ps_par hc hN hi hj hij hx hy (pa_cons pe_we (pa_cons pe_we pa_nil hst2) hst) hw hs).we ?_
  show weE X a σ H fun v H1 => weE X b σ H1 fun w H2 => ∃ v' w', [v, w] = [v', w'] ∧ D.nx ((σ.set i (some v')).set j (some w')) H2
  unfold sPar at p
  refine ha.thenS R p fun ra σ1 p1 va own1 F1 H1 x1 R1 r1 => ?_
  refine hb c own1 F1 H1 σ1 σ _ _ R1 ?_
  cases hmb : mb σ1 with
  | stuck => rw [hmb] at p1; exact p1
  | exc x σ2 => rw [hmb] at p1; exact fun own2 F2 H2 cls d e R2 xr => p1 σ own2 F2 H2 cls d (x1.trans e) R2.popR xr
  | ok rb σ2 =>
    rw [hmb, bind_ok] at p1
    intro vb own2 F2 H2 x2 R2 r2
    split at p1
    · rename_i hpk
      obtain ⟨σ3, own3, F3, x3, R3, p3⟩ := setSl_then (fr j hnj) R2 r2 p1
      obtain ⟨σ4, own4, F4, x4, R4, p4⟩ := setSl_then (fr i hni) R3 ((r1.mono (x2.trans x3)).mov hpk) p3
      rw [List.set_comm _ _ (Ne.symm hij)] at R4
      exact ⟨va, vb, rfl, p4 _ own4 F4 H2 ((((x1.trans x2).trans x3)).trans x4) R4⟩
    · exact p1.elim
theorem ss_par3 {i j l : Nat} {x y z : Str} {cc : Expr} {mc : M Rs} {px py pz pt : Pos} {kt k2 pt2} (hc : X.calm = true) (hN : X.N.Nodup) (hi : X.N[i]? = some x) (hj : X.N[j]? = some y) (hl : X.N[l]? = some z) (hij : i ≠ j) (hil : i ≠ l) (hjl : j ≠ l) (hni : np ≤ i) (hnj : np ≤ j) (hnl : np ≤ l)
    (hx : X.env.scope.names.lookup x = some .local) (hy : X.env.scope.names.lookup y = some .local) (hz : X.env.scope.names.lookup z = some .local) (ha : SE X W a ma) (hb : SE X W b mb) (hcc : SE X W cc mc)
    (hw : swappedStores [.Tuple [.Name x px, .Name y py, .Name z pz] kt pt] (.Tuple [a, b, cc] k2 pt2) X.env = pure (some [x, y, z]))
    (hs : swapsWithSole [.Tuple [.Name x px, .Name y py, .Name z pz] kt pt] (.Tuple [a, b, cc] k2 pt2) pos.line X.env = pure false := by rfl)
    (hst : starEach (a :: [b, cc]) X.env = (false, eval a X.env) :: starEach [b, cc] X.env := by rfl) (hst2 : starEach (b :: [cc]) X.env = (false, eval b X.env) :: starEach [cc] X.env := by rfl) (hst3 : starEach (cc :: []) X.env = (false, eval cc X.env) :: starEach [] X.env := by rfl) :
    SS X W np (.Assign [.Tuple [.Name x px, .Name y py, .Name z pz] kt pt] (.Tuple [a, b, cc] k2 pt2) pos) (sPar3 i j l ma mb mc) := by
  intro c own F H σd σ T D fr R p
  refine (ps_par3 hc hN hi hj hl hij hil hjl hx hy hz (pa_cons pe_we (pa_cons pe_we (pa_cons pe_we pa_nil hst3) hst2) hst) hw hs).we ?_
  show weE X a σ H fun u H1 => weE X b σ H1 fun v H2 => weE X cc σ H2 fun w H3 => ∃ u' v' w', [u, v, w] = [u', v', w'] ∧ D.nx (((σ.set i (some u')).set j (some v')).set l (some w')) H3
  unfold sPar3 at p
  refine ha.thenS R p fun ra σ1 p1 va own1 F1 H1 x1 R1 r1 => ?_
  refine hb c own1 F1 H1 σ1 σ _ _ R1 ?_
  cases hmb : mb σ1 with
  | stuck => rw [hmb] at p1; exact p1
  | exc x σ2 => rw [hmb] at p1; exact fun own2 F2 H2 cls d e R2 xr => p1 σ own2 F2 H2 cls d (x1.trans e) R2.popR xr
  | ok rb σ2 =>
    rw [hmb, bind_ok] at p1
    intro vb own2 F2 H2 x2 R2 r2
    refine hcc c own2 F2 H2 σ2 σ _ _ R2 ?_
    cases hmc : mc σ2 with
    | stuck => rw [hmc] at p1; exact p1
    | exc x σ3 => rw [hmc] at p1; exact fun own3 F3 H3 cls d e R3 xr => p1 σ own3 F3 H3 cls d ((x1.trans x2).trans e) R3.popR.popR xr
    | ok rc σ3 =>
      rw [hmc, bind_ok] at p1
      intro vc own3 F3 H3 x3 R3 r3
      split at p1
      · rename_i hpk
        rw [Bool.and_eq_true] at hpk
        obtain ⟨σ4, own4, F4, x4, R4, p4⟩ := setSl_then (fr l hnl) R3 r3 p1
        obtain ⟨σ5, own5, F5, x5, R5, p5⟩ := setSl_then (fr j hnj) R4 ((r2.mono (x3.trans x4)).mov hpk.2) p4
        obtain ⟨σ6, own6, F6, x6, R6, p6⟩ := setSl_then (fr i hni) R5 ((r1.mono (((x2.trans x3).trans x4).trans x5)).mov hpk.1) p5
        rw [List.set_comm _ _ (Ne.symm hij), List.set_comm (l := σ) _ _ (Ne.symm hil)] at R6
        refine ⟨va, vb, vc, rfl, p6 _ own6 F6 H3 ((((x1.trans x2).trans x3).trans x4).trans (x5.trans x6)) ?_⟩
        rw [show (((σ.set i (some va)).set j (some vb)).set l (some vc)) = (((σ.set i (some va)).set l (some vc)).set j (some vb)) from List.set_comm _ _ hjl]
        exact R6
      · exact p1.elim
/-- a, b, .. = a list -/
def gLs (is : List Nat) (d : D) (σ : SD) : Out Unit := match d with
  | .lst ds => gNms is ds σ
  | _ => .stuck
theorem gn_lst {es : List Expr} {kk : Nat} {is : List Nat} (hnp : ∀ i ∈ is, np ≤ i) (h : PG X (.Tuple es kk pos) (gLst X.K is.length (tNms is))) : PGn X np (.Tuple es kk pos) (gLst X.K is.length (tNms is)) is (gLs is) := by
  refine ⟨h, fun c own F H σd σd' σ T d v Q fr R r e q => ?_, fun d σd x σd' e => ?_⟩
  · unfold gLs at e
    split at e
    · cases r with
      | lst h1 h2 =>
        exact ⟨_, _, rfl, SqL.of (R.fh _ _ h1), by rw [← h2.length]; exact gNms_len e, gNms_ok (fun i hi => fr i (hnp i hi)) R h2 e q⟩
    · cases e
  · unfold gLs at e
    split at e
    · exact gNms_noexc e
    · cases e
/-- a result frozen -/
def eFz (m : M Rs) : M Rs := fun σ => (m σ).bind fun r σ1 => (frz r σ1).bind fun d σ2 => .ok (.fz d) σ2
theorem se_fz (h : SE X W e m) : SE X W e (eFz m) := by
  intro c own F H σd σ T Q R p
  refine h.then R p fun r σ1 p1 v own1 F1 H1 x1 R1 r1 => ?_
  cases hz : frz r σ1 with
  | stuck => rw [hz] at p1; exact p1.elim
  | exc x σ2 => exact absurd hz frz_noexc
  | ok d σ2 =>
    rw [hz, bind_ok] at p1
    obtain ⟨own2, F2, x2, R2, rp⟩ := frz_ok R1 r1 hz
    exact p1 v own2 F2 H1 (x1.trans x2) R2 rp
end
end DL

namespace DL
open PySem PySem.Spec PyProof.Rows L2
def isOw (σ : SD) (j : Nat) : Bool := match σ[j]? with
  | some (some (.ow _)) => true
  | _ => false
/-- one argument, the i-th, as the callee's slot -/
def argOf (np i : Nat) (σ : SD) : Rs → Option Sl
  | .fz d => some (.fz d)
  | .ow d => some (.ow d)
  | .pk j => match σ[j]? with
    | some (some (.fz d)) => some (.fz d)
    | some (some (.ow d)) => if i < np then some (.ow d) else none
    | _ => none
def argsOf (np : Nat) (σ : SD) : Nat → List Rs → Option (List Sl)
  | _, [] => some []
  | i, r :: rs => match argOf np i σ r, argsOf np σ (i + 1) rs with
    | some s, some ss => some (s :: ss)
    | _, _ => none
/-- what is lent: the callee's slot, the caller's -/
def lends (σ : SD) : Nat → List Rs → List (Nat × Nat)
  | _, [] => []
  | i, .pk j :: rs => if isOw σ j then (i, j) :: lends σ (i + 1) rs else lends σ (i + 1) rs
  | i, _ :: rs => lends σ (i + 1) rs
/-- the n-th temporary among the arguments -/
def owIx : List Rs → Nat → Option Nat
  | [], _ => none
  | .ow _ :: _, 0 => some 0
  | .ow _ :: rs, n + 1 => (owIx rs n).map (· + 1)
  | _ :: rs, n => (owIx rs n).map (· + 1)
def startD (nN : Nat) (as : List Sl) : SD := as.map some ++ List.replicate (nN - as.length) none
/-- the caller's slots behind the call -/
def backC (ls : List (Nat × Nat)) (σ σ' : SD) : SD := σ.mapIdx fun j s => match ls.find? (fun p => p.2 == j) with
  | some p => (σ'[p.1]?).join
  | none => s
/-- what is handed back -/
def retD (ls : List (Nat × Nat)) (σ' : SD) : Rs → Option Rs
  | .fz d => some (.fz d)
  | .ow d => some (.ow d)
  | .pk k => match σ'[k]? with
    | some (some (.fz d)) => some (.fz d)
    | some (some (.ow d)) => if ls.any (fun p => p.1 == k) then none else some (.ow d)
    | _ => none
def runD (np nP nN : Nat) (mf : M Fl) (as : List Sl) (ls : List (Nat × Nat)) : M Rs := fun σ =>
  if as.length = nP ∧ nP ≤ nN ∧ (ls.map (·.1)).Nodup ∧ (ls.map (·.2)).Nodup then (match mf (startD nN as) with
    | .ok .nx σ' => .ok (.fz .non) (backC ls σ σ')
    | .ok (.rt r) σ' => (match retD ls σ' r with
      | some r2 => .ok r2 (backC ls σ σ')
      | none => .stuck)
    | .exc x σ' => .exc x (backC ls σ σ')
    | _ => .stuck) else .stuck
def callD (np nP nN : Nat) (mf : M Fl) (dfl : List D) (rs : List Rs) : M Rs := fun σ => match argsOf np σ 0 rs with
  | some as => runD np nP nN mf (as ++ dfl.map .fz) (lends σ 0 rs) σ
  | none => .stuck
def eCall (np nP nN : Nat) (mf : M Fl) (dfl : List D) (ms : M (List Rs)) : M Rs := fun σ => (ms σ).bind fun rs σ1 => callD np nP nN mf dfl rs σ1

section
variable {K : Frag} {w : World} {F F' H H' : Hp} {c : Ctx} {own : Own} {σd σd' : SD} {σ : L2.St} {T : Tms} {r : Rs} {rs : List Rs} {v : V} {vs : List V} {d : D}
theorem pushL_get : ∀ {rs : List Rs} {vs : List V} {T : Tms} {k : Nat}, k < T.length → (pushL T rs vs)[k]? = T[k]?
  | [], _, _, _, _ => by unfold pushL; rfl
  | _ :: _, [], _, _, _ => by unfold pushL; rfl
  | r :: rs, v :: vs, T, k, h => by
    unfold pushL
    cases r with
    | ow d =>
      show (pushL (T ++ [(d, v)]) rs vs)[k]? = _
      rw [pushL_get (by rw [List.length_append]; omega), List.getElem?_append_left h]
    | fz d => exact pushL_get (T := T) h
    | pk i => exact pushL_get (T := T) h
theorem tmpAt : ∀ {rs : List Rs} {vs : List V} {T : Tms} {i : Nat} {d : D} {v : V}, rs[i]? = some (.ow d) → vs[i]? = some v → ∃ n, owIx rs n = some i ∧ (pushL T rs vs)[T.length + n]? = some (d, v)
  | [], _, _, _, _, _, h, _ => by simp at h
  | _ :: _, [], _, _, _, _, _, h => by simp at h
  | r :: rs, u :: vs, T, 0, d, v, h, h2 => by
    simp at h h2
    subst h
    subst h2
    refine ⟨0, rfl, ?_⟩
    show (pushL (T ++ [(d, u)]) rs vs)[T.length + 0]? = _
    rw [pushL_get (by rw [List.length_append]; simp)]
    simp
  | r :: rs, u :: vs, T, i + 1, d, v, h, h2 => by
    simp at h h2
    cases r with
    | ow d0 =>
      obtain ⟨n, e1, e2⟩ := tmpAt (T := T ++ [(d0, u)]) h h2
      refine ⟨n + 1, ?_, ?_⟩
      · show (owIx rs n).map (· + 1) = _
        rw [e1]
        rfl
      · show (pushL (T ++ [(d0, u)]) rs vs)[_]? = _
        rw [← e2]
        congr 1
        rw [List.length_append]
        simp
        omega
    | fz d0 =>
      obtain ⟨n, e1, e2⟩ := tmpAt (T := T) h h2
      refine ⟨n, ?_, e2⟩
      show (owIx rs n).map (· + 1) = _
      rw [e1]
      rfl
    | pk j =>
      obtain ⟨n, e1, e2⟩ := tmpAt (T := T) h h2
      refine ⟨n, ?_, e2⟩
      show (owIx rs n).map (· + 1) = _
      rw [e1]
      rfl
theorem lends_mem : ∀ {rs : List Rs} {i0 i j : Nat}, (i, j) ∈ lends σd i0 rs → i0 ≤ i ∧ rs[i - i0]? = some (.pk j) ∧ isOw σd j = true
  | [], _, _, _, h => by simp [lends] at h
  | r :: rs, i0, i, j, h => by
    have step : (i, j) ∈ lends σd (i0 + 1) rs → i0 ≤ i ∧ (r :: rs)[i - i0]? = some (.pk j) ∧ isOw σd j = true := fun h => by
      obtain ⟨h1, h2, h3⟩ := lends_mem h
      refine ⟨by omega, ?_, h3⟩
      rw [show i - i0 = (i - (i0 + 1)) + 1 by omega]
      simpa using h2
    cases r with
    | fz d => exact step h
    | ow d => exact step h
    | pk k =>
      unfold lends at h
      split at h
      · rename_i ho
        rcases List.mem_cons.mp h with e | h
        · cases e
          exact ⟨Nat.le_refl _, by simp, ho⟩
        · exact step h
      · exact step h
theorem lends_in : ∀ {rs : List Rs} {i0 i j : Nat}, rs[i]? = some (.pk j) → isOw σd j = true → (i0 + i, j) ∈ lends σd i0 rs
  | [], _, _, _, h, _ => by simp at h
  | r :: rs, i0, 0, j, h, ho => by
    simp at h
    subst h
    unfold lends
    rw [if_pos ho]
    exact List.mem_cons_self
  | r :: rs, i0, i + 1, j, h, ho => by
    simp at h
    have q := lends_in (i0 := i0 + 1) h ho
    rw [show i0 + (i + 1) = i0 + 1 + i by omega]
    cases r with
    | fz d => exact q
    | ow d => exact q
    | pk k =>
      unfold lends
      split
      · exact List.mem_cons_of_mem _ q
      · exact q
theorem argsOf_get : ∀ {np : Nat} {rs : List Rs} {i0 i : Nat} {as : List Sl} {s : Sl}, argsOf np σd i0 rs = some as → as[i]? = some s → ∃ r, rs[i]? = some r ∧ argOf np (i0 + i) σd r = some s
  | np, [], i0, i, as, s, h, h2 => by
    cases h
    simp at h2
  | np, r :: rs, i0, i, as, s, h, h2 => by
    unfold argsOf at h
    cases h3 : argOf np i0 σd r with
    | none => rw [h3] at h; cases h
    | some s0 =>
      cases h4 : argsOf np σd (i0 + 1) rs with
      | none => rw [h3, h4] at h; cases h
      | some ss =>
        rw [h3, h4] at h
        cases h
        cases i with
        | zero =>
          simp at h2
          subst h2
          exact ⟨r, rfl, h3⟩
        | succ i =>
          obtain ⟨r', e1, e2⟩ := argsOf_get h4 (by simpa using h2)
          exact ⟨r', by simpa using e1, by rw [show i0 + (i + 1) = i0 + 1 + i by omega]; exact e2⟩
theorem argsOf_len : ∀ {np : Nat} {rs : List Rs} {i0 : Nat} {as : List Sl}, argsOf np σd i0 rs = some as → as.length = rs.length
  | np, [], i0, as, h => by cases h; rfl
  | np, r :: rs, i0, as, h => by
    unfold argsOf at h
    cases h3 : argOf np i0 σd r with
    | none => rw [h3] at h; cases h
    | some s0 =>
      cases h4 : argsOf np σd (i0 + 1) rs with
      | none => rw [h3, h4] at h; cases h
      | some ss =>
        rw [h3, h4] at h
        cases h
        rw [List.length_cons, List.length_cons, argsOf_len h4]
theorem argsOf_np : ∀ {np : Nat} {rs : List Rs} {i0 i j : Nat} {as : List Sl}, argsOf np σd i0 rs = some as → rs[i]? = some (.pk j) → isOw σd j = true → i0 + i < np
  | np, [], _, _, _, _, _, h, _ => by simp at h
  | np, r :: rs, i0, i, j, as, h, h2, ho => by
    unfold argsOf at h
    cases h3 : argOf np i0 σd r with
    | none => rw [h3] at h; cases h
    | some s0 =>
      cases h4 : argsOf np σd (i0 + 1) rs with
      | none => rw [h3, h4] at h; cases h
      | some ss =>
        cases i with
        | zero =>
          simp at h2
          subst h2
          unfold argOf at h3
          unfold isOw at ho
          simp only at h3
          split at h3
          · rename_i d hd
            rw [hd] at ho
            cases ho
          · split at h3
            · assumption
            · cases h3
          · cases h3
        | succ i =>
          have q := argsOf_np h4 (by simpa using h2) ho
          omega
theorem RsL.get : ∀ {rs : List Rs} {vs : List V} {i : Nat} {r : Rs}, RsL K w F σ rs vs → rs[i]? = some r → ∃ v, vs[i]? = some v ∧ RsR K w F σ r v
  | _, _, 0, _, .cons h _, e => by
    simp at e
    subst e
    exact ⟨_, rfl, h⟩
  | _, _, i + 1, _, .cons _ hs, e => by
    obtain ⟨v, h1, h2⟩ := RsL.get (i := i) hs (by simpa using e)
    exact ⟨v, by simpa using h1, h2⟩
  | _, _, _, _, .nil, e => by simp at e
theorem RsL.length : ∀ {rs : List Rs} {vs : List V}, RsL K w F σ rs vs → rs.length = vs.length
  | _, _, .nil => rfl
  | _, _, .cons _ hs => congrArg (· + 1) (RsL.length hs)
theorem find1 : ∀ {ls : List (Nat × Nat)} {i j : Nat}, (ls.map (·.1)).Nodup → (i, j) ∈ ls → ls.find? (fun p => p.1 == i) = some (i, j)
  | [], _, _, _, h => by simp at h
  | p :: ls, i, j, nd, h => by
    rw [List.map_cons, List.nodup_cons] at nd
    rcases List.mem_cons.mp h with e | h
    · subst e
      rw [List.find?_cons]
      simp
    · have : p.1 ≠ i := fun z => nd.1 (by rw [z]; exact List.mem_map.mpr ⟨_, h, rfl⟩)
      rw [List.find?_cons, show (p.1 == i) = false from by simpa using this]
      exact find1 nd.2 h
theorem find2 : ∀ {ls : List (Nat × Nat)} {i j : Nat}, (ls.map (·.2)).Nodup → (i, j) ∈ ls → ls.find? (fun p => p.2 == j) = some (i, j)
  | [], _, _, _, h => by simp at h
  | p :: ls, i, j, nd, h => by
    rw [List.map_cons, List.nodup_cons] at nd
    rcases List.mem_cons.mp h with e | h
    · subst e
      rw [List.find?_cons]
      simp
    · have : p.2 ≠ j := fun z => nd.1 (by rw [z]; exact List.mem_map.mpr ⟨_, h, rfl⟩)
      rw [List.find?_cons, show (p.2 == j) = false from by simpa using this]
      exact find2 nd.2 h
def lentB (own : Own) (n : Nat) (ls : List (Nat × Nat)) : Addr → Prop := fun a => (∃ p ∈ ls, own a = some (.inl p.2)) ∨ ∃ k, n ≤ k ∧ own a = some (.inr k)
def pinC (ls : List (Nat × Nat)) (σ : L2.St) : Nat → Option Addr := fun i => match ls.find? (fun p => p.1 == i) with
  | some p => (match σ[p.2]? with
    | some (some (.ref a)) => some a
    | _ => none)
  | none => none
def ownC (own : Own) (n : Nat) (rs : List Rs) (ls : List (Nat × Nat)) : Own := fun a => match own a with
  | some (.inl j) => (ls.find? (fun p => p.2 == j)).map fun p => .inl p.1
  | some (.inr k) => if k < n then none else (owIx rs (k - n)).map .inl
  | none => none
def ctxC (F H : Hp) (own : Own) (n : Nat) (ls : List (Nat × Nat)) (σ : L2.St) : Ctx := ⟨F, H, lentB own n ls, pinC ls σ⟩
theorem start_get {N : List Str} {vs : List V} {i : Nat} {v : V} (h : vs[i]? = some v) : (L2.start N vs)[i]? = some (some v) := by
  have hl : i < vs.length := (List.getElem?_eq_some_iff.mp h).1
  unfold L2.start
  rw [List.getElem?_append_left (by rw [List.length_map]; exact hl), List.getElem?_map, h]
  rfl
theorem start_len {N : List Str} {vs : List V} (h : vs.length ≤ N.length) : (L2.start N vs).length = N.length := by
  unfold L2.start
  rw [List.length_append, List.length_map, List.length_replicate]
  omega
theorem startD_len {nN : Nat} {as : List Sl} (h : as.length ≤ nN) : (startD nN as).length = nN := by
  unfold startD
  rw [List.length_append, List.length_map, List.length_replicate]
  omega
theorem startD_get {nN : Nat} {as : List Sl} {i : Nat} {s : Sl} (h : (startD nN as)[i]? = some (some s)) : as[i]? = some s := by
  unfold startD at h
  by_cases hl : i < as.length
  · rw [List.getElem?_append_left (by rw [List.length_map]; exact hl), List.getElem?_map] at h
    cases z : as[i]? with
    | none => rw [z] at h; cases h
    | some s' =>
      rw [z] at h
      cases h
      rfl
  · rw [List.getElem?_append_right (by rw [List.length_map]; omega), List.getElem?_replicate] at h
    split at h <;> cases h
theorem isOw_slot (R : Rel K w c own F H σd σ T) {j : Nat} (h : isOw σd j = true) : ∃ d a, σd[j]? = some (some (.ow d)) ∧ σ[j]? = some (some (.ref a)) ∧ OwnAt K w F H (fun b => own b = some (.inl j)) d (.ref a) := by
  unfold isOw at h
  split at h
  · rename_i d hd
    obtain ⟨v, h1, h2⟩ := R.slot j _ hd
    have h2 : OwnAt K w F H (fun b => own b = some (.inl j)) d v := h2
    cases h2 with
    | lst p q r => exact ⟨_, _, hd, h1, .lst p q r⟩
    | dic p q r => exact ⟨_, _, hd, h1, .dic p q r⟩
  · cases h
theorem Rel.enter {np nN : Nat} {N : List Str} {as : List Sl} {dfl : List D} {dvs : List V} (R : Rel K w c own F H σd σ (pushL T rs vs)) (h : RsL K w F σ rs vs) (ea : argsOf np σd 0 rs = some as) (hd : RpL K w F dfl dvs)
    (hN : N.length = nN) (hl : as.length + dfl.length ≤ nN) (n1 : ((lends σd 0 rs).map (·.1)).Nodup) (n2 : ((lends σd 0 rs).map (·.2)).Nodup) :
    Free np (ctxC F H own T.length (lends σd 0 rs) σ) ∧ Rel K w (ctxC F H own T.length (lends σd 0 rs) σ) (ownC own T.length rs (lends σd 0 rs)) F H (startD nN (as ++ dfl.map .fz)) (L2.start N (vs ++ dvs)) [] := by
  have R0 : Rel K w c own F H σd σ T := R.popL
  have lnA : as.length = vs.length := by rw [argsOf_len ea, h.length]
  have lnD : dfl.length = dvs.length := hd.length
  refine ⟨fun i hi => ?_, R.fh, Evl.Ex.refl F, fun i s q => ?_, fun k d v q => by simp at q, fun a k q => ?_, fun a o q nb => ⟨q, fun z => z⟩, fun a q => q, ?_, fun i a q => ?_⟩
  · show pinC _ σ i = none
    unfold pinC
    split
    · rename_i p hp
      have hm := List.mem_of_find?_eq_some hp
      have hq : (p.1 == i) = true := by simpa using List.find?_some hp
      have e : p.1 = i := by simpa using hq
      obtain ⟨_, h1, h2⟩ := lends_mem (i := p.1) (j := p.2) hm
      have := argsOf_np ea h1 h2
      omega
    · rfl
  · have q' := startD_get q
    by_cases hi : i < as.length
    · rw [List.getElem?_append_left hi] at q'
      obtain ⟨r, e1, e2⟩ := argsOf_get ea q'
      obtain ⟨v, e3, e4⟩ := h.get e1
      refine ⟨v, start_get (by rw [List.getElem?_append_left (by omega)]; exact e3), ?_⟩
      cases r with
      | fz d =>
        cases e2
        exact e4
      | ow d =>
        cases e2
        obtain ⟨n, k1, k2⟩ := tmpAt (T := T) e1 e3
        refine OwnAt.mono (R.tmp _ d v k2) (Evl.Ex.refl F) fun a u pa ha => ⟨?_, ha⟩
        show ownC own T.length rs _ a = _
        unfold ownC
        rw [pa]
        show (if T.length + n < T.length then none else (owIx rs (T.length + n - T.length)).map Sum.inl) = _
        rw [if_neg (by omega), Nat.add_sub_cancel_left, k1]
        rfl
      | pk j =>
        unfold argOf at e2
        simp only at e2
        split at e2
        · rename_i d hdj
          cases e2
          obtain ⟨v', g1, g2⟩ := R.slot j _ hdj
          rw [show σ[j]? = some (some v) from e4] at g1
          cases g1
          exact g2
        · rename_i d hdj
          split at e2
          · cases e2
            obtain ⟨v', g1, g2⟩ := R.slot j _ hdj
            rw [show σ[j]? = some (some v) from e4] at g1
            cases g1
            have hm := lends_in (σd := σd) (i0 := 0) e1 (by unfold isOw; rw [hdj])
            rw [Nat.zero_add] at hm
            refine OwnAt.mono g2 (Evl.Ex.refl F) fun a u pa ha => ⟨?_, ha⟩
            show ownC own T.length rs _ a = _
            unfold ownC
            rw [pa]
            show ((lends σd 0 rs).find? (fun p => p.2 == j)).map _ = _
            rw [find2 n2 hm]
            rfl
          · cases e2
        · cases e2
    · rw [List.getElem?_append_right (by omega), List.getElem?_map] at q'
      cases z : dfl[i - as.length]? with
      | none => rw [z] at q'; cases q'
      | some d =>
        rw [z] at q'
        cases q'
        obtain ⟨v, g1, g2⟩ := hd.get z
        exact ⟨v, start_get (by rw [List.getElem?_append_right (by omega), ← lnA]; exact g1), g2⟩
  · unfold ownC at q
    split at q
    · rename_i j hj
      obtain ⟨p, e1, e2⟩ := Option.map_eq_some_iff.mp q
      obtain ⟨g1, g2, g3⟩ := R.owns a _ hj
      have e : (p.2 == j) = true := by simpa using List.find?_some e1
      have e : p.2 = j := by simpa using e
      exact ⟨g1, g2, .inr (.inl ⟨p, List.mem_of_find?_eq_some e1, by rw [e]; exact hj⟩)⟩
    · rename_i k' hj
      split at q
      · cases q
      · rename_i hk
        obtain ⟨g1, g2, g3⟩ := R.owns a _ hj
        exact ⟨g1, g2, .inr (.inr ⟨k', by omega, hj⟩)⟩
    · cases q
  · rw [startD_len (by rw [List.length_append, List.length_map]; exact hl), start_len (by rw [List.length_append]; omega), hN]
  · have q : pinC (lends σd 0 rs) σ i = some a := q
    unfold pinC at q
    split at q
    · rename_i p hp
      have hm := List.mem_of_find?_eq_some hp
      have e : (p.1 == i) = true := by simpa using List.find?_some hp
      have e : p.1 = i := by simpa using e
      obtain ⟨_, h1, h2⟩ := lends_mem (i := p.1) (j := p.2) hm
      rw [Nat.sub_zero] at h1
      split at q
      · rename_i a' ha'
        cases q
        obtain ⟨v, e3, e4⟩ := h.get h1
        have e4 : σ[p.2]? = some (some v) := e4
        rw [ha'] at e4
        cases e4
        rw [← e]
        exact start_get (by rw [List.getElem?_append_left (by exact (List.getElem?_eq_some_iff.mp e3).1)]; exact e3)
      · cases q
    · cases q
def ownR0 (own : Own) (n : Nat) (ls : List (Nat × Nat)) : Own := fun a => match own a with
  | some (.inl j) => if (ls.find? (fun p => p.2 == j)).isSome then none else some (.inl j)
  | some (.inr k) => if k < n then some (.inr k) else none
  | none => none
def ownR (own own2 : Own) (n : Nat) (ls : List (Nat × Nat)) (rk : Option (Sum Nat Nat)) : Own := fun a => match own2 a with
  | some x => if rk = some x then some (.inr n) else (match x with
    | .inl i => (ls.find? (fun p => p.1 == i)).map fun p => .inl p.2
    | .inr _ => none)
  | none => ownR0 own n ls a
theorem backC_get {ls : List (Nat × Nat)} {σ σ' : SD} {j : Nat} : (backC ls σ σ')[j]? = σ[j]?.map fun s => match ls.find? (fun p => p.2 == j) with
    | some p => (σ'[p.1]?).join
    | none => s := by
  unfold backC
  rw [List.getElem?_mapIdx]
theorem Rel.leave {own2 : Own} {F2 H2 : Hp} {σd2 : SD} {σ2 : L2.St} {T2 Tn : Tms} {rk : Option (Sum Nat Nat)} (R : Rel K w c own F H σd σ (pushL T rs vs)) (h : RsL K w F σ rs vs)
    (n1 : ((lends σd 0 rs).map (·.1)).Nodup) (n2 : ((lends σd 0 rs).map (·.2)).Nodup) (R2 : Rel K w (ctxC F H own T.length (lends σd 0 rs) σ) own2 F2 H2 σd2 σ2 T2) (hk : ∀ i, rk = some (.inl i) → ∀ p ∈ lends σd 0 rs, p.1 ≠ i)
    (hT : Tn = [] ∨ ∃ d v x, Tn = [(d, v)] ∧ rk = some x ∧ OwnAt K w F2 H2 (fun a => own2 a = some x) d v) :
    Ex F F2 ∧ Rel K w c (ownR own own2 T.length (lends σd 0 rs) rk) F2 H2 (backC (lends σd 0 rs) σd σd2) σ (T ++ Tn) := by
  have x2 : Ex F F2 := R2.f0
  -- what is owned by the caller still, and was not lent
  have notB : ∀ a x, own a = some x → (∀ p ∈ lends σd 0 rs, x ≠ .inl p.2) → (∀ k, T.length ≤ k → x ≠ .inr k) → ¬ lentB own T.length (lends σd 0 rs) a := fun a x q h1 h2 z => by
    rcases z with ⟨p, hp, z⟩ | ⟨k, hk, z⟩
    · rw [q] at z
      exact h1 p hp (Option.some.inj z)
    · rw [q] at z
      exact h2 k hk (Option.some.inj z)
  have kept : ∀ a x o, own a = some x → (∀ p ∈ lends σd 0 rs, x ≠ .inl p.2) → (∀ k, T.length ≤ k → x ≠ .inr k) → H a = some o → H2 a = some o ∧ F2 a = none ∧ own2 a = none := fun a x o q h1 h2 ha => by
    have nb := notB a x q h1 h2
    obtain ⟨k1, k2⟩ := R2.keep a o ha nb
    refine ⟨k1, k2 (R.owns a x q).1, ?_⟩
    cases z : own2 a with
    | none => rfl
    | some y =>
      rcases (R2.owns a y z).2.2 with z2 | z2
      · rw [show H a = none from z2] at ha
        cases ha
      · exact absurd z2 nb
  have noL : ∀ j, (lends σd 0 rs).find? (fun p => p.2 == j) = none → ∀ p ∈ lends σd 0 rs, (Sum.inl j : Sum Nat Nat) ≠ .inl p.2 := fun j q p hp e => by
    have := List.find?_eq_none.mp q p hp
    injection e with e
    simp [e] at this
  refine ⟨x2, R2.fh, R.f0.trans x2, fun j s q => ?_, fun k d v q => ?_, fun a x q => ?_, fun a o q nb => ?_, fun a q => R.mono a (R2.mono a q), ?_, R.pins⟩
  · -- slots
    rw [backC_get] at q
    cases zj : σd[j]? with
    | none => rw [zj] at q; cases q
    | some s0 =>
      rw [zj] at q
      have q := Option.some.inj q
      cases zf : (lends σd 0 rs).find? (fun p => p.2 == j) with
      | some p =>
        rw [zf] at q
        have hm := List.mem_of_find?_eq_some zf
        have e : (p.2 == j) = true := by simpa using List.find?_some zf
        have e : p.2 = j := by simpa using e
        obtain ⟨_, h1, h2⟩ := lends_mem (i := p.1) (j := p.2) hm
        obtain ⟨d0, a0, g1, g2, g3⟩ := isOw_slot R h2
        have q : (σd2[p.1]?).join = some s := q
        have q : σd2[p.1]? = some (some s) := by
          cases z : σd2[p.1]? with
          | none => rw [z] at q; cases q
          | some s' =>
            rw [z] at q
            rw [show s' = some s from q]
        have hpin : (ctxC F H own T.length (lends σd 0 rs) σ).pin p.1 = some a0 := by
          show pinC _ _ _ = _
          unfold pinC
          rw [find1 n1 (i := p.1) (j := p.2) hm]
          show (match σ[p.2]? with
            | some (some (.ref a)) => some a
            | _ => none) = _
          rw [g2]
        obtain ⟨v2, k1, k2⟩ := R2.slot p.1 s q
        rw [R2.pins _ _ hpin] at k1
        cases k1
        refine ⟨.ref a0, by rw [← e]; exact g2, ?_⟩
        cases s with
        | fz d => exact k2
        | ow d =>
          refine OwnAt.mono k2 (Evl.Ex.refl F2) fun a u pa ha => ⟨?_, ha⟩
          show ownR own own2 T.length _ rk a = _
          unfold ownR
          rw [pa]
          show (if rk = some (Sum.inl p.1) then _ else _) = _
          rw [if_neg (fun z => hk _ z p hm rfl)]
          show ((lends σd 0 rs).find? (fun q => q.1 == p.1)).map _ = _
          rw [find1 n1 (i := p.1) (j := p.2) hm, e]
          rfl
      | none =>
        rw [zf] at q
        have q : s0 = some s := q
        subst q
        obtain ⟨v, g1, g2⟩ := R.slot j s zj
        refine ⟨v, g1, ?_⟩
        cases s with
        | fz d => exact Rp.mono x2 g2
        | ow d =>
          refine OwnAt.mono g2 x2 fun a u pa ha => ?_
          obtain ⟨k1, k2, k3⟩ := kept a _ u pa (noL j zf) (fun k _ z => by cases z) ha
          refine ⟨?_, k1⟩
          show ownR own own2 T.length _ rk a = _
          unfold ownR
          rw [k3]
          show ownR0 own T.length (lends σd 0 rs) a = _
          unfold ownR0
          rw [pa]
          show (if ((lends σd 0 rs).find? (fun p => p.2 == j)).isSome then none else some (Sum.inl j)) = _
          rw [zf]
          rfl
  · -- temporaries
    by_cases hkl : k < T.length
    · rw [List.getElem?_append_left hkl] at q
      refine OwnAt.mono (R.tmp k d v (by rw [pushL_get hkl]; exact q)) x2 fun a u pa ha => ?_
      obtain ⟨k1, k2, k3⟩ := kept a _ u pa (fun p _ z => by cases z) (fun k' hk' z => by
        injection z with z
        omega) ha
      refine ⟨?_, k1⟩
      show ownR own own2 T.length _ rk a = _
      unfold ownR
      rw [k3]
      show ownR0 own T.length (lends σd 0 rs) a = _
      unfold ownR0
      rw [pa]
      show (if k < T.length then _ else _) = _
      rw [if_pos hkl]
    · rw [List.getElem?_append_right (by omega)] at q
      rcases hT with rfl | ⟨d', v', x, rfl, hx, ho⟩
      · simp at q
      · have e0 : k - T.length = 0 := by
          cases z : k - T.length with
          | zero => rfl
          | succ m => rw [z] at q; simp at q
        rw [e0] at q
        simp at q
        obtain ⟨rfl, rfl⟩ := q
        have ek : k = T.length := by omega
        subst ek
        refine OwnAt.mono ho (Evl.Ex.refl F2) fun a u pa ha => ⟨?_, ha⟩
        show ownR own own2 T.length _ rk a = _
        unfold ownR
        rw [pa]
        show (if rk = some x then _ else _) = _
        rw [if_pos hx]
  · -- what is owned
    have fromC : own2 a ≠ none → F2 a = none ∧ H2 a ≠ none ∧ (c.H0 a = none ∨ c.B a) := fun hn => by
      cases z : own2 a with
      | none => exact absurd z hn
      | some y =>
        obtain ⟨g1, g2, g3⟩ := R2.owns a y z
        refine ⟨g1, g2, ?_⟩
        rcases g3 with g3 | g3
        · exact .inl (R.mono a g3)
        · rcases g3 with ⟨p, _, g3⟩ | ⟨k, _, g3⟩
          · exact (R.owns a _ g3).2.2
          · exact (R.owns a _ g3).2.2
    cases z : own2 a with
    | some y => exact fromC (by rw [z]; exact fun z => nomatch z)
    | none =>
      have q : ownR0 own T.length (lends σd 0 rs) a = some x := by
        have q : ownR own own2 T.length (lends σd 0 rs) rk a = some x := q
        unfold ownR at q
        rw [z] at q
        exact q
      have fin : ∀ y, own a = some y → (∀ p ∈ lends σd 0 rs, y ≠ .inl p.2) → (∀ k, T.length ≤ k → y ≠ .inr k) → F2 a = none ∧ H2 a ≠ none ∧ (c.H0 a = none ∨ c.B a) := fun y hy h1 h2 => by
        obtain ⟨g1, g2, g3⟩ := R.owns a y hy
        cases zh : H a with
        | none => exact absurd zh g2
        | some o =>
          obtain ⟨k1, k2, k3⟩ := kept a y o hy h1 h2 zh
          exact ⟨k2, (by rw [k1]; exact fun z => nomatch z), g3⟩
      unfold ownR0 at q
      split at q
      · rename_i j hj
        split at q
        · cases q
        · rename_i hf
          refine fin _ hj (noL j (by
            cases zf : (lends σd 0 rs).find? (fun p => p.2 == j) with
            | none => rfl
            | some p => rw [zf] at hf; exact absurd rfl hf)) fun k _ z => by cases z
      · rename_i k hj
        split at q
        · rename_i hl
          exact fin _ hj (fun p _ z => by cases z) fun k' hk' z => by
            injection z with z
            omega
        · cases q
      · cases q
  · obtain ⟨g1, g2⟩ := R.keep a o q nb
    have nb2 : ¬ lentB own T.length (lends σd 0 rs) a := fun z => by
      have ow : c.H0 a = none ∨ c.B a := by
        rcases z with ⟨p, _, z⟩ | ⟨k, _, z⟩
        · exact (R.owns a _ z).2.2
        · exact (R.owns a _ z).2.2
      rcases ow with z | z
      · rw [z] at q
        cases q
      · exact nb z
    obtain ⟨g3, g4⟩ := R2.keep a o g1 nb2
    exact ⟨g3, fun z => g4 (g2 z)⟩
  · unfold backC
    rw [List.length_mapIdx]
    exact R.len
end
def PstF (K : Frag) (w : World) (c : Ctx) (F : Hp) (o : Out Fl) (Q : VK) (E : XK) : Prop := match o with
  | .ok .nx σd => ∀ σ own F' H', Ex F F' → Rel K w c own F' H' σd σ [] → Q .non H'
  | .ok (.rt r) σd => ∀ v σ own F' H', Ex F F' → Rel K w c own F' H' σd σ (push [] r v) → RsR K w F' σ r v → Q v H'
  | .exc x σd => ∀ σ own F' H' cls d, Ex F F' → Rel K w c own F' H' σd σ [] → XR K w F' x cls d → E cls d H'
  | _ => False
def spD (K : Frag) (w : World) (N : List Str) (np nP : Nat) (mf : M Fl) : Sp := fun vs H Q E => vs.length = nP ∧ ∃ (c : Ctx) (own : Own) (F : Hp) (σd : SD), Free np c ∧ Rel K w c own F H σd (L2.start N vs) [] ∧ PstF K w c F (mf σd) Q E
/-- a def's mirror is sound -/
def FnD (P : Program) (w : World) (K : Frag) (mg : Str → Option Value) (base : Heap) (k : Nat) (f : Addr) (fd : FuncData) (N ps : List Str) (np : Nat) (mf : M Fl) : Prop :=
  FnOk P w K mg base (L2.CX P w) k f fd ps (spD K w N np ps.length mf)
theorem pstF {X : Cx} {c : Ctx} {F : Hp} {o : Out Fl} {Q : VK} {E : XK} (h : PstF X.K X.w c F o Q E) : PstS X (fun cls d _ H => E cls d H) c [] F o { nx := fun _ H' => Q .non H', rt := Q } := by
  cases o with
  | ok f σd =>
    cases f with
    | nx => exact h
    | bk => exact h.elim
    | ct => exact h.elim
    | rt r => exact h
  | exc x σd => exact h
  | stuck => exact h
section
variable {P : Program} {w : World} {K : Frag} {mg : Str → Option Value} {base : Heap}
theorem okD {x qual : Str} {params : Arguments} {body : List Stmt} {scope : Scope} {dvs : List V} {kws : List (Str × V)} {f : Addr} {fd : FuncData} {N ps : List Str} {k np : Nat} {mf : M Fl} (Fn : FunD K x qual params body scope dvs kws f fd) (S : FnScope N ps scope)
    (hb : ∀ (cdv : Value) (A : Around) (outer : List Env) (s : Shared) (H : Hp) (E : XK), Room k (A.deeper (envOfC qual scope s.heap.objs.size f cdv)) →
      SB (cxOf (L2.CX P w) P w K mg base N qual scope f cdv A outer s H E) (fun cls d _ H => E cls d H) np body mf) : FnD P w K mg base (k + 1) f fd N ps np mf := by
  refine Fn.ok S (fun vs H Q E h => h.1) (fun cdv A outer s H vs Q E hr h => ?_)
  obtain ⟨hl, c, own, F, σd, fr, R, p⟩ := h
  refine ⟨_, pss_we, hb cdv A outer s H E hr c own F H σd (L2.start N vs) [] _ fr R ?_⟩
  exact pstF p
end
/-- a def that may be called by its name -/
structure Cal (P : Program) (w : World) (K : Frag) (mg : Str → Option Value) (base : Heap) (k : Nat) (x : Str) (np nP nN : Nat) (mf : M Fl) (dfl : List D) : Prop where
  ex : ∃ (f : Addr) (fd : FuncData) (N ps : List Str) (ds : List Value) (dvs : List V), FnD P w K mg base k f fd N ps np mf ∧ ps.length = nP ∧ N.length = nN ∧ mg x = some (.ref f) ∧ PySem.W.keepIn K (.ref f) = true ∧ Binds K fd ps ds ∧ Vals dvs ds ∧ ∀ F, RpL K w F dfl dvs
section
variable {X : Cx} {W : WX} {c : Ctx} {T : Tms} {σ : L2.St} {F F' H : Hp} {own : Own} {σd : SD} {e : Expr} {es : List Expr} {ms : M (List Rs)} {pos p : Pos}
/-- what a call's arguments lead to -/
theorem call_sp {N : List Str} {np nP nN : Nat} {mf : M Fl} {dfl : List D} {dvs : List V} {rs : List Rs} {vs : List V} {F1 : Hp} {Q : VK} (hN : N.length = nN) (hd : RpL X.K X.w F1 dfl dvs) (R : Rel X.K X.w c own F1 H σd σ (pushL T rs vs)) (h : RsL X.K X.w F1 σ rs vs)
    (p : Pst X W c T σ F1 (callD np nP nN mf dfl rs σd) Q) : spD X.K X.w N np nP mf (vs ++ dvs) H Q (WE W σ) := by
  unfold callD at p
  cases ea : argsOf np σd 0 rs with
  | none => rw [ea] at p; exact p.elim
  | some as =>
    rw [ea] at p
    simp only [runD] at p
    split at p
    · rename_i hc
      obtain ⟨h1, h2, n1, n2⟩ := hc
      have hl : as.length + dfl.length = nP := by
        rw [List.length_append, List.length_map] at h1
        exact h1
      obtain ⟨fr, Rc⟩ := R.enter (N := N) h ea hd hN (by omega) n1 n2
      refine ⟨?_, _, _, F1, _, fr, Rc, ?_⟩
      · rw [List.length_append, ← h.length, ← hd.length, ← argsOf_len ea, hl]
      · cases hm : mf (startD nN (as ++ dfl.map .fz)) with
        | stuck => rw [hm] at p; exact p.elim
        | exc x σ' =>
          rw [hm] at p
          intro σ2 own2 F2 H2 cls d x2 R2 xr
          obtain ⟨_, R3⟩ := R.leave (rk := none) (Tn := []) h n1 n2 R2 (fun i z => by cases z) (.inl rfl)
          rw [List.append_nil] at R3
          exact p _ F2 H2 cls d x2 R3 xr
        | ok f σ' =>
          rw [hm] at p
          cases f with
          | bk => exact p.elim
          | ct => exact p.elim
          | nx =>
            intro σ2 own2 F2 H2 x2 R2
            obtain ⟨_, R3⟩ := R.leave (rk := none) (Tn := []) h n1 n2 R2 (fun i z => by cases z) (.inl rfl)
            rw [List.append_nil] at R3
            exact p .non _ F2 H2 x2 R3 .non
          | rt r =>
            intro v σ2 own2 F2 H2 x2 R2 r2
            cases r with
            | fz d =>
              obtain ⟨_, R3⟩ := R.leave (rk := none) (Tn := []) h n1 n2 R2 (fun i z => by cases z) (.inl rfl)
              rw [List.append_nil] at R3
              exact p v _ F2 H2 x2 R3 r2
            | ow d =>
              obtain ⟨_, R3⟩ := R.leave (rk := some (.inr 0)) (Tn := [(d, v)]) h n1 n2 R2 (fun i z => by cases z) (.inr ⟨d, v, .inr 0, rfl, rfl, R2.tmp 0 d v (by simp [push])⟩)
              exact p v _ F2 H2 x2 R3 trivial
            | pk k =>
              simp only [retD] at p
              cases hk : σ'[k]? with
              | none => rw [hk] at p; exact p.elim
              | some s0 =>
                rw [hk] at p
                cases s0 with
                | none => exact p.elim
                | some s =>
                  obtain ⟨v', g1, g2⟩ := R2.slot k s hk
                  rw [show σ2[k]? = some (some v) from r2] at g1
                  cases g1
                  cases s with
                  | fz d =>
                    obtain ⟨_, R3⟩ := R.leave (rk := none) (Tn := []) h n1 n2 R2 (fun i z => by cases z) (.inl rfl)
                    rw [List.append_nil] at R3
                    exact p v _ F2 H2 x2 R3 g2
                  | ow d =>
                    simp only at p
                    split at p
                    · rename_i r2 hr2
                      split at hr2
                      · cases hr2
                      · rename_i hany
                        cases hr2
                        obtain ⟨_, R3⟩ := R.leave (rk := some (.inl k)) (Tn := [(d, v)]) h n1 n2 R2 (fun i z q hq e => by
                          cases z
                          exact hany (List.any_eq_true.mpr ⟨q, hq, by simp [e]⟩)) (.inr ⟨d, v, .inl k, rfl, rfl, g2⟩)
                        exact p v _ F2 H2 x2 R3 trivial
                    · exact p.elim
    · exact p.elim
theorem se_call {k j : Nat} {x : Str} {np nP nN : Nat} {mf : M Fl} {dfl : List D} (C : Cal X.prog X.w X.K X.mg X.base k x np nP nN mf dfl) (tk : Takes X W) (hr : Room j X.A) (hkj : k ≤ j) (hg : Gl X x) (ha : SA X W (e :: es) ms)
    (hdb : (x == ("__debug__" : Str)) = false := by decide) (he : starEach (e :: es) X.env = (false, eval e X.env) :: starEach es X.env := by rfl) (hpl : (backTo pos (starEach es X.env)).any (·.1) = false := by rfl) :
    SE X W (.Call (.Name x p) (e :: es) [] pos) (eCall np nP nN mf dfl ms) := by
  obtain ⟨f, fd, N, ps, ds, dvs, Fn, hps, hN, hm, hk, hb, hd, hdf⟩ := C.ex
  subst hps
  intro c own F H σd σ T Q R p
  refine (pe_callSD (E := WE W) Fn (hr.mono hkj) hg hm hk hb hd (passAt tk) pa_we hdb he hpl).we ?_
  show weA X (e :: es) σ H fun vs H1 => spD X.K X.w N np ps.length mf (vs ++ dvs) H1 Q (WE W σ)
  unfold eCall at p
  refine ha c own F H σd σ T _ R ?_
  cases hms : ms σd with
  | stuck => rw [hms] at p; exact p
  | exc x σ1 => rw [hms] at p; exact p
  | ok rs σ1 =>
    rw [hms, bind_ok] at p
    intro vs own1 F1 H1 x1 R1 r1
    exact call_sp hN (hdf F1) R1 r1 (p.ex x1)
end
end DL

namespace DL
open PySem PySem.Spec PyProof.Rows L2
def visB (sc : Scope) (x : Str) : Bool := match sc.names.lookup x with
  | some .local => true
  | some .cell => true
  | some .free => true
  | _ => false
theorem vis_by {sc : Scope} {x : Str} (h : visB sc x = true) : Vis sc x := by
  unfold visB at h
  unfold Vis
  split at h
  · exact .inl (by assumption)
  · exact .inr (.inl (by assumption))
  · exact .inr (.inr (by assumption))
  · cases h
def locB (sc : Scope) (x : Str) : Bool := match sc.names.lookup x with
  | some .local => true
  | some .cell => true
  | _ => false
theorem loc_by {sc : Scope} {x : Str} (h : locB sc x = true) : L2.Loc sc x := by
  unfold locB at h
  unfold L2.Loc
  split at h
  · exact .inl (by assumption)
  · exact .inr (by assumption)
  · cases h
theorem hu1 {k : Nat} {A : Around} (r : Room k A) : A.units + 1 < cLine := by have := r.un; omega
theorem hu64 {k : Nat} {A : Around} (r : Room k A) : A.units + 64 < cLine := by have := r.un; omega
theorem hu65 {k : Nat} {A : Around} (r : Room k A) : A.units + 65 < cLine := by have := r.un; omega
theorem takesF {X : Cx} : Takes X WF := fun _ _ x => by
  obtain ⟨_, _, _, _, _, _, _, _, _, _, _, _, _, _, _, _, z⟩ := x
  exact z.elim
/-- what a global name stands for -/
def GlD (K : Frag) (w : World) (mg : Str → Option Value) (x : Str) (d : D) : Prop := ∃ v u, mg x = some u ∧ RelV v u ∧ ∀ F, Rp K w F d v
theorem gl_int {K : Frag} {w : World} {mg : Str → Option Value} {x : Str} {i : Int} (h : ∃ t, mg x = some (.int i t)) : GlD K w mg x (.int i) := by
  obtain ⟨t, e⟩ := h
  exact ⟨.int i, _, e, ⟨t, rfl⟩, fun _ => .int i⟩
theorem gl_str {K : Frag} {w : World} {mg : Str → Option Value} {x z : Str} {s : List Nat} (h : ∃ t, mg x = some (.str z t)) (e : z = ⟨s.toArray⟩) : GlD K w mg x (.str s) := by
  obtain ⟨t, e1⟩ := h
  subst e
  exact ⟨.str ⟨s.toArray⟩, _, e1, ⟨t, rfl⟩, fun _ => .str s⟩
section
variable {X : Cx} {W : WX} {np : Nat} {c : Ctx} {T : Tms} {σ : L2.St} {F F' H : Hp} {own : Own} {σd : SD} {a b e : Expr} {ma mb m : M Rs} {pos : Pos}
theorem se_gl {x : Str} {d : D} (hg : Gl X x) (h : GlD X.K X.w X.mg x d) (hd : (x == ("__debug__" : Str)) = false := by decide) : SE X W (.Name x pos) (eC d) := by
  obtain ⟨v, u, hm, r, rp⟩ := h
  exact se_glob hg hm r rp hd
def keyEq : D → D → Bool
  | .int i, .int j => i == j
  | .str a, .str b => a == b
  | _, _ => false
def putD (kvs : List (D × D)) (k d : D) : List (D × D) := if kvs.any (fun p => keyEq p.1 k) then kvs.map (fun p => if keyEq p.1 k then (p.1, d) else p) else kvs ++ [(k, d)]
def dispL : List (D × M Rs) → List (D × D) → SD → Out (List (D × D))
  | [], acc, σ => .ok acc σ
  | (k, m) :: r, acc, σ => (m σ).bind fun rv σ1 => (frz rv σ1).bind fun d σ2 => dispL r (acc ++ [(k, d)]) σ2
/-- keys apart, as written -/
def keysOk : List D → Bool
  | [] => true
  | k :: ks => (match k with
    | .int _ => true
    | .str _ => true
    | _ => false) && !(ks.any fun j => keyEq k j) && keysOk ks
def eDisp (kvs : List (D × M Rs)) : M Rs := fun σ => if keysOk (kvs.map (·.1)) && decide (kvs.length ≤ 15) then (dispL kvs [] σ).bind fun l σ1 => .ok (.ow (.dic l)) σ1 else .stuck
def kD : D → Key
  | .int i => .inl i
  | .str s => .inr ⟨s.toArray⟩
  | _ => .inl 0
def trsOf (X : Cx) : List (Option Expr) → List Expr → List (TE × TE)
  | some k :: ks, v :: vs => (weE X k, weE X v) :: trsOf X ks vs
  | _, _ => []
inductive SPs (X : Cx) (W : WX) : List (Option Expr) → List Expr → List (D × M Rs) → Prop
  | nil : SPs X W [] [] []
  | cons {k v : Expr} {ks : List (Option Expr)} {vs : List Expr} {dk : D} {m : M Rs} {l : List (D × M Rs)} : SE X W k (eC dk) → SE X W v m → SPs X W ks vs l → SPs X W (some k :: ks) (v :: vs) ((dk, m) :: l)
theorem sps_pps : ∀ {ks : List (Option Expr)} {vs : List Expr} {l : List (D × M Rs)}, SPs X W ks vs l → PPs X pos ks vs (trsOf X ks vs)
  | _, _, _, .nil => pps_nil
  | _, _, _, .cons _ _ h => pps_cons pe_we pe_we (sps_pps h)
def isKey : D → Bool
  | .int _ => true
  | .str _ => true
  | _ => false
theorem key_val {K : Frag} {w : World} {F : Hp} {d : D} {v : V} (h : Rp K w F d v) (k : isKey d = true) : v = kV (kD d) := by
  cases d with
  | int i => cases h; rfl
  | str s => cases h; rfl
  | _ => cases k
theorem RpK.snoc {K : Frag} {w : World} {F : Hp} {dk d : D} {v : V} (hk : isKey dk = true) (r : Rp K w F d v) : ∀ {l : List (D × D)} {kk : List (Key × V)}, RpK K w F l kk → RpK K w F (l ++ [(dk, d)]) (kk ++ [(kD dk, v)])
  | _, _, .nil => by
    cases dk with
    | int i => exact .int r .nil
    | str s => exact .str r .nil
    | _ => cases hk
  | _, _, .int h hs => .int h (RpK.snoc hk r hs)
  | _, _, .str h hs => .str h (RpK.snoc hk r hs)
theorem disp_run {ks : List (Option Expr)} {vs : List Expr} {l : List (D × M Rs)} (h : SPs X W ks vs l) : ∀ {acc : List (D × D)} {ak : List (Key × V)} {own : Own} {F F0 H : Hp} {σd : SD} {T0 T : Tms} {Qp : List (V × V) → Hp → Prop} {f : List (D × D) → SD → Out Rs} {Q : VK},
    (∀ p ∈ l, isKey p.1 = true) → (∀ own F' H' σd', Rel X.K X.w c own F' H' σd' σ T → Rel X.K X.w c own F' H' σd' σ T0) → Rel X.K X.w c own F H σd σ T → Ex F0 F → RpK X.K X.w F acc ak → Pst X W c T0 σ F0 ((dispL l acc σd).bind f) Q →
    (∀ l' σd', Pst X W c T0 σ F0 (f l' σd') Q → ∀ own' F' H' (kk : List (Key × V)), Ex F0 F' → Rel X.K X.w c own' F' H' σd' σ T → RpK X.K X.w F' l' (ak ++ kk) → kk.map (·.1) = l.map (fun p => kD p.1) → Qp (kk.map fun kv => (kV kv.1, kv.2)) H') → tPairs (trsOf X ks vs) σ H Qp := by
  induction h with
  | nil =>
    intro acc ak own F F0 H σd T0 T Qp f Q hk hT R e0 ra p k
    exact k acc σd p own F H [] e0 R (by rw [List.append_nil]; exact ra) rfl
  | @cons ke ve ks vs dk m l hke hve hs ih =>
    intro acc ak own F F0 H σd T0 T Qp f Q hk hT R e0 ra p k
    show weE X ke σ H fun x H1 => weE X ve σ H1 fun y H2 => tPairs (trsOf X ks vs) σ H2 fun ps H3 => Qp ((x, y) :: ps) H3
    have hk0 := hk _ List.mem_cons_self
    refine hke c own F H σd σ T _ R ?_
    intro x own1 F1 H1 x1 R1 r1
    have ex : x = kV (kD dk) := key_val (show Rp X.K X.w F1 dk x from r1) hk0
    subst ex
    refine hve c own1 F1 H1 σd σ T _ R1 ?_
    unfold dispL at p
    cases hm : m σd with
    | stuck => rw [hm] at p; exact p
    | exc xx σ1 => rw [hm] at p; exact fun own' F' H' cls d e R' xr => p own' F' H' cls d ((e0.trans x1).trans e) (hT _ _ _ _ R') xr
    | ok r σ1 =>
      rw [hm] at p
      intro y own2 F2 H2 x2 R2 r2
      cases hz : frz r σ1 with
      | stuck => rw [bind_ok, hz] at p; exact p.elim
      | exc x σ2 => exact absurd hz frz_noexc
      | ok d σ2 =>
        rw [bind_ok, hz, bind_ok] at p
        obtain ⟨own3, F3, x3, R3, rp⟩ := frz_ok R2 r2 hz
        refine ih (fun q hq => hk q (List.mem_cons_of_mem _ hq)) hT R3 (((e0.trans x1).trans x2).trans x3) ((ra.mono ((x1.trans x2).trans x3)).snoc hk0 rp) p fun l' σd' p' own' F' H' kk e' R' rk hkk => ?_
        refine k l' σd' p' own' F' H' ((kD dk, y) :: kk) e' R' (by rw [List.append_assoc] at rk; exact rk) ?_
        rw [List.map_cons, List.map_cons, hkk]
theorem valV_none {ak : List (Key × V)} {k : Key} (h : k ∉ ak.map (·.1)) : valV ak k = none := by
  induction ak with
  | nil => rfl
  | cons p r ih =>
    rw [List.map_cons, List.mem_cons, not_or] at h
    obtain ⟨k0, v0⟩ := p
    rw [valV_neg (show k0 ≠ k from fun z => h.1 z.symm)]
    exact ih h.2
theorem mergeK_new : ∀ {kk ak : List (Key × V)}, (ak.map (·.1) ++ kk.map (·.1)).Nodup → mergeK ak kk = ak ++ kk
  | [], ak, _ => by rw [List.append_nil]; rfl
  | (k, v) :: r, ak, nd => by
    show mergeK (putK ak k v) r = _
    have h1 : k ∉ ak.map (·.1) := fun z => by
      rw [List.nodup_append] at nd
      exact nd.2.2 k z k (by simp) rfl
    rw [putK_new v (valV_none h1), mergeK_new (by simpa using nd)]
    simp
theorem keysOk_nodup : ∀ {ks : List D}, keysOk ks = true → (∀ k ∈ ks, isKey k = true) ∧ (ks.map kD).Nodup
  | [], _ => ⟨fun _ h => by simp at h, by simp⟩
  | k :: ks, h => by
    unfold keysOk at h
    rw [Bool.and_eq_true, Bool.and_eq_true, Bool.not_eq_true'] at h
    obtain ⟨⟨h1, h2⟩, h3⟩ := h
    obtain ⟨g1, g2⟩ := keysOk_nodup h3
    have hk : isKey k = true := by
      cases k <;> first | rfl | cases h1
    refine ⟨fun j hj => ?_, ?_⟩
    · rcases List.mem_cons.mp hj with rfl | hj
      · exact hk
      · exact g1 j hj
    · rw [List.map_cons, List.nodup_cons]
      refine ⟨fun z => ?_, g2⟩
      obtain ⟨j, hj, e⟩ := List.mem_map.mp z
      have hn : keyEq k j = false := by
        have := List.any_eq_false.mp h2 j hj
        simpa using this
      have hj1 := g1 j hj
      cases k with
      | int i => cases j with
        | int i' =>
          have e : (Sum.inl i' : Key) = .inl i := e
          injection e with e
          simp [keyEq, e] at hn
        | str s => cases e
        | _ => cases hj1
      | str s => cases j with
        | int i' => cases e
        | str s' =>
          have e : (Sum.inr ⟨s'.toArray⟩ : Key) = .inr ⟨s.toArray⟩ := e
          injection e with e
          injection e with e
          have e : s' = s := by simpa using e
          simp [keyEq, e] at hn
        | _ => cases hj1
      | _ => cases hk
theorem sps_len : ∀ {ks : List (Option Expr)} {vs : List Expr} {l : List (D × M Rs)}, SPs X W ks vs l → ks.length = vs.length ∧ ks.length = l.length ∧ ks.all (·.isSome) = true
  | _, _, _, .nil => ⟨rfl, rfl, rfl⟩
  | _, _, _, .cons _ _ h => by
    obtain ⟨h1, h2, h3⟩ := sps_len h
    refine ⟨by simp [h1], by simp [h2], by simpa using h3⟩
theorem se_disp {k : Option Expr} {ks : List (Option Expr)} {vs : List Expr} {l : List (D × M Rs)} (h : SPs X W (k :: ks) vs l) : SE X W (.Dict (k :: ks) vs pos) (eDisp l) := by
  intro c own F H σd σ T Q R p
  obtain ⟨h1, h2, h3⟩ := sps_len h
  unfold eDisp at p
  split at p
  · rename_i hc
    rw [Bool.and_eq_true, decide_eq_true_eq] at hc
    obtain ⟨g1, g2⟩ := keysOk_nodup hc.1
    refine (pe_disp (sps_pps h) h3 h1 (fun z => nomatch z) (by rw [h2]; exact hc.2)).we ?_
    intro pa hpa
    have R1 := R.newT (p := pa) (o := .dK []) (d := .dic []) hpa (.dic rfl upd_same .nil)
    refine disp_run (T0 := T) (T := T ++ [(.dic [], .ref pa)]) h (fun q hq => g1 q.1 (List.mem_map.mpr ⟨q, hq, rfl⟩)) (fun _ _ _ _ R' => R'.dropT) R1 (Evl.Ex.refl F) .nil p fun l' σd' p' own' F' H' kk e' R' rk hkk => ?_
    have ho := R'.tmp T.length (.dic []) (.ref pa) (by simp)
    have hh : own' pa = some (.inr T.length) ∧ H' pa = some (.dK []) := by
      cases ho with
      | dic q1 q2 q3 =>
        cases q3
        exact ⟨q1, q2⟩
    refine ⟨hh.2, kk, rfl, ?_, ?_⟩
    · have := congrArg List.length hkk
      rw [List.length_map, List.length_map] at this
      rw [this]
      exact hc.2
    · have nd : ((([] : List (Key × V)).map (·.1)) ++ kk.map (·.1)).Nodup := by
        rw [hkk]
        rw [List.map_map] at g2
        exact g2
      rw [mergeK_new nd]
      exact p' _ own' F' _ e' (R'.mutT (o := .dK ([] ++ kk)) (d' := .dic l') hh.1 (.dic rfl upd_same rk)) trivial
  · exact p.elim
end
theorem law_sp {K : Frag} {w : World} {N : List Str} {np : Nat} {mf : M Fl} {H : Hp} {a : Addr} {ns : List Int} {σ' : SD} (hN : 1 ≤ N.length) (hS : SqL K H a (ns.map V.int)) (h : mf (startD N.length [.fz (.scr ns)]) = .ok (.rt (.fz (.bl true))) σ') :
    spD K w N np 1 mf [.ref a] H (fun v _ => v = .bl true) fun _ _ _ => False := by
  refine ⟨rfl, ⟨H, H, fun _ => False, fun _ => none⟩, fun _ => none, H, startD N.length [.fz (.scr ns)], fun _ _ => rfl, ⟨Evl.Ex.refl H, Evl.Ex.refl H, fun i s q => ?_, fun k d v q => (by simp at q), fun a k q => (nomatch q), fun a o q _ => ⟨q, fun z => z⟩, fun a q => q, ?_, fun i a q => (nomatch q)⟩, ?_⟩
  · have q' := startD_get q
    cases i with
    | zero =>
      simp at q'
      subst q'
      exact ⟨.ref a, start_get (by rfl), Rp.scr hS⟩
    | succ i => simp at q'
  · rw [startD_len (by simpa using hN), start_len (by simpa using hN)]
  · rw [h]
    intro v σ own F' H' e R r
    have r : Rp K w F' (.bl true) v := r
    cases r
    rfl
theorem no_exc {P : Program} {w : World} {H : Hp} {s : Shared} {e : Value} {s' : Shared} (h : L2.CX P w [] H s (fun _ _ _ => False) e s') : False := by
  obtain ⟨_, _, _, _, _, _, _, _, _, _, _, _, z⟩ := h
  exact z
/-- walk_ofE where what may be let out hangs on the world -/
theorem walk_ofW {l : PySem.W.OpenLaw} {n k : Nat} {q : Program} {loose : List Str} {XP : (Str → Option Value) → Heap → Prop} {YP : World → Heap → Prop} {d : DefRec} {x : Str}
    (hn : l.most = some n) (hn2 : n ≤ sizeLine) (hdf : d.params.defaults = []) (hr : Room k callerA)
    (F : ∀ (w : World) (mg : Str → Option Value) (fa : Addr) (h : Heap), YP w h → h.Ns mainGlobals mg → mg d.name = some (.ref fa) →
      ∃ (K : PySem.W.Frag) (fd : FuncData) (sp : Sp), K.In h ∧ (∀ (s : Shared) (u : Value), BindsTo s fd ⟨[u], []⟩ [(x, u)]) ∧
        (∀ (H : Hp) (a : Addr) (ns : List Int), ns.length ≤ n → Only H → SqL K H a (ns.map V.int) → sp [.ref a] H (fun v _ => v = .bl true) fun _ _ _ => False) ∧
        ∀ base : Heap, K.In base → base.Ns mainGlobals mg → FnOk l.prog w K mg base (L2.CX l.prog w) k fa fd [x] sp) :
    PySem.W.WalkO q loose XP YP l.row.toRowW d [] (fun f vs => PySem.call f vs) := by
  refine Att.attach_call hn hdf fun w s₀ s₁ mg mb fa o pm cd doc a vs ns G Y ho hd hcd hmg hobj hints hlen hg => ?_
  obtain ⟨K, fd, sp, KX, hb, hsp, hF⟩ := F w mg fa _ Y G.T.g hmg
  exact law_call KX G.T.g G.T.b G.T.builtins G.T.nolimit hg hobj hints (Nat.le_trans hlen hn2) hr hF hb (fun H hO hS => hsp H a ns hlen hO hS) fun H e s' z => no_exc z
end DL

namespace DL
open PySem PySem.Spec PyProof.Rows L2
section
variable {X : Cx} {np : Nat} {pos : Pos}
theorem pg_or {tg : Expr} {t u : TG} (h : PG X tg t) (h' : PG X tg u) : PG X tg (fun v σ H Q => t v σ H Q ∨ u v σ H Q) := ⟨fun pins s σ H v w Q I r hw => hw.elim (fun q => h.run pins s σ H v w Q I r q) fun q => h'.run pins s σ H v w Q I r q⟩
def gSq (is : List Nat) (d : D) (σ : SD) : Out Unit := match d with
  | .tup ds => gNms is ds σ
  | .lst ds => gNms is ds σ
  | _ => .stuck
theorem gn_seq {es : List Expr} {kk : Nat} {is : List Nat} (hnp : ∀ i ∈ is, np ≤ i) (h : PG X (.Tuple es kk pos) (gTup X.K is.length (tNms is))) (h' : PG X (.Tuple es kk pos) (gLst X.K is.length (tNms is))) :
    PGn X np (.Tuple es kk pos) (fun v σ H Q => gTup X.K is.length (tNms is) v σ H Q ∨ gLst X.K is.length (tNms is) v σ H Q) is (gSq is) := by
  refine ⟨pg_or h h', fun c own F H σd σd' σ T d v Q fr R r e q => ?_, fun d σd x σd' e => ?_⟩
  · unfold gSq at e
    split at e
    · exact .inl ((gn_tup hnp h).ok c own F H σd σd' σ T _ v Q fr R r e q)
    · exact .inr ((gn_lst hnp h').ok c own F H σd σd' σ T _ v Q fr R r e q)
    · cases e
  · unfold gSq at e
    split at e
    · exact gNms_noexc e
    · exact gNms_noexc e
    · cases e
end
theorem b_len : bootBuiltins "len" = some (.builtin "len") := by decide +kernel
theorem b_abs : bootBuiltins "abs" = some (.builtin "abs") := by decide +kernel
theorem b_max : bootBuiltins "max" = some (.builtin "max") := by decide +kernel
theorem b_min : bootBuiltins "min" = some (.builtin "min") := by decide +kernel
theorem b_all : bootBuiltins "all" = some (.builtin "all") := by decide +kernel
theorem b_any : bootBuiltins "any" = some (.builtin "any") := by decide +kernel
theorem b_sum : bootBuiltins "sum" = some (.builtin "sum") := by decide +kernel
theorem b_isinstance : bootBuiltins "isinstance" = some (.builtin "isinstance") := by decide +kernel
theorem b_repr : bootBuiltins "repr" = some (.builtin "repr") := by decide +kernel
theorem b_int : bootBuiltins "int" = some (.type "int") := by decide +kernel
theorem b_tuple : bootBuiltins "tuple" = some (.type "tuple") := by decide +kernel
theorem b_list : bootBuiltins "list" = some (.type "list") := by decide +kernel
theorem b_str : bootBuiltins "str" = some (.type "str") := by decide +kernel
theorem b_bool : bootBuiltins "bool" = some (.type "bool") := by decide +kernel
theorem b_dict : bootBuiltins "dict" = some (.type "dict") := by decide +kernel
theorem b_set : bootBuiltins "set" = some (.type "set") := by decide +kernel
end DL

namespace W_k00
open PySem PySem.Spec PyProof.Rows L2 DL
def top (i : Nat) : Stmt := PySem.Challenge.pw_sidesigns_k00_rows_sign_by_sign.main.body.getD i (.Pass ⟨0, 0, 0, 0⟩)
def d_ZERO : D := (.str [48])
def d_TURNED : D := (.dcw [((.str [43]), (.str [45])), ((.str [45]), (.str [43])), ((.str [48]), (.str [48]))])
def d_MAX_THINGS : D := (.int 9)
def d_SIGNS : D := (.str [43, 45, 48])
def d_GREATEST : D := (.int 1000000000000000000000000000000000000000000000000000000000000)
def m__law_dice : M Fl := (bCons (sSet 2 (eIf (tB1 (e2 dLt (eVar 1) (eCB dLen (aCons (eVar 0) aNil)))) (eCB dInt (aCons (e2 dIx (eVar 0) (eVar 1)) aNil)) (e2 dAdd (e2 dMul (eC (.int 89)) (eVar 1)) (eC (.int 53))))) (bCons (sSet 3 (e2 dMod (eCB dMax2 (aCons (eC (.int 0)) (aCons (e2 dSub (eCB dAbs (aCons (eVar 2) aNil)) (e2 dPow (eC (.int 10)) (eC (.int 16)))) aNil))) (e2 dMul (e2 dPow (eC (.int 10)) (eC (.int 60))) (e2 dPow (eC (.int 10)) (eC (.int 60)))))) (sRet (eLst (aCons (eVar 3) (aCons (e2 dAdd (e2 dAdd (e2 dAdd (e2 dMul (e2 dMod (eCB dAbs (aCons (eVar 2) aNil)) (eC (.int 1152921504606846397))) (eC (.int 73))) (e2 dMul (eC (.int 811)) (eVar 1))) (e2 dMul (eC (.int 43)) (eCB dInt (aCons (e2 dLt (eVar 2) (eC (.int 0))) aNil)))) (eC (.int 19))) (aCons (eC (.int 0)) aNil)))))))
def m__law_flip : M Fl := (sRet (e2 dIx (eDisp [((.str [43]), (eC (.str [45]))), ((.str [45]), (eC (.str [43]))), ((.str [48]), (eC (.str [48])))]) (eVar 0)))
def m__law_apart : M Fl := (sRet (eLc (iEnum (aCons (eVar 0) aNil)) (gTp [2, 3]) (tAnd' (tB1 (e2 dNe (eVar 3) (eC (.str [48])))) (tB1 (e2 dEq (e2 dIx (eVar 1) (eVar 2)) (eCall 1 1 1 m__law_flip [] (aCons (eVar 3) aNil))))) (eVar 2) [2, 3]))
def m__law_roll : M Fl := (bCons (sIf (tB1 (e2 dGt (e2 dIx (eVar 0) (eC (.int 0))) (eC (.int 0)))) (bCons (sSet 2 (e2 dMod (eCB dInt (aCons (e2 dIx (eVar 0) (eC (.int 0))) aNil)) (eVar 1))) (bCons (sPut 0 (eC (.int 0)) (e2 dFdiv (e2 dIx (eVar 0) (eC (.int 0))) (eVar 1))) (sRet (eVar 2)))) bNil) (bCons (sPut 0 (eC (.int 2)) (e2 dAdd (e2 dIx (eVar 0) (eC (.int 2))) (eC (.int 1)))) (bCons (sSet 3 (e2 dMod (eCB dInt (aCons (e2 dAdd (e2 dIx (eVar 0) (eC (.int 1))) (e2 dMul (eC (.int 104395303)) (e2 dIx (eVar 0) (eC (.int 2))))) aNil)) (eC (.int 2305843009213693487)))) (bCons (sSet 4 (e2 dAdd (e2 dMul (e2 dMod (eCB dInt (aCons (e2 dAdd (e2 dMul (eVar 3) (eVar 3)) (e2 dMul (eC (.int 113)) (e2 dIx (eVar 0) (eC (.int 2))))) aNil)) (eC (.int 2305843009213693223))) (eC (.int 3497861))) (eVar 3))) (sRet (e2 dMod (eCB dInt (aCons (e2 dFdiv (eVar 4) (eC (.int 65536))) aNil)) (eVar 1)))))))
def m__law_drawn_things : M Fl := (sRet (eCB dTuple (aCons (eLc (iRng rng1 (aCons (eVar 1) aNil)) (gNm 2) (tB1 (e2 dEq (eCall 2 2 5 m__law_roll [] (aCons (eVar 0) (aCons (eC (.int 2)) aNil))) (eC (.int 0)))) (eVar 2) [2]) aNil)))
def m__law_laid : M Fl := (sRet (eJoin (eC (.str [])) (eLc (iZip (aCons (eVar 0) (aCons (eVar 1) aNil))) (gTp [2, 3]) tTrue (eIf (tB1 (e2 dEq (eVar 2) (eC (.str [48])))) (eVar 3) (eVar 2)) [2, 3])))
def m__law_upright : M Fl := (bCons (sSet 2 (eLc (iEnum (aCons (eVar 0) aNil)) (gTp [4, 5]) (tAnd' (tB1 (e2 dNe (eVar 5) (eC (.str [48])))) (tB1 (e2 dNe (e2 dIx (eVar 1) (eVar 4)) (eC (.str [48]))))) (eVar 4) [4, 5])) (bCons (sSet 3 (eCall 2 2 4 m__law_apart [] (aCons (eVar 0) (aCons (eVar 1) aNil)))) (sRet (eOr (e2 dEq (eVar 2) (eLst aNil)) (e3c dLt dLt (eC (.int 0)) (eCB dLen (aCons (eVar 3) aNil)) (eCB dLen (aCons (eVar 2) aNil)))))))
def m_apart_at : M Fl := (sRet (eCB dTuple (aCons (eLc (iEnum (aCons (eVar 0) aNil)) (gTp [2, 3]) (tAnd' (tB1 (e2 dNe (eVar 3) (eC d_ZERO))) (tB1 (e2 dEq (e2 dIx (eVar 1) (eVar 2)) (e2 dIx (eC d_TURNED) (eVar 3))))) (eVar 2) [2, 3]) aNil)))
def m_is_row : M Fl := (sRet (eAnd (eCB dIsi (aCons (eVar 0) (aCons (eC (.ty "str")) aNil))) (eAnd (e2 dEq (eCB dLen (aCons (eVar 0) aNil)) (eVar 1)) (eCB dAll (aCons (eLc (eIter (eVar 0)) (gNm 2) tTrue (e2 dIn (eVar 2) (eC d_SIGNS)) [2]) aNil)))))
def m_is_any_row : M Fl := (sRet (eAnd (eCB dIsi (aCons (eVar 0) (aCons (eC (.ty "str")) aNil))) (eAnd (e2 dLe (eCB dLen (aCons (eVar 0) aNil)) (eC d_MAX_THINGS)) (eCall 2 2 3 m_is_row [] (aCons (eVar 0) (aCons (eCB dLen (aCons (eVar 0) aNil)) aNil))))))
def m_require_any_row : M Fl := (sIf (tNot' (tTru (eCall 1 1 1 m_is_any_row [] (aCons (eVar 0) aNil)))) sNever bNil)
def m_require_row : M Fl := (sIf (tNot' (tTru (eCall 2 2 3 m_is_row [] (aCons (eVar 0) (aCons (eVar 1) aNil))))) sNever bNil)
def m_apart : M Fl := (bCons (sExpr (eCall 1 1 1 m_require_any_row [] (aCons (eVar 0) aNil))) (bCons (sExpr (eCall 2 2 2 m_require_row [] (aCons (eVar 1) (aCons (eCB dLen (aCons (eVar 0) aNil)) aNil)))) (sRet (eCall 2 2 4 m_apart_at [] (aCons (eVar 0) (aCons (eVar 1) aNil))))))
def m_are_upright : M Fl := (bCons (sSet 2 (eLc (iZip (aCons (eVar 0) (aCons (eVar 1) aNil))) (gTp [3, 4]) (tAnd' (tB1 (e2 dNe (eVar 3) (eC d_ZERO))) (tB1 (e2 dNe (eVar 4) (eC d_ZERO)))) (e2 dEq (eVar 3) (eVar 4)) [3, 4])) (sRet (eOr (e2 dEq (eVar 2) (eLst aNil)) (eAnd (e2 dIn (eC (.bl true)) (eVar 2)) (e2 dIn (eC (.bl false)) (eVar 2))))))
def m_is_upright : M Fl := (bCons (sExpr (eCall 1 1 1 m_require_any_row [] (aCons (eVar 0) aNil))) (bCons (sExpr (eCall 2 2 2 m_require_row [] (aCons (eVar 1) (aCons (eCB dLen (aCons (eVar 0) aNil)) aNil)))) (sRet (eCall 2 2 5 m_are_upright [] (aCons (eVar 0) (aCons (eVar 1) aNil))))))
def m_laid : M Fl := (sRet (eJoin (eC (.str [])) (eLc (iZip (aCons (eVar 0) (aCons (eVar 1) aNil))) (gTp [2, 3]) tTrue (eIf (tB1 (e2 dEq (eVar 2) (eC d_ZERO))) (eVar 3) (eVar 2)) [2, 3])))
def m_laid_over : M Fl := (bCons (sExpr (eCall 1 1 1 m_require_any_row [] (aCons (eVar 0) aNil))) (bCons (sExpr (eCall 2 2 2 m_require_row [] (aCons (eVar 1) (aCons (eCB dLen (aCons (eVar 0) aNil)) aNil)))) (sRet (eCall 2 2 4 m_laid [] (aCons (eVar 0) (aCons (eVar 1) aNil))))))
def m_are_ascending : M Fl := (sRet (eCB dAll (aCons (eLc (iZip (aCons (eVar 0) (aCons (eSl dSl (eVar 0) (pSo (eC (.int 1))) pNo) aNil))) (gTp [1, 2]) tTrue (e2 dLt (eVar 1) (eVar 2)) [1, 2]) aNil)))
def m_is_integer : M Fl := (sRet (eAnd (eCB dIsi (aCons (eVar 0) (aCons (eC (.ty "int")) aNil))) (eAnd (eNot (eCB dIsi (aCons (eVar 0) (aCons (eC (.ty "bool")) aNil)))) (e3c dLt dLt (e1 dNeg (eC d_GREATEST)) (eVar 0) (eC d_GREATEST)))))
def m_is_from : M Fl := (sRet (eAnd (eCall 1 1 1 m_is_integer [] (aCons (eVar 0) aNil)) (e3c dLe dLe (eVar 1) (eVar 0) (eVar 2))))
def m_is_thing : M Fl := (sRet (eCall 3 3 3 m_is_from [] (aCons (eVar 0) (aCons (eC (.int 0)) (aCons (e2 dSub (eVar 1) (eC (.int 1))) aNil)))))
def m_is_things : M Fl := (bCons (sIf (tOr' (tNot' (tTru (eCB dIsi (aCons (eVar 0) (aCons (eC (.ty "tuple")) aNil))))) (tNot' (tTru (eCB dAll (aCons (eLc (eIter (eVar 0)) (gNm 2) tTrue (eCall 2 2 2 m_is_thing [] (aCons (eVar 2) (aCons (eVar 1) aNil))) [2]) aNil))))) (sRet (eC (.bl false))) bNil) (sRet (eCall 1 1 3 m_are_ascending [] (aCons (eVar 0) aNil))))
def m_require_things : M Fl := (sIf (tNot' (tTru (eCall 2 2 3 m_is_things [] (aCons (eVar 0) (aCons (eVar 1) aNil))))) sNever bNil)
def m_turned_row : M Fl := (sRet (eJoin (eC (.str [])) (eLc (eIter (eVar 0)) (gNm 1) tTrue (e2 dIx (eC d_TURNED) (eVar 1)) [1])))
def m_turned_row_at : M Fl := (sRet (eJoin (eC (.str [])) (eLc (iEnum (aCons (eVar 0) aNil)) (gTp [2, 3]) tTrue (eIf (tB1 (e2 dIn (eVar 2) (eVar 1))) (e2 dIx (eC d_TURNED) (eVar 3)) (eVar 3)) [2, 3])))
def m_turned : M Fl := (bCons (sExpr (eCall 1 1 1 m_require_any_row [] (aCons (eVar 0) aNil))) (bCons (sIf (tB1 (e2 dIsN (eVar 1) (eC .non))) (sRet (eCall 1 1 2 m_turned_row [] (aCons (eVar 0) aNil))) bNil) (bCons (sExpr (eCall 2 2 2 m_require_things [] (aCons (eVar 1) (aCons (eCB dLen (aCons (eVar 0) aNil)) aNil)))) (sRet (eCall 2 2 4 m_turned_row_at [] (aCons (eVar 0) (aCons (eVar 1) aNil)))))))
def m__law_are_two_right : M Fl := (bCons (sSet 3 (eCall 2 2 3 m__law_drawn_things [] (aCons (eVar 0) (aCons (eCB dLen (aCons (eVar 1) aNil)) aNil)))) (bCons (sIf (tOr' (tB1 (e2 dNe (eCall 2 2 2 m_apart [] (aCons (eVar 1) (aCons (eVar 2) aNil))) (eCB dTuple (aCons (eCall 2 2 4 m__law_apart [] (aCons (eVar 1) (aCons (eVar 2) aNil))) aNil)))) (tB1 (e2 dNe (eCall 2 2 2 m_laid_over [] (aCons (eVar 1) (aCons (eVar 2) aNil))) (eCall 2 2 4 m__law_laid [] (aCons (eVar 1) (aCons (eVar 2) aNil)))))) (sRet (eC (.bl false))) bNil) (bCons (sIf (tOr' (tB1 (e2 dNe (eCB dRepr (aCons (eCall 2 2 2 m_is_upright [] (aCons (eVar 1) (aCons (eVar 2) aNil))) aNil)) (eCB dRepr (aCons (eCall 2 2 6 m__law_upright [] (aCons (eVar 1) (aCons (eVar 2) aNil))) aNil)))) (tB1 (e2 dNe (eCall 2 2 2 m_is_upright [] (aCons (eVar 1) (aCons (eVar 2) aNil))) (eCall 2 2 2 m_is_upright [] (aCons (eVar 2) (aCons (eVar 1) aNil)))))) (sRet (eC (.bl false))) bNil) (bCons (sIf (tB1 (e2 dNe (e2 dEq (eCall 2 2 2 m_laid_over [] (aCons (eVar 1) (aCons (eVar 2) aNil))) (eCall 2 2 2 m_laid_over [] (aCons (eVar 2) (aCons (eVar 1) aNil)))) (e2 dEq (eCall 2 2 2 m_apart [] (aCons (eVar 1) (aCons (eVar 2) aNil))) (eTup aNil)))) (sRet (eC (.bl false))) bNil) (bCons (sPar 4 5 (eCall 2 2 2 m_turned [] (aCons (eVar 1) (aCons (eVar 3) aNil))) (eCall 2 2 2 m_turned [] (aCons (eVar 2) (aCons (eVar 3) aNil)))) (sRet (eAnd (e2 dEq (eCall 2 2 2 m_is_upright [] (aCons (eVar 4) (aCons (eVar 5) aNil))) (eCall 2 2 2 m_is_upright [] (aCons (eVar 1) (aCons (eVar 2) aNil)))) (e2 dEq (eCall 2 2 2 m_apart [] (aCons (eVar 4) (aCons (eVar 5) aNil))) (eCall 2 2 2 m_apart [] (aCons (eVar 1) (aCons (eVar 2) aNil)))))))))))
def m__law_pick : M Fl := (sRet (e2 dIx (eVar 1) (eCall 2 2 5 m__law_roll [] (aCons (eVar 0) (aCons (eCB dLen (aCons (eVar 1) aNil)) aNil)))))
def m__law_drawn_row : M Fl := (sRet (eJoin (eC (.str [])) (eLc (iRng rng1 (aCons (eVar 1) aNil)) (gNm 2) tTrue (eCall 2 2 2 m__law_pick [] (aCons (eVar 0) (aCons (eC (.str [43, 45, 48])) aNil))) [2])))
def m__law_held : M Fl := (sRet (eCB dTuple (aCons (eLc (iEnum (aCons (eVar 0) aNil)) (gTp [1, 2]) (tB1 (e2 dNe (eVar 2) (eC (.str [48])))) (eVar 1) [1, 2]) aNil)))
def m__law_turn : M Fl := (sRet (eJoin (eC (.str [])) (eLc (eIter (eVar 0)) (gNm 1) tTrue (eCall 1 1 1 m__law_flip [] (aCons (eVar 1) aNil)) [1])))
def m__law_turn_at : M Fl := (sRet (eJoin (eC (.str [])) (eLc (iEnum (aCons (eVar 0) aNil)) (gTp [2, 3]) tTrue (eIf (tB1 (e2 dIn (eVar 2) (eVar 1))) (eCall 1 1 1 m__law_flip [] (aCons (eVar 3) aNil)) (eVar 3)) [2, 3])))
def m_signs_at : M Fl := (bCons (sExpr (eCall 1 1 1 m_require_any_row [] (aCons (eVar 0) aNil))) (bCons (sExpr (eCall 2 2 2 m_require_things [] (aCons (eVar 1) (aCons (eCB dLen (aCons (eVar 0) aNil)) aNil)))) (sRet (eJoin (eC (.str [])) (eLc (eIter (eVar 1)) (gNm 2) tTrue (e2 dIx (eVar 0) (eVar 2)) [2])))))
def m_spread : M Fl := (bCons (sExpr (eCall 1 1 1 m_require_any_row [] (aCons (eVar 0) aNil))) (bCons (sIf (tOr' (tNot' (tTru (eCall 2 2 3 m_is_things [] (aCons (eVar 1) (aCons (eC d_MAX_THINGS) aNil))))) (tB1 (e2 dNe (eCB dLen (aCons (eVar 1) aNil)) (eCB dLen (aCons (eVar 0) aNil))))) sNever bNil) (bCons (sIf (tOr' (tNot' (tTru (eCall 3 3 3 m_is_from [] (aCons (eVar 2) (aCons (eC (.int 0)) (aCons (eC d_MAX_THINGS) aNil)))))) (tAnd' (tB1 (e2 dNe (eVar 1) (eTup aNil))) (tB1 (e2 dGe (e2 dIx (eVar 1) (e1 dNeg (eC (.int 1)))) (eVar 2))))) sNever bNil) (bCons (sSet 3 (eLc (iRng rng1 (aCons (eVar 2) aNil)) (gNm 4) tTrue (eC d_ZERO) [4])) (bCons (sFor (iZip (aCons (eVar 1) (aCons (eVar 0) aNil))) (gTp [4, 5]) (sPut 3 (eVar 4) (eVar 5))) (sRet (eJoin (eC (.str [])) (eVar 3))))))))
def m_held : M Fl := (sRet (eCB dTuple (aCons (eLc (iEnum (aCons (eVar 0) aNil)) (gTp [1, 2]) (tB1 (e2 dNe (eVar 2) (eC d_ZERO))) (eVar 1) [1, 2]) aNil)))
def m_things_of : M Fl := (bCons (sExpr (eCall 1 1 1 m_require_any_row [] (aCons (eVar 0) aNil))) (sRet (eCall 1 1 3 m_held [] (aCons (eVar 0) aNil))))
def m_zeros_of : M Fl := (bCons (sExpr (eCall 1 1 1 m_require_any_row [] (aCons (eVar 0) aNil))) (sRet (eCB dTuple (aCons (eLc (iEnum (aCons (eVar 0) aNil)) (gTp [1, 2]) (tB1 (e2 dEq (eVar 2) (eC d_ZERO))) (eVar 1) [1, 2]) aNil))))
def m__law_is_row_right : M Fl := (bCons (sAsg (gSq [2, 3]) (eTup (aCons (eCB dLen (aCons (eVar 1) aNil)) (aCons (eCall 2 2 3 m__law_drawn_things [] (aCons (eVar 0) (aCons (eCB dLen (aCons (eVar 1) aNil)) aNil))) aNil)))) (bCons (sIf (tOr' (tB1 (e2 dNe (eCall 1 1 1 m_things_of [] (aCons (eVar 1) aNil)) (eCall 1 1 3 m__law_held [] (aCons (eVar 1) aNil)))) (tB1 (e2 dNe (eCall 1 1 3 m_zeros_of [] (aCons (eVar 1) aNil)) (eCB dTuple (aCons (eLc (iRng rng1 (aCons (eVar 2) aNil)) (gNm 7) (tB1 (e2 dEq (e2 dIx (eVar 1) (eVar 7)) (eC (.str [48])))) (eVar 7) [7]) aNil))))) (sRet (eC (.bl false))) bNil) (bCons (sIf (tOr' (tB1 (e2 dNe (eCall 2 2 2 m_turned [.non] (aCons (eVar 1) aNil)) (eCall 1 1 2 m__law_turn [] (aCons (eVar 1) aNil)))) (tOr' (tB1 (e2 dNe (eCall 2 2 2 m_turned [] (aCons (eVar 1) (aCons (eVar 3) aNil))) (eCall 2 2 4 m__law_turn_at [] (aCons (eVar 1) (aCons (eVar 3) aNil))))) (tB1 (e2 dNe (eCall 2 2 2 m_turned [] (aCons (eVar 1) (aCons (eTup aNil) aNil))) (eVar 1))))) (sRet (eC (.bl false))) bNil) (bCons (sSet 4 (eCall 2 2 3 m_signs_at [] (aCons (eVar 1) (aCons (eVar 3) aNil)))) (bCons (sIf (tOr' (tB1 (e2 dNe (eVar 4) (eJoin (eC (.str [])) (eLc (eIter (eVar 3)) (gNm 8) tTrue (e2 dIx (eVar 1) (eVar 8)) [8])))) (tB1 (e2 dNe (eCall 2 2 2 m_laid_over [] (aCons (eVar 1) (aCons (eVar 1) aNil))) (eVar 1)))) (sRet (eC (.bl false))) bNil) (bCons (sSet 5 (e2 dAdd (eVar 2) (eCall 2 2 5 m__law_roll [] (aCons (eVar 0) (aCons (e2 dSub (eC (.int 10)) (eVar 2)) aNil))))) (bCons (sSet 6 (e2 dAdd (eJoin (eC (.str [])) (eLc (iRng rng1 (aCons (eVar 2) aNil)) (gNm 8) tTrue (eIf (tB1 (e2 dIn (eVar 8) (eVar 3))) (e2 dIx (eVar 1) (eVar 8)) (eC (.str [48]))) [8])) (e2 dMul (eC (.str [48])) (e2 dSub (eVar 5) (eVar 2))))) (sRet (eAnd (e2 dEq (eCall 3 3 6 m_spread [] (aCons (eVar 4) (aCons (eVar 3) (aCons (eVar 5) aNil)))) (eVar 6)) (e2 dEq (eCall 2 2 2 m_turned [] (aCons (eCall 2 2 2 m_turned [] (aCons (eVar 1) (aCons (eVar 3) aNil))) (aCons (eVar 3) aNil))) (eVar 1)))))))))))
def m__law_right : M Fl := (bCons (sSet 1 (eCall 2 2 5 m__law_roll [] (aCons (eVar 0) (aCons (eC (.int 10)) aNil)))) (bCons (sAsg (gSq [2, 3, 4]) (eLc (iRng rng1 (aCons (eC (.int 3)) aNil)) (gNm 7) tTrue (eCall 2 2 3 m__law_drawn_row [] (aCons (eVar 0) (aCons (eVar 1) aNil))) [7])) (bCons (sSet 5 (eCall 2 2 4 m__law_turn_at [] (aCons (eVar 2) (aCons (eCall 2 2 3 m__law_drawn_things [] (aCons (eVar 0) (aCons (eVar 1) aNil))) aNil)))) (bCons (sIf (tNot' (tTru (eCB dAll (aCons (eLc (eIter (eTup (aCons (eVar 2) (aCons (eVar 3) (aCons (eVar 5) aNil))))) (gNm 9) tTrue (eCall 2 2 9 m__law_is_row_right [] (aCons (eVar 0) (aCons (eVar 9) aNil))) [9]) aNil)))) (sRet (eC (.bl false))) bNil) (bCons (sIf (tB1 (e2 dNe (eCall 2 2 2 m_laid_over [] (aCons (eCall 2 2 2 m_laid_over [] (aCons (eVar 2) (aCons (eVar 3) aNil))) (aCons (eVar 4) aNil))) (eCall 2 2 2 m_laid_over [] (aCons (eVar 2) (aCons (eCall 2 2 2 m_laid_over [] (aCons (eVar 3) (aCons (eVar 4) aNil))) aNil))))) (sRet (eC (.bl false))) bNil) (bCons (sSet 6 (eLst (aCons (eTup (aCons (eVar 2) (aCons (eVar 3) aNil))) (aCons (eTup (aCons (eVar 3) (aCons (eVar 4) aNil))) (aCons (eTup (aCons (eVar 2) (aCons (eVar 5) aNil))) (aCons (eTup (aCons (eVar 2) (aCons (eCall 1 1 2 m__law_turn [] (aCons (eVar 2) aNil)) aNil))) (aCons (eTup (aCons (eVar 2) (aCons (eVar 2) aNil))) (aCons (eTup (aCons (eVar 2) (aCons (e2 dMul (eC (.str [48])) (eVar 1)) aNil))) aNil)))))))) (sRet (eCB dAll (aCons (eLc (eIter (eVar 6)) (gNm 8) tTrue (eCall 3 3 6 m__law_are_two_right [] (aCons (eVar 0) (aCons (e2 dIx (eVar 8) (eC (.int 0))) (aCons (e2 dIx (eVar 8) (eC (.int 1))) aNil)))) [8]) aNil)))))))))
def m_law : M Fl := (bCons (sFor (iRng rng1 (aCons (eCB dMax2 (aCons (eC (.int 1)) (aCons (eCB dMin2 (aCons (eC (.int 5)) (aCons (eCB dLen (aCons (eVar 0) aNil)) aNil))) aNil))) aNil)) (gNm 1) (sIf (tNot' (tTru (eCall 1 1 10 m__law_right [] (aCons (eCall 2 2 4 m__law_dice [] (aCons (eVar 0) (aCons (eVar 1) aNil))) aNil)))) (sRet (eC (.bl false))) bNil)) (bCons (sSet 2 (eLst (aCons (eCall 2 2 2 m_turned [.non] (aCons (eC (.str [43, 45, 48])) aNil)) (aCons (eCall 2 2 2 m_turned [] (aCons (eC (.str [43, 45, 48])) (aCons (eTup (aCons (eC (.int 1)) (aCons (eC (.int 2)) aNil))) aNil))) (aCons (eCall 2 2 2 m_laid_over [] (aCons (eC (.str [43, 48, 45, 48])) (aCons (eC (.str [45, 45, 43, 48])) aNil))) (aCons (eCall 2 2 2 m_laid_over [] (aCons (eC (.str [])) (aCons (eC (.str [])) aNil))) (aCons (eCall 2 2 2 m_apart [] (aCons (eC (.str [43, 48, 45, 48])) (aCons (eC (.str [45, 45, 43, 48])) aNil))) aNil))))))) (bCons (sIf (tB1 (e2 dNe (eVar 2) (eLst (aCons (eC (.str [45, 43, 48])) (aCons (eC (.str [43, 43, 48])) (aCons (eC (.str [43, 45, 45, 48])) (aCons (eC (.str [])) (aCons (eTup (aCons (eC (.int 0)) (aCons (eC (.int 2)) aNil))) aNil)))))))) (sRet (eC (.bl false))) bNil) (bCons (sSet 3 (eTup (aCons (eTup (aCons (eC (.str [43, 48])) (aCons (eC (.str [48, 43])) aNil))) (aCons (eTup (aCons (eC (.str [43, 43, 48])) (aCons (eC (.str [43, 45, 43])) aNil))) (aCons (eTup (aCons (eC (.str [43, 43])) (aCons (eC (.str [43, 43])) aNil))) (aCons (eTup (aCons (eC (.str [43, 48])) (aCons (eC (.str [45, 43])) aNil))) (aCons (eTup (aCons (eC (.str [48, 48])) (aCons (eC (.str [43, 45])) aNil))) (aCons (eTup (aCons (eC (.str [])) (aCons (eC (.str [])) aNil))) aNil)))))))) (sRet (e2 dEq (eLc (eIter (eVar 3)) (gTp [4, 5]) tTrue (eCall 2 2 2 m_is_upright [] (aCons (eVar 4) (aCons (eVar 5) aNil))) [4, 5]) (eLst (aCons (eC (.bl true)) (aCons (eC (.bl true)) (aCons (eC (.bl false)) (aCons (eC (.bl false)) (aCons (eC (.bl true)) (aCons (eC (.bl true)) aNil)))))))))))))
structure Gs (w : World) (K : PySem.W.Frag) (mg : Str → Option Value) : Prop where
  z_abs : mg "abs" = none
  z_all : mg "all" = none
  z_bool : mg "bool" = none
  z_enumerate : mg "enumerate" = none
  z_int : mg "int" = none
  z_isinstance : mg "isinstance" = none
  z_len : mg "len" = none
  z_max : mg "max" = none
  z_min : mg "min" = none
  z_range : mg "range" = none
  z_repr : mg "repr" = none
  z_str : mg "str" = none
  z_tuple : mg "tuple" = none
  z_zip : mg "zip" = none
  c_ZERO : GlD K w mg "ZERO" d_ZERO
  c_TURNED : GlD K w mg "TURNED" d_TURNED
  c_MAX_THINGS : GlD K w mg "MAX_THINGS" d_MAX_THINGS
  c_SIGNS : GlD K w mg "SIGNS" d_SIGNS
  c_GREATEST : GlD K w mg "GREATEST" d_GREATEST
  f__law_dice : ∃ f fd, FunD K "_law_dice" "_law_dice" (defArgs (top 37)) (defBody (top 37)) (defScope (top 37)) [] [] f fd ∧ mg "_law_dice" = some (.ref f)
  f__law_flip : ∃ f fd, FunD K "_law_flip" "_law_flip" (defArgs (top 40)) (defBody (top 40)) (defScope (top 40)) [] [] f fd ∧ mg "_law_flip" = some (.ref f)
  f__law_apart : ∃ f fd, FunD K "_law_apart" "_law_apart" (defArgs (top 44)) (defBody (top 44)) (defScope (top 44)) [] [] f fd ∧ mg "_law_apart" = some (.ref f)
  f__law_roll : ∃ f fd, FunD K "_law_roll" "_law_roll" (defArgs (top 38)) (defBody (top 38)) (defScope (top 38)) [] [] f fd ∧ mg "_law_roll" = some (.ref f)
  f__law_drawn_things : ∃ f fd, FunD K "_law_drawn_things" "_law_drawn_things" (defArgs (top 48)) (defBody (top 48)) (defScope (top 48)) [] [] f fd ∧ mg "_law_drawn_things" = some (.ref f)
  f__law_laid : ∃ f fd, FunD K "_law_laid" "_law_laid" (defArgs (top 43)) (defBody (top 43)) (defScope (top 43)) [] [] f fd ∧ mg "_law_laid" = some (.ref f)
  f__law_upright : ∃ f fd, FunD K "_law_upright" "_law_upright" (defArgs (top 45)) (defBody (top 45)) (defScope (top 45)) [] [] f fd ∧ mg "_law_upright" = some (.ref f)
  f_apart_at : ∃ f fd, FunD K "apart_at" "apart_at" (defArgs (top 25)) (defBody (top 25)) (defScope (top 25)) [] [] f fd ∧ mg "apart_at" = some (.ref f)
  f_is_row : ∃ f fd, FunD K "is_row" "is_row" (defArgs (top 17)) (defBody (top 17)) (defScope (top 17)) [] [] f fd ∧ mg "is_row" = some (.ref f)
  f_is_any_row : ∃ f fd, FunD K "is_any_row" "is_any_row" (defArgs (top 18)) (defBody (top 18)) (defScope (top 18)) [] [] f fd ∧ mg "is_any_row" = some (.ref f)
  f_require_any_row : ∃ f fd, FunD K "require_any_row" "require_any_row" (defArgs (top 20)) (defBody (top 20)) (defScope (top 20)) [] [] f fd ∧ mg "require_any_row" = some (.ref f)
  f_require_row : ∃ f fd, FunD K "require_row" "require_row" (defArgs (top 19)) (defBody (top 19)) (defScope (top 19)) [] [] f fd ∧ mg "require_row" = some (.ref f)
  f_apart : ∃ f fd, FunD K "apart" "apart" (defArgs (top 30)) (defBody (top 30)) (defScope (top 30)) [] [] f fd ∧ mg "apart" = some (.ref f)
  f_are_upright : ∃ f fd, FunD K "are_upright" "are_upright" (defArgs (top 26)) (defBody (top 26)) (defScope (top 26)) [] [] f fd ∧ mg "are_upright" = some (.ref f)
  f_is_upright : ∃ f fd, FunD K "is_upright" "is_upright" (defArgs (top 31)) (defBody (top 31)) (defScope (top 31)) [] [] f fd ∧ mg "is_upright" = some (.ref f)
  f_laid : ∃ f fd, FunD K "laid" "laid" (defArgs (top 24)) (defBody (top 24)) (defScope (top 24)) [] [] f fd ∧ mg "laid" = some (.ref f)
  f_laid_over : ∃ f fd, FunD K "laid_over" "laid_over" (defArgs (top 29)) (defBody (top 29)) (defScope (top 29)) [] [] f fd ∧ mg "laid_over" = some (.ref f)
  f_are_ascending : ∃ f fd, FunD K "are_ascending" "are_ascending" (defArgs (top 5)) (defBody (top 5)) (defScope (top 5)) [] [] f fd ∧ mg "are_ascending" = some (.ref f)
  f_is_integer : ∃ f fd, FunD K "is_integer" "is_integer" (defArgs (top 2)) (defBody (top 2)) (defScope (top 2)) [] [] f fd ∧ mg "is_integer" = some (.ref f)
  f_is_from : ∃ f fd, FunD K "is_from" "is_from" (defArgs (top 3)) (defBody (top 3)) (defScope (top 3)) [] [] f fd ∧ mg "is_from" = some (.ref f)
  f_is_thing : ∃ f fd, FunD K "is_thing" "is_thing" (defArgs (top 4)) (defBody (top 4)) (defScope (top 4)) [] [] f fd ∧ mg "is_thing" = some (.ref f)
  f_is_things : ∃ f fd, FunD K "is_things" "is_things" (defArgs (top 6)) (defBody (top 6)) (defScope (top 6)) [] [] f fd ∧ mg "is_things" = some (.ref f)
  f_require_things : ∃ f fd, FunD K "require_things" "require_things" (defArgs (top 21)) (defBody (top 21)) (defScope (top 21)) [] [] f fd ∧ mg "require_things" = some (.ref f)
  f_turned_row : ∃ f fd, FunD K "turned_row" "turned_row" (defArgs (top 22)) (defBody (top 22)) (defScope (top 22)) [] [] f fd ∧ mg "turned_row" = some (.ref f)
  f_turned_row_at : ∃ f fd, FunD K "turned_row_at" "turned_row_at" (defArgs (top 23)) (defBody (top 23)) (defScope (top 23)) [] [] f fd ∧ mg "turned_row_at" = some (.ref f)
  f_turned : ∃ f fd, FunD K "turned" "turned" (defArgs (top 28)) (defBody (top 28)) (defScope (top 28)) [.non] [] f fd ∧ mg "turned" = some (.ref f)
  f__law_are_two_right : ∃ f fd, FunD K "_law_are_two_right" "_law_are_two_right" (defArgs (top 50)) (defBody (top 50)) (defScope (top 50)) [] [] f fd ∧ mg "_law_are_two_right" = some (.ref f)
  f__law_pick : ∃ f fd, FunD K "_law_pick" "_law_pick" (defArgs (top 39)) (defBody (top 39)) (defScope (top 39)) [] [] f fd ∧ mg "_law_pick" = some (.ref f)
  f__law_drawn_row : ∃ f fd, FunD K "_law_drawn_row" "_law_drawn_row" (defArgs (top 47)) (defBody (top 47)) (defScope (top 47)) [] [] f fd ∧ mg "_law_drawn_row" = some (.ref f)
  f__law_held : ∃ f fd, FunD K "_law_held" "_law_held" (defArgs (top 46)) (defBody (top 46)) (defScope (top 46)) [] [] f fd ∧ mg "_law_held" = some (.ref f)
  f__law_turn : ∃ f fd, FunD K "_law_turn" "_law_turn" (defArgs (top 41)) (defBody (top 41)) (defScope (top 41)) [] [] f fd ∧ mg "_law_turn" = some (.ref f)
  f__law_turn_at : ∃ f fd, FunD K "_law_turn_at" "_law_turn_at" (defArgs (top 42)) (defBody (top 42)) (defScope (top 42)) [] [] f fd ∧ mg "_law_turn_at" = some (.ref f)
  f_signs_at : ∃ f fd, FunD K "signs_at" "signs_at" (defArgs (top 34)) (defBody (top 34)) (defScope (top 34)) [] [] f fd ∧ mg "signs_at" = some (.ref f)
  f_spread : ∃ f fd, FunD K "spread" "spread" (defArgs (top 35)) (defBody (top 35)) (defScope (top 35)) [] [] f fd ∧ mg "spread" = some (.ref f)
  f_held : ∃ f fd, FunD K "held" "held" (defArgs (top 27)) (defBody (top 27)) (defScope (top 27)) [] [] f fd ∧ mg "held" = some (.ref f)
  f_things_of : ∃ f fd, FunD K "things_of" "things_of" (defArgs (top 32)) (defBody (top 32)) (defScope (top 32)) [] [] f fd ∧ mg "things_of" = some (.ref f)
  f_zeros_of : ∃ f fd, FunD K "zeros_of" "zeros_of" (defArgs (top 33)) (defBody (top 33)) (defScope (top 33)) [] [] f fd ∧ mg "zeros_of" = some (.ref f)
  f__law_is_row_right : ∃ f fd, FunD K "_law_is_row_right" "_law_is_row_right" (defArgs (top 49)) (defBody (top 49)) (defScope (top 49)) [] [] f fd ∧ mg "_law_is_row_right" = some (.ref f)
  f__law_right : ∃ f fd, FunD K "_law_right" "_law_right" (defArgs (top 51)) (defBody (top 51)) (defScope (top 51)) [] [] f fd ∧ mg "_law_right" = some (.ref f)
  f_law : ∃ f fd, FunD K "law" "law" (defArgs (top 52)) (defBody (top 52)) (defScope (top 52)) [] [] f fd ∧ mg "law" = some (.ref f)
section
variable {P : Program} {w : World} {K : PySem.W.Frag} {mg : Str → Option Value} {base : Heap}
theorem sc__law_dice : FnScope (["_law_script", "_law_spot", "_law_cell", "_law_left"] : List Str) ["_law_script", "_law_spot"] (defScope (top 37)) := ⟨rfl, rfl, rfl, by decide +kernel, rfl, by decide +kernel, by decide +kernel⟩
theorem s__law_dice (g : Gs w K mg) {f : Addr} (cdv : Value) (A : Around) (outer : List Env) (s : Shared) (H : Hp) (E : XK) (hr : Room 0 (A.deeper (envOfC "_law_dice" (defScope (top 37)) s.heap.objs.size f cdv))) :
    SB (cxOf (L2.CX P w) P w K mg base ["_law_script", "_law_spot", "_law_cell", "_law_left"] "_law_dice" (defScope (top 37)) f cdv A outer s H E) (fun cls d _ H => E cls d H) 2 (defBody (top 37)) m__law_dice := by
  have nd := sc__law_dice.nd
  have tk : Takes (cxOf (L2.CX P w) P w K mg base ["_law_script", "_law_spot", "_law_cell", "_law_left"] "_law_dice" (defScope (top 37)) f cdv A outer s H E) (fun cls d _ H => E cls d H) := takes_of rfl rfl rfl rfl
  have po := passes_of (X := cxOf (L2.CX P w) P w K mg base ["_law_script", "_law_spot", "_law_cell", "_law_left"] "_law_dice" (defScope (top 37)) f cdv A outer s H E) rfl
  unfold m__law_dice
  refine sb_cons ?_ ?_
  · refine ss_set (i := 2) ?_ ?_ ?_ ?_ ?_
    · decide
    · exact nd
    · exact rfl
    · exact loc_by rfl
    · refine se_if ?_ ?_ ?_
      · refine st_cmp ?_ ?_ ?_ ?_
        · exact op_dLt
        · refine se_var (i := 1) ?_ ?_
          · exact rfl
          · exact vis_by rfl
        · refine se_callB (id := "len") ?_ ?_ ?_ ?_ ?_
          · exact oc_len
          · exact rfl
          · exact g.z_len
          · exact b_len
          · refine sa_cons ?_ ?_
            · refine se_var (i := 0) ?_ ?_
              · exact rfl
              · exact vis_by rfl
            · exact sa_nil
        · exact rfl
      · refine se_callTy (id := "int") ?_ ?_ ?_ ?_ ?_
        · exact oc_int
        · exact rfl
        · exact g.z_int
        · exact b_int
        · refine sa_cons ?_ ?_
          · refine se_ix ?_ ?_ ?_ ?_
            · exact ox_ix (hu1 hr)
            · refine se_var (i := 0) ?_ ?_
              · exact rfl
              · exact vis_by rfl
            · refine se_var (i := 1) ?_ ?_
              · exact rfl
              · exact vis_by rfl
            · exact fun _ _ => rfl
          · exact sa_nil
      · refine se_bin ?_ ?_ ?_
        · exact op_dAdd
        · refine se_bin ?_ ?_ ?_
          · exact op_dMul
          · exact se_int
          · refine se_var (i := 1) ?_ ?_
            · exact rfl
            · exact vis_by rfl
        · exact se_int
  · refine sb_cons ?_ ?_
    · refine ss_set (i := 3) ?_ ?_ ?_ ?_ ?_
      · decide
      · exact nd
      · exact rfl
      · exact loc_by rfl
      · refine se_bin ?_ ?_ ?_
        · exact op_dMod
        · refine se_callB (id := "max") ?_ ?_ ?_ ?_ ?_
          · exact oc_max2 rfl
          · exact rfl
          · exact g.z_max
          · exact b_max
          · refine sa_cons ?_ ?_
            · exact se_int
            · refine sa_cons ?_ ?_
              · refine se_bin ?_ ?_ ?_
                · exact op_dSub
                · refine se_callB (id := "abs") ?_ ?_ ?_ ?_ ?_
                  · exact oc_abs
                  · exact rfl
                  · exact g.z_abs
                  · exact b_abs
                  · refine sa_cons ?_ ?_
                    · refine se_var (i := 2) ?_ ?_
                      · exact rfl
                      · exact vis_by rfl
                    · exact sa_nil
                · refine se_bin ?_ ?_ ?_
                  · exact op_dPow
                  · exact se_int
                  · exact se_int
              · exact sa_nil
        · refine se_bin ?_ ?_ ?_
          · exact op_dMul
          · refine se_bin ?_ ?_ ?_
            · exact op_dPow
            · exact se_int
            · exact se_int
          · refine se_bin ?_ ?_ ?_
            · exact op_dPow
            · exact se_int
            · exact se_int
    · refine sb_one ?_
      · refine ss_ret ?_
        · refine se_lst ?_
          · refine sa_cons ?_ ?_
            · refine se_var (i := 3) ?_ ?_
              · exact rfl
              · exact vis_by rfl
            · refine sa_cons ?_ ?_
              · refine se_bin ?_ ?_ ?_
                · exact op_dAdd
                · refine se_bin ?_ ?_ ?_
                  · exact op_dAdd
                  · refine se_bin ?_ ?_ ?_
                    · exact op_dAdd
                    · refine se_bin ?_ ?_ ?_
                      · exact op_dMul
                      · refine se_bin ?_ ?_ ?_
                        · exact op_dMod
                        · refine se_callB (id := "abs") ?_ ?_ ?_ ?_ ?_
                          · exact oc_abs
                          · exact rfl
                          · exact g.z_abs
                          · exact b_abs
                          · refine sa_cons ?_ ?_
                            · refine se_var (i := 2) ?_ ?_
                              · exact rfl
                              · exact vis_by rfl
                            · exact sa_nil
                        · exact se_int
                      · exact se_int
                    · refine se_bin ?_ ?_ ?_
                      · exact op_dMul
                      · exact se_int
                      · refine se_var (i := 1) ?_ ?_
                        · exact rfl
                        · exact vis_by rfl
                  · refine se_bin ?_ ?_ ?_
                    · exact op_dMul
                    · exact se_int
                    · refine se_callTy (id := "int") ?_ ?_ ?_ ?_ ?_
                      · exact oc_int
                      · exact rfl
                      · exact g.z_int
                      · exact b_int
                      · refine sa_cons ?_ ?_
                        · refine se_cmp ?_ ?_ ?_ ?_
                          · exact op_dLt
                          · refine se_var (i := 2) ?_ ?_
                            · exact rfl
                            · exact vis_by rfl
                          · exact se_int
                          · exact rfl
                        · exact sa_nil
                · exact se_int
              · refine sa_cons ?_ ?_
                · exact se_int
                · exact sa_nil
theorem cal__law_dice (g : Gs w K mg) : Cal P w K mg base 1 "_law_dice" 2 2 4 m__law_dice [] := by
  obtain ⟨f, fd, F, hm⟩ := g.f__law_dice
  exact ⟨f, fd, ["_law_script", "_law_spot", "_law_cell", "_law_left"], ["_law_script", "_law_spot"], [], [], okD F sc__law_dice (@s__law_dice P w K mg base g _), rfl, rfl, hm, F.kp, F.bindsN (fun _ _ _ _ _ _ us hl => match us, hl with | [_, _], _ => rfl), .nil, fun _ => .nil⟩
theorem sc__law_flip : FnScope (["_law_sign"] : List Str) ["_law_sign"] (defScope (top 40)) := ⟨rfl, rfl, rfl, by decide +kernel, rfl, by decide +kernel, by decide +kernel⟩
theorem s__law_flip (g : Gs w K mg) {f : Addr} (cdv : Value) (A : Around) (outer : List Env) (s : Shared) (H : Hp) (E : XK) (hr : Room 0 (A.deeper (envOfC "_law_flip" (defScope (top 40)) s.heap.objs.size f cdv))) :
    SB (cxOf (L2.CX P w) P w K mg base ["_law_sign"] "_law_flip" (defScope (top 40)) f cdv A outer s H E) (fun cls d _ H => E cls d H) 1 (defBody (top 40)) m__law_flip := by
  have nd := sc__law_flip.nd
  have tk : Takes (cxOf (L2.CX P w) P w K mg base ["_law_sign"] "_law_flip" (defScope (top 40)) f cdv A outer s H E) (fun cls d _ H => E cls d H) := takes_of rfl rfl rfl rfl
  have po := passes_of (X := cxOf (L2.CX P w) P w K mg base ["_law_sign"] "_law_flip" (defScope (top 40)) f cdv A outer s H E) rfl
  unfold m__law_flip
  refine sb_one ?_
  · refine ss_ret ?_
    · refine se_ix ?_ ?_ ?_ ?_
      · exact ox_ix (hu1 hr)
      · refine se_disp ?_
        · refine SPs.cons ?_ ?_ ?_
          · refine se_str ?_
            · exact rfl
          · refine se_str ?_
            · exact rfl
          · refine SPs.cons ?_ ?_ ?_
            · refine se_str ?_
              · exact rfl
            · refine se_str ?_
              · exact rfl
            · refine SPs.cons ?_ ?_ ?_
              · refine se_str ?_
                · exact rfl
              · refine se_str ?_
                · exact rfl
              · exact SPs.nil
      · refine se_var (i := 0) ?_ ?_
        · exact rfl
        · exact vis_by rfl
      · exact fun _ _ => rfl
theorem cal__law_flip (g : Gs w K mg) : Cal P w K mg base 1 "_law_flip" 1 1 1 m__law_flip [] := by
  obtain ⟨f, fd, F, hm⟩ := g.f__law_flip
  exact ⟨f, fd, ["_law_sign"], ["_law_sign"], [], [], okD F sc__law_flip (@s__law_flip P w K mg base g _), rfl, rfl, hm, F.kp, F.bindsN (fun _ _ _ _ _ _ us hl => match us, hl with | [_], _ => rfl), .nil, fun _ => .nil⟩
theorem sc__law_apart : FnScope (["_law_one", "_law_other", "_law_at", "_law_sign"] : List Str) ["_law_one", "_law_other"] (defScope (top 44)) := ⟨rfl, rfl, rfl, by decide +kernel, rfl, by decide +kernel, by decide +kernel⟩
theorem s__law_apart (g : Gs w K mg) {f : Addr} (cdv : Value) (A : Around) (outer : List Env) (s : Shared) (H : Hp) (E : XK) (hr : Room 1 (A.deeper (envOfC "_law_apart" (defScope (top 44)) s.heap.objs.size f cdv))) :
    SB (cxOf (L2.CX P w) P w K mg base ["_law_one", "_law_other", "_law_at", "_law_sign"] "_law_apart" (defScope (top 44)) f cdv A outer s H E) (fun cls d _ H => E cls d H) 2 (defBody (top 44)) m__law_apart := by
  have nd := sc__law_apart.nd
  have tk : Takes (cxOf (L2.CX P w) P w K mg base ["_law_one", "_law_other", "_law_at", "_law_sign"] "_law_apart" (defScope (top 44)) f cdv A outer s H E) (fun cls d _ H => E cls d H) := takes_of rfl rfl rfl rfl
  have po := passes_of (X := cxOf (L2.CX P w) P w K mg base ["_law_one", "_law_other", "_law_at", "_law_sign"] "_law_apart" (defScope (top 44)) f cdv A outer s H E) rfl
  unfold m__law_apart
  refine sb_one ?_
  · refine ss_ret ?_
    · refine se_lc (own := [("_law_at", 2), ("_law_sign", 3)]) (is := [2, 3]) (gt := (gTup K 2 (tNms [2, 3]))) ?_ ?_ ?_ ?_ ?_ ?_
      · exact rfl
      · exact nd
      · refine si_enum ?_ ?_ ?_
        · exact rfl
        · exact g.z_enumerate
        · refine sa_cons ?_ ?_
          · refine se_var (i := 0) ?_ ?_
            · exact rfl
            · exact vis_by rfl
          · exact sa_nil
      · exact blkOk_by rfl
      · refine ⟨fun _ _ _ _ _ => ?_, fun _ _ _ _ _ => ?_, fun _ _ _ _ _ => ?_⟩
        · refine gn_tup (is := [2, 3]) ?_ ?_
          · decide
          · refine pg_tup ?_ ?_
            · exact rfl
            · refine pgs_cons ?_ ?_
              · refine pg_name (i := 2) ?_ ?_ ?_
                · exact nd
                · exact rfl
                · exact loc_by rfl
              · refine pgs_cons ?_ ?_
                · refine pg_name (i := 3) ?_ ?_ ?_
                  · exact nd
                  · exact rfl
                  · exact loc_by rfl
                · exact pgs_nil
        · refine sts_one ?_
          · refine SW.st ?_
            · refine sw_and ?_ ?_
              · refine st_cmp ?_ ?_ ?_ ?_
                · exact op_dNe (hu64 hr)
                · refine se_var (i := 3) ?_ ?_
                  · exact rfl
                  · exact vis_by rfl
                · refine se_str ?_
                  · exact rfl
                · exact rfl
              · refine sw_and1 ?_
                · refine st_cmp ?_ ?_ ?_ ?_
                  · exact op_dEq (hu64 hr)
                  · refine se_ix ?_ ?_ ?_ ?_
                    · exact ox_ix (hu1 hr)
                    · refine se_var (i := 1) ?_ ?_
                      · exact rfl
                      · exact vis_by rfl
                    · refine se_var (i := 2) ?_ ?_
                      · exact rfl
                      · exact vis_by rfl
                    · exact fun _ _ => rfl
                  · refine se_call (k := 1) (j := 1) ?_ ?_ ?_ ?_ ?_ ?_
                    · exact cal__law_flip g
                    · exact takesF
                    · exact hr
                    · decide
                    · exact rfl
                    · refine sa_cons ?_ ?_
                      · refine se_var (i := 3) ?_ ?_
                        · exact rfl
                        · exact vis_by rfl
                      · exact sa_nil
                  · exact rfl
        · refine se_var (i := 2) ?_ ?_
          · exact rfl
          · exact vis_by rfl
      · decide
theorem cal__law_apart (g : Gs w K mg) : Cal P w K mg base 2 "_law_apart" 2 2 4 m__law_apart [] := by
  obtain ⟨f, fd, F, hm⟩ := g.f__law_apart
  exact ⟨f, fd, ["_law_one", "_law_other", "_law_at", "_law_sign"], ["_law_one", "_law_other"], [], [], okD F sc__law_apart (@s__law_apart P w K mg base g _), rfl, rfl, hm, F.kp, F.bindsN (fun _ _ _ _ _ _ us hl => match us, hl with | [_, _], _ => rfl), .nil, fun _ => .nil⟩
theorem sc__law_roll : FnScope (["_law_dice_here", "_law_total", "_law_found", "_law_one", "_law_two"] : List Str) ["_law_dice_here", "_law_total"] (defScope (top 38)) := ⟨rfl, rfl, rfl, by decide +kernel, rfl, by decide +kernel, by decide +kernel⟩
theorem s__law_roll (g : Gs w K mg) {f : Addr} (cdv : Value) (A : Around) (outer : List Env) (s : Shared) (H : Hp) (E : XK) (hr : Room 0 (A.deeper (envOfC "_law_roll" (defScope (top 38)) s.heap.objs.size f cdv))) :
    SB (cxOf (L2.CX P w) P w K mg base ["_law_dice_here", "_law_total", "_law_found", "_law_one", "_law_two"] "_law_roll" (defScope (top 38)) f cdv A outer s H E) (fun cls d _ H => E cls d H) 2 (defBody (top 38)) m__law_roll := by
  have nd := sc__law_roll.nd
  have tk : Takes (cxOf (L2.CX P w) P w K mg base ["_law_dice_here", "_law_total", "_law_found", "_law_one", "_law_two"] "_law_roll" (defScope (top 38)) f cdv A outer s H E) (fun cls d _ H => E cls d H) := takes_of rfl rfl rfl rfl
  have po := passes_of (X := cxOf (L2.CX P w) P w K mg base ["_law_dice_here", "_law_total", "_law_found", "_law_one", "_law_two"] "_law_roll" (defScope (top 38)) f cdv A outer s H E) rfl
  unfold m__law_roll
  refine sb_cons ?_ ?_
  · refine ss_if ?_ ?_ ?_
    · refine st_cmp ?_ ?_ ?_ ?_
      · exact op_dGt
      · refine se_ix ?_ ?_ ?_ ?_
        · exact ox_ix (hu1 hr)
        · refine se_var (i := 0) ?_ ?_
          · exact rfl
          · exact vis_by rfl
        · exact se_int
        · exact fun _ _ => rfl
      · exact se_int
      · exact rfl
    · refine sb_cons ?_ ?_
      · refine ss_set (i := 2) ?_ ?_ ?_ ?_ ?_
        · decide
        · exact nd
        · exact rfl
        · exact loc_by rfl
        · refine se_bin ?_ ?_ ?_
          · exact op_dMod
          · refine se_callTy (id := "int") ?_ ?_ ?_ ?_ ?_
            · exact oc_int
            · exact rfl
            · exact g.z_int
            · exact b_int
            · refine sa_cons ?_ ?_
              · refine se_ix ?_ ?_ ?_ ?_
                · exact ox_ix (hu1 hr)
                · refine se_var (i := 0) ?_ ?_
                  · exact rfl
                  · exact vis_by rfl
                · exact se_int
                · exact fun _ _ => rfl
              · exact sa_nil
          · refine se_var (i := 1) ?_ ?_
            · exact rfl
            · exact vis_by rfl
      · refine sb_cons ?_ ?_
        · refine ss_put (i := 0) ?_ ?_ ?_ ?_
          · exact rfl
          · exact vis_by rfl
          · exact se_int
          · refine se_bin ?_ ?_ ?_
            · exact op_dFdiv
            · refine se_ix ?_ ?_ ?_ ?_
              · exact ox_ix (hu1 hr)
              · refine se_var (i := 0) ?_ ?_
                · exact rfl
                · exact vis_by rfl
              · exact se_int
              · exact fun _ _ => rfl
            · refine se_var (i := 1) ?_ ?_
              · exact rfl
              · exact vis_by rfl
        · refine sb_one ?_
          · refine ss_ret ?_
            · refine se_var (i := 2) ?_ ?_
              · exact rfl
              · exact vis_by rfl
    · exact sb_nil
  · refine sb_cons ?_ ?_
    · refine ss_put (i := 0) ?_ ?_ ?_ ?_
      · exact rfl
      · exact vis_by rfl
      · exact se_int
      · refine se_bin ?_ ?_ ?_
        · exact op_dAdd
        · refine se_ix ?_ ?_ ?_ ?_
          · exact ox_ix (hu1 hr)
          · refine se_var (i := 0) ?_ ?_
            · exact rfl
            · exact vis_by rfl
          · exact se_int
          · exact fun _ _ => rfl
        · exact se_int
    · refine sb_cons ?_ ?_
      · refine ss_set (i := 3) ?_ ?_ ?_ ?_ ?_
        · decide
        · exact nd
        · exact rfl
        · exact loc_by rfl
        · refine se_bin ?_ ?_ ?_
          · exact op_dMod
          · refine se_callTy (id := "int") ?_ ?_ ?_ ?_ ?_
            · exact oc_int
            · exact rfl
            · exact g.z_int
            · exact b_int
            · refine sa_cons ?_ ?_
              · refine se_bin ?_ ?_ ?_
                · exact op_dAdd
                · refine se_ix ?_ ?_ ?_ ?_
                  · exact ox_ix (hu1 hr)
                  · refine se_var (i := 0) ?_ ?_
                    · exact rfl
                    · exact vis_by rfl
                  · exact se_int
                  · exact fun _ _ => rfl
                · refine se_bin ?_ ?_ ?_
                  · exact op_dMul
                  · exact se_int
                  · refine se_ix ?_ ?_ ?_ ?_
                    · exact ox_ix (hu1 hr)
                    · refine se_var (i := 0) ?_ ?_
                      · exact rfl
                      · exact vis_by rfl
                    · exact se_int
                    · exact fun _ _ => rfl
              · exact sa_nil
          · exact se_int
      · refine sb_cons ?_ ?_
        · refine ss_set (i := 4) ?_ ?_ ?_ ?_ ?_
          · decide
          · exact nd
          · exact rfl
          · exact loc_by rfl
          · refine se_bin ?_ ?_ ?_
            · exact op_dAdd
            · refine se_bin ?_ ?_ ?_
              · exact op_dMul
              · refine se_bin ?_ ?_ ?_
                · exact op_dMod
                · refine se_callTy (id := "int") ?_ ?_ ?_ ?_ ?_
                  · exact oc_int
                  · exact rfl
                  · exact g.z_int
                  · exact b_int
                  · refine sa_cons ?_ ?_
                    · refine se_bin ?_ ?_ ?_
                      · exact op_dAdd
                      · refine se_bin ?_ ?_ ?_
                        · exact op_dMul
                        · refine se_var (i := 3) ?_ ?_
                          · exact rfl
                          · exact vis_by rfl
                        · refine se_var (i := 3) ?_ ?_
                          · exact rfl
                          · exact vis_by rfl
                      · refine se_bin ?_ ?_ ?_
                        · exact op_dMul
                        · exact se_int
                        · refine se_ix ?_ ?_ ?_ ?_
                          · exact ox_ix (hu1 hr)
                          · refine se_var (i := 0) ?_ ?_
                            · exact rfl
                            · exact vis_by rfl
                          · exact se_int
                          · exact fun _ _ => rfl
                    · exact sa_nil
                · exact se_int
              · exact se_int
            · refine se_var (i := 3) ?_ ?_
              · exact rfl
              · exact vis_by rfl
        · refine sb_one ?_
          · refine ss_ret ?_
            · refine se_bin ?_ ?_ ?_
              · exact op_dMod
              · refine se_callTy (id := "int") ?_ ?_ ?_ ?_ ?_
                · exact oc_int
                · exact rfl
                · exact g.z_int
                · exact b_int
                · refine sa_cons ?_ ?_
                  · refine se_bin ?_ ?_ ?_
                    · exact op_dFdiv
                    · refine se_var (i := 4) ?_ ?_
                      · exact rfl
                      · exact vis_by rfl
                    · exact se_int
                  · exact sa_nil
              · refine se_var (i := 1) ?_ ?_
                · exact rfl
                · exact vis_by rfl
theorem cal__law_roll (g : Gs w K mg) : Cal P w K mg base 1 "_law_roll" 2 2 5 m__law_roll [] := by
  obtain ⟨f, fd, F, hm⟩ := g.f__law_roll
  exact ⟨f, fd, ["_law_dice_here", "_law_total", "_law_found", "_law_one", "_law_two"], ["_law_dice_here", "_law_total"], [], [], okD F sc__law_roll (@s__law_roll P w K mg base g _), rfl, rfl, hm, F.kp, F.bindsN (fun _ _ _ _ _ _ us hl => match us, hl with | [_, _], _ => rfl), .nil, fun _ => .nil⟩
theorem sc__law_drawn_things : FnScope (["_law_dice_here", "_law_size", "_law_thing"] : List Str) ["_law_dice_here", "_law_size"] (defScope (top 48)) := ⟨rfl, rfl, rfl, by decide +kernel, rfl, by decide +kernel, by decide +kernel⟩
theorem s__law_drawn_things (g : Gs w K mg) {f : Addr} (cdv : Value) (A : Around) (outer : List Env) (s : Shared) (H : Hp) (E : XK) (hr : Room 1 (A.deeper (envOfC "_law_drawn_things" (defScope (top 48)) s.heap.objs.size f cdv))) :
    SB (cxOf (L2.CX P w) P w K mg base ["_law_dice_here", "_law_size", "_law_thing"] "_law_drawn_things" (defScope (top 48)) f cdv A outer s H E) (fun cls d _ H => E cls d H) 2 (defBody (top 48)) m__law_drawn_things := by
  have nd := sc__law_drawn_things.nd
  have tk : Takes (cxOf (L2.CX P w) P w K mg base ["_law_dice_here", "_law_size", "_law_thing"] "_law_drawn_things" (defScope (top 48)) f cdv A outer s H E) (fun cls d _ H => E cls d H) := takes_of rfl rfl rfl rfl
  have po := passes_of (X := cxOf (L2.CX P w) P w K mg base ["_law_dice_here", "_law_size", "_law_thing"] "_law_drawn_things" (defScope (top 48)) f cdv A outer s H E) rfl
  unfold m__law_drawn_things
  refine sb_one ?_
  · refine ss_ret ?_
    · refine se_callTy (id := "tuple") ?_ ?_ ?_ ?_ ?_
      · exact oc_tuple
      · exact rfl
      · exact g.z_tuple
      · exact b_tuple
      · refine sa_cons ?_ ?_
        · refine se_lc (own := [("_law_thing", 2)]) (is := [2]) (gt := (gName 2)) ?_ ?_ ?_ ?_ ?_ ?_
          · exact rfl
          · exact nd
          · refine si_range1 ?_ ?_ ?_
            · exact rfl
            · exact g.z_range
            · refine sa_cons ?_ ?_
              · refine se_var (i := 1) ?_ ?_
                · exact rfl
                · exact vis_by rfl
              · exact sa_nil
          · exact blkOk_by rfl
          · refine ⟨fun _ _ _ _ _ => ?_, fun _ _ _ _ _ => ?_, fun _ _ _ _ _ => ?_⟩
            · refine gn_name (i := 2) ?_ ?_
              · decide
              · refine pg_name (i := 2) ?_ ?_ ?_
                · exact nd
                · exact rfl
                · exact loc_by rfl
            · refine sts_one ?_
              · refine st_cmp ?_ ?_ ?_ ?_
                · exact op_dEq (hu64 hr)
                · refine se_call (k := 1) (j := 1) ?_ ?_ ?_ ?_ ?_ ?_
                  · exact cal__law_roll g
                  · exact takesF
                  · exact hr
                  · decide
                  · exact rfl
                  · refine sa_cons ?_ ?_
                    · refine se_var (i := 0) ?_ ?_
                      · exact rfl
                      · exact vis_by rfl
                    · refine sa_cons ?_ ?_
                      · exact se_int
                      · exact sa_nil
                · exact se_int
                · exact rfl
            · refine se_var (i := 2) ?_ ?_
              · exact rfl
              · exact vis_by rfl
          · decide
        · exact sa_nil
theorem cal__law_drawn_things (g : Gs w K mg) : Cal P w K mg base 2 "_law_drawn_things" 2 2 3 m__law_drawn_things [] := by
  obtain ⟨f, fd, F, hm⟩ := g.f__law_drawn_things
  exact ⟨f, fd, ["_law_dice_here", "_law_size", "_law_thing"], ["_law_dice_here", "_law_size"], [], [], okD F sc__law_drawn_things (@s__law_drawn_things P w K mg base g _), rfl, rfl, hm, F.kp, F.bindsN (fun _ _ _ _ _ _ us hl => match us, hl with | [_, _], _ => rfl), .nil, fun _ => .nil⟩
theorem sc__law_laid : FnScope (["_law_one", "_law_other", "_law_first", "_law_second"] : List Str) ["_law_one", "_law_other"] (defScope (top 43)) := ⟨rfl, rfl, rfl, by decide +kernel, rfl, by decide +kernel, by decide +kernel⟩
theorem s__law_laid (g : Gs w K mg) {f : Addr} (cdv : Value) (A : Around) (outer : List Env) (s : Shared) (H : Hp) (E : XK) (hr : Room 0 (A.deeper (envOfC "_law_laid" (defScope (top 43)) s.heap.objs.size f cdv))) :
    SB (cxOf (L2.CX P w) P w K mg base ["_law_one", "_law_other", "_law_first", "_law_second"] "_law_laid" (defScope (top 43)) f cdv A outer s H E) (fun cls d _ H => E cls d H) 2 (defBody (top 43)) m__law_laid := by
  have nd := sc__law_laid.nd
  have tk : Takes (cxOf (L2.CX P w) P w K mg base ["_law_one", "_law_other", "_law_first", "_law_second"] "_law_laid" (defScope (top 43)) f cdv A outer s H E) (fun cls d _ H => E cls d H) := takes_of rfl rfl rfl rfl
  have po := passes_of (X := cxOf (L2.CX P w) P w K mg base ["_law_one", "_law_other", "_law_first", "_law_second"] "_law_laid" (defScope (top 43)) f cdv A outer s H E) rfl
  unfold m__law_laid
  refine sb_one ?_
  · refine ss_ret ?_
    · refine se_join ?_ ?_
      · refine se_str ?_
        · exact rfl
      · refine se_lc (own := [("_law_first", 2), ("_law_second", 3)]) (is := [2, 3]) (gt := (gTup K 2 (tNms [2, 3]))) ?_ ?_ ?_ ?_ ?_ ?_
        · exact rfl
        · exact nd
        · refine si_zip ?_ ?_ ?_
          · exact rfl
          · exact g.z_zip
          · refine sa_cons ?_ ?_
            · refine se_var (i := 0) ?_ ?_
              · exact rfl
              · exact vis_by rfl
            · refine sa_cons ?_ ?_
              · refine se_var (i := 1) ?_ ?_
                · exact rfl
                · exact vis_by rfl
              · exact sa_nil
        · exact blkOk_by rfl
        · refine ⟨fun _ _ _ _ _ => ?_, fun _ _ _ _ _ => ?_, fun _ _ _ _ _ => ?_⟩
          · refine gn_tup (is := [2, 3]) ?_ ?_
            · decide
            · refine pg_tup ?_ ?_
              · exact rfl
              · refine pgs_cons ?_ ?_
                · refine pg_name (i := 2) ?_ ?_ ?_
                  · exact nd
                  · exact rfl
                  · exact loc_by rfl
                · refine pgs_cons ?_ ?_
                  · refine pg_name (i := 3) ?_ ?_ ?_
                    · exact nd
                    · exact rfl
                    · exact loc_by rfl
                  · exact pgs_nil
          · exact sts_nil
          · refine se_if ?_ ?_ ?_
            · refine st_cmp ?_ ?_ ?_ ?_
              · exact op_dEq (hu64 hr)
              · refine se_var (i := 2) ?_ ?_
                · exact rfl
                · exact vis_by rfl
              · refine se_str ?_
                · exact rfl
              · exact rfl
            · refine se_var (i := 3) ?_ ?_
              · exact rfl
              · exact vis_by rfl
            · refine se_var (i := 2) ?_ ?_
              · exact rfl
              · exact vis_by rfl
        · decide
theorem cal__law_laid (g : Gs w K mg) : Cal P w K mg base 1 "_law_laid" 2 2 4 m__law_laid [] := by
  obtain ⟨f, fd, F, hm⟩ := g.f__law_laid
  exact ⟨f, fd, ["_law_one", "_law_other", "_law_first", "_law_second"], ["_law_one", "_law_other"], [], [], okD F sc__law_laid (@s__law_laid P w K mg base g _), rfl, rfl, hm, F.kp, F.bindsN (fun _ _ _ _ _ _ us hl => match us, hl with | [_, _], _ => rfl), .nil, fun _ => .nil⟩
theorem sc__law_upright : FnScope (["_law_one", "_law_other", "_law_common", "_law_unlike", "_law_at", "_law_sign"] : List Str) ["_law_one", "_law_other"] (defScope (top 45)) := ⟨rfl, rfl, rfl, by decide +kernel, rfl, by decide +kernel, by decide +kernel⟩
theorem s__law_upright (g : Gs w K mg) {f : Addr} (cdv : Value) (A : Around) (outer : List Env) (s : Shared) (H : Hp) (E : XK) (hr : Room 2 (A.deeper (envOfC "_law_upright" (defScope (top 45)) s.heap.objs.size f cdv))) :
    SB (cxOf (L2.CX P w) P w K mg base ["_law_one", "_law_other", "_law_common", "_law_unlike", "_law_at", "_law_sign"] "_law_upright" (defScope (top 45)) f cdv A outer s H E) (fun cls d _ H => E cls d H) 2 (defBody (top 45)) m__law_upright := by
  have nd := sc__law_upright.nd
  have tk : Takes (cxOf (L2.CX P w) P w K mg base ["_law_one", "_law_other", "_law_common", "_law_unlike", "_law_at", "_law_sign"] "_law_upright" (defScope (top 45)) f cdv A outer s H E) (fun cls d _ H => E cls d H) := takes_of rfl rfl rfl rfl
  have po := passes_of (X := cxOf (L2.CX P w) P w K mg base ["_law_one", "_law_other", "_law_common", "_law_unlike", "_law_at", "_law_sign"] "_law_upright" (defScope (top 45)) f cdv A outer s H E) rfl
  unfold m__law_upright
  refine sb_cons ?_ ?_
  · refine ss_setLc (i := 2) (own := [("_law_at", 4), ("_law_sign", 5)]) (is := [4, 5]) (gt := (gTup K 2 (tNms [4, 5]))) ?_ ?_ ?_ ?_ ?_ ?_ ?_ ?_ ?_ ?_
    · decide
    · exact rfl
    · exact nd
    · exact rfl
    · exact rfl
    · exact rfl
    · refine si_enum ?_ ?_ ?_
      · exact rfl
      · exact g.z_enumerate
      · refine sa_cons ?_ ?_
        · refine se_var (i := 0) ?_ ?_
          · exact rfl
          · exact vis_by rfl
        · exact sa_nil
    · exact blkOk_by rfl
    · refine ⟨fun _ _ _ _ _ => ?_, fun _ _ _ _ _ => ?_, fun _ _ _ _ _ => ?_⟩
      · refine gn_tup (is := [4, 5]) ?_ ?_
        · decide
        · refine pg_tup ?_ ?_
          · exact rfl
          · refine pgs_cons ?_ ?_
            · refine pg_name (i := 4) ?_ ?_ ?_
              · exact nd
              · exact rfl
              · exact loc_by rfl
            · refine pgs_cons ?_ ?_
              · refine pg_name (i := 5) ?_ ?_ ?_
                · exact nd
                · exact rfl
                · exact loc_by rfl
              · exact pgs_nil
      · refine sts_one ?_
        · refine SW.st ?_
          · refine sw_and ?_ ?_
            · refine st_cmp ?_ ?_ ?_ ?_
              · exact op_dNe (hu64 hr)
              · refine se_var (i := 5) ?_ ?_
                · exact rfl
                · exact vis_by rfl
              · refine se_str ?_
                · exact rfl
              · exact rfl
            · refine sw_and1 ?_
              · refine st_cmp ?_ ?_ ?_ ?_
                · exact op_dNe (hu64 hr)
                · refine se_ix ?_ ?_ ?_ ?_
                  · exact ox_ix (hu1 hr)
                  · refine se_var (i := 1) ?_ ?_
                    · exact rfl
                    · exact vis_by rfl
                  · refine se_var (i := 4) ?_ ?_
                    · exact rfl
                    · exact vis_by rfl
                  · exact fun _ _ => rfl
                · refine se_str ?_
                  · exact rfl
                · exact rfl
      · refine se_var (i := 4) ?_ ?_
        · exact rfl
        · exact vis_by rfl
    · decide
  · refine sb_cons ?_ ?_
    · refine ss_set (i := 3) ?_ ?_ ?_ ?_ ?_
      · decide
      · exact nd
      · exact rfl
      · exact loc_by rfl
      · refine se_call (k := 2) (j := 2) ?_ ?_ ?_ ?_ ?_ ?_
        · exact cal__law_apart g
        · exact tk
        · exact hr
        · decide
        · exact rfl
        · refine sa_cons ?_ ?_
          · refine se_var (i := 0) ?_ ?_
            · exact rfl
            · exact vis_by rfl
          · refine sa_cons ?_ ?_
            · refine se_var (i := 1) ?_ ?_
              · exact rfl
              · exact vis_by rfl
            · exact sa_nil
    · refine sb_one ?_
      · refine ss_ret ?_
        · refine se_or ?_ ?_
          · refine se_cmp ?_ ?_ ?_ ?_
            · exact op_dEq (hu64 hr)
            · refine se_var (i := 2) ?_ ?_
              · exact rfl
              · exact vis_by rfl
            · refine se_lst ?_
              · exact sa_nil
            · exact rfl
          · refine se_one ?_
            · refine se_chain ?_ ?_ ?_ ?_ ?_
              · exact op_dLt
              · exact op_dLt
              · exact se_int
              · refine se_callB (id := "len") ?_ ?_ ?_ ?_ ?_
                · exact oc_len
                · exact rfl
                · exact g.z_len
                · exact b_len
                · refine sa_cons ?_ ?_
                  · refine se_var (i := 3) ?_ ?_
                    · exact rfl
                    · exact vis_by rfl
                  · exact sa_nil
              · refine se_callB (id := "len") ?_ ?_ ?_ ?_ ?_
                · exact oc_len
                · exact rfl
                · exact g.z_len
                · exact b_len
                · refine sa_cons ?_ ?_
                  · refine se_var (i := 2) ?_ ?_
                    · exact rfl
                    · exact vis_by rfl
                  · exact sa_nil
theorem cal__law_upright (g : Gs w K mg) : Cal P w K mg base 3 "_law_upright" 2 2 6 m__law_upright [] := by
  obtain ⟨f, fd, F, hm⟩ := g.f__law_upright
  exact ⟨f, fd, ["_law_one", "_law_other", "_law_common", "_law_unlike", "_law_at", "_law_sign"], ["_law_one", "_law_other"], [], [], okD F sc__law_upright (@s__law_upright P w K mg base g _), rfl, rfl, hm, F.kp, F.bindsN (fun _ _ _ _ _ _ us hl => match us, hl with | [_, _], _ => rfl), .nil, fun _ => .nil⟩
theorem sc_apart_at : FnScope (["one", "other", "at", "sign"] : List Str) ["one", "other"] (defScope (top 25)) := ⟨rfl, rfl, rfl, by decide +kernel, rfl, by decide +kernel, by decide +kernel⟩
theorem s_apart_at (g : Gs w K mg) {f : Addr} (cdv : Value) (A : Around) (outer : List Env) (s : Shared) (H : Hp) (E : XK) (hr : Room 0 (A.deeper (envOfC "apart_at" (defScope (top 25)) s.heap.objs.size f cdv))) :
    SB (cxOf (L2.CX P w) P w K mg base ["one", "other", "at", "sign"] "apart_at" (defScope (top 25)) f cdv A outer s H E) (fun cls d _ H => E cls d H) 2 (defBody (top 25)) m_apart_at := by
  have nd := sc_apart_at.nd
  have tk : Takes (cxOf (L2.CX P w) P w K mg base ["one", "other", "at", "sign"] "apart_at" (defScope (top 25)) f cdv A outer s H E) (fun cls d _ H => E cls d H) := takes_of rfl rfl rfl rfl
  have po := passes_of (X := cxOf (L2.CX P w) P w K mg base ["one", "other", "at", "sign"] "apart_at" (defScope (top 25)) f cdv A outer s H E) rfl
  unfold m_apart_at
  refine sb_one ?_
  · refine ss_ret ?_
    · refine se_callTy (id := "tuple") ?_ ?_ ?_ ?_ ?_
      · exact oc_tuple
      · exact rfl
      · exact g.z_tuple
      · exact b_tuple
      · refine sa_cons ?_ ?_
        · refine se_lc (own := [("at", 2), ("sign", 3)]) (is := [2, 3]) (gt := (gTup K 2 (tNms [2, 3]))) ?_ ?_ ?_ ?_ ?_ ?_
          · exact rfl
          · exact nd
          · refine si_enum ?_ ?_ ?_
            · exact rfl
            · exact g.z_enumerate
            · refine sa_cons ?_ ?_
              · refine se_var (i := 0) ?_ ?_
                · exact rfl
                · exact vis_by rfl
              · exact sa_nil
          · exact blkOk_by rfl
          · refine ⟨fun _ _ _ _ _ => ?_, fun _ _ _ _ _ => ?_, fun _ _ _ _ _ => ?_⟩
            · refine gn_tup (is := [2, 3]) ?_ ?_
              · decide
              · refine pg_tup ?_ ?_
                · exact rfl
                · refine pgs_cons ?_ ?_
                  · refine pg_name (i := 2) ?_ ?_ ?_
                    · exact nd
                    · exact rfl
                    · exact loc_by rfl
                  · refine pgs_cons ?_ ?_
                    · refine pg_name (i := 3) ?_ ?_ ?_
                      · exact nd
                      · exact rfl
                      · exact loc_by rfl
                    · exact pgs_nil
            · refine sts_one ?_
              · refine SW.st ?_
                · refine sw_and ?_ ?_
                  · refine st_cmp ?_ ?_ ?_ ?_
                    · exact op_dNe (hu64 hr)
                    · refine se_var (i := 3) ?_ ?_
                      · exact rfl
                      · exact vis_by rfl
                    · refine se_gl ?_ ?_
                      · exact rfl
                      · exact g.c_ZERO
                    · exact rfl
                  · refine sw_and1 ?_
                    · refine st_cmp ?_ ?_ ?_ ?_
                      · exact op_dEq (hu64 hr)
                      · refine se_ix ?_ ?_ ?_ ?_
                        · exact ox_ix (hu1 hr)
                        · refine se_var (i := 1) ?_ ?_
                          · exact rfl
                          · exact vis_by rfl
                        · refine se_var (i := 2) ?_ ?_
                          · exact rfl
                          · exact vis_by rfl
                        · exact fun _ _ => rfl
                      · refine se_ix ?_ ?_ ?_ ?_
                        · exact ox_ix (hu1 hr)
                        · refine se_gl ?_ ?_
                          · exact rfl
                          · exact g.c_TURNED
                        · refine se_var (i := 3) ?_ ?_
                          · exact rfl
                          · exact vis_by rfl
                        · exact fun _ _ => rfl
                      · exact rfl
            · refine se_var (i := 2) ?_ ?_
              · exact rfl
              · exact vis_by rfl
          · decide
        · exact sa_nil
theorem cal_apart_at (g : Gs w K mg) : Cal P w K mg base 1 "apart_at" 2 2 4 m_apart_at [] := by
  obtain ⟨f, fd, F, hm⟩ := g.f_apart_at
  exact ⟨f, fd, ["one", "other", "at", "sign"], ["one", "other"], [], [], okD F sc_apart_at (@s_apart_at P w K mg base g _), rfl, rfl, hm, F.kp, F.bindsN (fun _ _ _ _ _ _ us hl => match us, hl with | [_, _], _ => rfl), .nil, fun _ => .nil⟩
theorem sc_is_row : FnScope (["value", "many", "sign"] : List Str) ["value", "many"] (defScope (top 17)) := ⟨rfl, rfl, rfl, by decide +kernel, rfl, by decide +kernel, by decide +kernel⟩
theorem s_is_row (g : Gs w K mg) {f : Addr} (cdv : Value) (A : Around) (outer : List Env) (s : Shared) (H : Hp) (E : XK) (hr : Room 0 (A.deeper (envOfC "is_row" (defScope (top 17)) s.heap.objs.size f cdv))) :
    SB (cxOf (L2.CX P w) P w K mg base ["value", "many", "sign"] "is_row" (defScope (top 17)) f cdv A outer s H E) (fun cls d _ H => E cls d H) 2 (defBody (top 17)) m_is_row := by
  have nd := sc_is_row.nd
  have tk : Takes (cxOf (L2.CX P w) P w K mg base ["value", "many", "sign"] "is_row" (defScope (top 17)) f cdv A outer s H E) (fun cls d _ H => E cls d H) := takes_of rfl rfl rfl rfl
  have po := passes_of (X := cxOf (L2.CX P w) P w K mg base ["value", "many", "sign"] "is_row" (defScope (top 17)) f cdv A outer s H E) rfl
  unfold m_is_row
  refine sb_one ?_
  · refine ss_ret ?_
    · refine se_and ?_ ?_
      · refine se_callB (id := "isinstance") ?_ ?_ ?_ ?_ ?_
        · exact oc_isi
        · exact rfl
        · exact g.z_isinstance
        · exact b_isinstance
        · refine sa_cons ?_ ?_
          · refine se_var (i := 0) ?_ ?_
            · exact rfl
            · exact vis_by rfl
          · refine sa_cons ?_ ?_
            · refine se_bty (n := "str") ?_ ?_ ?_
              · exact rfl
              · exact g.z_str
              · exact b_str
            · exact sa_nil
      · refine se_and ?_ ?_
        · refine se_cmp ?_ ?_ ?_ ?_
          · exact op_dEq (hu64 hr)
          · refine se_callB (id := "len") ?_ ?_ ?_ ?_ ?_
            · exact oc_len
            · exact rfl
            · exact g.z_len
            · exact b_len
            · refine sa_cons ?_ ?_
              · refine se_var (i := 0) ?_ ?_
                · exact rfl
                · exact vis_by rfl
              · exact sa_nil
          · refine se_var (i := 1) ?_ ?_
            · exact rfl
            · exact vis_by rfl
          · exact rfl
        · refine se_one ?_
          · refine se_callB (id := "all") ?_ ?_ ?_ ?_ ?_
            · exact oc_all rfl
            · exact rfl
            · exact g.z_all
            · exact b_all
            · refine sa_cons ?_ ?_
              · refine se_lc (own := [("sign", 2)]) (is := [2]) (gt := (gName 2)) ?_ ?_ ?_ ?_ ?_ ?_
                · exact rfl
                · exact nd
                · refine si_val ?_
                  · refine se_var (i := 0) ?_ ?_
                    · exact rfl
                    · exact vis_by rfl
                · exact blkOk_by rfl
                · refine ⟨fun _ _ _ _ _ => ?_, fun _ _ _ _ _ => ?_, fun _ _ _ _ _ => ?_⟩
                  · refine gn_name (i := 2) ?_ ?_
                    · decide
                    · refine pg_name (i := 2) ?_ ?_ ?_
                      · exact nd
                      · exact rfl
                      · exact loc_by rfl
                  · exact sts_nil
                  · refine se_cmp ?_ ?_ ?_ ?_
                    · exact op_dIn (hu65 hr)
                    · refine se_var (i := 2) ?_ ?_
                      · exact rfl
                      · exact vis_by rfl
                    · refine se_gl ?_ ?_
                      · exact rfl
                      · exact g.c_SIGNS
                    · exact rfl
                · decide
              · exact sa_nil
theorem cal_is_row (g : Gs w K mg) : Cal P w K mg base 1 "is_row" 2 2 3 m_is_row [] := by
  obtain ⟨f, fd, F, hm⟩ := g.f_is_row
  exact ⟨f, fd, ["value", "many", "sign"], ["value", "many"], [], [], okD F sc_is_row (@s_is_row P w K mg base g _), rfl, rfl, hm, F.kp, F.bindsN (fun _ _ _ _ _ _ us hl => match us, hl with | [_, _], _ => rfl), .nil, fun _ => .nil⟩
theorem sc_is_any_row : FnScope (["value"] : List Str) ["value"] (defScope (top 18)) := ⟨rfl, rfl, rfl, by decide +kernel, rfl, by decide +kernel, by decide +kernel⟩
theorem s_is_any_row (g : Gs w K mg) {f : Addr} (cdv : Value) (A : Around) (outer : List Env) (s : Shared) (H : Hp) (E : XK) (hr : Room 1 (A.deeper (envOfC "is_any_row" (defScope (top 18)) s.heap.objs.size f cdv))) :
    SB (cxOf (L2.CX P w) P w K mg base ["value"] "is_any_row" (defScope (top 18)) f cdv A outer s H E) (fun cls d _ H => E cls d H) 1 (defBody (top 18)) m_is_any_row := by
  have nd := sc_is_any_row.nd
  have tk : Takes (cxOf (L2.CX P w) P w K mg base ["value"] "is_any_row" (defScope (top 18)) f cdv A outer s H E) (fun cls d _ H => E cls d H) := takes_of rfl rfl rfl rfl
  have po := passes_of (X := cxOf (L2.CX P w) P w K mg base ["value"] "is_any_row" (defScope (top 18)) f cdv A outer s H E) rfl
  unfold m_is_any_row
  refine sb_one ?_
  · refine ss_ret ?_
    · refine se_and ?_ ?_
      · refine se_callB (id := "isinstance") ?_ ?_ ?_ ?_ ?_
        · exact oc_isi
        · exact rfl
        · exact g.z_isinstance
        · exact b_isinstance
        · refine sa_cons ?_ ?_
          · refine se_var (i := 0) ?_ ?_
            · exact rfl
            · exact vis_by rfl
          · refine sa_cons ?_ ?_
            · refine se_bty (n := "str") ?_ ?_ ?_
              · exact rfl
              · exact g.z_str
              · exact b_str
            · exact sa_nil
      · refine se_and ?_ ?_
        · refine se_cmp ?_ ?_ ?_ ?_
          · exact op_dLe
          · refine se_callB (id := "len") ?_ ?_ ?_ ?_ ?_
            · exact oc_len
            · exact rfl
            · exact g.z_len
            · exact b_len
            · refine sa_cons ?_ ?_
              · refine se_var (i := 0) ?_ ?_
                · exact rfl
                · exact vis_by rfl
              · exact sa_nil
          · refine se_gl ?_ ?_
            · exact rfl
            · exact g.c_MAX_THINGS
          · exact rfl
        · refine se_one ?_
          · refine se_call (k := 1) (j := 1) ?_ ?_ ?_ ?_ ?_ ?_
            · exact cal_is_row g
            · exact tk
            · exact hr
            · decide
            · exact rfl
            · refine sa_cons ?_ ?_
              · refine se_var (i := 0) ?_ ?_
                · exact rfl
                · exact vis_by rfl
              · refine sa_cons ?_ ?_
                · refine se_callB (id := "len") ?_ ?_ ?_ ?_ ?_
                  · exact oc_len
                  · exact rfl
                  · exact g.z_len
                  · exact b_len
                  · refine sa_cons ?_ ?_
                    · refine se_var (i := 0) ?_ ?_
                      · exact rfl
                      · exact vis_by rfl
                    · exact sa_nil
                · exact sa_nil
theorem cal_is_any_row (g : Gs w K mg) : Cal P w K mg base 2 "is_any_row" 1 1 1 m_is_any_row [] := by
  obtain ⟨f, fd, F, hm⟩ := g.f_is_any_row
  exact ⟨f, fd, ["value"], ["value"], [], [], okD F sc_is_any_row (@s_is_any_row P w K mg base g _), rfl, rfl, hm, F.kp, F.bindsN (fun _ _ _ _ _ _ us hl => match us, hl with | [_], _ => rfl), .nil, fun _ => .nil⟩
theorem sc_require_any_row : FnScope (["value"] : List Str) ["value"] (defScope (top 20)) := ⟨rfl, rfl, rfl, by decide +kernel, rfl, by decide +kernel, by decide +kernel⟩
theorem s_require_any_row (g : Gs w K mg) {f : Addr} (cdv : Value) (A : Around) (outer : List Env) (s : Shared) (H : Hp) (E : XK) (hr : Room 2 (A.deeper (envOfC "require_any_row" (defScope (top 20)) s.heap.objs.size f cdv))) :
    SB (cxOf (L2.CX P w) P w K mg base ["value"] "require_any_row" (defScope (top 20)) f cdv A outer s H E) (fun cls d _ H => E cls d H) 1 (defBody (top 20)) m_require_any_row := by
  have nd := sc_require_any_row.nd
  have tk : Takes (cxOf (L2.CX P w) P w K mg base ["value"] "require_any_row" (defScope (top 20)) f cdv A outer s H E) (fun cls d _ H => E cls d H) := takes_of rfl rfl rfl rfl
  have po := passes_of (X := cxOf (L2.CX P w) P w K mg base ["value"] "require_any_row" (defScope (top 20)) f cdv A outer s H E) rfl
  unfold m_require_any_row
  refine sb_one ?_
  · refine ss_if ?_ ?_ ?_
    · refine st_not ?_
      · refine st_val ?_
        · refine se_call (k := 2) (j := 2) ?_ ?_ ?_ ?_ ?_ ?_
          · exact cal_is_any_row g
          · exact tk
          · exact hr
          · decide
          · exact rfl
          · refine sa_cons ?_ ?_
            · refine se_var (i := 0) ?_ ?_
              · exact rfl
              · exact vis_by rfl
            · exact sa_nil
    · refine sb_one ?_
      · exact ss_never
    · exact sb_nil
theorem cal_require_any_row (g : Gs w K mg) : Cal P w K mg base 3 "require_any_row" 1 1 1 m_require_any_row [] := by
  obtain ⟨f, fd, F, hm⟩ := g.f_require_any_row
  exact ⟨f, fd, ["value"], ["value"], [], [], okD F sc_require_any_row (@s_require_any_row P w K mg base g _), rfl, rfl, hm, F.kp, F.bindsN (fun _ _ _ _ _ _ us hl => match us, hl with | [_], _ => rfl), .nil, fun _ => .nil⟩
theorem sc_require_row : FnScope (["value", "many"] : List Str) ["value", "many"] (defScope (top 19)) := ⟨rfl, rfl, rfl, by decide +kernel, rfl, by decide +kernel, by decide +kernel⟩
theorem s_require_row (g : Gs w K mg) {f : Addr} (cdv : Value) (A : Around) (outer : List Env) (s : Shared) (H : Hp) (E : XK) (hr : Room 1 (A.deeper (envOfC "require_row" (defScope (top 19)) s.heap.objs.size f cdv))) :
    SB (cxOf (L2.CX P w) P w K mg base ["value", "many"] "require_row" (defScope (top 19)) f cdv A outer s H E) (fun cls d _ H => E cls d H) 2 (defBody (top 19)) m_require_row := by
  have nd := sc_require_row.nd
  have tk : Takes (cxOf (L2.CX P w) P w K mg base ["value", "many"] "require_row" (defScope (top 19)) f cdv A outer s H E) (fun cls d _ H => E cls d H) := takes_of rfl rfl rfl rfl
  have po := passes_of (X := cxOf (L2.CX P w) P w K mg base ["value", "many"] "require_row" (defScope (top 19)) f cdv A outer s H E) rfl
  unfold m_require_row
  refine sb_one ?_
  · refine ss_if ?_ ?_ ?_
    · refine st_not ?_
      · refine st_val ?_
        · refine se_call (k := 1) (j := 1) ?_ ?_ ?_ ?_ ?_ ?_
          · exact cal_is_row g
          · exact tk
          · exact hr
          · decide
          · exact rfl
          · refine sa_cons ?_ ?_
            · refine se_var (i := 0) ?_ ?_
              · exact rfl
              · exact vis_by rfl
            · refine sa_cons ?_ ?_
              · refine se_var (i := 1) ?_ ?_
                · exact rfl
                · exact vis_by rfl
              · exact sa_nil
    · refine sb_one ?_
      · exact ss_never
    · exact sb_nil
theorem cal_require_row (g : Gs w K mg) : Cal P w K mg base 2 "require_row" 2 2 2 m_require_row [] := by
  obtain ⟨f, fd, F, hm⟩ := g.f_require_row
  exact ⟨f, fd, ["value", "many"], ["value", "many"], [], [], okD F sc_require_row (@s_require_row P w K mg base g _), rfl, rfl, hm, F.kp, F.bindsN (fun _ _ _ _ _ _ us hl => match us, hl with | [_, _], _ => rfl), .nil, fun _ => .nil⟩
theorem sc_apart : FnScope (["one", "other"] : List Str) ["one", "other"] (defScope (top 30)) := ⟨rfl, rfl, rfl, by decide +kernel, rfl, by decide +kernel, by decide +kernel⟩
theorem s_apart (g : Gs w K mg) {f : Addr} (cdv : Value) (A : Around) (outer : List Env) (s : Shared) (H : Hp) (E : XK) (hr : Room 3 (A.deeper (envOfC "apart" (defScope (top 30)) s.heap.objs.size f cdv))) :
    SB (cxOf (L2.CX P w) P w K mg base ["one", "other"] "apart" (defScope (top 30)) f cdv A outer s H E) (fun cls d _ H => E cls d H) 2 (defBody (top 30)) m_apart := by
  have nd := sc_apart.nd
  have tk : Takes (cxOf (L2.CX P w) P w K mg base ["one", "other"] "apart" (defScope (top 30)) f cdv A outer s H E) (fun cls d _ H => E cls d H) := takes_of rfl rfl rfl rfl
  have po := passes_of (X := cxOf (L2.CX P w) P w K mg base ["one", "other"] "apart" (defScope (top 30)) f cdv A outer s H E) rfl
  unfold m_apart
  refine sb_cons ?_ ?_
  · refine ss_expr ?_
    · refine se_call (k := 3) (j := 3) ?_ ?_ ?_ ?_ ?_ ?_
      · exact cal_require_any_row g
      · exact tk
      · exact hr
      · decide
      · exact rfl
      · refine sa_cons ?_ ?_
        · refine se_var (i := 0) ?_ ?_
          · exact rfl
          · exact vis_by rfl
        · exact sa_nil
  · refine sb_cons ?_ ?_
    · refine ss_expr ?_
      · refine se_call (k := 2) (j := 3) ?_ ?_ ?_ ?_ ?_ ?_
        · exact cal_require_row g
        · exact tk
        · exact hr
        · decide
        · exact rfl
        · refine sa_cons ?_ ?_
          · refine se_var (i := 1) ?_ ?_
            · exact rfl
            · exact vis_by rfl
          · refine sa_cons ?_ ?_
            · refine se_callB (id := "len") ?_ ?_ ?_ ?_ ?_
              · exact oc_len
              · exact rfl
              · exact g.z_len
              · exact b_len
              · refine sa_cons ?_ ?_
                · refine se_var (i := 0) ?_ ?_
                  · exact rfl
                  · exact vis_by rfl
                · exact sa_nil
            · exact sa_nil
    · refine sb_one ?_
      · refine ss_ret ?_
        · refine se_call (k := 1) (j := 3) ?_ ?_ ?_ ?_ ?_ ?_
          · exact cal_apart_at g
          · exact tk
          · exact hr
          · decide
          · exact rfl
          · refine sa_cons ?_ ?_
            · refine se_var (i := 0) ?_ ?_
              · exact rfl
              · exact vis_by rfl
            · refine sa_cons ?_ ?_
              · refine se_var (i := 1) ?_ ?_
                · exact rfl
                · exact vis_by rfl
              · exact sa_nil
theorem cal_apart (g : Gs w K mg) : Cal P w K mg base 4 "apart" 2 2 2 m_apart [] := by
  obtain ⟨f, fd, F, hm⟩ := g.f_apart
  exact ⟨f, fd, ["one", "other"], ["one", "other"], [], [], okD F sc_apart (@s_apart P w K mg base g _), rfl, rfl, hm, F.kp, F.bindsN (fun _ _ _ _ _ _ us hl => match us, hl with | [_, _], _ => rfl), .nil, fun _ => .nil⟩
theorem sc_are_upright : FnScope (["one", "other", "pairs", "first", "second"] : List Str) ["one", "other"] (defScope (top 26)) := ⟨rfl, rfl, rfl, by decide +kernel, rfl, by decide +kernel, by decide +kernel⟩
theorem s_are_upright (g : Gs w K mg) {f : Addr} (cdv : Value) (A : Around) (outer : List Env) (s : Shared) (H : Hp) (E : XK) (hr : Room 0 (A.deeper (envOfC "are_upright" (defScope (top 26)) s.heap.objs.size f cdv))) :
    SB (cxOf (L2.CX P w) P w K mg base ["one", "other", "pairs", "first", "second"] "are_upright" (defScope (top 26)) f cdv A outer s H E) (fun cls d _ H => E cls d H) 2 (defBody (top 26)) m_are_upright := by
  have nd := sc_are_upright.nd
  have tk : Takes (cxOf (L2.CX P w) P w K mg base ["one", "other", "pairs", "first", "second"] "are_upright" (defScope (top 26)) f cdv A outer s H E) (fun cls d _ H => E cls d H) := takes_of rfl rfl rfl rfl
  have po := passes_of (X := cxOf (L2.CX P w) P w K mg base ["one", "other", "pairs", "first", "second"] "are_upright" (defScope (top 26)) f cdv A outer s H E) rfl
  unfold m_are_upright
  refine sb_cons ?_ ?_
  · refine ss_setLc (i := 2) (own := [("first", 3), ("second", 4)]) (is := [3, 4]) (gt := (gTup K 2 (tNms [3, 4]))) ?_ ?_ ?_ ?_ ?_ ?_ ?_ ?_ ?_ ?_
    · decide
    · exact rfl
    · exact nd
    · exact rfl
    · exact rfl
    · exact rfl
    · refine si_zip ?_ ?_ ?_
      · exact rfl
      · exact g.z_zip
      · refine sa_cons ?_ ?_
        · refine se_var (i := 0) ?_ ?_
          · exact rfl
          · exact vis_by rfl
        · refine sa_cons ?_ ?_
          · refine se_var (i := 1) ?_ ?_
            · exact rfl
            · exact vis_by rfl
          · exact sa_nil
    · exact blkOk_by rfl
    · refine ⟨fun _ _ _ _ _ => ?_, fun _ _ _ _ _ => ?_, fun _ _ _ _ _ => ?_⟩
      · refine gn_tup (is := [3, 4]) ?_ ?_
        · decide
        · refine pg_tup ?_ ?_
          · exact rfl
          · refine pgs_cons ?_ ?_
            · refine pg_name (i := 3) ?_ ?_ ?_
              · exact nd
              · exact rfl
              · exact loc_by rfl
            · refine pgs_cons ?_ ?_
              · refine pg_name (i := 4) ?_ ?_ ?_
                · exact nd
                · exact rfl
                · exact loc_by rfl
              · exact pgs_nil
      · refine sts_one ?_
        · refine SW.st ?_
          · refine sw_and ?_ ?_
            · refine st_cmp ?_ ?_ ?_ ?_
              · exact op_dNe (hu64 hr)
              · refine se_var (i := 3) ?_ ?_
                · exact rfl
                · exact vis_by rfl
              · refine se_gl ?_ ?_
                · exact rfl
                · exact g.c_ZERO
              · exact rfl
            · refine sw_and1 ?_
              · refine st_cmp ?_ ?_ ?_ ?_
                · exact op_dNe (hu64 hr)
                · refine se_var (i := 4) ?_ ?_
                  · exact rfl
                  · exact vis_by rfl
                · refine se_gl ?_ ?_
                  · exact rfl
                  · exact g.c_ZERO
                · exact rfl
      · refine se_cmp ?_ ?_ ?_ ?_
        · exact op_dEq (hu64 hr)
        · refine se_var (i := 3) ?_ ?_
          · exact rfl
          · exact vis_by rfl
        · refine se_var (i := 4) ?_ ?_
          · exact rfl
          · exact vis_by rfl
        · exact rfl
    · decide
  · refine sb_one ?_
    · refine ss_ret ?_
      · refine se_or ?_ ?_
        · refine se_cmp ?_ ?_ ?_ ?_
          · exact op_dEq (hu64 hr)
          · refine se_var (i := 2) ?_ ?_
            · exact rfl
            · exact vis_by rfl
          · refine se_lst ?_
            · exact sa_nil
          · exact rfl
        · refine se_one ?_
          · refine se_and ?_ ?_
            · refine se_cmp ?_ ?_ ?_ ?_
              · exact op_dIn (hu65 hr)
              · exact se_bl
              · refine se_var (i := 2) ?_ ?_
                · exact rfl
                · exact vis_by rfl
              · exact rfl
            · refine se_one ?_
              · refine se_cmp ?_ ?_ ?_ ?_
                · exact op_dIn (hu65 hr)
                · exact se_bl
                · refine se_var (i := 2) ?_ ?_
                  · exact rfl
                  · exact vis_by rfl
                · exact rfl
theorem cal_are_upright (g : Gs w K mg) : Cal P w K mg base 1 "are_upright" 2 2 5 m_are_upright [] := by
  obtain ⟨f, fd, F, hm⟩ := g.f_are_upright
  exact ⟨f, fd, ["one", "other", "pairs", "first", "second"], ["one", "other"], [], [], okD F sc_are_upright (@s_are_upright P w K mg base g _), rfl, rfl, hm, F.kp, F.bindsN (fun _ _ _ _ _ _ us hl => match us, hl with | [_, _], _ => rfl), .nil, fun _ => .nil⟩
theorem sc_is_upright : FnScope (["one", "other"] : List Str) ["one", "other"] (defScope (top 31)) := ⟨rfl, rfl, rfl, by decide +kernel, rfl, by decide +kernel, by decide +kernel⟩
theorem s_is_upright (g : Gs w K mg) {f : Addr} (cdv : Value) (A : Around) (outer : List Env) (s : Shared) (H : Hp) (E : XK) (hr : Room 3 (A.deeper (envOfC "is_upright" (defScope (top 31)) s.heap.objs.size f cdv))) :
    SB (cxOf (L2.CX P w) P w K mg base ["one", "other"] "is_upright" (defScope (top 31)) f cdv A outer s H E) (fun cls d _ H => E cls d H) 2 (defBody (top 31)) m_is_upright := by
  have nd := sc_is_upright.nd
  have tk : Takes (cxOf (L2.CX P w) P w K mg base ["one", "other"] "is_upright" (defScope (top 31)) f cdv A outer s H E) (fun cls d _ H => E cls d H) := takes_of rfl rfl rfl rfl
  have po := passes_of (X := cxOf (L2.CX P w) P w K mg base ["one", "other"] "is_upright" (defScope (top 31)) f cdv A outer s H E) rfl
  unfold m_is_upright
  refine sb_cons ?_ ?_
  · refine ss_expr ?_
    · refine se_call (k := 3) (j := 3) ?_ ?_ ?_ ?_ ?_ ?_
      · exact cal_require_any_row g
      · exact tk
      · exact hr
      · decide
      · exact rfl
      · refine sa_cons ?_ ?_
        · refine se_var (i := 0) ?_ ?_
          · exact rfl
          · exact vis_by rfl
        · exact sa_nil
  · refine sb_cons ?_ ?_
    · refine ss_expr ?_
      · refine se_call (k := 2) (j := 3) ?_ ?_ ?_ ?_ ?_ ?_
        · exact cal_require_row g
        · exact tk
        · exact hr
        · decide
        · exact rfl
        · refine sa_cons ?_ ?_
          · refine se_var (i := 1) ?_ ?_
            · exact rfl
            · exact vis_by rfl
          · refine sa_cons ?_ ?_
            · refine se_callB (id := "len") ?_ ?_ ?_ ?_ ?_
              · exact oc_len
              · exact rfl
              · exact g.z_len
              · exact b_len
              · refine sa_cons ?_ ?_
                · refine se_var (i := 0) ?_ ?_
                  · exact rfl
                  · exact vis_by rfl
                · exact sa_nil
            · exact sa_nil
    · refine sb_one ?_
      · refine ss_ret ?_
        · refine se_call (k := 1) (j := 3) ?_ ?_ ?_ ?_ ?_ ?_
          · exact cal_are_upright g
          · exact tk
          · exact hr
          · decide
          · exact rfl
          · refine sa_cons ?_ ?_
            · refine se_var (i := 0) ?_ ?_
              · exact rfl
              · exact vis_by rfl
            · refine sa_cons ?_ ?_
              · refine se_var (i := 1) ?_ ?_
                · exact rfl
                · exact vis_by rfl
              · exact sa_nil
theorem cal_is_upright (g : Gs w K mg) : Cal P w K mg base 4 "is_upright" 2 2 2 m_is_upright [] := by
  obtain ⟨f, fd, F, hm⟩ := g.f_is_upright
  exact ⟨f, fd, ["one", "other"], ["one", "other"], [], [], okD F sc_is_upright (@s_is_upright P w K mg base g _), rfl, rfl, hm, F.kp, F.bindsN (fun _ _ _ _ _ _ us hl => match us, hl with | [_, _], _ => rfl), .nil, fun _ => .nil⟩
theorem sc_laid : FnScope (["one", "other", "first", "second"] : List Str) ["one", "other"] (defScope (top 24)) := ⟨rfl, rfl, rfl, by decide +kernel, rfl, by decide +kernel, by decide +kernel⟩
theorem s_laid (g : Gs w K mg) {f : Addr} (cdv : Value) (A : Around) (outer : List Env) (s : Shared) (H : Hp) (E : XK) (hr : Room 0 (A.deeper (envOfC "laid" (defScope (top 24)) s.heap.objs.size f cdv))) :
    SB (cxOf (L2.CX P w) P w K mg base ["one", "other", "first", "second"] "laid" (defScope (top 24)) f cdv A outer s H E) (fun cls d _ H => E cls d H) 2 (defBody (top 24)) m_laid := by
  have nd := sc_laid.nd
  have tk : Takes (cxOf (L2.CX P w) P w K mg base ["one", "other", "first", "second"] "laid" (defScope (top 24)) f cdv A outer s H E) (fun cls d _ H => E cls d H) := takes_of rfl rfl rfl rfl
  have po := passes_of (X := cxOf (L2.CX P w) P w K mg base ["one", "other", "first", "second"] "laid" (defScope (top 24)) f cdv A outer s H E) rfl
  unfold m_laid
  refine sb_one ?_
  · refine ss_ret ?_
    · refine se_join ?_ ?_
      · refine se_str ?_
        · exact rfl
      · refine se_lc (own := [("first", 2), ("second", 3)]) (is := [2, 3]) (gt := (gTup K 2 (tNms [2, 3]))) ?_ ?_ ?_ ?_ ?_ ?_
        · exact rfl
        · exact nd
        · refine si_zip ?_ ?_ ?_
          · exact rfl
          · exact g.z_zip
          · refine sa_cons ?_ ?_
            · refine se_var (i := 0) ?_ ?_
              · exact rfl
              · exact vis_by rfl
            · refine sa_cons ?_ ?_
              · refine se_var (i := 1) ?_ ?_
                · exact rfl
                · exact vis_by rfl
              · exact sa_nil
        · exact blkOk_by rfl
        · refine ⟨fun _ _ _ _ _ => ?_, fun _ _ _ _ _ => ?_, fun _ _ _ _ _ => ?_⟩
          · refine gn_tup (is := [2, 3]) ?_ ?_
            · decide
            · refine pg_tup ?_ ?_
              · exact rfl
              · refine pgs_cons ?_ ?_
                · refine pg_name (i := 2) ?_ ?_ ?_
                  · exact nd
                  · exact rfl
                  · exact loc_by rfl
                · refine pgs_cons ?_ ?_
                  · refine pg_name (i := 3) ?_ ?_ ?_
                    · exact nd
                    · exact rfl
                    · exact loc_by rfl
                  · exact pgs_nil
          · exact sts_nil
          · refine se_if ?_ ?_ ?_
            · refine st_cmp ?_ ?_ ?_ ?_
              · exact op_dEq (hu64 hr)
              · refine se_var (i := 2) ?_ ?_
                · exact rfl
                · exact vis_by rfl
              · refine se_gl ?_ ?_
                · exact rfl
                · exact g.c_ZERO
              · exact rfl
            · refine se_var (i := 3) ?_ ?_
              · exact rfl
              · exact vis_by rfl
            · refine se_var (i := 2) ?_ ?_
              · exact rfl
              · exact vis_by rfl
        · decide
theorem cal_laid (g : Gs w K mg) : Cal P w K mg base 1 "laid" 2 2 4 m_laid [] := by
  obtain ⟨f, fd, F, hm⟩ := g.f_laid
  exact ⟨f, fd, ["one", "other", "first", "second"], ["one", "other"], [], [], okD F sc_laid (@s_laid P w K mg base g _), rfl, rfl, hm, F.kp, F.bindsN (fun _ _ _ _ _ _ us hl => match us, hl with | [_, _], _ => rfl), .nil, fun _ => .nil⟩
theorem sc_laid_over : FnScope (["one", "other"] : List Str) ["one", "other"] (defScope (top 29)) := ⟨rfl, rfl, rfl, by decide +kernel, rfl, by decide +kernel, by decide +kernel⟩
theorem s_laid_over (g : Gs w K mg) {f : Addr} (cdv : Value) (A : Around) (outer : List Env) (s : Shared) (H : Hp) (E : XK) (hr : Room 3 (A.deeper (envOfC "laid_over" (defScope (top 29)) s.heap.objs.size f cdv))) :
    SB (cxOf (L2.CX P w) P w K mg base ["one", "other"] "laid_over" (defScope (top 29)) f cdv A outer s H E) (fun cls d _ H => E cls d H) 2 (defBody (top 29)) m_laid_over := by
  have nd := sc_laid_over.nd
  have tk : Takes (cxOf (L2.CX P w) P w K mg base ["one", "other"] "laid_over" (defScope (top 29)) f cdv A outer s H E) (fun cls d _ H => E cls d H) := takes_of rfl rfl rfl rfl
  have po := passes_of (X := cxOf (L2.CX P w) P w K mg base ["one", "other"] "laid_over" (defScope (top 29)) f cdv A outer s H E) rfl
  unfold m_laid_over
  refine sb_cons ?_ ?_
  · refine ss_expr ?_
    · refine se_call (k := 3) (j := 3) ?_ ?_ ?_ ?_ ?_ ?_
      · exact cal_require_any_row g
      · exact tk
      · exact hr
      · decide
      · exact rfl
      · refine sa_cons ?_ ?_
        · refine se_var (i := 0) ?_ ?_
          · exact rfl
          · exact vis_by rfl
        · exact sa_nil
  · refine sb_cons ?_ ?_
    · refine ss_expr ?_
      · refine se_call (k := 2) (j := 3) ?_ ?_ ?_ ?_ ?_ ?_
        · exact cal_require_row g
        · exact tk
        · exact hr
        · decide
        · exact rfl
        · refine sa_cons ?_ ?_
          · refine se_var (i := 1) ?_ ?_
            · exact rfl
            · exact vis_by rfl
          · refine sa_cons ?_ ?_
            · refine se_callB (id := "len") ?_ ?_ ?_ ?_ ?_
              · exact oc_len
              · exact rfl
              · exact g.z_len
              · exact b_len
              · refine sa_cons ?_ ?_
                · refine se_var (i := 0) ?_ ?_
                  · exact rfl
                  · exact vis_by rfl
                · exact sa_nil
            · exact sa_nil
    · refine sb_one ?_
      · refine ss_ret ?_
        · refine se_call (k := 1) (j := 3) ?_ ?_ ?_ ?_ ?_ ?_
          · exact cal_laid g
          · exact tk
          · exact hr
          · decide
          · exact rfl
          · refine sa_cons ?_ ?_
            · refine se_var (i := 0) ?_ ?_
              · exact rfl
              · exact vis_by rfl
            · refine sa_cons ?_ ?_
              · refine se_var (i := 1) ?_ ?_
                · exact rfl
                · exact vis_by rfl
              · exact sa_nil
theorem cal_laid_over (g : Gs w K mg) : Cal P w K mg base 4 "laid_over" 2 2 2 m_laid_over [] := by
  obtain ⟨f, fd, F, hm⟩ := g.f_laid_over
  exact ⟨f, fd, ["one", "other"], ["one", "other"], [], [], okD F sc_laid_over (@s_laid_over P w K mg base g _), rfl, rfl, hm, F.kp, F.bindsN (fun _ _ _ _ _ _ us hl => match us, hl with | [_, _], _ => rfl), .nil, fun _ => .nil⟩
theorem sc_are_ascending : FnScope (["items", "one", "other"] : List Str) ["items"] (defScope (top 5)) := ⟨rfl, rfl, rfl, by decide +kernel, rfl, by decide +kernel, by decide +kernel⟩
theorem s_are_ascending (g : Gs w K mg) {f : Addr} (cdv : Value) (A : Around) (outer : List Env) (s : Shared) (H : Hp) (E : XK) (hr : Room 0 (A.deeper (envOfC "are_ascending" (defScope (top 5)) s.heap.objs.size f cdv))) :
    SB (cxOf (L2.CX P w) P w K mg base ["items", "one", "other"] "are_ascending" (defScope (top 5)) f cdv A outer s H E) (fun cls d _ H => E cls d H) 1 (defBody (top 5)) m_are_ascending := by
  have nd := sc_are_ascending.nd
  have tk : Takes (cxOf (L2.CX P w) P w K mg base ["items", "one", "other"] "are_ascending" (defScope (top 5)) f cdv A outer s H E) (fun cls d _ H => E cls d H) := takes_of rfl rfl rfl rfl
  have po := passes_of (X := cxOf (L2.CX P w) P w K mg base ["items", "one", "other"] "are_ascending" (defScope (top 5)) f cdv A outer s H E) rfl
  unfold m_are_ascending
  refine sb_one ?_
  · refine ss_ret ?_
    · refine se_callB (id := "all") ?_ ?_ ?_ ?_ ?_
      · exact oc_all rfl
      · exact rfl
      · exact g.z_all
      · exact b_all
      · refine sa_cons ?_ ?_
        · refine se_lc (own := [("one", 1), ("other", 2)]) (is := [1, 2]) (gt := (gTup K 2 (tNms [1, 2]))) ?_ ?_ ?_ ?_ ?_ ?_
          · exact rfl
          · exact nd
          · refine si_zip ?_ ?_ ?_
            · exact rfl
            · exact g.z_zip
            · refine sa_cons ?_ ?_
              · refine se_var (i := 0) ?_ ?_
                · exact rfl
                · exact vis_by rfl
              · refine sa_cons ?_ ?_
                · refine se_slice ?_ ?_ ?_ ?_
                  · exact ox_sl
                  · refine se_var (i := 0) ?_ ?_
                    · exact rfl
                    · exact vis_by rfl
                  · refine so_some ?_
                    · exact se_int
                  · exact so_none
                · exact sa_nil
          · exact blkOk_by rfl
          · refine ⟨fun _ _ _ _ _ => ?_, fun _ _ _ _ _ => ?_, fun _ _ _ _ _ => ?_⟩
            · refine gn_tup (is := [1, 2]) ?_ ?_
              · decide
              · refine pg_tup ?_ ?_
                · exact rfl
                · refine pgs_cons ?_ ?_
                  · refine pg_name (i := 1) ?_ ?_ ?_
                    · exact nd
                    · exact rfl
                    · exact loc_by rfl
                  · refine pgs_cons ?_ ?_
                    · refine pg_name (i := 2) ?_ ?_ ?_
                      · exact nd
                      · exact rfl
                      · exact loc_by rfl
                    · exact pgs_nil
            · exact sts_nil
            · refine se_cmp ?_ ?_ ?_ ?_
              · exact op_dLt
              · refine se_var (i := 1) ?_ ?_
                · exact rfl
                · exact vis_by rfl
              · refine se_var (i := 2) ?_ ?_
                · exact rfl
                · exact vis_by rfl
              · exact rfl
          · decide
        · exact sa_nil
theorem cal_are_ascending (g : Gs w K mg) : Cal P w K mg base 1 "are_ascending" 1 1 3 m_are_ascending [] := by
  obtain ⟨f, fd, F, hm⟩ := g.f_are_ascending
  exact ⟨f, fd, ["items", "one", "other"], ["items"], [], [], okD F sc_are_ascending (@s_are_ascending P w K mg base g _), rfl, rfl, hm, F.kp, F.bindsN (fun _ _ _ _ _ _ us hl => match us, hl with | [_], _ => rfl), .nil, fun _ => .nil⟩
theorem sc_is_integer : FnScope (["value"] : List Str) ["value"] (defScope (top 2)) := ⟨rfl, rfl, rfl, by decide +kernel, rfl, by decide +kernel, by decide +kernel⟩
theorem s_is_integer (g : Gs w K mg) {f : Addr} (cdv : Value) (A : Around) (outer : List Env) (s : Shared) (H : Hp) (E : XK) (hr : Room 0 (A.deeper (envOfC "is_integer" (defScope (top 2)) s.heap.objs.size f cdv))) :
    SB (cxOf (L2.CX P w) P w K mg base ["value"] "is_integer" (defScope (top 2)) f cdv A outer s H E) (fun cls d _ H => E cls d H) 1 (defBody (top 2)) m_is_integer := by
  have nd := sc_is_integer.nd
  have tk : Takes (cxOf (L2.CX P w) P w K mg base ["value"] "is_integer" (defScope (top 2)) f cdv A outer s H E) (fun cls d _ H => E cls d H) := takes_of rfl rfl rfl rfl
  have po := passes_of (X := cxOf (L2.CX P w) P w K mg base ["value"] "is_integer" (defScope (top 2)) f cdv A outer s H E) rfl
  unfold m_is_integer
  refine sb_one ?_
  · refine ss_ret ?_
    · refine se_and ?_ ?_
      · refine se_callB (id := "isinstance") ?_ ?_ ?_ ?_ ?_
        · exact oc_isi
        · exact rfl
        · exact g.z_isinstance
        · exact b_isinstance
        · refine sa_cons ?_ ?_
          · refine se_var (i := 0) ?_ ?_
            · exact rfl
            · exact vis_by rfl
          · refine sa_cons ?_ ?_
            · refine se_bty (n := "int") ?_ ?_ ?_
              · exact rfl
              · exact g.z_int
              · exact b_int
            · exact sa_nil
      · refine se_and ?_ ?_
        · refine se_not ?_
          · refine se_callB (id := "isinstance") ?_ ?_ ?_ ?_ ?_
            · exact oc_isi
            · exact rfl
            · exact g.z_isinstance
            · exact b_isinstance
            · refine sa_cons ?_ ?_
              · refine se_var (i := 0) ?_ ?_
                · exact rfl
                · exact vis_by rfl
              · refine sa_cons ?_ ?_
                · refine se_bty (n := "bool") ?_ ?_ ?_
                  · exact rfl
                  · exact g.z_bool
                  · exact b_bool
                · exact sa_nil
        · refine se_one ?_
          · refine se_chain ?_ ?_ ?_ ?_ ?_
            · exact op_dLt
            · exact op_dLt
            · refine se_un ?_ ?_
              · exact op_dNeg
              · refine se_gl ?_ ?_
                · exact rfl
                · exact g.c_GREATEST
            · refine se_var (i := 0) ?_ ?_
              · exact rfl
              · exact vis_by rfl
            · refine se_gl ?_ ?_
              · exact rfl
              · exact g.c_GREATEST
theorem cal_is_integer (g : Gs w K mg) : Cal P w K mg base 1 "is_integer" 1 1 1 m_is_integer [] := by
  obtain ⟨f, fd, F, hm⟩ := g.f_is_integer
  exact ⟨f, fd, ["value"], ["value"], [], [], okD F sc_is_integer (@s_is_integer P w K mg base g _), rfl, rfl, hm, F.kp, F.bindsN (fun _ _ _ _ _ _ us hl => match us, hl with | [_], _ => rfl), .nil, fun _ => .nil⟩
theorem sc_is_from : FnScope (["value", "least", "most"] : List Str) ["value", "least", "most"] (defScope (top 3)) := ⟨rfl, rfl, rfl, by decide +kernel, rfl, by decide +kernel, by decide +kernel⟩
theorem s_is_from (g : Gs w K mg) {f : Addr} (cdv : Value) (A : Around) (outer : List Env) (s : Shared) (H : Hp) (E : XK) (hr : Room 1 (A.deeper (envOfC "is_from" (defScope (top 3)) s.heap.objs.size f cdv))) :
    SB (cxOf (L2.CX P w) P w K mg base ["value", "least", "most"] "is_from" (defScope (top 3)) f cdv A outer s H E) (fun cls d _ H => E cls d H) 3 (defBody (top 3)) m_is_from := by
  have nd := sc_is_from.nd
  have tk : Takes (cxOf (L2.CX P w) P w K mg base ["value", "least", "most"] "is_from" (defScope (top 3)) f cdv A outer s H E) (fun cls d _ H => E cls d H) := takes_of rfl rfl rfl rfl
  have po := passes_of (X := cxOf (L2.CX P w) P w K mg base ["value", "least", "most"] "is_from" (defScope (top 3)) f cdv A outer s H E) rfl
  unfold m_is_from
  refine sb_one ?_
  · refine ss_ret ?_
    · refine se_and ?_ ?_
      · refine se_call (k := 1) (j := 1) ?_ ?_ ?_ ?_ ?_ ?_
        · exact cal_is_integer g
        · exact tk
        · exact hr
        · decide
        · exact rfl
        · refine sa_cons ?_ ?_
          · refine se_var (i := 0) ?_ ?_
            · exact rfl
            · exact vis_by rfl
          · exact sa_nil
      · refine se_one ?_
        · refine se_chain ?_ ?_ ?_ ?_ ?_
          · exact op_dLe
          · exact op_dLe
          · refine se_var (i := 1) ?_ ?_
            · exact rfl
            · exact vis_by rfl
          · refine se_var (i := 0) ?_ ?_
            · exact rfl
            · exact vis_by rfl
          · refine se_var (i := 2) ?_ ?_
            · exact rfl
            · exact vis_by rfl
theorem cal_is_from (g : Gs w K mg) : Cal P w K mg base 2 "is_from" 3 3 3 m_is_from [] := by
  obtain ⟨f, fd, F, hm⟩ := g.f_is_from
  exact ⟨f, fd, ["value", "least", "most"], ["value", "least", "most"], [], [], okD F sc_is_from (@s_is_from P w K mg base g _), rfl, rfl, hm, F.kp, F.bindsN (fun _ _ _ _ _ _ us hl => match us, hl with | [_, _, _], _ => rfl), .nil, fun _ => .nil⟩
theorem sc_is_thing : FnScope (["value", "many"] : List Str) ["value", "many"] (defScope (top 4)) := ⟨rfl, rfl, rfl, by decide +kernel, rfl, by decide +kernel, by decide +kernel⟩
theorem s_is_thing (g : Gs w K mg) {f : Addr} (cdv : Value) (A : Around) (outer : List Env) (s : Shared) (H : Hp) (E : XK) (hr : Room 2 (A.deeper (envOfC "is_thing" (defScope (top 4)) s.heap.objs.size f cdv))) :
    SB (cxOf (L2.CX P w) P w K mg base ["value", "many"] "is_thing" (defScope (top 4)) f cdv A outer s H E) (fun cls d _ H => E cls d H) 2 (defBody (top 4)) m_is_thing := by
  have nd := sc_is_thing.nd
  have tk : Takes (cxOf (L2.CX P w) P w K mg base ["value", "many"] "is_thing" (defScope (top 4)) f cdv A outer s H E) (fun cls d _ H => E cls d H) := takes_of rfl rfl rfl rfl
  have po := passes_of (X := cxOf (L2.CX P w) P w K mg base ["value", "many"] "is_thing" (defScope (top 4)) f cdv A outer s H E) rfl
  unfold m_is_thing
  refine sb_one ?_
  · refine ss_ret ?_
    · refine se_call (k := 2) (j := 2) ?_ ?_ ?_ ?_ ?_ ?_
      · exact cal_is_from g
      · exact tk
      · exact hr
      · decide
      · exact rfl
      · refine sa_cons ?_ ?_
        · refine se_var (i := 0) ?_ ?_
          · exact rfl
          · exact vis_by rfl
        · refine sa_cons ?_ ?_
          · exact se_int
          · refine sa_cons ?_ ?_
            · refine se_bin ?_ ?_ ?_
              · exact op_dSub
              · refine se_var (i := 1) ?_ ?_
                · exact rfl
                · exact vis_by rfl
              · exact se_int
            · exact sa_nil
theorem cal_is_thing (g : Gs w K mg) : Cal P w K mg base 3 "is_thing" 2 2 2 m_is_thing [] := by
  obtain ⟨f, fd, F, hm⟩ := g.f_is_thing
  exact ⟨f, fd, ["value", "many"], ["value", "many"], [], [], okD F sc_is_thing (@s_is_thing P w K mg base g _), rfl, rfl, hm, F.kp, F.bindsN (fun _ _ _ _ _ _ us hl => match us, hl with | [_, _], _ => rfl), .nil, fun _ => .nil⟩
theorem sc_is_things : FnScope (["value", "many", "thing"] : List Str) ["value", "many"] (defScope (top 6)) := ⟨rfl, rfl, rfl, by decide +kernel, rfl, by decide +kernel, by decide +kernel⟩
theorem s_is_things (g : Gs w K mg) {f : Addr} (cdv : Value) (A : Around) (outer : List Env) (s : Shared) (H : Hp) (E : XK) (hr : Room 3 (A.deeper (envOfC "is_things" (defScope (top 6)) s.heap.objs.size f cdv))) :
    SB (cxOf (L2.CX P w) P w K mg base ["value", "many", "thing"] "is_things" (defScope (top 6)) f cdv A outer s H E) (fun cls d _ H => E cls d H) 2 (defBody (top 6)) m_is_things := by
  have nd := sc_is_things.nd
  have tk : Takes (cxOf (L2.CX P w) P w K mg base ["value", "many", "thing"] "is_things" (defScope (top 6)) f cdv A outer s H E) (fun cls d _ H => E cls d H) := takes_of rfl rfl rfl rfl
  have po := passes_of (X := cxOf (L2.CX P w) P w K mg base ["value", "many", "thing"] "is_things" (defScope (top 6)) f cdv A outer s H E) rfl
  unfold m_is_things
  refine sb_cons ?_ ?_
  · refine ss_if ?_ ?_ ?_
    · refine SW.st ?_
      · refine sw_or ?_ ?_
        · refine st_not ?_
          · refine st_val ?_
            · refine se_callB (id := "isinstance") ?_ ?_ ?_ ?_ ?_
              · exact oc_isi
              · exact rfl
              · exact g.z_isinstance
              · exact b_isinstance
              · refine sa_cons ?_ ?_
                · refine se_var (i := 0) ?_ ?_
                  · exact rfl
                  · exact vis_by rfl
                · refine sa_cons ?_ ?_
                  · refine se_bty (n := "tuple") ?_ ?_ ?_
                    · exact rfl
                    · exact g.z_tuple
                    · exact b_tuple
                  · exact sa_nil
        · refine sw_or1 ?_
          · refine st_not ?_
            · refine st_val ?_
              · refine se_callB (id := "all") ?_ ?_ ?_ ?_ ?_
                · exact oc_all rfl
                · exact rfl
                · exact g.z_all
                · exact b_all
                · refine sa_cons ?_ ?_
                  · refine se_lc (own := [("thing", 2)]) (is := [2]) (gt := (gName 2)) ?_ ?_ ?_ ?_ ?_ ?_
                    · exact rfl
                    · exact nd
                    · refine si_val ?_
                      · refine se_var (i := 0) ?_ ?_
                        · exact rfl
                        · exact vis_by rfl
                    · exact blkOk_by rfl
                    · refine ⟨fun _ _ _ _ _ => ?_, fun _ _ _ _ _ => ?_, fun _ _ _ _ _ => ?_⟩
                      · refine gn_name (i := 2) ?_ ?_
                        · decide
                        · refine pg_name (i := 2) ?_ ?_ ?_
                          · exact nd
                          · exact rfl
                          · exact loc_by rfl
                      · exact sts_nil
                      · refine se_call (k := 3) (j := 3) ?_ ?_ ?_ ?_ ?_ ?_
                        · exact cal_is_thing g
                        · exact takesF
                        · exact hr
                        · decide
                        · exact rfl
                        · refine sa_cons ?_ ?_
                          · refine se_var (i := 2) ?_ ?_
                            · exact rfl
                            · exact vis_by rfl
                          · refine sa_cons ?_ ?_
                            · refine se_var (i := 1) ?_ ?_
                              · exact rfl
                              · exact vis_by rfl
                            · exact sa_nil
                    · decide
                  · exact sa_nil
    · refine sb_one ?_
      · refine ss_ret ?_
        · exact se_bl
    · exact sb_nil
  · refine sb_one ?_
    · refine ss_ret ?_
      · refine se_call (k := 1) (j := 3) ?_ ?_ ?_ ?_ ?_ ?_
        · exact cal_are_ascending g
        · exact tk
        · exact hr
        · decide
        · exact rfl
        · refine sa_cons ?_ ?_
          · refine se_var (i := 0) ?_ ?_
            · exact rfl
            · exact vis_by rfl
          · exact sa_nil
theorem cal_is_things (g : Gs w K mg) : Cal P w K mg base 4 "is_things" 2 2 3 m_is_things [] := by
  obtain ⟨f, fd, F, hm⟩ := g.f_is_things
  exact ⟨f, fd, ["value", "many", "thing"], ["value", "many"], [], [], okD F sc_is_things (@s_is_things P w K mg base g _), rfl, rfl, hm, F.kp, F.bindsN (fun _ _ _ _ _ _ us hl => match us, hl with | [_, _], _ => rfl), .nil, fun _ => .nil⟩
theorem sc_require_things : FnScope (["value", "many"] : List Str) ["value", "many"] (defScope (top 21)) := ⟨rfl, rfl, rfl, by decide +kernel, rfl, by decide +kernel, by decide +kernel⟩
theorem s_require_things (g : Gs w K mg) {f : Addr} (cdv : Value) (A : Around) (outer : List Env) (s : Shared) (H : Hp) (E : XK) (hr : Room 4 (A.deeper (envOfC "require_things" (defScope (top 21)) s.heap.objs.size f cdv))) :
    SB (cxOf (L2.CX P w) P w K mg base ["value", "many"] "require_things" (defScope (top 21)) f cdv A outer s H E) (fun cls d _ H => E cls d H) 2 (defBody (top 21)) m_require_things := by
  have nd := sc_require_things.nd
  have tk : Takes (cxOf (L2.CX P w) P w K mg base ["value", "many"] "require_things" (defScope (top 21)) f cdv A outer s H E) (fun cls d _ H => E cls d H) := takes_of rfl rfl rfl rfl
  have po := passes_of (X := cxOf (L2.CX P w) P w K mg base ["value", "many"] "require_things" (defScope (top 21)) f cdv A outer s H E) rfl
  unfold m_require_things
  refine sb_one ?_
  · refine ss_if ?_ ?_ ?_
    · refine st_not ?_
      · refine st_val ?_
        · refine se_call (k := 4) (j := 4) ?_ ?_ ?_ ?_ ?_ ?_
          · exact cal_is_things g
          · exact tk
          · exact hr
          · decide
          · exact rfl
          · refine sa_cons ?_ ?_
            · refine se_var (i := 0) ?_ ?_
              · exact rfl
              · exact vis_by rfl
            · refine sa_cons ?_ ?_
              · refine se_var (i := 1) ?_ ?_
                · exact rfl
                · exact vis_by rfl
              · exact sa_nil
    · refine sb_one ?_
      · exact ss_never
    · exact sb_nil
theorem cal_require_things (g : Gs w K mg) : Cal P w K mg base 5 "require_things" 2 2 2 m_require_things [] := by
  obtain ⟨f, fd, F, hm⟩ := g.f_require_things
  exact ⟨f, fd, ["value", "many"], ["value", "many"], [], [], okD F sc_require_things (@s_require_things P w K mg base g _), rfl, rfl, hm, F.kp, F.bindsN (fun _ _ _ _ _ _ us hl => match us, hl with | [_, _], _ => rfl), .nil, fun _ => .nil⟩
theorem sc_turned_row : FnScope (["row", "sign"] : List Str) ["row"] (defScope (top 22)) := ⟨rfl, rfl, rfl, by decide +kernel, rfl, by decide +kernel, by decide +kernel⟩
theorem s_turned_row (g : Gs w K mg) {f : Addr} (cdv : Value) (A : Around) (outer : List Env) (s : Shared) (H : Hp) (E : XK) (hr : Room 0 (A.deeper (envOfC "turned_row" (defScope (top 22)) s.heap.objs.size f cdv))) :
    SB (cxOf (L2.CX P w) P w K mg base ["row", "sign"] "turned_row" (defScope (top 22)) f cdv A outer s H E) (fun cls d _ H => E cls d H) 1 (defBody (top 22)) m_turned_row := by
  have nd := sc_turned_row.nd
  have tk : Takes (cxOf (L2.CX P w) P w K mg base ["row", "sign"] "turned_row" (defScope (top 22)) f cdv A outer s H E) (fun cls d _ H => E cls d H) := takes_of rfl rfl rfl rfl
  have po := passes_of (X := cxOf (L2.CX P w) P w K mg base ["row", "sign"] "turned_row" (defScope (top 22)) f cdv A outer s H E) rfl
  unfold m_turned_row
  refine sb_one ?_
  · refine ss_ret ?_
    · refine se_join ?_ ?_
      · refine se_str ?_
        · exact rfl
      · refine se_lc (own := [("sign", 1)]) (is := [1]) (gt := (gName 1)) ?_ ?_ ?_ ?_ ?_ ?_
        · exact rfl
        · exact nd
        · refine si_val ?_
          · refine se_var (i := 0) ?_ ?_
            · exact rfl
            · exact vis_by rfl
        · exact blkOk_by rfl
        · refine ⟨fun _ _ _ _ _ => ?_, fun _ _ _ _ _ => ?_, fun _ _ _ _ _ => ?_⟩
          · refine gn_name (i := 1) ?_ ?_
            · decide
            · refine pg_name (i := 1) ?_ ?_ ?_
              · exact nd
              · exact rfl
              · exact loc_by rfl
          · exact sts_nil
          · refine se_ix ?_ ?_ ?_ ?_
            · exact ox_ix (hu1 hr)
            · refine se_gl ?_ ?_
              · exact rfl
              · exact g.c_TURNED
            · refine se_var (i := 1) ?_ ?_
              · exact rfl
              · exact vis_by rfl
            · exact fun _ _ => rfl
        · decide
theorem cal_turned_row (g : Gs w K mg) : Cal P w K mg base 1 "turned_row" 1 1 2 m_turned_row [] := by
  obtain ⟨f, fd, F, hm⟩ := g.f_turned_row
  exact ⟨f, fd, ["row", "sign"], ["row"], [], [], okD F sc_turned_row (@s_turned_row P w K mg base g _), rfl, rfl, hm, F.kp, F.bindsN (fun _ _ _ _ _ _ us hl => match us, hl with | [_], _ => rfl), .nil, fun _ => .nil⟩
theorem sc_turned_row_at : FnScope (["row", "things", "at", "sign"] : List Str) ["row", "things"] (defScope (top 23)) := ⟨rfl, rfl, rfl, by decide +kernel, rfl, by decide +kernel, by decide +kernel⟩
theorem s_turned_row_at (g : Gs w K mg) {f : Addr} (cdv : Value) (A : Around) (outer : List Env) (s : Shared) (H : Hp) (E : XK) (hr : Room 0 (A.deeper (envOfC "turned_row_at" (defScope (top 23)) s.heap.objs.size f cdv))) :
    SB (cxOf (L2.CX P w) P w K mg base ["row", "things", "at", "sign"] "turned_row_at" (defScope (top 23)) f cdv A outer s H E) (fun cls d _ H => E cls d H) 2 (defBody (top 23)) m_turned_row_at := by
  have nd := sc_turned_row_at.nd
  have tk : Takes (cxOf (L2.CX P w) P w K mg base ["row", "things", "at", "sign"] "turned_row_at" (defScope (top 23)) f cdv A outer s H E) (fun cls d _ H => E cls d H) := takes_of rfl rfl rfl rfl
  have po := passes_of (X := cxOf (L2.CX P w) P w K mg base ["row", "things", "at", "sign"] "turned_row_at" (defScope (top 23)) f cdv A outer s H E) rfl
  unfold m_turned_row_at
  refine sb_one ?_
  · refine ss_ret ?_
    · refine se_join ?_ ?_
      · refine se_str ?_
        · exact rfl
      · refine se_lc (own := [("at", 2), ("sign", 3)]) (is := [2, 3]) (gt := (gTup K 2 (tNms [2, 3]))) ?_ ?_ ?_ ?_ ?_ ?_
        · exact rfl
        · exact nd
        · refine si_enum ?_ ?_ ?_
          · exact rfl
          · exact g.z_enumerate
          · refine sa_cons ?_ ?_
            · refine se_var (i := 0) ?_ ?_
              · exact rfl
              · exact vis_by rfl
            · exact sa_nil
        · exact blkOk_by rfl
        · refine ⟨fun _ _ _ _ _ => ?_, fun _ _ _ _ _ => ?_, fun _ _ _ _ _ => ?_⟩
          · refine gn_tup (is := [2, 3]) ?_ ?_
            · decide
            · refine pg_tup ?_ ?_
              · exact rfl
              · refine pgs_cons ?_ ?_
                · refine pg_name (i := 2) ?_ ?_ ?_
                  · exact nd
                  · exact rfl
                  · exact loc_by rfl
                · refine pgs_cons ?_ ?_
                  · refine pg_name (i := 3) ?_ ?_ ?_
                    · exact nd
                    · exact rfl
                    · exact loc_by rfl
                  · exact pgs_nil
          · exact sts_nil
          · refine se_if ?_ ?_ ?_
            · refine st_cmp ?_ ?_ ?_ ?_
              · exact op_dIn (hu65 hr)
              · refine se_var (i := 2) ?_ ?_
                · exact rfl
                · exact vis_by rfl
              · refine se_var (i := 1) ?_ ?_
                · exact rfl
                · exact vis_by rfl
              · exact rfl
            · refine se_ix ?_ ?_ ?_ ?_
              · exact ox_ix (hu1 hr)
              · refine se_gl ?_ ?_
                · exact rfl
                · exact g.c_TURNED
              · refine se_var (i := 3) ?_ ?_
                · exact rfl
                · exact vis_by rfl
              · exact fun _ _ => rfl
            · refine se_var (i := 3) ?_ ?_
              · exact rfl
              · exact vis_by rfl
        · decide
theorem cal_turned_row_at (g : Gs w K mg) : Cal P w K mg base 1 "turned_row_at" 2 2 4 m_turned_row_at [] := by
  obtain ⟨f, fd, F, hm⟩ := g.f_turned_row_at
  exact ⟨f, fd, ["row", "things", "at", "sign"], ["row", "things"], [], [], okD F sc_turned_row_at (@s_turned_row_at P w K mg base g _), rfl, rfl, hm, F.kp, F.bindsN (fun _ _ _ _ _ _ us hl => match us, hl with | [_, _], _ => rfl), .nil, fun _ => .nil⟩
theorem sc_turned : FnScope (["row", "things"] : List Str) ["row", "things"] (defScope (top 28)) := ⟨rfl, rfl, rfl, by decide +kernel, rfl, by decide +kernel, by decide +kernel⟩
theorem s_turned (g : Gs w K mg) {f : Addr} (cdv : Value) (A : Around) (outer : List Env) (s : Shared) (H : Hp) (E : XK) (hr : Room 5 (A.deeper (envOfC "turned" (defScope (top 28)) s.heap.objs.size f cdv))) :
    SB (cxOf (L2.CX P w) P w K mg base ["row", "things"] "turned" (defScope (top 28)) f cdv A outer s H E) (fun cls d _ H => E cls d H) 2 (defBody (top 28)) m_turned := by
  have nd := sc_turned.nd
  have tk : Takes (cxOf (L2.CX P w) P w K mg base ["row", "things"] "turned" (defScope (top 28)) f cdv A outer s H E) (fun cls d _ H => E cls d H) := takes_of rfl rfl rfl rfl
  have po := passes_of (X := cxOf (L2.CX P w) P w K mg base ["row", "things"] "turned" (defScope (top 28)) f cdv A outer s H E) rfl
  unfold m_turned
  refine sb_cons ?_ ?_
  · refine ss_expr ?_
    · refine se_call (k := 3) (j := 5) ?_ ?_ ?_ ?_ ?_ ?_
      · exact cal_require_any_row g
      · exact tk
      · exact hr
      · decide
      · exact rfl
      · refine sa_cons ?_ ?_
        · refine se_var (i := 0) ?_ ?_
          · exact rfl
          · exact vis_by rfl
        · exact sa_nil
  · refine sb_cons ?_ ?_
    · refine ss_if ?_ ?_ ?_
      · refine st_cmp ?_ ?_ ?_ ?_
        · exact op_dIsN
        · refine se_var (i := 1) ?_ ?_
          · exact rfl
          · exact vis_by rfl
        · exact se_non
        · exact rfl
      · refine sb_one ?_
        · refine ss_ret ?_
          · refine se_call (k := 1) (j := 5) ?_ ?_ ?_ ?_ ?_ ?_
            · exact cal_turned_row g
            · exact tk
            · exact hr
            · decide
            · exact rfl
            · refine sa_cons ?_ ?_
              · refine se_var (i := 0) ?_ ?_
                · exact rfl
                · exact vis_by rfl
              · exact sa_nil
      · exact sb_nil
    · refine sb_cons ?_ ?_
      · refine ss_expr ?_
        · refine se_call (k := 5) (j := 5) ?_ ?_ ?_ ?_ ?_ ?_
          · exact cal_require_things g
          · exact tk
          · exact hr
          · decide
          · exact rfl
          · refine sa_cons ?_ ?_
            · refine se_var (i := 1) ?_ ?_
              · exact rfl
              · exact vis_by rfl
            · refine sa_cons ?_ ?_
              · refine se_callB (id := "len") ?_ ?_ ?_ ?_ ?_
                · exact oc_len
                · exact rfl
                · exact g.z_len
                · exact b_len
                · refine sa_cons ?_ ?_
                  · refine se_var (i := 0) ?_ ?_
                    · exact rfl
                    · exact vis_by rfl
                  · exact sa_nil
              · exact sa_nil
      · refine sb_one ?_
        · refine ss_ret ?_
          · refine se_call (k := 1) (j := 5) ?_ ?_ ?_ ?_ ?_ ?_
            · exact cal_turned_row_at g
            · exact tk
            · exact hr
            · decide
            · exact rfl
            · refine sa_cons ?_ ?_
              · refine se_var (i := 0) ?_ ?_
                · exact rfl
                · exact vis_by rfl
              · refine sa_cons ?_ ?_
                · refine se_var (i := 1) ?_ ?_
                  · exact rfl
                  · exact vis_by rfl
                · exact sa_nil
theorem cal_turned_1 (g : Gs w K mg) : Cal P w K mg base 6 "turned" 2 2 2 m_turned [.non] := by
  obtain ⟨f, fd, F, hm⟩ := g.f_turned
  obtain ⟨ds, hv, hb⟩ := F.binds1 (ps := ["row", "things"]) 1 0 (fun z => nomatch z) rfl (fun T kV doc pm an cdv ct us its h1 h2 => by
    match us, its, h1, h2 with
    | [u0], [t0], _, _ => exact ⟨_, rfl, rfl⟩)
  exact ⟨f, fd, ["row", "things"], ["row", "things"], ds, _, okD F sc_turned (@s_turned P w K mg base g _), rfl, rfl, hm, F.kp, hb, hv, fun _ => (.cons .non .nil)⟩
theorem cal_turned (g : Gs w K mg) : Cal P w K mg base 6 "turned" 2 2 2 m_turned [] := by
  obtain ⟨f, fd, F, hm⟩ := g.f_turned
  obtain ⟨ds, hv, hb⟩ := F.binds1 (ps := ["row", "things"]) 2 1 (fun z => nomatch z) rfl (fun T kV doc pm an cdv ct us its h1 h2 => by
    match us, its, h1, h2 with
    | [u0, u1], [t0], _, _ => exact ⟨_, rfl, rfl⟩)
  exact ⟨f, fd, ["row", "things"], ["row", "things"], ds, _, okD F sc_turned (@s_turned P w K mg base g _), rfl, rfl, hm, F.kp, hb, hv, fun _ => .nil⟩
theorem sc__law_are_two_right : FnScope (["_law_dice_here", "_law_one", "_law_other", "_law_things", "_law_first", "_law_second"] : List Str) ["_law_dice_here", "_law_one", "_law_other"] (defScope (top 50)) := ⟨rfl, rfl, rfl, by decide +kernel, rfl, by decide +kernel, by decide +kernel⟩
theorem s__law_are_two_right (g : Gs w K mg) {f : Addr} (cdv : Value) (A : Around) (outer : List Env) (s : Shared) (H : Hp) (E : XK) (hr : Room 6 (A.deeper (envOfC "_law_are_two_right" (defScope (top 50)) s.heap.objs.size f cdv))) :
    SB (cxOf (L2.CX P w) P w K mg base ["_law_dice_here", "_law_one", "_law_other", "_law_things", "_law_first", "_law_second"] "_law_are_two_right" (defScope (top 50)) f cdv A outer s H E) (fun cls d _ H => E cls d H) 3 (defBody (top 50)) m__law_are_two_right := by
  have nd := sc__law_are_two_right.nd
  have tk : Takes (cxOf (L2.CX P w) P w K mg base ["_law_dice_here", "_law_one", "_law_other", "_law_things", "_law_first", "_law_second"] "_law_are_two_right" (defScope (top 50)) f cdv A outer s H E) (fun cls d _ H => E cls d H) := takes_of rfl rfl rfl rfl
  have po := passes_of (X := cxOf (L2.CX P w) P w K mg base ["_law_dice_here", "_law_one", "_law_other", "_law_things", "_law_first", "_law_second"] "_law_are_two_right" (defScope (top 50)) f cdv A outer s H E) rfl
  unfold m__law_are_two_right
  refine sb_cons ?_ ?_
  · refine ss_set (i := 3) ?_ ?_ ?_ ?_ ?_
    · decide
    · exact nd
    · exact rfl
    · exact loc_by rfl
    · refine se_call (k := 2) (j := 6) ?_ ?_ ?_ ?_ ?_ ?_
      · exact cal__law_drawn_things g
      · exact tk
      · exact hr
      · decide
      · exact rfl
      · refine sa_cons ?_ ?_
        · refine se_var (i := 0) ?_ ?_
          · exact rfl
          · exact vis_by rfl
        · refine sa_cons ?_ ?_
          · refine se_callB (id := "len") ?_ ?_ ?_ ?_ ?_
            · exact oc_len
            · exact rfl
            · exact g.z_len
            · exact b_len
            · refine sa_cons ?_ ?_
              · refine se_var (i := 1) ?_ ?_
                · exact rfl
                · exact vis_by rfl
              · exact sa_nil
          · exact sa_nil
  · refine sb_cons ?_ ?_
    · refine ss_if ?_ ?_ ?_
      · refine SW.st ?_
        · refine sw_or ?_ ?_
          · refine st_cmp ?_ ?_ ?_ ?_
            · exact op_dNe (hu64 hr)
            · refine se_call (k := 4) (j := 6) ?_ ?_ ?_ ?_ ?_ ?_
              · exact cal_apart g
              · exact tk
              · exact hr
              · decide
              · exact rfl
              · refine sa_cons ?_ ?_
                · refine se_var (i := 1) ?_ ?_
                  · exact rfl
                  · exact vis_by rfl
                · refine sa_cons ?_ ?_
                  · refine se_var (i := 2) ?_ ?_
                    · exact rfl
                    · exact vis_by rfl
                  · exact sa_nil
            · refine se_callTy (id := "tuple") ?_ ?_ ?_ ?_ ?_
              · exact oc_tuple
              · exact rfl
              · exact g.z_tuple
              · exact b_tuple
              · refine sa_cons ?_ ?_
                · refine se_call (k := 2) (j := 6) ?_ ?_ ?_ ?_ ?_ ?_
                  · exact cal__law_apart g
                  · exact tk
                  · exact hr
                  · decide
                  · exact rfl
                  · refine sa_cons ?_ ?_
                    · refine se_var (i := 1) ?_ ?_
                      · exact rfl
                      · exact vis_by rfl
                    · refine sa_cons ?_ ?_
                      · refine se_var (i := 2) ?_ ?_
                        · exact rfl
                        · exact vis_by rfl
                      · exact sa_nil
                · exact sa_nil
            · exact rfl
          · refine sw_or1 ?_
            · refine st_cmp ?_ ?_ ?_ ?_
              · exact op_dNe (hu64 hr)
              · refine se_call (k := 4) (j := 6) ?_ ?_ ?_ ?_ ?_ ?_
                · exact cal_laid_over g
                · exact tk
                · exact hr
                · decide
                · exact rfl
                · refine sa_cons ?_ ?_
                  · refine se_var (i := 1) ?_ ?_
                    · exact rfl
                    · exact vis_by rfl
                  · refine sa_cons ?_ ?_
                    · refine se_var (i := 2) ?_ ?_
                      · exact rfl
                      · exact vis_by rfl
                    · exact sa_nil
              · refine se_call (k := 1) (j := 6) ?_ ?_ ?_ ?_ ?_ ?_
                · exact cal__law_laid g
                · exact tk
                · exact hr
                · decide
                · exact rfl
                · refine sa_cons ?_ ?_
                  · refine se_var (i := 1) ?_ ?_
                    · exact rfl
                    · exact vis_by rfl
                  · refine sa_cons ?_ ?_
                    · refine se_var (i := 2) ?_ ?_
                      · exact rfl
                      · exact vis_by rfl
                    · exact sa_nil
              · exact rfl
      · refine sb_one ?_
        · refine ss_ret ?_
          · exact se_bl
      · exact sb_nil
    · refine sb_cons ?_ ?_
      · refine ss_if ?_ ?_ ?_
        · refine SW.st ?_
          · refine sw_or ?_ ?_
            · refine st_cmp ?_ ?_ ?_ ?_
              · exact op_dNe (hu64 hr)
              · refine se_callB (id := "repr") ?_ ?_ ?_ ?_ ?_
                · exact oc_repr
                · exact rfl
                · exact g.z_repr
                · exact b_repr
                · refine sa_cons ?_ ?_
                  · refine se_call (k := 4) (j := 6) ?_ ?_ ?_ ?_ ?_ ?_
                    · exact cal_is_upright g
                    · exact tk
                    · exact hr
                    · decide
                    · exact rfl
                    · refine sa_cons ?_ ?_
                      · refine se_var (i := 1) ?_ ?_
                        · exact rfl
                        · exact vis_by rfl
                      · refine sa_cons ?_ ?_
                        · refine se_var (i := 2) ?_ ?_
                          · exact rfl
                          · exact vis_by rfl
                        · exact sa_nil
                  · exact sa_nil
              · refine se_callB (id := "repr") ?_ ?_ ?_ ?_ ?_
                · exact oc_repr
                · exact rfl
                · exact g.z_repr
                · exact b_repr
                · refine sa_cons ?_ ?_
                  · refine se_call (k := 3) (j := 6) ?_ ?_ ?_ ?_ ?_ ?_
                    · exact cal__law_upright g
                    · exact tk
                    · exact hr
                    · decide
                    · exact rfl
                    · refine sa_cons ?_ ?_
                      · refine se_var (i := 1) ?_ ?_
                        · exact rfl
                        · exact vis_by rfl
                      · refine sa_cons ?_ ?_
                        · refine se_var (i := 2) ?_ ?_
                          · exact rfl
                          · exact vis_by rfl
                        · exact sa_nil
                  · exact sa_nil
              · exact rfl
            · refine sw_or1 ?_
              · refine st_cmp ?_ ?_ ?_ ?_
                · exact op_dNe (hu64 hr)
                · refine se_call (k := 4) (j := 6) ?_ ?_ ?_ ?_ ?_ ?_
                  · exact cal_is_upright g
                  · exact tk
                  · exact hr
                  · decide
                  · exact rfl
                  · refine sa_cons ?_ ?_
                    · refine se_var (i := 1) ?_ ?_
                      · exact rfl
                      · exact vis_by rfl
                    · refine sa_cons ?_ ?_
                      · refine se_var (i := 2) ?_ ?_
                        · exact rfl
                        · exact vis_by rfl
                      · exact sa_nil
                · refine se_call (k := 4) (j := 6) ?_ ?_ ?_ ?_ ?_ ?_
                  · exact cal_is_upright g
                  · exact tk
                  · exact hr
                  · decide
                  · exact rfl
                  · refine sa_cons ?_ ?_
                    · refine se_var (i := 2) ?_ ?_
                      · exact rfl
                      · exact vis_by rfl
                    · refine sa_cons ?_ ?_
                      · refine se_var (i := 1) ?_ ?_
                        · exact rfl
                        · exact vis_by rfl
                      · exact sa_nil
                · exact rfl
        · refine sb_one ?_
          · refine ss_ret ?_
            · exact se_bl
        · exact sb_nil
      · refine sb_cons ?_ ?_
        · refine ss_if ?_ ?_ ?_
          · refine st_cmp ?_ ?_ ?_ ?_
            · exact op_dNe (hu64 hr)
            · refine se_cmp ?_ ?_ ?_ ?_
              · exact op_dEq (hu64 hr)
              · refine se_call (k := 4) (j := 6) ?_ ?_ ?_ ?_ ?_ ?_
                · exact cal_laid_over g
                · exact tk
                · exact hr
                · decide
                · exact rfl
                · refine sa_cons ?_ ?_
                  · refine se_var (i := 1) ?_ ?_
                    · exact rfl
                    · exact vis_by rfl
                  · refine sa_cons ?_ ?_
                    · refine se_var (i := 2) ?_ ?_
                      · exact rfl
                      · exact vis_by rfl
                    · exact sa_nil
              · refine se_call (k := 4) (j := 6) ?_ ?_ ?_ ?_ ?_ ?_
                · exact cal_laid_over g
                · exact tk
                · exact hr
                · decide
                · exact rfl
                · refine sa_cons ?_ ?_
                  · refine se_var (i := 2) ?_ ?_
                    · exact rfl
                    · exact vis_by rfl
                  · refine sa_cons ?_ ?_
                    · refine se_var (i := 1) ?_ ?_
                      · exact rfl
                      · exact vis_by rfl
                    · exact sa_nil
              · exact rfl
            · refine se_cmp ?_ ?_ ?_ ?_
              · exact op_dEq (hu64 hr)
              · refine se_call (k := 4) (j := 6) ?_ ?_ ?_ ?_ ?_ ?_
                · exact cal_apart g
                · exact tk
                · exact hr
                · decide
                · exact rfl
                · refine sa_cons ?_ ?_
                  · refine se_var (i := 1) ?_ ?_
                    · exact rfl
                    · exact vis_by rfl
                  · refine sa_cons ?_ ?_
                    · refine se_var (i := 2) ?_ ?_
                      · exact rfl
                      · exact vis_by rfl
                    · exact sa_nil
              · refine se_tup ?_
                · exact sa_nil
              · exact rfl
            · exact rfl
          · refine sb_one ?_
            · refine ss_ret ?_
              · exact se_bl
          · exact sb_nil
        · refine sb_cons ?_ ?_
          · refine ss_par (i := 4) (j := 5) ?_ ?_ ?_ ?_ ?_ ?_ ?_ ?_ ?_ ?_ ?_ ?_
            · exact rfl
            · exact nd
            · exact rfl
            · exact rfl
            · decide
            · decide
            · decide
            · exact rfl
            · exact rfl
            · refine se_call (k := 6) (j := 6) ?_ ?_ ?_ ?_ ?_ ?_
              · exact cal_turned g
              · exact tk
              · exact hr
              · decide
              · exact rfl
              · refine sa_cons ?_ ?_
                · refine se_var (i := 1) ?_ ?_
                  · exact rfl
                  · exact vis_by rfl
                · refine sa_cons ?_ ?_
                  · refine se_var (i := 3) ?_ ?_
                    · exact rfl
                    · exact vis_by rfl
                  · exact sa_nil
            · refine se_call (k := 6) (j := 6) ?_ ?_ ?_ ?_ ?_ ?_
              · exact cal_turned g
              · exact tk
              · exact hr
              · decide
              · exact rfl
              · refine sa_cons ?_ ?_
                · refine se_var (i := 2) ?_ ?_
                  · exact rfl
                  · exact vis_by rfl
                · refine sa_cons ?_ ?_
                  · refine se_var (i := 3) ?_ ?_
                    · exact rfl
                    · exact vis_by rfl
                  · exact sa_nil
            · exact rfl
          · refine sb_one ?_
            · refine ss_ret ?_
              · refine se_and ?_ ?_
                · refine se_cmp ?_ ?_ ?_ ?_
                  · exact op_dEq (hu64 hr)
                  · refine se_call (k := 4) (j := 6) ?_ ?_ ?_ ?_ ?_ ?_
                    · exact cal_is_upright g
                    · exact tk
                    · exact hr
                    · decide
                    · exact rfl
                    · refine sa_cons ?_ ?_
                      · refine se_var (i := 4) ?_ ?_
                        · exact rfl
                        · exact vis_by rfl
                      · refine sa_cons ?_ ?_
                        · refine se_var (i := 5) ?_ ?_
                          · exact rfl
                          · exact vis_by rfl
                        · exact sa_nil
                  · refine se_call (k := 4) (j := 6) ?_ ?_ ?_ ?_ ?_ ?_
                    · exact cal_is_upright g
                    · exact tk
                    · exact hr
                    · decide
                    · exact rfl
                    · refine sa_cons ?_ ?_
                      · refine se_var (i := 1) ?_ ?_
                        · exact rfl
                        · exact vis_by rfl
                      · refine sa_cons ?_ ?_
                        · refine se_var (i := 2) ?_ ?_
                          · exact rfl
                          · exact vis_by rfl
                        · exact sa_nil
                  · exact rfl
                · refine se_one ?_
                  · refine se_cmp ?_ ?_ ?_ ?_
                    · exact op_dEq (hu64 hr)
                    · refine se_call (k := 4) (j := 6) ?_ ?_ ?_ ?_ ?_ ?_
                      · exact cal_apart g
                      · exact tk
                      · exact hr
                      · decide
                      · exact rfl
                      · refine sa_cons ?_ ?_
                        · refine se_var (i := 4) ?_ ?_
                          · exact rfl
                          · exact vis_by rfl
                        · refine sa_cons ?_ ?_
                          · refine se_var (i := 5) ?_ ?_
                            · exact rfl
                            · exact vis_by rfl
                          · exact sa_nil
                    · refine se_call (k := 4) (j := 6) ?_ ?_ ?_ ?_ ?_ ?_
                      · exact cal_apart g
                      · exact tk
                      · exact hr
                      · decide
                      · exact rfl
                      · refine sa_cons ?_ ?_
                        · refine se_var (i := 1) ?_ ?_
                          · exact rfl
                          · exact vis_by rfl
                        · refine sa_cons ?_ ?_
                          · refine se_var (i := 2) ?_ ?_
                            · exact rfl
                            · exact vis_by rfl
                          · exact sa_nil
                    · exact rfl
theorem cal__law_are_two_right (g : Gs w K mg) : Cal P w K mg base 7 "_law_are_two_right" 3 3 6 m__law_are_two_right [] := by
  obtain ⟨f, fd, F, hm⟩ := g.f__law_are_two_right
  exact ⟨f, fd, ["_law_dice_here", "_law_one", "_law_other", "_law_things", "_law_first", "_law_second"], ["_law_dice_here", "_law_one", "_law_other"], [], [], okD F sc__law_are_two_right (@s__law_are_two_right P w K mg base g _), rfl, rfl, hm, F.kp, F.bindsN (fun _ _ _ _ _ _ us hl => match us, hl with | [_, _, _], _ => rfl), .nil, fun _ => .nil⟩
theorem sc__law_pick : FnScope (["_law_dice_here", "_law_items"] : List Str) ["_law_dice_here", "_law_items"] (defScope (top 39)) := ⟨rfl, rfl, rfl, by decide +kernel, rfl, by decide +kernel, by decide +kernel⟩
theorem s__law_pick (g : Gs w K mg) {f : Addr} (cdv : Value) (A : Around) (outer : List Env) (s : Shared) (H : Hp) (E : XK) (hr : Room 1 (A.deeper (envOfC "_law_pick" (defScope (top 39)) s.heap.objs.size f cdv))) :
    SB (cxOf (L2.CX P w) P w K mg base ["_law_dice_here", "_law_items"] "_law_pick" (defScope (top 39)) f cdv A outer s H E) (fun cls d _ H => E cls d H) 2 (defBody (top 39)) m__law_pick := by
  have nd := sc__law_pick.nd
  have tk : Takes (cxOf (L2.CX P w) P w K mg base ["_law_dice_here", "_law_items"] "_law_pick" (defScope (top 39)) f cdv A outer s H E) (fun cls d _ H => E cls d H) := takes_of rfl rfl rfl rfl
  have po := passes_of (X := cxOf (L2.CX P w) P w K mg base ["_law_dice_here", "_law_items"] "_law_pick" (defScope (top 39)) f cdv A outer s H E) rfl
  unfold m__law_pick
  refine sb_one ?_
  · refine ss_ret ?_
    · refine se_ix ?_ ?_ ?_ ?_
      · exact ox_ix (hu1 hr)
      · refine se_var (i := 1) ?_ ?_
        · exact rfl
        · exact vis_by rfl
      · refine se_call (k := 1) (j := 1) ?_ ?_ ?_ ?_ ?_ ?_
        · exact cal__law_roll g
        · exact tk
        · exact hr
        · decide
        · exact rfl
        · refine sa_cons ?_ ?_
          · refine se_var (i := 0) ?_ ?_
            · exact rfl
            · exact vis_by rfl
          · refine sa_cons ?_ ?_
            · refine se_callB (id := "len") ?_ ?_ ?_ ?_ ?_
              · exact oc_len
              · exact rfl
              · exact g.z_len
              · exact b_len
              · refine sa_cons ?_ ?_
                · refine se_var (i := 1) ?_ ?_
                  · exact rfl
                  · exact vis_by rfl
                · exact sa_nil
            · exact sa_nil
      · exact fun _ _ => rfl
theorem cal__law_pick (g : Gs w K mg) : Cal P w K mg base 2 "_law_pick" 2 2 2 m__law_pick [] := by
  obtain ⟨f, fd, F, hm⟩ := g.f__law_pick
  exact ⟨f, fd, ["_law_dice_here", "_law_items"], ["_law_dice_here", "_law_items"], [], [], okD F sc__law_pick (@s__law_pick P w K mg base g _), rfl, rfl, hm, F.kp, F.bindsN (fun _ _ _ _ _ _ us hl => match us, hl with | [_, _], _ => rfl), .nil, fun _ => .nil⟩
theorem sc__law_drawn_row : FnScope (["_law_dice_here", "_law_size", "_law_at"] : List Str) ["_law_dice_here", "_law_size"] (defScope (top 47)) := ⟨rfl, rfl, rfl, by decide +kernel, rfl, by decide +kernel, by decide +kernel⟩
theorem s__law_drawn_row (g : Gs w K mg) {f : Addr} (cdv : Value) (A : Around) (outer : List Env) (s : Shared) (H : Hp) (E : XK) (hr : Room 2 (A.deeper (envOfC "_law_drawn_row" (defScope (top 47)) s.heap.objs.size f cdv))) :
    SB (cxOf (L2.CX P w) P w K mg base ["_law_dice_here", "_law_size", "_law_at"] "_law_drawn_row" (defScope (top 47)) f cdv A outer s H E) (fun cls d _ H => E cls d H) 2 (defBody (top 47)) m__law_drawn_row := by
  have nd := sc__law_drawn_row.nd
  have tk : Takes (cxOf (L2.CX P w) P w K mg base ["_law_dice_here", "_law_size", "_law_at"] "_law_drawn_row" (defScope (top 47)) f cdv A outer s H E) (fun cls d _ H => E cls d H) := takes_of rfl rfl rfl rfl
  have po := passes_of (X := cxOf (L2.CX P w) P w K mg base ["_law_dice_here", "_law_size", "_law_at"] "_law_drawn_row" (defScope (top 47)) f cdv A outer s H E) rfl
  unfold m__law_drawn_row
  refine sb_one ?_
  · refine ss_ret ?_
    · refine se_join ?_ ?_
      · refine se_str ?_
        · exact rfl
      · refine se_lc (own := [("_law_at", 2)]) (is := [2]) (gt := (gName 2)) ?_ ?_ ?_ ?_ ?_ ?_
        · exact rfl
        · exact nd
        · refine si_range1 ?_ ?_ ?_
          · exact rfl
          · exact g.z_range
          · refine sa_cons ?_ ?_
            · refine se_var (i := 1) ?_ ?_
              · exact rfl
              · exact vis_by rfl
            · exact sa_nil
        · exact blkOk_by rfl
        · refine ⟨fun _ _ _ _ _ => ?_, fun _ _ _ _ _ => ?_, fun _ _ _ _ _ => ?_⟩
          · refine gn_name (i := 2) ?_ ?_
            · decide
            · refine pg_name (i := 2) ?_ ?_ ?_
              · exact nd
              · exact rfl
              · exact loc_by rfl
          · exact sts_nil
          · refine se_call (k := 2) (j := 2) ?_ ?_ ?_ ?_ ?_ ?_
            · exact cal__law_pick g
            · exact takesF
            · exact hr
            · decide
            · exact rfl
            · refine sa_cons ?_ ?_
              · refine se_var (i := 0) ?_ ?_
                · exact rfl
                · exact vis_by rfl
              · refine sa_cons ?_ ?_
                · refine se_str ?_
                  · exact rfl
                · exact sa_nil
        · decide
theorem cal__law_drawn_row (g : Gs w K mg) : Cal P w K mg base 3 "_law_drawn_row" 2 2 3 m__law_drawn_row [] := by
  obtain ⟨f, fd, F, hm⟩ := g.f__law_drawn_row
  exact ⟨f, fd, ["_law_dice_here", "_law_size", "_law_at"], ["_law_dice_here", "_law_size"], [], [], okD F sc__law_drawn_row (@s__law_drawn_row P w K mg base g _), rfl, rfl, hm, F.kp, F.bindsN (fun _ _ _ _ _ _ us hl => match us, hl with | [_, _], _ => rfl), .nil, fun _ => .nil⟩
theorem sc__law_held : FnScope (["_law_row", "_law_at", "_law_sign"] : List Str) ["_law_row"] (defScope (top 46)) := ⟨rfl, rfl, rfl, by decide +kernel, rfl, by decide +kernel, by decide +kernel⟩
theorem s__law_held (g : Gs w K mg) {f : Addr} (cdv : Value) (A : Around) (outer : List Env) (s : Shared) (H : Hp) (E : XK) (hr : Room 0 (A.deeper (envOfC "_law_held" (defScope (top 46)) s.heap.objs.size f cdv))) :
    SB (cxOf (L2.CX P w) P w K mg base ["_law_row", "_law_at", "_law_sign"] "_law_held" (defScope (top 46)) f cdv A outer s H E) (fun cls d _ H => E cls d H) 1 (defBody (top 46)) m__law_held := by
  have nd := sc__law_held.nd
  have tk : Takes (cxOf (L2.CX P w) P w K mg base ["_law_row", "_law_at", "_law_sign"] "_law_held" (defScope (top 46)) f cdv A outer s H E) (fun cls d _ H => E cls d H) := takes_of rfl rfl rfl rfl
  have po := passes_of (X := cxOf (L2.CX P w) P w K mg base ["_law_row", "_law_at", "_law_sign"] "_law_held" (defScope (top 46)) f cdv A outer s H E) rfl
  unfold m__law_held
  refine sb_one ?_
  · refine ss_ret ?_
    · refine se_callTy (id := "tuple") ?_ ?_ ?_ ?_ ?_
      · exact oc_tuple
      · exact rfl
      · exact g.z_tuple
      · exact b_tuple
      · refine sa_cons ?_ ?_
        · refine se_lc (own := [("_law_at", 1), ("_law_sign", 2)]) (is := [1, 2]) (gt := (gTup K 2 (tNms [1, 2]))) ?_ ?_ ?_ ?_ ?_ ?_
          · exact rfl
          · exact nd
          · refine si_enum ?_ ?_ ?_
            · exact rfl
            · exact g.z_enumerate
            · refine sa_cons ?_ ?_
              · refine se_var (i := 0) ?_ ?_
                · exact rfl
                · exact vis_by rfl
              · exact sa_nil
          · exact blkOk_by rfl
          · refine ⟨fun _ _ _ _ _ => ?_, fun _ _ _ _ _ => ?_, fun _ _ _ _ _ => ?_⟩
            · refine gn_tup (is := [1, 2]) ?_ ?_
              · decide
              · refine pg_tup ?_ ?_
                · exact rfl
                · refine pgs_cons ?_ ?_
                  · refine pg_name (i := 1) ?_ ?_ ?_
                    · exact nd
                    · exact rfl
                    · exact loc_by rfl
                  · refine pgs_cons ?_ ?_
                    · refine pg_name (i := 2) ?_ ?_ ?_
                      · exact nd
                      · exact rfl
                      · exact loc_by rfl
                    · exact pgs_nil
            · refine sts_one ?_
              · refine st_cmp ?_ ?_ ?_ ?_
                · exact op_dNe (hu64 hr)
                · refine se_var (i := 2) ?_ ?_
                  · exact rfl
                  · exact vis_by rfl
                · refine se_str ?_
                  · exact rfl
                · exact rfl
            · refine se_var (i := 1) ?_ ?_
              · exact rfl
              · exact vis_by rfl
          · decide
        · exact sa_nil
theorem cal__law_held (g : Gs w K mg) : Cal P w K mg base 1 "_law_held" 1 1 3 m__law_held [] := by
  obtain ⟨f, fd, F, hm⟩ := g.f__law_held
  exact ⟨f, fd, ["_law_row", "_law_at", "_law_sign"], ["_law_row"], [], [], okD F sc__law_held (@s__law_held P w K mg base g _), rfl, rfl, hm, F.kp, F.bindsN (fun _ _ _ _ _ _ us hl => match us, hl with | [_], _ => rfl), .nil, fun _ => .nil⟩
theorem sc__law_turn : FnScope (["_law_row", "_law_sign"] : List Str) ["_law_row"] (defScope (top 41)) := ⟨rfl, rfl, rfl, by decide +kernel, rfl, by decide +kernel, by decide +kernel⟩
theorem s__law_turn (g : Gs w K mg) {f : Addr} (cdv : Value) (A : Around) (outer : List Env) (s : Shared) (H : Hp) (E : XK) (hr : Room 1 (A.deeper (envOfC "_law_turn" (defScope (top 41)) s.heap.objs.size f cdv))) :
    SB (cxOf (L2.CX P w) P w K mg base ["_law_row", "_law_sign"] "_law_turn" (defScope (top 41)) f cdv A outer s H E) (fun cls d _ H => E cls d H) 1 (defBody (top 41)) m__law_turn := by
  have nd := sc__law_turn.nd
  have tk : Takes (cxOf (L2.CX P w) P w K mg base ["_law_row", "_law_sign"] "_law_turn" (defScope (top 41)) f cdv A outer s H E) (fun cls d _ H => E cls d H) := takes_of rfl rfl rfl rfl
  have po := passes_of (X := cxOf (L2.CX P w) P w K mg base ["_law_row", "_law_sign"] "_law_turn" (defScope (top 41)) f cdv A outer s H E) rfl
  unfold m__law_turn
  refine sb_one ?_
  · refine ss_ret ?_
    · refine se_join ?_ ?_
      · refine se_str ?_
        · exact rfl
      · refine se_lc (own := [("_law_sign", 1)]) (is := [1]) (gt := (gName 1)) ?_ ?_ ?_ ?_ ?_ ?_
        · exact rfl
        · exact nd
        · refine si_val ?_
          · refine se_var (i := 0) ?_ ?_
            · exact rfl
            · exact vis_by rfl
        · exact blkOk_by rfl
        · refine ⟨fun _ _ _ _ _ => ?_, fun _ _ _ _ _ => ?_, fun _ _ _ _ _ => ?_⟩
          · refine gn_name (i := 1) ?_ ?_
            · decide
            · refine pg_name (i := 1) ?_ ?_ ?_
              · exact nd
              · exact rfl
              · exact loc_by rfl
          · exact sts_nil
          · refine se_call (k := 1) (j := 1) ?_ ?_ ?_ ?_ ?_ ?_
            · exact cal__law_flip g
            · exact takesF
            · exact hr
            · decide
            · exact rfl
            · refine sa_cons ?_ ?_
              · refine se_var (i := 1) ?_ ?_
                · exact rfl
                · exact vis_by rfl
              · exact sa_nil
        · decide
theorem cal__law_turn (g : Gs w K mg) : Cal P w K mg base 2 "_law_turn" 1 1 2 m__law_turn [] := by
  obtain ⟨f, fd, F, hm⟩ := g.f__law_turn
  exact ⟨f, fd, ["_law_row", "_law_sign"], ["_law_row"], [], [], okD F sc__law_turn (@s__law_turn P w K mg base g _), rfl, rfl, hm, F.kp, F.bindsN (fun _ _ _ _ _ _ us hl => match us, hl with | [_], _ => rfl), .nil, fun _ => .nil⟩
theorem sc__law_turn_at : FnScope (["_law_row", "_law_things", "_law_at", "_law_sign"] : List Str) ["_law_row", "_law_things"] (defScope (top 42)) := ⟨rfl, rfl, rfl, by decide +kernel, rfl, by decide +kernel, by decide +kernel⟩
theorem s__law_turn_at (g : Gs w K mg) {f : Addr} (cdv : Value) (A : Around) (outer : List Env) (s : Shared) (H : Hp) (E : XK) (hr : Room 1 (A.deeper (envOfC "_law_turn_at" (defScope (top 42)) s.heap.objs.size f cdv))) :
    SB (cxOf (L2.CX P w) P w K mg base ["_law_row", "_law_things", "_law_at", "_law_sign"] "_law_turn_at" (defScope (top 42)) f cdv A outer s H E) (fun cls d _ H => E cls d H) 2 (defBody (top 42)) m__law_turn_at := by
  have nd := sc__law_turn_at.nd
  have tk : Takes (cxOf (L2.CX P w) P w K mg base ["_law_row", "_law_things", "_law_at", "_law_sign"] "_law_turn_at" (defScope (top 42)) f cdv A outer s H E) (fun cls d _ H => E cls d H) := takes_of rfl rfl rfl rfl
  have po := passes_of (X := cxOf (L2.CX P w) P w K mg base ["_law_row", "_law_things", "_law_at", "_law_sign"] "_law_turn_at" (defScope (top 42)) f cdv A outer s H E) rfl
  unfold m__law_turn_at
  refine sb_one ?_
  · refine ss_ret ?_
    · refine se_join ?_ ?_
      · refine se_str ?_
        · exact rfl
      · refine se_lc (own := [("_law_at", 2), ("_law_sign", 3)]) (is := [2, 3]) (gt := (gTup K 2 (tNms [2, 3]))) ?_ ?_ ?_ ?_ ?_ ?_
        · exact rfl
        · exact nd
        · refine si_enum ?_ ?_ ?_
          · exact rfl
          · exact g.z_enumerate
          · refine sa_cons ?_ ?_
            · refine se_var (i := 0) ?_ ?_
              · exact rfl
              · exact vis_by rfl
            · exact sa_nil
        · exact blkOk_by rfl
        · refine ⟨fun _ _ _ _ _ => ?_, fun _ _ _ _ _ => ?_, fun _ _ _ _ _ => ?_⟩
          · refine gn_tup (is := [2, 3]) ?_ ?_
            · decide
            · refine pg_tup ?_ ?_
              · exact rfl
              · refine pgs_cons ?_ ?_
                · refine pg_name (i := 2) ?_ ?_ ?_
                  · exact nd
                  · exact rfl
                  · exact loc_by rfl
                · refine pgs_cons ?_ ?_
                  · refine pg_name (i := 3) ?_ ?_ ?_
                    · exact nd
                    · exact rfl
                    · exact loc_by rfl
                  · exact pgs_nil
          · exact sts_nil
          · refine se_if ?_ ?_ ?_
            · refine st_cmp ?_ ?_ ?_ ?_
              · exact op_dIn (hu65 hr)
              · refine se_var (i := 2) ?_ ?_
                · exact rfl
                · exact vis_by rfl
              · refine se_var (i := 1) ?_ ?_
                · exact rfl
                · exact vis_by rfl
              · exact rfl
            · refine se_call (k := 1) (j := 1) ?_ ?_ ?_ ?_ ?_ ?_
              · exact cal__law_flip g
              · exact takesF
              · exact hr
              · decide
              · exact rfl
              · refine sa_cons ?_ ?_
                · refine se_var (i := 3) ?_ ?_
                  · exact rfl
                  · exact vis_by rfl
                · exact sa_nil
            · refine se_var (i := 3) ?_ ?_
              · exact rfl
              · exact vis_by rfl
        · decide
theorem cal__law_turn_at (g : Gs w K mg) : Cal P w K mg base 2 "_law_turn_at" 2 2 4 m__law_turn_at [] := by
  obtain ⟨f, fd, F, hm⟩ := g.f__law_turn_at
  exact ⟨f, fd, ["_law_row", "_law_things", "_law_at", "_law_sign"], ["_law_row", "_law_things"], [], [], okD F sc__law_turn_at (@s__law_turn_at P w K mg base g _), rfl, rfl, hm, F.kp, F.bindsN (fun _ _ _ _ _ _ us hl => match us, hl with | [_, _], _ => rfl), .nil, fun _ => .nil⟩
theorem sc_signs_at : FnScope (["row", "things", "thing"] : List Str) ["row", "things"] (defScope (top 34)) := ⟨rfl, rfl, rfl, by decide +kernel, rfl, by decide +kernel, by decide +kernel⟩
theorem s_signs_at (g : Gs w K mg) {f : Addr} (cdv : Value) (A : Around) (outer : List Env) (s : Shared) (H : Hp) (E : XK) (hr : Room 5 (A.deeper (envOfC "signs_at" (defScope (top 34)) s.heap.objs.size f cdv))) :
    SB (cxOf (L2.CX P w) P w K mg base ["row", "things", "thing"] "signs_at" (defScope (top 34)) f cdv A outer s H E) (fun cls d _ H => E cls d H) 2 (defBody (top 34)) m_signs_at := by
  have nd := sc_signs_at.nd
  have tk : Takes (cxOf (L2.CX P w) P w K mg base ["row", "things", "thing"] "signs_at" (defScope (top 34)) f cdv A outer s H E) (fun cls d _ H => E cls d H) := takes_of rfl rfl rfl rfl
  have po := passes_of (X := cxOf (L2.CX P w) P w K mg base ["row", "things", "thing"] "signs_at" (defScope (top 34)) f cdv A outer s H E) rfl
  unfold m_signs_at
  refine sb_cons ?_ ?_
  · refine ss_expr ?_
    · refine se_call (k := 3) (j := 5) ?_ ?_ ?_ ?_ ?_ ?_
      · exact cal_require_any_row g
      · exact tk
      · exact hr
      · decide
      · exact rfl
      · refine sa_cons ?_ ?_
        · refine se_var (i := 0) ?_ ?_
          · exact rfl
          · exact vis_by rfl
        · exact sa_nil
  · refine sb_cons ?_ ?_
    · refine ss_expr ?_
      · refine se_call (k := 5) (j := 5) ?_ ?_ ?_ ?_ ?_ ?_
        · exact cal_require_things g
        · exact tk
        · exact hr
        · decide
        · exact rfl
        · refine sa_cons ?_ ?_
          · refine se_var (i := 1) ?_ ?_
            · exact rfl
            · exact vis_by rfl
          · refine sa_cons ?_ ?_
            · refine se_callB (id := "len") ?_ ?_ ?_ ?_ ?_
              · exact oc_len
              · exact rfl
              · exact g.z_len
              · exact b_len
              · refine sa_cons ?_ ?_
                · refine se_var (i := 0) ?_ ?_
                  · exact rfl
                  · exact vis_by rfl
                · exact sa_nil
            · exact sa_nil
    · refine sb_one ?_
      · refine ss_ret ?_
        · refine se_join ?_ ?_
          · refine se_str ?_
            · exact rfl
          · refine se_lc (own := [("thing", 2)]) (is := [2]) (gt := (gName 2)) ?_ ?_ ?_ ?_ ?_ ?_
            · exact rfl
            · exact nd
            · refine si_val ?_
              · refine se_var (i := 1) ?_ ?_
                · exact rfl
                · exact vis_by rfl
            · exact blkOk_by rfl
            · refine ⟨fun _ _ _ _ _ => ?_, fun _ _ _ _ _ => ?_, fun _ _ _ _ _ => ?_⟩
              · refine gn_name (i := 2) ?_ ?_
                · decide
                · refine pg_name (i := 2) ?_ ?_ ?_
                  · exact nd
                  · exact rfl
                  · exact loc_by rfl
              · exact sts_nil
              · refine se_ix ?_ ?_ ?_ ?_
                · exact ox_ix (hu1 hr)
                · refine se_var (i := 0) ?_ ?_
                  · exact rfl
                  · exact vis_by rfl
                · refine se_var (i := 2) ?_ ?_
                  · exact rfl
                  · exact vis_by rfl
                · exact fun _ _ => rfl
            · decide
theorem cal_signs_at (g : Gs w K mg) : Cal P w K mg base 6 "signs_at" 2 2 3 m_signs_at [] := by
  obtain ⟨f, fd, F, hm⟩ := g.f_signs_at
  exact ⟨f, fd, ["row", "things", "thing"], ["row", "things"], [], [], okD F sc_signs_at (@s_signs_at P w K mg base g _), rfl, rfl, hm, F.kp, F.bindsN (fun _ _ _ _ _ _ us hl => match us, hl with | [_, _], _ => rfl), .nil, fun _ => .nil⟩
theorem sc_spread : FnScope (["row", "things", "many", "found", "thing", "sign"] : List Str) ["row", "things", "many"] (defScope (top 35)) := ⟨rfl, rfl, rfl, by decide +kernel, rfl, by decide +kernel, by decide +kernel⟩
theorem s_spread (g : Gs w K mg) {f : Addr} (cdv : Value) (A : Around) (outer : List Env) (s : Shared) (H : Hp) (E : XK) (hr : Room 4 (A.deeper (envOfC "spread" (defScope (top 35)) s.heap.objs.size f cdv))) :
    SB (cxOf (L2.CX P w) P w K mg base ["row", "things", "many", "found", "thing", "sign"] "spread" (defScope (top 35)) f cdv A outer s H E) (fun cls d _ H => E cls d H) 3 (defBody (top 35)) m_spread := by
  have nd := sc_spread.nd
  have tk : Takes (cxOf (L2.CX P w) P w K mg base ["row", "things", "many", "found", "thing", "sign"] "spread" (defScope (top 35)) f cdv A outer s H E) (fun cls d _ H => E cls d H) := takes_of rfl rfl rfl rfl
  have po := passes_of (X := cxOf (L2.CX P w) P w K mg base ["row", "things", "many", "found", "thing", "sign"] "spread" (defScope (top 35)) f cdv A outer s H E) rfl
  unfold m_spread
  refine sb_cons ?_ ?_
  · refine ss_expr ?_
    · refine se_call (k := 3) (j := 4) ?_ ?_ ?_ ?_ ?_ ?_
      · exact cal_require_any_row g
      · exact tk
      · exact hr
      · decide
      · exact rfl
      · refine sa_cons ?_ ?_
        · refine se_var (i := 0) ?_ ?_
          · exact rfl
          · exact vis_by rfl
        · exact sa_nil
  · refine sb_cons ?_ ?_
    · refine ss_if ?_ ?_ ?_
      · refine SW.st ?_
        · refine sw_or ?_ ?_
          · refine st_not ?_
            · refine st_val ?_
              · refine se_call (k := 4) (j := 4) ?_ ?_ ?_ ?_ ?_ ?_
                · exact cal_is_things g
                · exact tk
                · exact hr
                · decide
                · exact rfl
                · refine sa_cons ?_ ?_
                  · refine se_var (i := 1) ?_ ?_
                    · exact rfl
                    · exact vis_by rfl
                  · refine sa_cons ?_ ?_
                    · refine se_gl ?_ ?_
                      · exact rfl
                      · exact g.c_MAX_THINGS
                    · exact sa_nil
          · refine sw_or1 ?_
            · refine st_cmp ?_ ?_ ?_ ?_
              · exact op_dNe (hu64 hr)
              · refine se_callB (id := "len") ?_ ?_ ?_ ?_ ?_
                · exact oc_len
                · exact rfl
                · exact g.z_len
                · exact b_len
                · refine sa_cons ?_ ?_
                  · refine se_var (i := 1) ?_ ?_
                    · exact rfl
                    · exact vis_by rfl
                  · exact sa_nil
              · refine se_callB (id := "len") ?_ ?_ ?_ ?_ ?_
                · exact oc_len
                · exact rfl
                · exact g.z_len
                · exact b_len
                · refine sa_cons ?_ ?_
                  · refine se_var (i := 0) ?_ ?_
                    · exact rfl
                    · exact vis_by rfl
                  · exact sa_nil
              · exact rfl
      · refine sb_one ?_
        · exact ss_never
      · exact sb_nil
    · refine sb_cons ?_ ?_
      · refine ss_if ?_ ?_ ?_
        · refine SW.st ?_
          · refine sw_or ?_ ?_
            · refine st_not ?_
              · refine st_val ?_
                · refine se_call (k := 2) (j := 4) ?_ ?_ ?_ ?_ ?_ ?_
                  · exact cal_is_from g
                  · exact tk
                  · exact hr
                  · decide
                  · exact rfl
                  · refine sa_cons ?_ ?_
                    · refine se_var (i := 2) ?_ ?_
                      · exact rfl
                      · exact vis_by rfl
                    · refine sa_cons ?_ ?_
                      · exact se_int
                      · refine sa_cons ?_ ?_
                        · refine se_gl ?_ ?_
                          · exact rfl
                          · exact g.c_MAX_THINGS
                        · exact sa_nil
            · refine sw_or1 ?_
              · refine SW.st ?_
                · refine sw_and ?_ ?_
                  · refine st_cmp ?_ ?_ ?_ ?_
                    · exact op_dNe (hu64 hr)
                    · refine se_var (i := 1) ?_ ?_
                      · exact rfl
                      · exact vis_by rfl
                    · refine se_tup ?_
                      · exact sa_nil
                    · exact rfl
                  · refine sw_and1 ?_
                    · refine st_cmp ?_ ?_ ?_ ?_
                      · exact op_dGe
                      · refine se_ix ?_ ?_ ?_ ?_
                        · exact ox_ix (hu1 hr)
                        · refine se_var (i := 1) ?_ ?_
                          · exact rfl
                          · exact vis_by rfl
                        · refine se_un ?_ ?_
                          · exact op_dNeg
                          · exact se_int
                        · exact fun _ _ => rfl
                      · refine se_var (i := 2) ?_ ?_
                        · exact rfl
                        · exact vis_by rfl
                      · exact rfl
        · refine sb_one ?_
          · exact ss_never
        · exact sb_nil
      · refine sb_cons ?_ ?_
        · refine ss_setLc (i := 3) (own := [("thing", 4)]) (is := [4]) (gt := (gName 4)) ?_ ?_ ?_ ?_ ?_ ?_ ?_ ?_ ?_ ?_
          · decide
          · exact rfl
          · exact nd
          · exact rfl
          · exact rfl
          · exact rfl
          · refine si_range1 ?_ ?_ ?_
            · exact rfl
            · exact g.z_range
            · refine sa_cons ?_ ?_
              · refine se_var (i := 2) ?_ ?_
                · exact rfl
                · exact vis_by rfl
              · exact sa_nil
          · exact blkOk_by rfl
          · refine ⟨fun _ _ _ _ _ => ?_, fun _ _ _ _ _ => ?_, fun _ _ _ _ _ => ?_⟩
            · refine gn_name (i := 4) ?_ ?_
              · decide
              · refine pg_name (i := 4) ?_ ?_ ?_
                · exact nd
                · exact rfl
                · exact loc_by rfl
            · exact sts_nil
            · refine se_gl ?_ ?_
              · exact rfl
              · exact g.c_ZERO
          · decide
        · refine sb_cons ?_ ?_
          · refine ss_for (tt := (gTup K 2 (tNms [4, 5]))) (is := [4, 5]) ?_ ?_ ?_ ?_ ?_
            · exact po
            · exact rfl
            · refine si_zip ?_ ?_ ?_
              · exact rfl
              · exact g.z_zip
              · refine sa_cons ?_ ?_
                · refine se_var (i := 1) ?_ ?_
                  · exact rfl
                  · exact vis_by rfl
                · refine sa_cons ?_ ?_
                  · refine se_var (i := 0) ?_ ?_
                    · exact rfl
                    · exact vis_by rfl
                  · exact sa_nil
            · refine gn_tup (is := [4, 5]) ?_ ?_
              · decide
              · refine pg_tup ?_ ?_
                · exact rfl
                · refine pgs_cons ?_ ?_
                  · refine pg_name (i := 4) ?_ ?_ ?_
                    · exact nd
                    · exact rfl
                    · exact loc_by rfl
                  · refine pgs_cons ?_ ?_
                    · refine pg_name (i := 5) ?_ ?_ ?_
                      · exact nd
                      · exact rfl
                      · exact loc_by rfl
                    · exact pgs_nil
            · refine sb_one ?_
              · refine ss_put (i := 3) ?_ ?_ ?_ ?_
                · exact rfl
                · exact vis_by rfl
                · refine se_var (i := 4) ?_ ?_
                  · exact rfl
                  · exact vis_by rfl
                · refine se_var (i := 5) ?_ ?_
                  · exact rfl
                  · exact vis_by rfl
          · refine sb_one ?_
            · refine ss_ret ?_
              · refine se_join ?_ ?_
                · refine se_str ?_
                  · exact rfl
                · refine se_var (i := 3) ?_ ?_
                  · exact rfl
                  · exact vis_by rfl
theorem cal_spread (g : Gs w K mg) : Cal P w K mg base 5 "spread" 3 3 6 m_spread [] := by
  obtain ⟨f, fd, F, hm⟩ := g.f_spread
  exact ⟨f, fd, ["row", "things", "many", "found", "thing", "sign"], ["row", "things", "many"], [], [], okD F sc_spread (@s_spread P w K mg base g _), rfl, rfl, hm, F.kp, F.bindsN (fun _ _ _ _ _ _ us hl => match us, hl with | [_, _, _], _ => rfl), .nil, fun _ => .nil⟩
theorem sc_held : FnScope (["row", "at", "sign"] : List Str) ["row"] (defScope (top 27)) := ⟨rfl, rfl, rfl, by decide +kernel, rfl, by decide +kernel, by decide +kernel⟩
theorem s_held (g : Gs w K mg) {f : Addr} (cdv : Value) (A : Around) (outer : List Env) (s : Shared) (H : Hp) (E : XK) (hr : Room 0 (A.deeper (envOfC "held" (defScope (top 27)) s.heap.objs.size f cdv))) :
    SB (cxOf (L2.CX P w) P w K mg base ["row", "at", "sign"] "held" (defScope (top 27)) f cdv A outer s H E) (fun cls d _ H => E cls d H) 1 (defBody (top 27)) m_held := by
  have nd := sc_held.nd
  have tk : Takes (cxOf (L2.CX P w) P w K mg base ["row", "at", "sign"] "held" (defScope (top 27)) f cdv A outer s H E) (fun cls d _ H => E cls d H) := takes_of rfl rfl rfl rfl
  have po := passes_of (X := cxOf (L2.CX P w) P w K mg base ["row", "at", "sign"] "held" (defScope (top 27)) f cdv A outer s H E) rfl
  unfold m_held
  refine sb_one ?_
  · refine ss_ret ?_
    · refine se_callTy (id := "tuple") ?_ ?_ ?_ ?_ ?_
      · exact oc_tuple
      · exact rfl
      · exact g.z_tuple
      · exact b_tuple
      · refine sa_cons ?_ ?_
        · refine se_lc (own := [("at", 1), ("sign", 2)]) (is := [1, 2]) (gt := (gTup K 2 (tNms [1, 2]))) ?_ ?_ ?_ ?_ ?_ ?_
          · exact rfl
          · exact nd
          · refine si_enum ?_ ?_ ?_
            · exact rfl
            · exact g.z_enumerate
            · refine sa_cons ?_ ?_
              · refine se_var (i := 0) ?_ ?_
                · exact rfl
                · exact vis_by rfl
              · exact sa_nil
          · exact blkOk_by rfl
          · refine ⟨fun _ _ _ _ _ => ?_, fun _ _ _ _ _ => ?_, fun _ _ _ _ _ => ?_⟩
            · refine gn_tup (is := [1, 2]) ?_ ?_
              · decide
              · refine pg_tup ?_ ?_
                · exact rfl
                · refine pgs_cons ?_ ?_
                  · refine pg_name (i := 1) ?_ ?_ ?_
                    · exact nd
                    · exact rfl
                    · exact loc_by rfl
                  · refine pgs_cons ?_ ?_
                    · refine pg_name (i := 2) ?_ ?_ ?_
                      · exact nd
                      · exact rfl
                      · exact loc_by rfl
                    · exact pgs_nil
            · refine sts_one ?_
              · refine st_cmp ?_ ?_ ?_ ?_
                · exact op_dNe (hu64 hr)
                · refine se_var (i := 2) ?_ ?_
                  · exact rfl
                  · exact vis_by rfl
                · refine se_gl ?_ ?_
                  · exact rfl
                  · exact g.c_ZERO
                · exact rfl
            · refine se_var (i := 1) ?_ ?_
              · exact rfl
              · exact vis_by rfl
          · decide
        · exact sa_nil
theorem cal_held (g : Gs w K mg) : Cal P w K mg base 1 "held" 1 1 3 m_held [] := by
  obtain ⟨f, fd, F, hm⟩ := g.f_held
  exact ⟨f, fd, ["row", "at", "sign"], ["row"], [], [], okD F sc_held (@s_held P w K mg base g _), rfl, rfl, hm, F.kp, F.bindsN (fun _ _ _ _ _ _ us hl => match us, hl with | [_], _ => rfl), .nil, fun _ => .nil⟩
theorem sc_things_of : FnScope (["row"] : List Str) ["row"] (defScope (top 32)) := ⟨rfl, rfl, rfl, by decide +kernel, rfl, by decide +kernel, by decide +kernel⟩
theorem s_things_of (g : Gs w K mg) {f : Addr} (cdv : Value) (A : Around) (outer : List Env) (s : Shared) (H : Hp) (E : XK) (hr : Room 3 (A.deeper (envOfC "things_of" (defScope (top 32)) s.heap.objs.size f cdv))) :
    SB (cxOf (L2.CX P w) P w K mg base ["row"] "things_of" (defScope (top 32)) f cdv A outer s H E) (fun cls d _ H => E cls d H) 1 (defBody (top 32)) m_things_of := by
  have nd := sc_things_of.nd
  have tk : Takes (cxOf (L2.CX P w) P w K mg base ["row"] "things_of" (defScope (top 32)) f cdv A outer s H E) (fun cls d _ H => E cls d H) := takes_of rfl rfl rfl rfl
  have po := passes_of (X := cxOf (L2.CX P w) P w K mg base ["row"] "things_of" (defScope (top 32)) f cdv A outer s H E) rfl
  unfold m_things_of
  refine sb_cons ?_ ?_
  · refine ss_expr ?_
    · refine se_call (k := 3) (j := 3) ?_ ?_ ?_ ?_ ?_ ?_
      · exact cal_require_any_row g
      · exact tk
      · exact hr
      · decide
      · exact rfl
      · refine sa_cons ?_ ?_
        · refine se_var (i := 0) ?_ ?_
          · exact rfl
          · exact vis_by rfl
        · exact sa_nil
  · refine sb_one ?_
    · refine ss_ret ?_
      · refine se_call (k := 1) (j := 3) ?_ ?_ ?_ ?_ ?_ ?_
        · exact cal_held g
        · exact tk
        · exact hr
        · decide
        · exact rfl
        · refine sa_cons ?_ ?_
          · refine se_var (i := 0) ?_ ?_
            · exact rfl
            · exact vis_by rfl
          · exact sa_nil
theorem cal_things_of (g : Gs w K mg) : Cal P w K mg base 4 "things_of" 1 1 1 m_things_of [] := by
  obtain ⟨f, fd, F, hm⟩ := g.f_things_of
  exact ⟨f, fd, ["row"], ["row"], [], [], okD F sc_things_of (@s_things_of P w K mg base g _), rfl, rfl, hm, F.kp, F.bindsN (fun _ _ _ _ _ _ us hl => match us, hl with | [_], _ => rfl), .nil, fun _ => .nil⟩
theorem sc_zeros_of : FnScope (["row", "at", "sign"] : List Str) ["row"] (defScope (top 33)) := ⟨rfl, rfl, rfl, by decide +kernel, rfl, by decide +kernel, by decide +kernel⟩
theorem s_zeros_of (g : Gs w K mg) {f : Addr} (cdv : Value) (A : Around) (outer : List Env) (s : Shared) (H : Hp) (E : XK) (hr : Room 3 (A.deeper (envOfC "zeros_of" (defScope (top 33)) s.heap.objs.size f cdv))) :
    SB (cxOf (L2.CX P w) P w K mg base ["row", "at", "sign"] "zeros_of" (defScope (top 33)) f cdv A outer s H E) (fun cls d _ H => E cls d H) 1 (defBody (top 33)) m_zeros_of := by
  have nd := sc_zeros_of.nd
  have tk : Takes (cxOf (L2.CX P w) P w K mg base ["row", "at", "sign"] "zeros_of" (defScope (top 33)) f cdv A outer s H E) (fun cls d _ H => E cls d H) := takes_of rfl rfl rfl rfl
  have po := passes_of (X := cxOf (L2.CX P w) P w K mg base ["row", "at", "sign"] "zeros_of" (defScope (top 33)) f cdv A outer s H E) rfl
  unfold m_zeros_of
  refine sb_cons ?_ ?_
  · refine ss_expr ?_
    · refine se_call (k := 3) (j := 3) ?_ ?_ ?_ ?_ ?_ ?_
      · exact cal_require_any_row g
      · exact tk
      · exact hr
      · decide
      · exact rfl
      · refine sa_cons ?_ ?_
        · refine se_var (i := 0) ?_ ?_
          · exact rfl
          · exact vis_by rfl
        · exact sa_nil
  · refine sb_one ?_
    · refine ss_ret ?_
      · refine se_callTy (id := "tuple") ?_ ?_ ?_ ?_ ?_
        · exact oc_tuple
        · exact rfl
        · exact g.z_tuple
        · exact b_tuple
        · refine sa_cons ?_ ?_
          · refine se_lc (own := [("at", 1), ("sign", 2)]) (is := [1, 2]) (gt := (gTup K 2 (tNms [1, 2]))) ?_ ?_ ?_ ?_ ?_ ?_
            · exact rfl
            · exact nd
            · refine si_enum ?_ ?_ ?_
              · exact rfl
              · exact g.z_enumerate
              · refine sa_cons ?_ ?_
                · refine se_var (i := 0) ?_ ?_
                  · exact rfl
                  · exact vis_by rfl
                · exact sa_nil
            · exact blkOk_by rfl
            · refine ⟨fun _ _ _ _ _ => ?_, fun _ _ _ _ _ => ?_, fun _ _ _ _ _ => ?_⟩
              · refine gn_tup (is := [1, 2]) ?_ ?_
                · decide
                · refine pg_tup ?_ ?_
                  · exact rfl
                  · refine pgs_cons ?_ ?_
                    · refine pg_name (i := 1) ?_ ?_ ?_
                      · exact nd
                      · exact rfl
                      · exact loc_by rfl
                    · refine pgs_cons ?_ ?_
                      · refine pg_name (i := 2) ?_ ?_ ?_
                        · exact nd
                        · exact rfl
                        · exact loc_by rfl
                      · exact pgs_nil
              · refine sts_one ?_
                · refine st_cmp ?_ ?_ ?_ ?_
                  · exact op_dEq (hu64 hr)
                  · refine se_var (i := 2) ?_ ?_
                    · exact rfl
                    · exact vis_by rfl
                  · refine se_gl ?_ ?_
                    · exact rfl
                    · exact g.c_ZERO
                  · exact rfl
              · refine se_var (i := 1) ?_ ?_
                · exact rfl
                · exact vis_by rfl
            · decide
          · exact sa_nil
theorem cal_zeros_of (g : Gs w K mg) : Cal P w K mg base 4 "zeros_of" 1 1 3 m_zeros_of [] := by
  obtain ⟨f, fd, F, hm⟩ := g.f_zeros_of
  exact ⟨f, fd, ["row", "at", "sign"], ["row"], [], [], okD F sc_zeros_of (@s_zeros_of P w K mg base g _), rfl, rfl, hm, F.kp, F.bindsN (fun _ _ _ _ _ _ us hl => match us, hl with | [_], _ => rfl), .nil, fun _ => .nil⟩
theorem sc__law_is_row_right : FnScope (["_law_dice_here", "_law_row", "_law_size", "_law_things", "_law_part", "_law_most", "_law_due", "_law_at", "_law_thing"] : List Str) ["_law_dice_here", "_law_row"] (defScope (top 49)) := ⟨rfl, rfl, rfl, by decide +kernel, rfl, by decide +kernel, by decide +kernel⟩
theorem s__law_is_row_right (g : Gs w K mg) {f : Addr} (cdv : Value) (A : Around) (outer : List Env) (s : Shared) (H : Hp) (E : XK) (hr : Room 6 (A.deeper (envOfC "_law_is_row_right" (defScope (top 49)) s.heap.objs.size f cdv))) :
    SB (cxOf (L2.CX P w) P w K mg base ["_law_dice_here", "_law_row", "_law_size", "_law_things", "_law_part", "_law_most", "_law_due", "_law_at", "_law_thing"] "_law_is_row_right" (defScope (top 49)) f cdv A outer s H E) (fun cls d _ H => E cls d H) 2 (defBody (top 49)) m__law_is_row_right := by
  have nd := sc__law_is_row_right.nd
  have tk : Takes (cxOf (L2.CX P w) P w K mg base ["_law_dice_here", "_law_row", "_law_size", "_law_things", "_law_part", "_law_most", "_law_due", "_law_at", "_law_thing"] "_law_is_row_right" (defScope (top 49)) f cdv A outer s H E) (fun cls d _ H => E cls d H) := takes_of rfl rfl rfl rfl
  have po := passes_of (X := cxOf (L2.CX P w) P w K mg base ["_law_dice_here", "_law_row", "_law_size", "_law_things", "_law_part", "_law_most", "_law_due", "_law_at", "_law_thing"] "_law_is_row_right" (defScope (top 49)) f cdv A outer s H E) rfl
  unfold m__law_is_row_right
  refine sb_cons ?_ ?_
  · refine ss_asg (t := (fun v σ H Q => gTup K 2 (tNms [2, 3]) v σ H Q ∨ gLst K 2 (tNms [2, 3]) v σ H Q)) (is := [2, 3]) ?_ ?_
    · refine se_tup ?_
      · refine sa_cons ?_ ?_
        · refine se_callB (id := "len") ?_ ?_ ?_ ?_ ?_
          · exact oc_len
          · exact rfl
          · exact g.z_len
          · exact b_len
          · refine sa_cons ?_ ?_
            · refine se_var (i := 1) ?_ ?_
              · exact rfl
              · exact vis_by rfl
            · exact sa_nil
        · refine sa_cons ?_ ?_
          · refine se_call (k := 2) (j := 6) ?_ ?_ ?_ ?_ ?_ ?_
            · exact cal__law_drawn_things g
            · exact tk
            · exact hr
            · decide
            · exact rfl
            · refine sa_cons ?_ ?_
              · refine se_var (i := 0) ?_ ?_
                · exact rfl
                · exact vis_by rfl
              · refine sa_cons ?_ ?_
                · refine se_callB (id := "len") ?_ ?_ ?_ ?_ ?_
                  · exact oc_len
                  · exact rfl
                  · exact g.z_len
                  · exact b_len
                  · refine sa_cons ?_ ?_
                    · refine se_var (i := 1) ?_ ?_
                      · exact rfl
                      · exact vis_by rfl
                    · exact sa_nil
                · exact sa_nil
          · exact sa_nil
    · refine gn_seq (is := [2, 3]) ?_ ?_ ?_
      · decide
      · refine pg_tup ?_ ?_
        · exact rfl
        · refine pgs_cons ?_ ?_
          · refine pg_name (i := 2) ?_ ?_ ?_
            · exact nd
            · exact rfl
            · exact loc_by rfl
          · refine pgs_cons ?_ ?_
            · refine pg_name (i := 3) ?_ ?_ ?_
              · exact nd
              · exact rfl
              · exact loc_by rfl
            · exact pgs_nil
      · refine pg_lst ?_ ?_
        · exact rfl
        · refine pgs_cons ?_ ?_
          · refine pg_name (i := 2) ?_ ?_ ?_
            · exact nd
            · exact rfl
            · exact loc_by rfl
          · refine pgs_cons ?_ ?_
            · refine pg_name (i := 3) ?_ ?_ ?_
              · exact nd
              · exact rfl
              · exact loc_by rfl
            · exact pgs_nil
  · refine sb_cons ?_ ?_
    · refine ss_if ?_ ?_ ?_
      · refine SW.st ?_
        · refine sw_or ?_ ?_
          · refine st_cmp ?_ ?_ ?_ ?_
            · exact op_dNe (hu64 hr)
            · refine se_call (k := 4) (j := 6) ?_ ?_ ?_ ?_ ?_ ?_
              · exact cal_things_of g
              · exact tk
              · exact hr
              · decide
              · exact rfl
              · refine sa_cons ?_ ?_
                · refine se_var (i := 1) ?_ ?_
                  · exact rfl
                  · exact vis_by rfl
                · exact sa_nil
            · refine se_call (k := 1) (j := 6) ?_ ?_ ?_ ?_ ?_ ?_
              · exact cal__law_held g
              · exact tk
              · exact hr
              · decide
              · exact rfl
              · refine sa_cons ?_ ?_
                · refine se_var (i := 1) ?_ ?_
                  · exact rfl
                  · exact vis_by rfl
                · exact sa_nil
            · exact rfl
          · refine sw_or1 ?_
            · refine st_cmp ?_ ?_ ?_ ?_
              · exact op_dNe (hu64 hr)
              · refine se_call (k := 4) (j := 6) ?_ ?_ ?_ ?_ ?_ ?_
                · exact cal_zeros_of g
                · exact tk
                · exact hr
                · decide
                · exact rfl
                · refine sa_cons ?_ ?_
                  · refine se_var (i := 1) ?_ ?_
                    · exact rfl
                    · exact vis_by rfl
                  · exact sa_nil
              · refine se_callTy (id := "tuple") ?_ ?_ ?_ ?_ ?_
                · exact oc_tuple
                · exact rfl
                · exact g.z_tuple
                · exact b_tuple
                · refine sa_cons ?_ ?_
                  · refine se_lc (own := [("_law_at", 7)]) (is := [7]) (gt := (gName 7)) ?_ ?_ ?_ ?_ ?_ ?_
                    · exact rfl
                    · exact nd
                    · refine si_range1 ?_ ?_ ?_
                      · exact rfl
                      · exact g.z_range
                      · refine sa_cons ?_ ?_
                        · refine se_var (i := 2) ?_ ?_
                          · exact rfl
                          · exact vis_by rfl
                        · exact sa_nil
                    · exact blkOk_by rfl
                    · refine ⟨fun _ _ _ _ _ => ?_, fun _ _ _ _ _ => ?_, fun _ _ _ _ _ => ?_⟩
                      · refine gn_name (i := 7) ?_ ?_
                        · decide
                        · refine pg_name (i := 7) ?_ ?_ ?_
                          · exact nd
                          · exact rfl
                          · exact loc_by rfl
                      · refine sts_one ?_
                        · refine st_cmp ?_ ?_ ?_ ?_
                          · exact op_dEq (hu64 hr)
                          · refine se_ix ?_ ?_ ?_ ?_
                            · exact ox_ix (hu1 hr)
                            · refine se_var (i := 1) ?_ ?_
                              · exact rfl
                              · exact vis_by rfl
                            · refine se_var (i := 7) ?_ ?_
                              · exact rfl
                              · exact vis_by rfl
                            · exact fun _ _ => rfl
                          · refine se_str ?_
                            · exact rfl
                          · exact rfl
                      · refine se_var (i := 7) ?_ ?_
                        · exact rfl
                        · exact vis_by rfl
                    · decide
                  · exact sa_nil
              · exact rfl
      · refine sb_one ?_
        · refine ss_ret ?_
          · exact se_bl
      · exact sb_nil
    · refine sb_cons ?_ ?_
      · refine ss_if ?_ ?_ ?_
        · refine SW.st ?_
          · refine sw_or ?_ ?_
            · refine st_cmp ?_ ?_ ?_ ?_
              · exact op_dNe (hu64 hr)
              · refine se_call (k := 6) (j := 6) ?_ ?_ ?_ ?_ ?_ ?_
                · exact cal_turned_1 g
                · exact tk
                · exact hr
                · decide
                · exact rfl
                · refine sa_cons ?_ ?_
                  · refine se_var (i := 1) ?_ ?_
                    · exact rfl
                    · exact vis_by rfl
                  · exact sa_nil
              · refine se_call (k := 2) (j := 6) ?_ ?_ ?_ ?_ ?_ ?_
                · exact cal__law_turn g
                · exact tk
                · exact hr
                · decide
                · exact rfl
                · refine sa_cons ?_ ?_
                  · refine se_var (i := 1) ?_ ?_
                    · exact rfl
                    · exact vis_by rfl
                  · exact sa_nil
              · exact rfl
            · refine sw_or ?_ ?_
              · refine st_cmp ?_ ?_ ?_ ?_
                · exact op_dNe (hu64 hr)
                · refine se_call (k := 6) (j := 6) ?_ ?_ ?_ ?_ ?_ ?_
                  · exact cal_turned g
                  · exact tk
                  · exact hr
                  · decide
                  · exact rfl
                  · refine sa_cons ?_ ?_
                    · refine se_var (i := 1) ?_ ?_
                      · exact rfl
                      · exact vis_by rfl
                    · refine sa_cons ?_ ?_
                      · refine se_var (i := 3) ?_ ?_
                        · exact rfl
                        · exact vis_by rfl
                      · exact sa_nil
                · refine se_call (k := 2) (j := 6) ?_ ?_ ?_ ?_ ?_ ?_
                  · exact cal__law_turn_at g
                  · exact tk
                  · exact hr
                  · decide
                  · exact rfl
                  · refine sa_cons ?_ ?_
                    · refine se_var (i := 1) ?_ ?_
                      · exact rfl
                      · exact vis_by rfl
                    · refine sa_cons ?_ ?_
                      · refine se_var (i := 3) ?_ ?_
                        · exact rfl
                        · exact vis_by rfl
                      · exact sa_nil
                · exact rfl
              · refine sw_or1 ?_
                · refine st_cmp ?_ ?_ ?_ ?_
                  · exact op_dNe (hu64 hr)
                  · refine se_call (k := 6) (j := 6) ?_ ?_ ?_ ?_ ?_ ?_
                    · exact cal_turned g
                    · exact tk
                    · exact hr
                    · decide
                    · exact rfl
                    · refine sa_cons ?_ ?_
                      · refine se_var (i := 1) ?_ ?_
                        · exact rfl
                        · exact vis_by rfl
                      · refine sa_cons ?_ ?_
                        · refine se_tup ?_
                          · exact sa_nil
                        · exact sa_nil
                  · refine se_var (i := 1) ?_ ?_
                    · exact rfl
                    · exact vis_by rfl
                  · exact rfl
        · refine sb_one ?_
          · refine ss_ret ?_
            · exact se_bl
        · exact sb_nil
      · refine sb_cons ?_ ?_
        · refine ss_set (i := 4) ?_ ?_ ?_ ?_ ?_
          · decide
          · exact nd
          · exact rfl
          · exact loc_by rfl
          · refine se_call (k := 6) (j := 6) ?_ ?_ ?_ ?_ ?_ ?_
            · exact cal_signs_at g
            · exact tk
            · exact hr
            · decide
            · exact rfl
            · refine sa_cons ?_ ?_
              · refine se_var (i := 1) ?_ ?_
                · exact rfl
                · exact vis_by rfl
              · refine sa_cons ?_ ?_
                · refine se_var (i := 3) ?_ ?_
                  · exact rfl
                  · exact vis_by rfl
                · exact sa_nil
        · refine sb_cons ?_ ?_
          · refine ss_if ?_ ?_ ?_
            · refine SW.st ?_
              · refine sw_or ?_ ?_
                · refine st_cmp ?_ ?_ ?_ ?_
                  · exact op_dNe (hu64 hr)
                  · refine se_var (i := 4) ?_ ?_
                    · exact rfl
                    · exact vis_by rfl
                  · refine se_join ?_ ?_
                    · refine se_str ?_
                      · exact rfl
                    · refine se_lc (own := [("_law_thing", 8)]) (is := [8]) (gt := (gName 8)) ?_ ?_ ?_ ?_ ?_ ?_
                      · exact rfl
                      · exact nd
                      · refine si_val ?_
                        · refine se_var (i := 3) ?_ ?_
                          · exact rfl
                          · exact vis_by rfl
                      · exact blkOk_by rfl
                      · refine ⟨fun _ _ _ _ _ => ?_, fun _ _ _ _ _ => ?_, fun _ _ _ _ _ => ?_⟩
                        · refine gn_name (i := 8) ?_ ?_
                          · decide
                          · refine pg_name (i := 8) ?_ ?_ ?_
                            · exact nd
                            · exact rfl
                            · exact loc_by rfl
                        · exact sts_nil
                        · refine se_ix ?_ ?_ ?_ ?_
                          · exact ox_ix (hu1 hr)
                          · refine se_var (i := 1) ?_ ?_
                            · exact rfl
                            · exact vis_by rfl
                          · refine se_var (i := 8) ?_ ?_
                            · exact rfl
                            · exact vis_by rfl
                          · exact fun _ _ => rfl
                      · decide
                  · exact rfl
                · refine sw_or1 ?_
                  · refine st_cmp ?_ ?_ ?_ ?_
                    · exact op_dNe (hu64 hr)
                    · refine se_call (k := 4) (j := 6) ?_ ?_ ?_ ?_ ?_ ?_
                      · exact cal_laid_over g
                      · exact tk
                      · exact hr
                      · decide
                      · exact rfl
                      · refine sa_cons ?_ ?_
                        · refine se_var (i := 1) ?_ ?_
                          · exact rfl
                          · exact vis_by rfl
                        · refine sa_cons ?_ ?_
                          · refine se_var (i := 1) ?_ ?_
                            · exact rfl
                            · exact vis_by rfl
                          · exact sa_nil
                    · refine se_var (i := 1) ?_ ?_
                      · exact rfl
                      · exact vis_by rfl
                    · exact rfl
            · refine sb_one ?_
              · refine ss_ret ?_
                · exact se_bl
            · exact sb_nil
          · refine sb_cons ?_ ?_
            · refine ss_set (i := 5) ?_ ?_ ?_ ?_ ?_
              · decide
              · exact nd
              · exact rfl
              · exact loc_by rfl
              · refine se_bin ?_ ?_ ?_
                · exact op_dAdd
                · refine se_var (i := 2) ?_ ?_
                  · exact rfl
                  · exact vis_by rfl
                · refine se_call (k := 1) (j := 6) ?_ ?_ ?_ ?_ ?_ ?_
                  · exact cal__law_roll g
                  · exact tk
                  · exact hr
                  · decide
                  · exact rfl
                  · refine sa_cons ?_ ?_
                    · refine se_var (i := 0) ?_ ?_
                      · exact rfl
                      · exact vis_by rfl
                    · refine sa_cons ?_ ?_
                      · refine se_bin ?_ ?_ ?_
                        · exact op_dSub
                        · exact se_int
                        · refine se_var (i := 2) ?_ ?_
                          · exact rfl
                          · exact vis_by rfl
                      · exact sa_nil
            · refine sb_cons ?_ ?_
              · refine ss_set (i := 6) ?_ ?_ ?_ ?_ ?_
                · decide
                · exact nd
                · exact rfl
                · exact loc_by rfl
                · refine se_bin ?_ ?_ ?_
                  · exact op_dAdd
                  · refine se_join ?_ ?_
                    · refine se_str ?_
                      · exact rfl
                    · refine se_lc (own := [("_law_thing", 8)]) (is := [8]) (gt := (gName 8)) ?_ ?_ ?_ ?_ ?_ ?_
                      · exact rfl
                      · exact nd
                      · refine si_range1 ?_ ?_ ?_
                        · exact rfl
                        · exact g.z_range
                        · refine sa_cons ?_ ?_
                          · refine se_var (i := 2) ?_ ?_
                            · exact rfl
                            · exact vis_by rfl
                          · exact sa_nil
                      · exact blkOk_by rfl
                      · refine ⟨fun _ _ _ _ _ => ?_, fun _ _ _ _ _ => ?_, fun _ _ _ _ _ => ?_⟩
                        · refine gn_name (i := 8) ?_ ?_
                          · decide
                          · refine pg_name (i := 8) ?_ ?_ ?_
                            · exact nd
                            · exact rfl
                            · exact loc_by rfl
                        · exact sts_nil
                        · refine se_if ?_ ?_ ?_
                          · refine st_cmp ?_ ?_ ?_ ?_
                            · exact op_dIn (hu65 hr)
                            · refine se_var (i := 8) ?_ ?_
                              · exact rfl
                              · exact vis_by rfl
                            · refine se_var (i := 3) ?_ ?_
                              · exact rfl
                              · exact vis_by rfl
                            · exact rfl
                          · refine se_ix ?_ ?_ ?_ ?_
                            · exact ox_ix (hu1 hr)
                            · refine se_var (i := 1) ?_ ?_
                              · exact rfl
                              · exact vis_by rfl
                            · refine se_var (i := 8) ?_ ?_
                              · exact rfl
                              · exact vis_by rfl
                            · exact fun _ _ => rfl
                          · refine se_str ?_
                            · exact rfl
                      · decide
                  · refine se_bin ?_ ?_ ?_
                    · exact op_dMul
                    · refine se_str ?_
                      · exact rfl
                    · refine se_bin ?_ ?_ ?_
                      · exact op_dSub
                      · refine se_var (i := 5) ?_ ?_
                        · exact rfl
                        · exact vis_by rfl
                      · refine se_var (i := 2) ?_ ?_
                        · exact rfl
                        · exact vis_by rfl
              · refine sb_one ?_
                · refine ss_ret ?_
                  · refine se_and ?_ ?_
                    · refine se_cmp ?_ ?_ ?_ ?_
                      · exact op_dEq (hu64 hr)
                      · refine se_call (k := 5) (j := 6) ?_ ?_ ?_ ?_ ?_ ?_
                        · exact cal_spread g
                        · exact tk
                        · exact hr
                        · decide
                        · exact rfl
                        · refine sa_cons ?_ ?_
                          · refine se_var (i := 4) ?_ ?_
                            · exact rfl
                            · exact vis_by rfl
                          · refine sa_cons ?_ ?_
                            · refine se_var (i := 3) ?_ ?_
                              · exact rfl
                              · exact vis_by rfl
                            · refine sa_cons ?_ ?_
                              · refine se_var (i := 5) ?_ ?_
                                · exact rfl
                                · exact vis_by rfl
                              · exact sa_nil
                      · refine se_var (i := 6) ?_ ?_
                        · exact rfl
                        · exact vis_by rfl
                      · exact rfl
                    · refine se_one ?_
                      · refine se_cmp ?_ ?_ ?_ ?_
                        · exact op_dEq (hu64 hr)
                        · refine se_call (k := 6) (j := 6) ?_ ?_ ?_ ?_ ?_ ?_
                          · exact cal_turned g
                          · exact tk
                          · exact hr
                          · decide
                          · exact rfl
                          · refine sa_cons ?_ ?_
                            · refine se_call (k := 6) (j := 6) ?_ ?_ ?_ ?_ ?_ ?_
                              · exact cal_turned g
                              · exact tk
                              · exact hr
                              · decide
                              · exact rfl
                              · refine sa_cons ?_ ?_
                                · refine se_var (i := 1) ?_ ?_
                                  · exact rfl
                                  · exact vis_by rfl
                                · refine sa_cons ?_ ?_
                                  · refine se_var (i := 3) ?_ ?_
                                    · exact rfl
                                    · exact vis_by rfl
                                  · exact sa_nil
                            · refine sa_cons ?_ ?_
                              · refine se_var (i := 3) ?_ ?_
                                · exact rfl
                                · exact vis_by rfl
                              · exact sa_nil
                        · refine se_var (i := 1) ?_ ?_
                          · exact rfl
                          · exact vis_by rfl
                        · exact rfl
theorem cal__law_is_row_right (g : Gs w K mg) : Cal P w K mg base 7 "_law_is_row_right" 2 2 9 m__law_is_row_right [] := by
  obtain ⟨f, fd, F, hm⟩ := g.f__law_is_row_right
  exact ⟨f, fd, ["_law_dice_here", "_law_row", "_law_size", "_law_things", "_law_part", "_law_most", "_law_due", "_law_at", "_law_thing"], ["_law_dice_here", "_law_row"], [], [], okD F sc__law_is_row_right (@s__law_is_row_right P w K mg base g _), rfl, rfl, hm, F.kp, F.bindsN (fun _ _ _ _ _ _ us hl => match us, hl with | [_, _], _ => rfl), .nil, fun _ => .nil⟩
theorem sc__law_right : FnScope (["_law_dice_here", "_law_size", "_law_one", "_law_other", "_law_third", "_law_like", "_law_pairs", "_law_at", "_law_pair", "_law_row"] : List Str) ["_law_dice_here"] (defScope (top 51)) := ⟨rfl, rfl, rfl, by decide +kernel, rfl, by decide +kernel, by decide +kernel⟩
theorem s__law_right (g : Gs w K mg) {f : Addr} (cdv : Value) (A : Around) (outer : List Env) (s : Shared) (H : Hp) (E : XK) (hr : Room 7 (A.deeper (envOfC "_law_right" (defScope (top 51)) s.heap.objs.size f cdv))) :
    SB (cxOf (L2.CX P w) P w K mg base ["_law_dice_here", "_law_size", "_law_one", "_law_other", "_law_third", "_law_like", "_law_pairs", "_law_at", "_law_pair", "_law_row"] "_law_right" (defScope (top 51)) f cdv A outer s H E) (fun cls d _ H => E cls d H) 1 (defBody (top 51)) m__law_right := by
  have nd := sc__law_right.nd
  have tk : Takes (cxOf (L2.CX P w) P w K mg base ["_law_dice_here", "_law_size", "_law_one", "_law_other", "_law_third", "_law_like", "_law_pairs", "_law_at", "_law_pair", "_law_row"] "_law_right" (defScope (top 51)) f cdv A outer s H E) (fun cls d _ H => E cls d H) := takes_of rfl rfl rfl rfl
  have po := passes_of (X := cxOf (L2.CX P w) P w K mg base ["_law_dice_here", "_law_size", "_law_one", "_law_other", "_law_third", "_law_like", "_law_pairs", "_law_at", "_law_pair", "_law_row"] "_law_right" (defScope (top 51)) f cdv A outer s H E) rfl
  unfold m__law_right
  refine sb_cons ?_ ?_
  · refine ss_set (i := 1) ?_ ?_ ?_ ?_ ?_
    · decide
    · exact nd
    · exact rfl
    · exact loc_by rfl
    · refine se_call (k := 1) (j := 7) ?_ ?_ ?_ ?_ ?_ ?_
      · exact cal__law_roll g
      · exact tk
      · exact hr
      · decide
      · exact rfl
      · refine sa_cons ?_ ?_
        · refine se_var (i := 0) ?_ ?_
          · exact rfl
          · exact vis_by rfl
        · refine sa_cons ?_ ?_
          · exact se_int
          · exact sa_nil
  · refine sb_cons ?_ ?_
    · refine ss_asg (t := (fun v σ H Q => gTup K 3 (tNms [2, 3, 4]) v σ H Q ∨ gLst K 3 (tNms [2, 3, 4]) v σ H Q)) (is := [2, 3, 4]) ?_ ?_
      · refine se_lc (own := [("_law_at", 7)]) (is := [7]) (gt := (gName 7)) ?_ ?_ ?_ ?_ ?_ ?_
        · exact rfl
        · exact nd
        · refine si_range1 ?_ ?_ ?_
          · exact rfl
          · exact g.z_range
          · refine sa_cons ?_ ?_
            · exact se_int
            · exact sa_nil
        · exact blkOk_by rfl
        · refine ⟨fun _ _ _ _ _ => ?_, fun _ _ _ _ _ => ?_, fun _ _ _ _ _ => ?_⟩
          · refine gn_name (i := 7) ?_ ?_
            · decide
            · refine pg_name (i := 7) ?_ ?_ ?_
              · exact nd
              · exact rfl
              · exact loc_by rfl
          · exact sts_nil
          · refine se_call (k := 3) (j := 7) ?_ ?_ ?_ ?_ ?_ ?_
            · exact cal__law_drawn_row g
            · exact takesF
            · exact hr
            · decide
            · exact rfl
            · refine sa_cons ?_ ?_
              · refine se_var (i := 0) ?_ ?_
                · exact rfl
                · exact vis_by rfl
              · refine sa_cons ?_ ?_
                · refine se_var (i := 1) ?_ ?_
                  · exact rfl
                  · exact vis_by rfl
                · exact sa_nil
        · decide
      · refine gn_seq (is := [2, 3, 4]) ?_ ?_ ?_
        · decide
        · refine pg_tup ?_ ?_
          · exact rfl
          · refine pgs_cons ?_ ?_
            · refine pg_name (i := 2) ?_ ?_ ?_
              · exact nd
              · exact rfl
              · exact loc_by rfl
            · refine pgs_cons ?_ ?_
              · refine pg_name (i := 3) ?_ ?_ ?_
                · exact nd
                · exact rfl
                · exact loc_by rfl
              · refine pgs_cons ?_ ?_
                · refine pg_name (i := 4) ?_ ?_ ?_
                  · exact nd
                  · exact rfl
                  · exact loc_by rfl
                · exact pgs_nil
        · refine pg_lst ?_ ?_
          · exact rfl
          · refine pgs_cons ?_ ?_
            · refine pg_name (i := 2) ?_ ?_ ?_
              · exact nd
              · exact rfl
              · exact loc_by rfl
            · refine pgs_cons ?_ ?_
              · refine pg_name (i := 3) ?_ ?_ ?_
                · exact nd
                · exact rfl
                · exact loc_by rfl
              · refine pgs_cons ?_ ?_
                · refine pg_name (i := 4) ?_ ?_ ?_
                  · exact nd
                  · exact rfl
                  · exact loc_by rfl
                · exact pgs_nil
    · refine sb_cons ?_ ?_
      · refine ss_set (i := 5) ?_ ?_ ?_ ?_ ?_
        · decide
        · exact nd
        · exact rfl
        · exact loc_by rfl
        · refine se_call (k := 2) (j := 7) ?_ ?_ ?_ ?_ ?_ ?_
          · exact cal__law_turn_at g
          · exact tk
          · exact hr
          · decide
          · exact rfl
          · refine sa_cons ?_ ?_
            · refine se_var (i := 2) ?_ ?_
              · exact rfl
              · exact vis_by rfl
            · refine sa_cons ?_ ?_
              · refine se_call (k := 2) (j := 7) ?_ ?_ ?_ ?_ ?_ ?_
                · exact cal__law_drawn_things g
                · exact tk
                · exact hr
                · decide
                · exact rfl
                · refine sa_cons ?_ ?_
                  · refine se_var (i := 0) ?_ ?_
                    · exact rfl
                    · exact vis_by rfl
                  · refine sa_cons ?_ ?_
                    · refine se_var (i := 1) ?_ ?_
                      · exact rfl
                      · exact vis_by rfl
                    · exact sa_nil
              · exact sa_nil
      · refine sb_cons ?_ ?_
        · refine ss_if ?_ ?_ ?_
          · refine st_not ?_
            · refine st_val ?_
              · refine se_callB (id := "all") ?_ ?_ ?_ ?_ ?_
                · exact oc_all rfl
                · exact rfl
                · exact g.z_all
                · exact b_all
                · refine sa_cons ?_ ?_
                  · refine se_lc (own := [("_law_row", 9)]) (is := [9]) (gt := (gName 9)) ?_ ?_ ?_ ?_ ?_ ?_
                    · exact rfl
                    · exact nd
                    · refine si_val ?_
                      · refine se_tup ?_
                        · refine sa_cons ?_ ?_
                          · refine se_var (i := 2) ?_ ?_
                            · exact rfl
                            · exact vis_by rfl
                          · refine sa_cons ?_ ?_
                            · refine se_var (i := 3) ?_ ?_
                              · exact rfl
                              · exact vis_by rfl
                            · refine sa_cons ?_ ?_
                              · refine se_var (i := 5) ?_ ?_
                                · exact rfl
                                · exact vis_by rfl
                              · exact sa_nil
                    · exact blkOk_by rfl
                    · refine ⟨fun _ _ _ _ _ => ?_, fun _ _ _ _ _ => ?_, fun _ _ _ _ _ => ?_⟩
                      · refine gn_name (i := 9) ?_ ?_
                        · decide
                        · refine pg_name (i := 9) ?_ ?_ ?_
                          · exact nd
                          · exact rfl
                          · exact loc_by rfl
                      · exact sts_nil
                      · refine se_call (k := 7) (j := 7) ?_ ?_ ?_ ?_ ?_ ?_
                        · exact cal__law_is_row_right g
                        · exact takesF
                        · exact hr
                        · decide
                        · exact rfl
                        · refine sa_cons ?_ ?_
                          · refine se_var (i := 0) ?_ ?_
                            · exact rfl
                            · exact vis_by rfl
                          · refine sa_cons ?_ ?_
                            · refine se_var (i := 9) ?_ ?_
                              · exact rfl
                              · exact vis_by rfl
                            · exact sa_nil
                    · decide
                  · exact sa_nil
          · refine sb_one ?_
            · refine ss_ret ?_
              · exact se_bl
          · exact sb_nil
        · refine sb_cons ?_ ?_
          · refine ss_if ?_ ?_ ?_
            · refine st_cmp ?_ ?_ ?_ ?_
              · exact op_dNe (hu64 hr)
              · refine se_call (k := 4) (j := 7) ?_ ?_ ?_ ?_ ?_ ?_
                · exact cal_laid_over g
                · exact tk
                · exact hr
                · decide
                · exact rfl
                · refine sa_cons ?_ ?_
                  · refine se_call (k := 4) (j := 7) ?_ ?_ ?_ ?_ ?_ ?_
                    · exact cal_laid_over g
                    · exact tk
                    · exact hr
                    · decide
                    · exact rfl
                    · refine sa_cons ?_ ?_
                      · refine se_var (i := 2) ?_ ?_
                        · exact rfl
                        · exact vis_by rfl
                      · refine sa_cons ?_ ?_
                        · refine se_var (i := 3) ?_ ?_
                          · exact rfl
                          · exact vis_by rfl
                        · exact sa_nil
                  · refine sa_cons ?_ ?_
                    · refine se_var (i := 4) ?_ ?_
                      · exact rfl
                      · exact vis_by rfl
                    · exact sa_nil
              · refine se_call (k := 4) (j := 7) ?_ ?_ ?_ ?_ ?_ ?_
                · exact cal_laid_over g
                · exact tk
                · exact hr
                · decide
                · exact rfl
                · refine sa_cons ?_ ?_
                  · refine se_var (i := 2) ?_ ?_
                    · exact rfl
                    · exact vis_by rfl
                  · refine sa_cons ?_ ?_
                    · refine se_call (k := 4) (j := 7) ?_ ?_ ?_ ?_ ?_ ?_
                      · exact cal_laid_over g
                      · exact tk
                      · exact hr
                      · decide
                      · exact rfl
                      · refine sa_cons ?_ ?_
                        · refine se_var (i := 3) ?_ ?_
                          · exact rfl
                          · exact vis_by rfl
                        · refine sa_cons ?_ ?_
                          · refine se_var (i := 4) ?_ ?_
                            · exact rfl
                            · exact vis_by rfl
                          · exact sa_nil
                    · exact sa_nil
              · exact rfl
            · refine sb_one ?_
              · refine ss_ret ?_
                · exact se_bl
            · exact sb_nil
          · refine sb_cons ?_ ?_
            · refine ss_set (i := 6) ?_ ?_ ?_ ?_ ?_
              · decide
              · exact nd
              · exact rfl
              · exact loc_by rfl
              · refine se_lst ?_
                · refine sa_cons ?_ ?_
                  · refine se_tup ?_
                    · refine sa_cons ?_ ?_
                      · refine se_var (i := 2) ?_ ?_
                        · exact rfl
                        · exact vis_by rfl
                      · refine sa_cons ?_ ?_
                        · refine se_var (i := 3) ?_ ?_
                          · exact rfl
                          · exact vis_by rfl
                        · exact sa_nil
                  · refine sa_cons ?_ ?_
                    · refine se_tup ?_
                      · refine sa_cons ?_ ?_
                        · refine se_var (i := 3) ?_ ?_
                          · exact rfl
                          · exact vis_by rfl
                        · refine sa_cons ?_ ?_
                          · refine se_var (i := 4) ?_ ?_
                            · exact rfl
                            · exact vis_by rfl
                          · exact sa_nil
                    · refine sa_cons ?_ ?_
                      · refine se_tup ?_
                        · refine sa_cons ?_ ?_
                          · refine se_var (i := 2) ?_ ?_
                            · exact rfl
                            · exact vis_by rfl
                          · refine sa_cons ?_ ?_
                            · refine se_var (i := 5) ?_ ?_
                              · exact rfl
                              · exact vis_by rfl
                            · exact sa_nil
                      · refine sa_cons ?_ ?_
                        · refine se_tup ?_
                          · refine sa_cons ?_ ?_
                            · refine se_var (i := 2) ?_ ?_
                              · exact rfl
                              · exact vis_by rfl
                            · refine sa_cons ?_ ?_
                              · refine se_call (k := 2) (j := 7) ?_ ?_ ?_ ?_ ?_ ?_
                                · exact cal__law_turn g
                                · exact tk
                                · exact hr
                                · decide
                                · exact rfl
                                · refine sa_cons ?_ ?_
                                  · refine se_var (i := 2) ?_ ?_
                                    · exact rfl
                                    · exact vis_by rfl
                                  · exact sa_nil
                              · exact sa_nil
                        · refine sa_cons ?_ ?_
                          · refine se_tup ?_
                            · refine sa_cons ?_ ?_
                              · refine se_var (i := 2) ?_ ?_
                                · exact rfl
                                · exact vis_by rfl
                              · refine sa_cons ?_ ?_
                                · refine se_var (i := 2) ?_ ?_
                                  · exact rfl
                                  · exact vis_by rfl
                                · exact sa_nil
                          · refine sa_cons ?_ ?_
                            · refine se_tup ?_
                              · refine sa_cons ?_ ?_
                                · refine se_var (i := 2) ?_ ?_
                                  · exact rfl
                                  · exact vis_by rfl
                                · refine sa_cons ?_ ?_
                                  · refine se_bin ?_ ?_ ?_
                                    · exact op_dMul
                                    · refine se_str ?_
                                      · exact rfl
                                    · refine se_var (i := 1) ?_ ?_
                                      · exact rfl
                                      · exact vis_by rfl
                                  · exact sa_nil
                            · exact sa_nil
            · refine sb_one ?_
              · refine ss_ret ?_
                · refine se_callB (id := "all") ?_ ?_ ?_ ?_ ?_
                  · exact oc_all rfl
                  · exact rfl
                  · exact g.z_all
                  · exact b_all
                  · refine sa_cons ?_ ?_
                    · refine se_lc (own := [("_law_pair", 8)]) (is := [8]) (gt := (gName 8)) ?_ ?_ ?_ ?_ ?_ ?_
                      · exact rfl
                      · exact nd
                      · refine si_val ?_
                        · refine se_var (i := 6) ?_ ?_
                          · exact rfl
                          · exact vis_by rfl
                      · exact blkOk_by rfl
                      · refine ⟨fun _ _ _ _ _ => ?_, fun _ _ _ _ _ => ?_, fun _ _ _ _ _ => ?_⟩
                        · refine gn_name (i := 8) ?_ ?_
                          · decide
                          · refine pg_name (i := 8) ?_ ?_ ?_
                            · exact nd
                            · exact rfl
                            · exact loc_by rfl
                        · exact sts_nil
                        · refine se_call (k := 7) (j := 7) ?_ ?_ ?_ ?_ ?_ ?_
                          · exact cal__law_are_two_right g
                          · exact takesF
                          · exact hr
                          · decide
                          · exact rfl
                          · refine sa_cons ?_ ?_
                            · refine se_var (i := 0) ?_ ?_
                              · exact rfl
                              · exact vis_by rfl
                            · refine sa_cons ?_ ?_
                              · refine se_ix ?_ ?_ ?_ ?_
                                · exact ox_ix (hu1 hr)
                                · refine se_var (i := 8) ?_ ?_
                                  · exact rfl
                                  · exact vis_by rfl
                                · exact se_int
                                · exact fun _ _ => rfl
                              · refine sa_cons ?_ ?_
                                · refine se_ix ?_ ?_ ?_ ?_
                                  · exact ox_ix (hu1 hr)
                                  · refine se_var (i := 8) ?_ ?_
                                    · exact rfl
                                    · exact vis_by rfl
                                  · exact se_int
                                  · exact fun _ _ => rfl
                                · exact sa_nil
                      · decide
                    · exact sa_nil
theorem cal__law_right (g : Gs w K mg) : Cal P w K mg base 8 "_law_right" 1 1 10 m__law_right [] := by
  obtain ⟨f, fd, F, hm⟩ := g.f__law_right
  exact ⟨f, fd, ["_law_dice_here", "_law_size", "_law_one", "_law_other", "_law_third", "_law_like", "_law_pairs", "_law_at", "_law_pair", "_law_row"], ["_law_dice_here"], [], [], okD F sc__law_right (@s__law_right P w K mg base g _), rfl, rfl, hm, F.kp, F.bindsN (fun _ _ _ _ _ _ us hl => match us, hl with | [_], _ => rfl), .nil, fun _ => .nil⟩
theorem sc_law : FnScope (["_law_script", "_law_spot", "_law_told", "_law_pairs", "_law_one", "_law_other"] : List Str) ["_law_script"] (defScope (top 52)) := ⟨rfl, rfl, rfl, by decide +kernel, rfl, by decide +kernel, by decide +kernel⟩
theorem s_law (g : Gs w K mg) {f : Addr} (cdv : Value) (A : Around) (outer : List Env) (s : Shared) (H : Hp) (E : XK) (hr : Room 8 (A.deeper (envOfC "law" (defScope (top 52)) s.heap.objs.size f cdv))) :
    SB (cxOf (L2.CX P w) P w K mg base ["_law_script", "_law_spot", "_law_told", "_law_pairs", "_law_one", "_law_other"] "law" (defScope (top 52)) f cdv A outer s H E) (fun cls d _ H => E cls d H) 1 (defBody (top 52)) m_law := by
  have nd := sc_law.nd
  have tk : Takes (cxOf (L2.CX P w) P w K mg base ["_law_script", "_law_spot", "_law_told", "_law_pairs", "_law_one", "_law_other"] "law" (defScope (top 52)) f cdv A outer s H E) (fun cls d _ H => E cls d H) := takes_of rfl rfl rfl rfl
  have po := passes_of (X := cxOf (L2.CX P w) P w K mg base ["_law_script", "_law_spot", "_law_told", "_law_pairs", "_law_one", "_law_other"] "law" (defScope (top 52)) f cdv A outer s H E) rfl
  unfold m_law
  refine sb_cons ?_ ?_
  · refine ss_for (tt := (gName 1)) (is := [1]) ?_ ?_ ?_ ?_ ?_
    · exact po
    · exact rfl
    · refine si_range1 ?_ ?_ ?_
      · exact rfl
      · exact g.z_range
      · refine sa_cons ?_ ?_
        · refine se_callB (id := "max") ?_ ?_ ?_ ?_ ?_
          · exact oc_max2 rfl
          · exact rfl
          · exact g.z_max
          · exact b_max
          · refine sa_cons ?_ ?_
            · exact se_int
            · refine sa_cons ?_ ?_
              · refine se_callB (id := "min") ?_ ?_ ?_ ?_ ?_
                · exact oc_min2 rfl
                · exact rfl
                · exact g.z_min
                · exact b_min
                · refine sa_cons ?_ ?_
                  · exact se_int
                  · refine sa_cons ?_ ?_
                    · refine se_callB (id := "len") ?_ ?_ ?_ ?_ ?_
                      · exact oc_len
                      · exact rfl
                      · exact g.z_len
                      · exact b_len
                      · refine sa_cons ?_ ?_
                        · refine se_var (i := 0) ?_ ?_
                          · exact rfl
                          · exact vis_by rfl
                        · exact sa_nil
                    · exact sa_nil
              · exact sa_nil
        · exact sa_nil
    · refine gn_name (i := 1) ?_ ?_
      · decide
      · refine pg_name (i := 1) ?_ ?_ ?_
        · exact nd
        · exact rfl
        · exact loc_by rfl
    · refine sb_one ?_
      · refine ss_if ?_ ?_ ?_
        · refine st_not ?_
          · refine st_val ?_
            · refine se_call (k := 8) (j := 8) ?_ ?_ ?_ ?_ ?_ ?_
              · exact cal__law_right g
              · exact tk
              · exact hr
              · decide
              · exact rfl
              · refine sa_cons ?_ ?_
                · refine se_call (k := 1) (j := 8) ?_ ?_ ?_ ?_ ?_ ?_
                  · exact cal__law_dice g
                  · exact tk
                  · exact hr
                  · decide
                  · exact rfl
                  · refine sa_cons ?_ ?_
                    · refine se_var (i := 0) ?_ ?_
                      · exact rfl
                      · exact vis_by rfl
                    · refine sa_cons ?_ ?_
                      · refine se_var (i := 1) ?_ ?_
                        · exact rfl
                        · exact vis_by rfl
                      · exact sa_nil
                · exact sa_nil
        · refine sb_one ?_
          · refine ss_ret ?_
            · exact se_bl
        · exact sb_nil
  · refine sb_cons ?_ ?_
    · refine ss_set (i := 2) ?_ ?_ ?_ ?_ ?_
      · decide
      · exact nd
      · exact rfl
      · exact loc_by rfl
      · refine se_lst ?_
        · refine sa_cons ?_ ?_
          · refine se_call (k := 6) (j := 8) ?_ ?_ ?_ ?_ ?_ ?_
            · exact cal_turned_1 g
            · exact tk
            · exact hr
            · decide
            · exact rfl
            · refine sa_cons ?_ ?_
              · refine se_str ?_
                · exact rfl
              · exact sa_nil
          · refine sa_cons ?_ ?_
            · refine se_call (k := 6) (j := 8) ?_ ?_ ?_ ?_ ?_ ?_
              · exact cal_turned g
              · exact tk
              · exact hr
              · decide
              · exact rfl
              · refine sa_cons ?_ ?_
                · refine se_str ?_
                  · exact rfl
                · refine sa_cons ?_ ?_
                  · refine se_tup ?_
                    · refine sa_cons ?_ ?_
                      · exact se_int
                      · refine sa_cons ?_ ?_
                        · exact se_int
                        · exact sa_nil
                  · exact sa_nil
            · refine sa_cons ?_ ?_
              · refine se_call (k := 4) (j := 8) ?_ ?_ ?_ ?_ ?_ ?_
                · exact cal_laid_over g
                · exact tk
                · exact hr
                · decide
                · exact rfl
                · refine sa_cons ?_ ?_
                  · refine se_str ?_
                    · exact rfl
                  · refine sa_cons ?_ ?_
                    · refine se_str ?_
                      · exact rfl
                    · exact sa_nil
              · refine sa_cons ?_ ?_
                · refine se_call (k := 4) (j := 8) ?_ ?_ ?_ ?_ ?_ ?_
                  · exact cal_laid_over g
                  · exact tk
                  · exact hr
                  · decide
                  · exact rfl
                  · refine sa_cons ?_ ?_
                    · refine se_str ?_
                      · exact rfl
                    · refine sa_cons ?_ ?_
                      · refine se_str ?_
                        · exact rfl
                      · exact sa_nil
                · refine sa_cons ?_ ?_
                  · refine se_call (k := 4) (j := 8) ?_ ?_ ?_ ?_ ?_ ?_
                    · exact cal_apart g
                    · exact tk
                    · exact hr
                    · decide
                    · exact rfl
                    · refine sa_cons ?_ ?_
                      · refine se_str ?_
                        · exact rfl
                      · refine sa_cons ?_ ?_
                        · refine se_str ?_
                          · exact rfl
                        · exact sa_nil
                  · exact sa_nil
    · refine sb_cons ?_ ?_
      · refine ss_if ?_ ?_ ?_
        · refine st_cmp ?_ ?_ ?_ ?_
          · exact op_dNe (hu64 hr)
          · refine se_var (i := 2) ?_ ?_
            · exact rfl
            · exact vis_by rfl
          · refine se_lst ?_
            · refine sa_cons ?_ ?_
              · refine se_str ?_
                · exact rfl
              · refine sa_cons ?_ ?_
                · refine se_str ?_
                  · exact rfl
                · refine sa_cons ?_ ?_
                  · refine se_str ?_
                    · exact rfl
                  · refine sa_cons ?_ ?_
                    · refine se_str ?_
                      · exact rfl
                    · refine sa_cons ?_ ?_
                      · refine se_tup ?_
                        · refine sa_cons ?_ ?_
                          · exact se_int
                          · refine sa_cons ?_ ?_
                            · exact se_int
                            · exact sa_nil
                      · exact sa_nil
          · exact rfl
        · refine sb_one ?_
          · refine ss_ret ?_
            · exact se_bl
        · exact sb_nil
      · refine sb_cons ?_ ?_
        · refine ss_set (i := 3) ?_ ?_ ?_ ?_ ?_
          · decide
          · exact nd
          · exact rfl
          · exact loc_by rfl
          · refine se_tup ?_
            · refine sa_cons ?_ ?_
              · refine se_tup ?_
                · refine sa_cons ?_ ?_
                  · refine se_str ?_
                    · exact rfl
                  · refine sa_cons ?_ ?_
                    · refine se_str ?_
                      · exact rfl
                    · exact sa_nil
              · refine sa_cons ?_ ?_
                · refine se_tup ?_
                  · refine sa_cons ?_ ?_
                    · refine se_str ?_
                      · exact rfl
                    · refine sa_cons ?_ ?_
                      · refine se_str ?_
                        · exact rfl
                      · exact sa_nil
                · refine sa_cons ?_ ?_
                  · refine se_tup ?_
                    · refine sa_cons ?_ ?_
                      · refine se_str ?_
                        · exact rfl
                      · refine sa_cons ?_ ?_
                        · refine se_str ?_
                          · exact rfl
                        · exact sa_nil
                  · refine sa_cons ?_ ?_
                    · refine se_tup ?_
                      · refine sa_cons ?_ ?_
                        · refine se_str ?_
                          · exact rfl
                        · refine sa_cons ?_ ?_
                          · refine se_str ?_
                            · exact rfl
                          · exact sa_nil
                    · refine sa_cons ?_ ?_
                      · refine se_tup ?_
                        · refine sa_cons ?_ ?_
                          · refine se_str ?_
                            · exact rfl
                          · refine sa_cons ?_ ?_
                            · refine se_str ?_
                              · exact rfl
                            · exact sa_nil
                      · refine sa_cons ?_ ?_
                        · refine se_tup ?_
                          · refine sa_cons ?_ ?_
                            · refine se_str ?_
                              · exact rfl
                            · refine sa_cons ?_ ?_
                              · refine se_str ?_
                                · exact rfl
                              · exact sa_nil
                        · exact sa_nil
        · refine sb_one ?_
          · refine ss_ret ?_
            · refine se_cmp ?_ ?_ ?_ ?_
              · exact op_dEq (hu64 hr)
              · refine se_lc (own := [("_law_one", 4), ("_law_other", 5)]) (is := [4, 5]) (gt := (gTup K 2 (tNms [4, 5]))) ?_ ?_ ?_ ?_ ?_ ?_
                · exact rfl
                · exact nd
                · refine si_val ?_
                  · refine se_var (i := 3) ?_ ?_
                    · exact rfl
                    · exact vis_by rfl
                · exact blkOk_by rfl
                · refine ⟨fun _ _ _ _ _ => ?_, fun _ _ _ _ _ => ?_, fun _ _ _ _ _ => ?_⟩
                  · refine gn_tup (is := [4, 5]) ?_ ?_
                    · decide
                    · refine pg_tup ?_ ?_
                      · exact rfl
                      · refine pgs_cons ?_ ?_
                        · refine pg_name (i := 4) ?_ ?_ ?_
                          · exact nd
                          · exact rfl
                          · exact loc_by rfl
                        · refine pgs_cons ?_ ?_
                          · refine pg_name (i := 5) ?_ ?_ ?_
                            · exact nd
                            · exact rfl
                            · exact loc_by rfl
                          · exact pgs_nil
                  · exact sts_nil
                  · refine se_call (k := 4) (j := 8) ?_ ?_ ?_ ?_ ?_ ?_
                    · exact cal_is_upright g
                    · exact takesF
                    · exact hr
                    · decide
                    · exact rfl
                    · refine sa_cons ?_ ?_
                      · refine se_var (i := 4) ?_ ?_
                        · exact rfl
                        · exact vis_by rfl
                      · refine sa_cons ?_ ?_
                        · refine se_var (i := 5) ?_ ?_
                          · exact rfl
                          · exact vis_by rfl
                        · exact sa_nil
                · decide
              · refine se_lst ?_
                · refine sa_cons ?_ ?_
                  · exact se_bl
                  · refine sa_cons ?_ ?_
                    · exact se_bl
                    · refine sa_cons ?_ ?_
                      · exact se_bl
                      · refine sa_cons ?_ ?_
                        · exact se_bl
                        · refine sa_cons ?_ ?_
                          · exact se_bl
                          · refine sa_cons ?_ ?_
                            · exact se_bl
                            · exact sa_nil
              · exact rfl
theorem cal_law (g : Gs w K mg) : Cal P w K mg base 9 "law" 1 1 6 m_law [] := by
  obtain ⟨f, fd, F, hm⟩ := g.f_law
  exact ⟨f, fd, ["_law_script", "_law_spot", "_law_told", "_law_pairs", "_law_one", "_law_other"], ["_law_script"], [], [], okD F sc_law (@s_law P w K mg base g _), rfl, rfl, hm, F.kp, F.bindsN (fun _ _ _ _ _ _ us hl => match us, hl with | [_], _ => rfl), .nil, fun _ => .nil⟩
end
end W_k00

namespace DL
open PySem L2
theorem argsOf_fz (np : Nat) (σ : SD) : ∀ (as : List D) (i : Nat), argsOf np σ i (as.map Rs.fz) = some (as.map Sl.fz)
  | [], _ => rfl
  | a :: as, i => by
    rw [List.map_cons, List.map_cons]
    unfold argsOf
    rw [argsOf_fz np σ as (i + 1)]
    rfl
theorem lends_fz (σ : SD) : ∀ (as : List D) (i : Nat), lends σ i (as.map Rs.fz) = []
  | [], _ => rfl
  | a :: as, i => by
    rw [List.map_cons]
    unfold lends
    exact lends_fz σ as (i + 1)
theorem backC_nil (σ σ' : SD) : backC [] σ σ' = σ := by
  unfold backC
  apply List.ext_getElem?
  intro j
  rw [List.getElem?_mapIdx]
  cases σ[j]? <;> rfl
/-- a call with frozen data whose callee answers frozen data -/
theorem callD_fz {np nP nN : Nat} {mf : M Fl} {dfl as : List D} {σ σ' : SD} {d : D} (hl : as.length + dfl.length = nP) (hn : nP ≤ nN) (h : mf (startD nN (as.map Sl.fz ++ dfl.map Sl.fz)) = .ok (.rt (.fz d)) σ') :
    callD np nP nN mf dfl (as.map Rs.fz) σ = .ok (.fz d) σ := by
  unfold callD
  rw [argsOf_fz, lends_fz]
  simp only [runD]
  rw [if_pos ⟨by simp [hl], hn, by simp, by simp⟩, h]
  simp only [retD, backC_nil]
/-- .. that answers a new list -/
theorem callD_ow {np nP nN : Nat} {mf : M Fl} {dfl as : List D} {σ σ' : SD} {d : D} (hl : as.length + dfl.length = nP) (hn : nP ≤ nN) (h : mf (startD nN (as.map Sl.fz ++ dfl.map Sl.fz)) = .ok (.rt (.ow d)) σ') :
    callD np nP nN mf dfl (as.map Rs.fz) σ = .ok (.ow d) σ := by
  unfold callD
  rw [argsOf_fz, lends_fz]
  simp only [runD]
  rw [if_pos ⟨by simp [hl], hn, by simp, by simp⟩, h]
  simp only [retD, backC_nil]
/-- .. that answers nothing -/
theorem callD_nx {np nP nN : Nat} {mf : M Fl} {dfl as : List D} {σ σ' : SD} (hl : as.length + dfl.length = nP) (hn : nP ≤ nN) (h : mf (startD nN (as.map Sl.fz ++ dfl.map Sl.fz)) = .ok .nx σ') :
    callD np nP nN mf dfl (as.map Rs.fz) σ = .ok (.fz .non) σ := by
  unfold callD
  rw [argsOf_fz, lends_fz]
  simp only [runD]
  rw [if_pos ⟨by simp [hl], hn, by simp, by simp⟩, h]
  simp only [backC_nil]
theorem wipeD_idem {σ : SD} {vs : List Nat} : wipeD (wipeD σ vs) vs = wipeD σ vs := by
  apply List.ext_getElem?
  intro j
  rw [wipeD_get, wipeD_get, wipeD_length]
  split <;> rfl
theorem backD_eq {σ0 σ : SD} {vs : List Nat} (h : wipeD σ vs = wipeD σ0 vs) : backD σ0 σ vs = σ0 := by
  have hl : σ0.length = σ.length := by
    have := congrArg List.length h
    rw [wipeD_length, wipeD_length] at this
    exact this.symm
  apply List.ext_getElem?
  intro j
  rw [backD_get hl]
  by_cases hj : j ∈ vs ∧ j < σ.length
  · rw [if_pos hj]
  · rw [if_neg hj]
    have := congrArg (fun l => l[j]?) h
    simp only [wipeD_get] at this
    rw [if_neg hj, if_neg (by rw [hl]; exact hj)] at this
    exact this
/-- one turn of a comprehension: what is kept -/
def stepL (g : D → SD → Out Unit) (t : M Bool) (elt : M Rs) (d : D) (w : SD) : Out (Option D) := (g d w).bind fun _ σ1 => (t σ1).bind fun b σ2 => if b then (elt σ2).bind fun r σ3 => (frz r σ3).bind fun x σ4 => .ok (some x) σ4 else .ok none σ2
/-- a comprehension whose parts leave the other slots alone: f d = what is kept of d -/
theorem lcL_pure {g : D → SD → Out Unit} {t : M Bool} {elt : M Rs} {vs : List Nat} {w : SD} {f : D → Option D} : ∀ {ds acc : List D} {σ : SD}, wipeD σ vs = w → acc.length + ds.length ≤ 16777216 →
    (∀ d ∈ ds, ∃ σ', stepL g t elt d w = .ok (f d) σ' ∧ wipeD σ' vs = w) → ∃ σ', lcL g t elt vs ds acc σ = .ok (acc ++ ds.filterMap f) σ' ∧ wipeD σ' vs = w
  | [], acc, σ, hw, _, _ => ⟨σ, by rw [List.filterMap_nil, List.append_nil]; rfl, hw⟩
  | d :: ds, acc, σ, hw, hn, h => by
    obtain ⟨σ', h1, h2⟩ := h d List.mem_cons_self
    rw [List.length_cons] at hn
    unfold stepL at h1
    unfold lcL
    rw [hw]
    cases hg : g d w with
    | stuck => rw [hg] at h1; cases h1
    | exc x σ1 => rw [hg] at h1; cases h1
    | ok u σ1 =>
      rw [hg, bind_ok] at h1
      rw [bind_ok]
      cases ht : t σ1 with
      | stuck => rw [ht] at h1; cases h1
      | exc x σ2 => rw [ht] at h1; cases h1
      | ok b σ2 =>
        rw [ht, bind_ok] at h1
        rw [bind_ok]
        cases b with
        | false =>
          rw [if_neg Bool.false_ne_true] at h1 ⊢
          injection h1 with e1 e2
          subst e2
          obtain ⟨σ3, k1, k2⟩ := lcL_pure (acc := acc) (σ := σ2) h2 (by omega) fun d' hd' => h d' (List.mem_cons_of_mem _ hd')
          exact ⟨σ3, by rw [k1, List.filterMap_cons, ← e1], k2⟩
        | true =>
          rw [if_pos rfl] at h1 ⊢
          cases he : elt σ2 with
          | stuck => rw [he] at h1; cases h1
          | exc x σ3 => rw [he] at h1; cases h1
          | ok r σ3 =>
            rw [he, bind_ok] at h1
            rw [bind_ok]
            cases hz : frz r σ3 with
            | stuck => rw [hz] at h1; cases h1
            | exc x σ4 => rw [hz] at h1; cases h1
            | ok x σ4 =>
              rw [hz, bind_ok] at h1
              injection h1 with e1 e2
              subst e2
              obtain ⟨σ5, k1, k2⟩ := lcL_pure (acc := acc ++ [x]) (σ := σ4) h2 (by rw [List.length_append, List.length_singleton]; omega) fun d' hd' => h d' (List.mem_cons_of_mem _ hd')
              refine ⟨σ5, ?_, k2⟩
              rw [bind_ok, if_pos (by omega), k1, List.filterMap_cons, ← e1, List.append_assoc]
              rfl
theorem eLc_pure {it : M (List D)} {g : D → SD → Out Unit} {t : M Bool} {elt : M Rs} {vs : List Nat} {f : D → Option D} {ds : List D} {σ σ1 : SD} (hi : it σ = .ok ds σ1) (hp : plainAt σ1 vs = true) (hn : ds.length ≤ 16777216)
    (h : ∀ d ∈ ds, ∃ σ', stepL g t elt d (wipeD σ1 vs) = .ok (f d) σ' ∧ wipeD σ' vs = wipeD σ1 vs) : eLc it g t elt vs σ = .ok (.ow (.lst (ds.filterMap f))) σ1 := by
  obtain ⟨σ', k1, k2⟩ := lcL_pure (g := g) (t := t) (elt := elt) (f := f) (ds := ds) (acc := []) (σ := σ1) (vs := vs) (w := wipeD σ1 vs) rfl (by simpa using hn) h
  unfold eLc
  rw [hi, bind_ok, if_pos hp, k1]
  simp only [noExc, bind_ok, List.nil_append]
  rw [backD_eq k2]
theorem allStr_map {α : Type} (f : α → List Nat) : ∀ l : List α, allStr (l.map fun a => D.str (f a)) = some (l.map f)
  | [] => rfl
  | a :: l => by
    rw [List.map_cons, List.map_cons]
    unfold allStr
    rw [allStr_map f l]
    rfl
theorem cutD1 {α : Type} (xs : List α) : cutD xs (some 1) none = xs.drop 1 := by
  unfold cutD
  rw [show HT.sIx xs.length 0 (some 1) = min 1 xs.length from HT.sIx_nat xs.length 0 1, HT.sIx_none]
  cases xs with
  | nil => rfl
  | cons x r =>
    rw [show min 1 (x :: r).length = 1 by
      rw [List.length_cons]
      omega]
    show (List.take ((x :: r).length - 1) r) = r
    rw [List.length_cons, Nat.add_sub_cancel]
    exact List.take_length
theorem allBl_true : ∀ {l : List D}, (∀ d ∈ l, d = .bl true) → ∃ bs, allBl l = some bs ∧ bs.all id = true
  | [], _ => ⟨[], rfl, rfl⟩
  | d :: l, h => by
    have e := h d List.mem_cons_self
    subst e
    obtain ⟨bs, e1, e2⟩ := allBl_true fun d hd => h d (List.mem_cons_of_mem _ hd)
    refine ⟨true :: bs, ?_, ?_⟩
    · unfold allBl
      rw [e1]
      rfl
    · simpa using e2
theorem dAll_true {l : List D} (h : ∀ d ∈ l, d = .bl true) : dAll [.lst l] = some (.val (.bl true)) := by
  obtain ⟨bs, e1, e2⟩ := allBl_true h
  show (allBl l).map (fun bs => Rn.val (.bl (bs.all id))) = _
  rw [e1, ← e2]
  rfl
theorem mem_filterMap {α β : Type} {f : α → Option β} {l : List α} {b : β} (h : b ∈ l.filterMap f) : ∃ a ∈ l, f a = some b := by simpa using h
theorem dJoin_ok {α : Type} (sep : List Nat) (f : α → List Nat) (l : List α) (h : small (((l.map f).map (·.length)).sum + (l.map f).length * sep.length)) : dJoin sep (.lst (l.map fun a => D.str (f a))) = some (.val (.str (TL.joinL sep (l.map f)))) := by
  have e := allStr_map f l
  simp only [dJoin]
  rw [e]
  simp only
  rw [if_pos h]
  rfl
theorem sum_ones {α : Type} (g : α → Nat) : ∀ l : List α, ((l.map fun a => [g a]).map (·.length)).sum = l.length
  | [] => rfl
  | a :: l => by
    rw [List.map_cons, List.map_cons, List.sum_cons, sum_ones g l, List.length_cons]
    exact Nat.add_comm 1 l.length
theorem joinL_ones {α : Type} (g : α → Nat) : ∀ l : List α, TL.joinL [] (l.map fun a => [g a]) = l.map g
  | [] => rfl
  | [a] => rfl
  | a :: b :: l => by
    have ih := joinL_ones g (b :: l)
    rw [List.map_cons, List.map_cons] at ih
    rw [List.map_cons, List.map_cons, List.map_cons]
    show [g a] ++ ([] ++ TL.joinL [] ([g b] :: l.map fun a => [g a])) = _
    rw [ih]
    rfl
theorem dJoin_signs {α : Type} (g : α → Nat) (l : List α) (h : l.length ≤ 16777216) : dJoin [] (.lst (l.map fun a => D.str [g a])) = some (.val (.str (l.map g))) := by
  rw [← joinL_ones g l]
  refine dJoin_ok [] (fun a => [g a]) l ?_
  unfold small
  rw [sum_ones]
  simpa using h
end DL

namespace DL
open PySem L2
theorem bind_cg {α β : Type} {o o' : Out α} {f : α → SD → Out β} (h : o = o') : o.bind f = o'.bind f := by rw [h]
/-- the def answers standing data -/
def Rets (o : Out Fl) (d : D) : Prop := ∃ σ', o = .ok (.rt (.fz d)) σ'
/-- .. a new list or dict -/
def RetsO (o : Out Fl) (d : D) : Prop := ∃ σ', o = .ok (.rt (.ow d)) σ' ∨ ∃ k, o = .ok (.rt (.pk k)) σ' ∧ σ'[k]? = some (some (.ow d))
/-- .. nothing -/
def RetsN (o : Out Fl) : Prop := ∃ σ', o = .ok .nx σ'
/-- .. standing data, and slot 0 holds a list then -/
def Rets0 (o : Out Fl) (d d' : D) : Prop := ∃ σ', o = .ok (.rt (.fz d)) σ' ∧ σ'[0]? = some (some (.ow d'))
def Rets0O (o : Out Fl) (d d' : D) : Prop := ∃ σ', (o = .ok (.rt (.ow d)) σ' ∨ ∃ k, k ≠ 0 ∧ o = .ok (.rt (.pk k)) σ' ∧ σ'[k]? = some (some (.ow d))) ∧ σ'[0]? = some (some (.ow d'))
theorem rets_ok {d d' : D} {σ : SD} : Rets (.ok (.rt (.fz d)) σ) d' ↔ d = d' := by
  constructor
  · rintro ⟨_, h⟩
    injection h with h
    injection h with h
    injection h
  · intro h
    exact ⟨σ, by rw [h]⟩
theorem retsO_ok {d d' : D} {σ : SD} : RetsO (.ok (.rt (.ow d)) σ) d' ↔ d = d' := by
  constructor
  · rintro ⟨_, h | ⟨k, h, _⟩⟩
    · injection h with h
      injection h with h
      injection h
    · injection h with h
      injection h with h
      cases h
  · intro h
    exact ⟨σ, .inl (by rw [h])⟩
theorem retsO_pk {k : Nat} {d' : D} {σ : SD} : RetsO (.ok (.rt (.pk k)) σ) d' ↔ σ[k]? = some (some (.ow d')) := by
  constructor
  · rintro ⟨s, h | ⟨k', h, h2⟩⟩
    · injection h with h
      injection h with h
      cases h
    · injection h with h h3
      injection h with h
      injection h with h
      subst h
      subst h3
      exact h2
  · intro h
    exact ⟨σ, .inr ⟨k, rfl, h⟩⟩
theorem retsN_ok {σ : SD} : RetsN (.ok .nx σ) ↔ True := ⟨fun _ => trivial, fun _ => ⟨σ, rfl⟩⟩
theorem rets0_ok {d d1 d' : D} {σ : SD} : Rets0 (.ok (.rt (.fz d)) σ) d1 d' ↔ d = d1 ∧ σ[0]? = some (some (.ow d')) := ⟨fun ⟨_, h, h2⟩ => by
  injection h with h h3; injection h with h; injection h with h
  subst h3
  exact ⟨h, h2⟩, fun ⟨h, h2⟩ => ⟨σ, by rw [h], h2⟩⟩
theorem call_fz {np nP nN : Nat} {mf : M Fl} {dfl as : List D} {σ : SD} {d : D} (hl : as.length + dfl.length = nP) (hn : nP ≤ nN) (h : Rets (mf (startD nN (as.map Sl.fz ++ dfl.map Sl.fz))) d) :
    callD np nP nN mf dfl (as.map Rs.fz) σ = .ok (.fz d) σ := by
  obtain ⟨_, h⟩ := h
  exact callD_fz hl hn h
theorem call_nx {np nP nN : Nat} {mf : M Fl} {dfl as : List D} {σ : SD} (hl : as.length + dfl.length = nP) (hn : nP ≤ nN) (h : RetsN (mf (startD nN (as.map Sl.fz ++ dfl.map Sl.fz)))) :
    callD np nP nN mf dfl (as.map Rs.fz) σ = .ok (.fz .non) σ := by
  obtain ⟨_, h⟩ := h
  exact callD_nx hl hn h
theorem call_ow {np nP nN : Nat} {mf : M Fl} {dfl as : List D} {σ : SD} {d : D} (hl : as.length + dfl.length = nP) (hn : nP ≤ nN) (h : RetsO (mf (startD nN (as.map Sl.fz ++ dfl.map Sl.fz))) d) :
    callD np nP nN mf dfl (as.map Rs.fz) σ = .ok (.ow d) σ := by
  obtain ⟨_, h | ⟨k, h, h2⟩⟩ := h
  · exact callD_ow hl hn h
  · unfold callD
    rw [argsOf_fz, lends_fz]
    simp only [runD]
    rw [if_pos ⟨by simp [hl], hn, by simp, by simp⟩, h]
    simp only [retD, h2, backC_nil, List.any_nil, Bool.false_eq_true, if_false]
theorem backC_one {j : Nat} {σ σ' : SD} {s : Option Sl} (h : σ'[0]? = some s) : backC [(0, j)] σ σ' = σ.set j s := by
  unfold backC
  apply List.ext_getElem?
  intro i
  rw [List.getElem?_mapIdx, List.getElem?_set]
  by_cases hi : j = i
  · subst hi
    by_cases hl : j < σ.length
    · rw [List.getElem?_eq_getElem hl]
      simp [h, hl]
    · rw [List.getElem?_eq_none (by omega)]
      simp
      omega
  · rw [if_neg hi]
    have e : (j == i) = false := by simpa using hi
    cases q : σ[i]? <;> simp [e]
theorem argsOf_lent {np : Nat} {σ : SD} {j : Nat} {d : D} {as : List D} (hp : 0 < np) (h : σ[j]? = some (some (.ow d))) : argsOf np σ 0 (.pk j :: as.map Rs.fz) = some (.ow d :: as.map Sl.fz) := by
  unfold argsOf
  rw [argsOf_fz]
  simp only [argOf, h, if_pos hp]
theorem lends_lent {σ : SD} {j : Nat} {d : D} {as : List D} (h : σ[j]? = some (some (.ow d))) : lends σ 0 (.pk j :: as.map Rs.fz) = [(0, j)] := by
  unfold lends
  rw [lends_fz]
  simp only [isOw, h, if_true]
/-- a call with its first list lent -/
theorem call_l {np nP nN : Nat} {mf : M Fl} {dfl as : List D} {σ : SD} {j : Nat} {d d' r : D} (hp : 0 < np) (hj : σ[j]? = some (some (.ow d))) (hl : as.length + 1 + dfl.length = nP) (hn : nP ≤ nN)
    (h : Rets0 (mf (startD nN (.ow d :: as.map Sl.fz ++ dfl.map Sl.fz))) r d') : callD np nP nN mf dfl (.pk j :: as.map Rs.fz) σ = .ok (.fz r) (σ.set j (some (.ow d'))) := by
  obtain ⟨_, h, h2⟩ := h
  unfold callD
  rw [argsOf_lent hp hj, lends_lent hj]
  simp only [runD]
  rw [if_pos ⟨by simp; omega, hn, by simp, by simp⟩, h]
  simp only [retD, backC_one h2]
theorem call_lO {np nP nN : Nat} {mf : M Fl} {dfl as : List D} {σ : SD} {j : Nat} {d d' r : D} (hp : 0 < np) (hj : σ[j]? = some (some (.ow d))) (hl : as.length + 1 + dfl.length = nP) (hn : nP ≤ nN)
    (h : Rets0O (mf (startD nN (.ow d :: as.map Sl.fz ++ dfl.map Sl.fz))) r d') : callD np nP nN mf dfl (.pk j :: as.map Rs.fz) σ = .ok (.ow r) (σ.set j (some (.ow d'))) := by
  obtain ⟨_, h | ⟨k, hk, h, h3⟩, h2⟩ := h
  · unfold callD
    rw [argsOf_lent hp hj, lends_lent hj]
    simp only [runD]
    rw [if_pos ⟨by simp; omega, hn, by simp, by simp⟩, h]
    simp only [retD, backC_one h2]
  · unfold callD
    rw [argsOf_lent hp hj, lends_lent hj]
    simp only [runD]
    rw [if_pos ⟨by simp; omega, hn, by simp, by simp⟩, h]
    have e : ((0 : Nat) == k) = false := by simpa using Ne.symm hk
    simp only [retD, h3, backC_one h2, List.any_cons, e, List.any_nil, Bool.or_false, Bool.false_eq_true, if_false]
theorem startD_c (n : Nat) (a : Sl) (as : List Sl) : startD (n + 1) (a :: as) = some a :: startD n as := by
  unfold startD
  rw [List.map_cons, List.length_cons, Nat.add_sub_add_right]
  rfl
theorem startD_n (n : Nat) : startD (n + 1) [] = none :: startD n [] := rfl
theorem startD_0 : startD 0 [] = [] := rfl
/-- what one turn keeps, the other slots as they were -/
def Turn (o : Out (Option D)) (r : Option D) (vs : List Nat) (w : SD) : Prop := ∃ σ', o = .ok r σ' ∧ wipeD σ' vs = w
theorem turn_ok {r r' : Option D} {vs : List Nat} {σ w : SD} : Turn (.ok r σ) r' vs w ↔ r = r' ∧ wipeD σ vs = w := by
  constructor
  · rintro ⟨_, h, h2⟩
    injection h with h h3
    subst h3
    exact ⟨h, h2⟩
  · rintro ⟨rfl, h⟩
    exact ⟨σ, rfl, h⟩
theorem turn_if {b : Bool} {o1 o2 : Out (Option D)} {r1 r2 : Option D} {vs : List Nat} {w : SD} (h1 : b = true → Turn o1 r1 vs w) (h2 : b = false → Turn o2 r2 vs w) : Turn (if b = true then o1 else o2) (if b = true then r1 else r2) vs w := by
  cases b
  · exact h2 rfl
  · exact h1 rfl
theorem eLc_map {α : Type} {it : M (List D)} {g : D → SD → Out Unit} {t : M Bool} {elt : M Rs} {vs : List Nat} {σ σ1 : SD} (enc : α → D) (xs : List α) (F : α → Option D) (hi : it σ = .ok (xs.map enc) σ1) (hp : plainAt σ1 vs = true) (hn : xs.length ≤ 16777216)
    (h : ∀ x ∈ xs, Turn (stepL g t elt (enc x) (wipeD σ1 vs)) (F x) vs (wipeD σ1 vs)) : eLc it g t elt vs σ = .ok (.ow (.lst (xs.filterMap F))) σ1 := by
  obtain ⟨f, hf⟩ : ∃ f : D → Option D, ∀ x ∈ xs, f (enc x) = F x := by
    refine ⟨fun d => match stepL g t elt d (wipeD σ1 vs) with
      | .ok r _ => r
      | _ => none, fun x hx => ?_⟩
    obtain ⟨σ', h1, _⟩ := h x hx
    simp only [h1]
  have e := eLc_pure (f := f) (g := g) (t := t) (elt := elt) hi hp (by simpa using hn) (fun d hd => by
    obtain ⟨x, hx, rfl⟩ := List.mem_map.mp hd
    rw [hf x hx]
    exact h x hx)
  rw [e, List.filterMap_map]
  congr 3
  clear e h hn hi
  induction xs with
  | nil => rfl
  | cons x xs ih =>
    rw [List.filterMap_cons, List.filterMap_cons, ih fun y hy => hf y (List.mem_cons_of_mem _ hy)]
    simp only [Function.comp, hf x List.mem_cons_self]
/-- every item kept -/
theorem eLc_all {α : Type} {it : M (List D)} {g : D → SD → Out Unit} {t : M Bool} {elt : M Rs} {vs : List Nat} {σ σ1 : SD} (enc : α → D) (xs : List α) (F : α → D) (hi : it σ = .ok (xs.map enc) σ1) (hp : plainAt σ1 vs = true) (hn : xs.length ≤ 16777216)
    (h : ∀ x ∈ xs, Turn (stepL g t elt (enc x) (wipeD σ1 vs)) (some (F x)) vs (wipeD σ1 vs)) : eLc it g t elt vs σ = .ok (.ow (.lst (xs.map F))) σ1 := by
  rw [eLc_map enc xs (fun x => some (F x)) hi hp hn h]
  congr 3
  simp
/-- those for which p holds -/
theorem eLc_if {α : Type} {it : M (List D)} {g : D → SD → Out Unit} {t : M Bool} {elt : M Rs} {vs : List Nat} {σ σ1 : SD} (enc : α → D) (xs : List α) (p : α → Bool) (F : α → D) (hi : it σ = .ok (xs.map enc) σ1) (hp : plainAt σ1 vs = true) (hn : xs.length ≤ 16777216)
    (h : ∀ x ∈ xs, Turn (stepL g t elt (enc x) (wipeD σ1 vs)) (if p x then some (F x) else none) vs (wipeD σ1 vs)) : eLc it g t elt vs σ = .ok (.ow (.lst ((xs.filter p).map F))) σ1 := by
  rw [eLc_map enc xs (fun x => if p x then some (F x) else none) hi hp hn h]
  congr 3
  clear h hn hi
  induction xs with
  | nil => rfl
  | cons x xs ih =>
    rw [List.filterMap_cons, List.filter_cons]
    cases p x
    · simpa using ih
    · simpa using ih
/-- a comprehension that changes other slots: I counts the turns -/
theorem lcL_inv {g : D → SD → Out Unit} {t : M Bool} {elt : M Rs} {vs : List Nat} (I : List D → List D → SD → Prop) (hw : ∀ ds acc σ, I ds acc σ → I ds acc (wipeD σ vs))
    (h : ∀ d ds acc σ, I (d :: ds) acc σ → ∃ r σ', stepL g t elt d (wipeD σ vs) = .ok r σ' ∧ I ds (acc ++ r.toList) σ') : ∀ {ds acc : List D} {σ : SD}, acc.length + ds.length ≤ 16777216 → I ds acc σ → ∃ acc' σ', lcL g t elt vs ds acc σ = .ok acc' σ' ∧ I [] acc' σ'
  | [], acc, σ, _, hI => ⟨acc, σ, rfl, hI⟩
  | d :: ds, acc, σ, hn, hI => by
    obtain ⟨r0, σ', h1, h2⟩ := h d ds acc σ hI
    rw [List.length_cons] at hn
    unfold stepL at h1
    unfold lcL
    cases hg : g d (wipeD σ vs) with
    | stuck => rw [hg] at h1; cases h1
    | exc x σ1 => rw [hg] at h1; cases h1
    | ok u σ1 =>
      rw [hg, bind_ok] at h1
      rw [bind_ok]
      cases ht : t σ1 with
      | stuck => rw [ht] at h1; cases h1
      | exc x σ2 => rw [ht] at h1; cases h1
      | ok b σ2 =>
        rw [ht, bind_ok] at h1
        rw [bind_ok]
        cases b with
        | false =>
          rw [if_neg Bool.false_ne_true] at h1 ⊢
          injection h1 with e1 e2
          subst e2
          subst e1
          exact lcL_inv I hw h (by omega) (by simpa using h2)
        | true =>
          rw [if_pos rfl] at h1 ⊢
          cases he : elt σ2 with
          | stuck => rw [he] at h1; cases h1
          | exc x σ3 => rw [he] at h1; cases h1
          | ok r σ3 =>
            rw [he, bind_ok] at h1
            rw [bind_ok]
            cases hz : frz r σ3 with
            | stuck => rw [hz] at h1; cases h1
            | exc x σ4 => rw [hz] at h1; cases h1
            | ok x σ4 =>
              rw [hz, bind_ok] at h1
              injection h1 with e1 e2
              subst e2
              subst e1
              rw [bind_ok, if_pos (by omega)]
              exact lcL_inv I hw h (by rw [List.length_append, List.length_singleton]; omega) h2
theorem eLc_inv {it : M (List D)} {g : D → SD → Out Unit} {t : M Bool} {elt : M Rs} {vs : List Nat} {σ σ1 : SD} {ds : List D} (I : List D → List D → SD → Prop) (hi : it σ = .ok ds σ1) (hp : plainAt σ1 vs = true) (hn : ds.length ≤ 16777216) (h0 : I ds [] σ1) (hw : ∀ ds acc σ, I ds acc σ → I ds acc (wipeD σ vs))
    (h : ∀ d ds acc σ, I (d :: ds) acc σ → ∃ r σ', stepL g t elt d (wipeD σ vs) = .ok r σ' ∧ I ds (acc ++ r.toList) σ') : ∃ acc σ', eLc it g t elt vs σ = .ok (.ow (.lst acc)) (backD σ1 σ' vs) ∧ I [] acc σ' := by
  obtain ⟨acc, σ', k1, k2⟩ := lcL_inv I hw h (ds := ds) (acc := []) (σ := σ1) (by simpa using hn) h0
  refine ⟨acc, σ', ?_, k2⟩
  unfold eLc
  rw [hi, bind_ok, if_pos hp, k1]
  simp only [noExc, bind_ok]
theorem forL_inv {g : D → SD → Out Unit} {body : M Fl} (I : List D → SD → Prop) (h : ∀ d ds σ, I (d :: ds) σ → ∃ σ', ((g d σ).bind fun _ σ1 => body σ1) = .ok .nx σ' ∧ I ds σ') : ∀ {ds : List D} {σ : SD}, I ds σ → ∃ σ', forL g body ds σ = .ok .nx σ' ∧ I [] σ'
  | [], σ, hI => ⟨σ, rfl, hI⟩
  | d :: ds, σ, hI => by
    obtain ⟨σ', h1, h2⟩ := h d ds σ hI
    obtain ⟨σ2, h3, h4⟩ := forL_inv I h h2
    refine ⟨σ2, ?_, h4⟩
    unfold forL
    cases hg : g d σ with
    | stuck => rw [hg] at h1; cases h1
    | exc x σ1 => rw [hg] at h1; cases h1
    | ok u σ1 =>
      rw [hg, bind_ok] at h1
      rw [bind_ok, h1, bind_ok]
      exact h3
theorem bool_out (b : Bool) (x y : D) (σ : SD) : (if b = true then Out.ok (Rs.fz x) σ else Out.ok (Rs.fz y) σ) = Out.ok (Rs.fz (if b then x else y)) σ := by cases b <;> rfl
theorem and_out (b c : Bool) (σ : SD) : (if b = true then Out.ok (Rs.fz (.bl c)) σ else Out.ok (Rs.fz (.bl false)) σ) = Out.ok (Rs.fz (.bl (b && c))) σ := by cases b <;> rfl
theorem or_out (b c : Bool) (σ : SD) : (if b = true then Out.ok (Rs.fz (.bl true)) σ else Out.ok (Rs.fz (.bl c)) σ) = Out.ok (Rs.fz (.bl (b || c))) σ := by cases b <;> rfl
theorem andT_out (b c : Bool) (σ : SD) : (if b = true then Out.ok c σ else Out.ok false σ) = Out.ok (b && c) σ := by cases b <;> rfl
theorem orT_out (b c : Bool) (σ : SD) : (if b = true then Out.ok true σ else Out.ok c σ) = Out.ok (b || c) σ := by cases b <;> rfl
mutual
theorem deq_refl : ∀ d : D, dOk d = true → deq d d = true
  | .non, _ => by simp [deq]
  | .bl b, _ => by simp [deq]
  | .int b, _ => by simp [deq]
  | .str b, _ => by simp [deq]
  | .lst xs, h => by
    unfold deq
    unfold dOk at h
    exact deqL_refl xs h
  | .tup xs, h => by
    unfold deq
    unfold dOk at h
    exact deqL_refl xs h
  | .ref _, h => by simp [dOk] at h
  | .ty _, h => by simp [dOk] at h
  | .scr _, h => by simp [dOk] at h
  | .dic _, h => by simp [dOk] at h
  | .dcw _, h => by simp [dOk] at h
  | .obj _ _, h => by simp [dOk] at h
theorem deqL_refl : ∀ ds : List D, dOkL ds = true → deqL ds ds = true
  | [], _ => rfl
  | d :: ds, h => by
    unfold dOkL at h
    rw [Bool.and_eq_true] at h
    unfold deqL
    rw [deq_refl d h.1, deqL_refl ds h.2]
    rfl
end
theorem dGood_ok {d : D} (h : dGood d = true) : dOk d = true := by
  unfold dGood at h
  rw [Bool.and_eq_true] at h
  exact h.1
theorem dEq_same {d : D} (h : dGood d = true) : dEq d d = some (.val (.bl true)) := by
  unfold dEq
  rw [h, deq_refl d (dGood_ok h)]
  rfl
theorem dNe_same {d : D} (h : dGood d = true) : dNe d d = some (.val (.bl false)) := by
  unfold dNe
  rw [h, deq_refl d (dGood_ok h)]
  rfl
theorem dEq_of {a b : D} (ha : dGood a = true) (hb : dGood b = true) : dEq a b = some (.val (.bl (deq a b))) := by
  unfold dEq
  rw [ha, hb]
  rfl
theorem dNe_of {a b : D} (ha : dGood a = true) (hb : dGood b = true) : dNe a b = some (.val (.bl (!deq a b))) := by
  unfold dNe
  rw [ha, hb]
  rfl
theorem dGood_str {s : List Nat} (h : sOk s = true) : dGood (.str s) = true := by
  unfold dGood dOk dDep
  rw [h]
  rfl
/-- a tuple or list of ints -/
theorem dOkL_map {α : Type} (f : α → D) : ∀ xs : List α, (∀ x ∈ xs, dOk (f x) = true) → dOkL (xs.map f) = true
  | [], _ => rfl
  | x :: xs, h => by
    rw [List.map_cons]
    unfold dOkL
    rw [h x List.mem_cons_self, dOkL_map f xs fun y hy => h y (List.mem_cons_of_mem _ hy)]
    rfl
theorem dDepL_map {α : Type} (f : α → D) (n : Nat) : ∀ xs : List α, (∀ x ∈ xs, dDep (f x) ≤ n) → dDepL (xs.map f) ≤ n
  | [], _ => Nat.zero_le _
  | x :: xs, h => by
    rw [List.map_cons]
    unfold dDepL
    exact Nat.max_le.mpr ⟨h x List.mem_cons_self, dDepL_map f n xs fun y hy => h y (List.mem_cons_of_mem _ hy)⟩
theorem dGood_tupM {α : Type} (f : α → D) (xs : List α) (h : ∀ x ∈ xs, dOk (f x) = true) (h2 : ∀ x ∈ xs, dDep (f x) ≤ 63) : dGood (.tup (xs.map f)) = true := by
  unfold dGood
  unfold dOk dDep
  rw [dOkL_map f xs h]
  have := dDepL_map f 63 xs h2
  simp
  omega
theorem dGood_lstM {α : Type} (f : α → D) (xs : List α) (h : ∀ x ∈ xs, dOk (f x) = true) (h2 : ∀ x ∈ xs, dDep (f x) ≤ 63) : dGood (.lst (xs.map f)) = true := by
  unfold dGood
  unfold dOk dDep
  rw [dOkL_map f xs h]
  have := dDepL_map f 63 xs h2
  simp
  omega
theorem deqL_ints {α : Type} [DecidableEq α] (f : α → D) (hf : ∀ a b, deq (f a) (f b) = decide (a = b)) : ∀ xs ys : List α, deqL (xs.map f) (ys.map f) = decide (xs = ys)
  | [], [] => rfl
  | [], y :: ys => by simp [deqL]
  | x :: xs, [] => by simp [deqL]
  | x :: xs, y :: ys => by
    rw [List.map_cons, List.map_cons]
    unfold deqL
    rw [hf, deqL_ints f hf xs ys]
    by_cases h : x = y <;> by_cases h' : xs = ys <;> simp [h, h']
end DL

namespace DL
open PySem L2
/-- a comprehension that changes what stands outside: J of the state, R of what is kept -/
theorem eLc_run {it : M (List D)} {g : D → SD → Out Unit} {t : M Bool} {elt : M Rs} {vs : List Nat} {σ σ1 : SD} {ds : List D} (J : SD → Prop) (R : D → Option D → Prop) (hi : it σ = .ok ds σ1) (hp : plainAt σ1 vs = true) (hn : ds.length ≤ 16777216) (h0 : J σ1) (hw : ∀ σ, J σ → J (wipeD σ vs))
    (h : ∀ x ∈ ds, ∀ σ, J σ → ∃ r σ', stepL g t elt x (wipeD σ vs) = .ok r σ' ∧ J σ' ∧ R x r) :
    ∃ (qs : List (D × Option D)) (σ' : SD), qs.map (·.1) = ds ∧ (∀ q ∈ qs, R q.1 q.2) ∧ eLc it g t elt vs σ = .ok (.ow (.lst (qs.filterMap (·.2)))) (backD σ1 σ' vs) ∧ J σ' := by
  obtain ⟨acc, σ', k1, ⟨qs, k2, k3, k4, k5⟩⟩ := eLc_inv (g := g) (t := t) (elt := elt) (fun ds' acc σ => ∃ qs : List (D × Option D), qs.map (·.1) ++ ds' = ds ∧ (∀ q ∈ qs, R q.1 q.2) ∧ acc = qs.filterMap (·.2) ∧ J σ) hi hp hn
    ⟨[], rfl, fun q hq => by simp at hq, rfl, h0⟩
    (fun ds' acc σ ⟨qs, q1, q2, q3, q4⟩ => ⟨qs, q1, q2, q3, hw σ q4⟩)
    (fun d ds' acc σ ⟨qs, q1, q2, q3, q4⟩ => by
      obtain ⟨r, σ', s1, s2, s3⟩ := h d (by rw [← q1]; simp) σ q4
      refine ⟨r, σ', s1, qs ++ [(d, r)], ?_, ?_, ?_, s2⟩
      · rw [← q1]
        simp
      · intro q hq
        rcases List.mem_append.mp hq with hq | hq
        · exact q2 q hq
        · rw [List.mem_singleton] at hq
          subst hq
          exact s3
      · rw [q3, List.filterMap_append]
        congr 1)
  rw [List.append_nil] at k2
  rw [k4] at k1
  exact ⟨qs, σ', k2, k3, k1, k5⟩
/-- one call, its first argument a new list -/
theorem call_new {np nP nN : Nat} {mf : M Fl} {as : List D} {σ : SD} {d r : D} (hl : as.length + 1 = nP) (hn : nP ≤ nN) (h : Rets (mf (startD nN (.ow d :: as.map Sl.fz))) r) :
    callD np nP nN mf [] (.ow d :: as.map Rs.fz) σ = .ok (.fz r) σ := by
  obtain ⟨σ', h⟩ := h
  have e1 : argsOf np σ 0 (.ow d :: as.map Rs.fz) = some (.ow d :: as.map Sl.fz) := by
    unfold argsOf
    rw [argsOf_fz]
    rfl
  have e2 : lends σ 0 (.ow d :: as.map Rs.fz) = [] := by
    unfold lends
    exact lends_fz σ as 1
  unfold callD
  rw [e1, e2]
  simp only [runD, List.map_nil, List.append_nil]
  rw [if_pos ⟨by simp; omega, hn, by simp, by simp⟩, h]
  simp only [retD, backC_nil]
end DL

namespace DL
open PySem L2
def kVar (i : Nat) (s : Option (Option Sl)) (σ : SD) : Out Rs := match s with
  | some (some (.fz d)) => .ok (.fz d) σ
  | some (some (.ow _)) => .ok (.pk i) σ
  | _ => .stuck
def kPk (s : Option (Option Sl)) (σ : SD) : Out D := match s with
  | some (some (.fz d)) => .ok d σ
  | some (some (.ow d)) => .ok d σ
  | _ => .stuck
def kFz (i : Nat) (s : Option (Option Sl)) (σ : SD) : Out D := match s with
  | some (some (.fz d)) => .ok d σ
  | some (some (.ow d)) => if isLst d then .ok d (σ.set i (some (.fz d))) else .stuck
  | _ => .stuck
def kpl2 (ds : List D) (d : D) (σ : SD) : Out (List D) := .ok (d :: ds) σ
def kpl1 (ra : Rs) (ds : List D) (σ : SD) : Out (List D) := (peek ra σ).bind (kpl2 ds)
def kfl1 (ra : Rs) (ds : List D) (σ : SD) : Out (List D) := (frz ra σ).bind (kpl2 ds)
def kch (g : D → D → Option Rn) (mc : M Rs) (db : D) (o : Option Rn) (σ : SD) : Out Rs := match o with
  | some (.val (.bl true)) => (mc σ).bind fun rc σ5 => (peek rc σ5).bind fun dc σ6 => ans σ6 (g db dc)
  | some (.val (.bl false)) => .ok (.fz (.bl false)) σ
  | _ => .stuck
def kch2 (g : D → D → Option Rn) (db : D) (dc : D) (σ : SD) : Out Rs := ans σ (g db dc)
def kch1 (g : D → D → Option Rn) (db : D) (rc : Rs) (σ : SD) : Out Rs := (peek rc σ).bind (kch2 g db)
def kIfE (ma mb : M Rs) (b : Bool) (σ : SD) : Out Rs := if b = true then ma σ else mb σ
def kAnd (mb : M Rs) (ra : Rs) (σ : SD) : Out Rs := isBl ra σ fun b => if b then mb σ else .ok (.fz (.bl false)) σ
def kOr (mb : M Rs) (ra : Rs) (σ : SD) : Out Rs := isBl ra σ fun b => if b then .ok (.fz (.bl true)) σ else mb σ
def kNot (ra : Rs) (σ : SD) : Out Rs := isBl ra σ fun b => .ok (.fz (.bl (!b))) σ
def kTup (ds : List D) (σ : SD) : Out Rs := if small ds.length then .ok (.fz (.tup ds)) σ else .stuck
def kLst (ds : List D) (σ : SD) : Out Rs := if small ds.length then .ok (.ow (.lst ds)) σ else .stuck
def kTup1 (rs : List Rs) (σ : SD) : Out Rs := (frzL rs σ).bind kTup
def kLst1 (rs : List Rs) (σ : SD) : Out Rs := (frzL rs σ).bind kLst
def kSo (ra : Rs) (σ : SD) : Out (Option Int) := match ra with
  | .fz (.int i) => .ok (some i) σ
  | _ => .stuck
def kJ2 (s : List Nat) (db : D) (σ : SD) : Out Rs := ans σ (dJoin s db)
def kJ1 (s : List Nat) (rb : Rs) (σ : SD) : Out Rs := (peek rb σ).bind (kJ2 s)
def kJ0 (mb : M Rs) (ra : Rs) (σ : SD) : Out Rs := match ra with
  | .fz (.str s) => (mb σ).bind (kJ1 s)
  | _ => .stuck
def kB1 (ra : Rs) (σ : SD) : Out Bool := match ra with
  | .fz (.bl b) => .ok b σ
  | _ => .stuck
def kTr2 (o : Option Bool) (σ : SD) : Out Bool := match o with
  | some b => .ok b σ
  | none => .stuck
def kTr1 (d : D) (σ : SD) : Out Bool := kTr2 (truth d) σ
def kTr0 (ra : Rs) (σ : SD) : Out Bool := (peek ra σ).bind kTr1
def kTA (tb : M Bool) (b : Bool) (σ : SD) : Out Bool := if b = true then tb σ else .ok false σ
def kTO (tb : M Bool) (b : Bool) (σ : SD) : Out Bool := if b = true then .ok true σ else tb σ
def kTN (b : Bool) (σ : SD) : Out Bool := .ok (!b) σ
def kBC (sb : M Fl) (x : Fl) (σ : SD) : Out Fl := match x with
  | .nx => sb σ
  | f => .ok f σ
def kEx (_ra : Rs) (σ : SD) : Out Fl := .ok .nx σ
def kRt (ra : Rs) (σ : SD) : Out Fl := .ok (.rt ra) σ
def kIf (sa sb : M Fl) (b : Bool) (σ : SD) : Out Fl := if b = true then sa σ else sb σ
def kU (u : Unit) (σ : SD) : Out Fl := .ok .nx σ
def kSet (i : Nat) (ra : Rs) (σ : SD) : Out Fl := (setSl i ra σ).bind kU
def kSl2 (i j : Nat) (s : Option (Option Sl)) (σ : SD) : Out Unit := match s with
    | some (some (.fz d)) => .ok () (σ.set i (some (.fz d)))
    | some (some (.ow d)) => if isLst d then .ok () ((σ.set j (some (.fz d))).set i (some (.fz d))) else .stuck
    | _ => .stuck
def kGs (is : List Nat) (ds : List D) (_u : Unit) (σ : SD) : Out Unit := gNms is ds σ
def kAs1 (gg : D → SD → Out Unit) (d : D) (σ : SD) : Out Fl := (gg d σ).bind kU
def kAs0 (gg : D → SD → Out Unit) (ra : Rs) (σ : SD) : Out Fl := (frz ra σ).bind (kAs1 gg)
def kAug3 (i : Nat) (o : Option Rn) (σ : SD) : Out Fl := match o with
    | some (.val z) => if i < σ.length then .ok .nx (σ.set i (some (.fz z))) else .stuck
    | _ => .stuck
def kAug2 (f : D → D → Option Rn) (i : Nat) (d d2 : D) (σ : SD) : Out Fl := kAug3 i (f d d2) σ
def kAug1 (f : D → D → Option Rn) (i : Nat) (d : D) (ra : Rs) (σ : SD) : Out Fl := (peek ra σ).bind (kAug2 f i d)
def kAug (f : D → D → Option Rn) (i : Nat) (m : M Rs) (s : Option (Option Sl)) (σ : SD) : Out Fl := match s with
  | some (some (.fz d)) => (m σ).bind (kAug1 f i d)
  | _ => .stuck
def kIt2 (o : Option (List D)) (σ : SD) : Out (List D) := match o with
  | some ds => .ok ds σ
  | none => .stuck
def kIt1 (d : D) (σ : SD) : Out (List D) := kIt2 (itemsOf d) σ
def kIt0 (ra : Rs) (σ : SD) : Out (List D) := (frz ra σ).bind kIt1
def kRg1 (fi : List D → Option (List D)) (ds : List D) (σ : SD) : Out (List D) := kIt2 (fi ds) σ
def kRg0 (fi : List D → Option (List D)) (rs : List Rs) (σ : SD) : Out (List D) := (peekL rs σ).bind (kRg1 fi)
def kZp2 (ds : List D) (σ : SD) : Out (List D) := match ds with
  | [x, y] => (match itemsZ x, itemsZ y with
    | some xs, some ys => .ok (zipD xs ys) σ
    | _, _ => .stuck)
  | _ => .stuck
def kZp1 (rs : List Rs) (σ : SD) : Out (List D) := (frzL rs σ).bind kZp2
def kEn2 (ds : List D) (σ : SD) : Out (List D) := match ds with
  | [x] => (match itemsZ x with
    | some xs => .ok (enumD 0 xs) σ
    | _ => .stuck)
  | _ => .stuck
def kEn1 (rs : List Rs) (σ : SD) : Out (List D) := (frzL rs σ).bind kEn2
def kFor (gg : D → SD → Out Unit) (sb : M Fl) (ds : List D) (σ : SD) : Out Fl := forL gg sb ds σ
def kPr3 (i : Nat) (ra : Rs) (_u : Unit) (σ : SD) : Out Fl := (setSl i ra σ).bind kU
def kPr2 (i j : Nat) (ra rb : Rs) (n : Bool) (σ : SD) : Out Fl := if n = true then (setSl j rb σ).bind (kPr3 i ra) else .stuck
def kPr1 (i j : Nat) (ra rb : Rs) (σ : SD) : Out Fl := kPr2 i j ra rb (noPk ra) σ
def kPr0 (i j : Nat) (mb : M Rs) (ra : Rs) (σ : SD) : Out Fl := (mb σ).bind (kPr1 i j ra)
def kPt4 (i : Nat) (j : Nat) (ra rb : Rs) (_u : Unit) (σ : SD) : Out Fl := (setSl j rb σ).bind (kPr3 i ra)
def kPt3 (i j l : Nat) (ra rb rc : Rs) (n : Bool) (σ : SD) : Out Fl := if n = true then (setSl l rc σ).bind (kPt4 i j ra rb) else .stuck
def kPt2 (i j l : Nat) (ra rb rc : Rs) (σ : SD) : Out Fl := kPt3 i j l ra rb rc (noPk ra && noPk rb) σ
def kPt1 (i j l : Nat) (mc : M Rs) (ra rb : Rs) (σ : SD) : Out Fl := (mc σ).bind (kPt2 i j l ra rb)
def kPt0 (i j l : Nat) (mb mc : M Rs) (ra : Rs) (σ : SD) : Out Fl := (mb σ).bind (kPt1 i j l mc ra)
def kMt3 (i : Nat) (o : Option (D × List D)) (σ : SD) : Out Rs := match o with
      | some (d, ys) => .ok (.fz d) (σ.set i (some (.ow (.lst ys))))
      | none => .stuck
def kMt2 (fm : List D → List D → Option (D × List D)) (i : Nat) (as : List D) (s : Option (Option Sl)) (σ : SD) : Out Rs := match s with
    | some (some (.ow (.lst xs))) => kMt3 i (fm xs as) σ
    | _ => .stuck
def kMt1b (fm : List D → List D → Option (D × List D)) (i : Nat) (as : List D) (σ : SD) : Out Rs := kMt2 fm i as (σ[i]?) σ
def kMt1 (fr : Bool) (fm : List D → List D → Option (D × List D)) (i : Nat) (rs : List Rs) (σ : SD) : Out Rs := (rdA fr rs σ).bind (kMt1b fm i)
def kMt0 (fr : Bool) (fm : List D → List D → Option (D × List D)) (i : Nat) (ms : M (List Rs)) (s : Option (Option Sl)) (σ : SD) : Out Rs := match s with
  | some (some (.ow (.lst _))) => (ms σ).bind (kMt1 fr fm i)
  | _ => .stuck
def kPu4 (i : Nat) (d : D) (xs : List D) (o : Option Nat) (σ : SD) : Out Fl := match o with
      | some j => .ok .nx (σ.set i (some (.ow (.lst (xs.set j d)))))
      | none => .stuck
def kPu3 (i : Nat) (d : D) (rk : Rs) (s : Option (Option Sl)) (σ : SD) : Out Fl := match rk, s with
    | .fz (.int k), some (some (.ow (.lst xs))) => kPu4 i d xs (ixN xs.length k) σ
    | _, _ => .stuck
def kPu2b (i : Nat) (d : D) (rk : Rs) (σ : SD) : Out Fl := kPu3 i d rk (σ[i]?) σ
def kPu2 (i : Nat) (mk : M Rs) (d : D) (s : Option (Option Sl)) (σ : SD) : Out Fl := match s with
  | some (some (.ow (.lst _))) => (mk σ).bind (kPu2b i d)
  | _ => .stuck
def kPu1 (i : Nat) (mk : M Rs) (d : D) (σ : SD) : Out Fl := kPu2 i mk d (σ[i]?) σ
def kPu0 (i : Nat) (mk : M Rs) (ra : Rs) (σ : SD) : Out Fl := (frz ra σ).bind (kPu1 i mk)
def kStz (d : D) (σ : SD) : Out (Option D) := .ok (some d) σ
def kSty (ra : Rs) (σ : SD) : Out (Option D) := (frz ra σ).bind kStz
def kStx (m : M Rs) (b : Bool) (σ : SD) : Out (Option D) := if b = true then (m σ).bind kSty else .ok none σ
def kStw (mt : M Bool) (m : M Rs) (_u : Unit) (σ : SD) : Out (Option D) := (mt σ).bind (kStx m)
def k2_eCB (fl : List D → Option Rn) (ds : List D) (σ : SD) : Out Rs := ans σ (fl ds)
def k1_eCB (fl : List D → Option Rn) (rs : List Rs) (σ : SD) : Out Rs := (peekL rs σ).bind (k2_eCB fl)
def k2_e1 (f1 : D → Option Rn) (da : D) (σ : SD) : Out Rs := ans σ (f1 da)
def k1_e1 (f1 : D → Option Rn) (ra : Rs) (σ : SD) : Out Rs := (peek ra σ).bind (k2_e1 f1)
def k4_e2 (f : D → D → Option Rn) (db : D) (da : D) (σ : SD) : Out Rs := ans σ (f da db)
def k3_e2 (f : D → D → Option Rn) (ra : Rs) (db : D) (σ : SD) : Out Rs := (peek ra σ).bind (k4_e2 f db)
def k2_e2 (f : D → D → Option Rn) (ra : Rs) (rb : Rs) (σ : SD) : Out Rs := (peek rb σ).bind (k3_e2 f ra)
def k1_e2 (f : D → D → Option Rn) (mb : M Rs) (ra : Rs) (σ : SD) : Out Rs := (mb σ).bind (k2_e2 f ra)
def k4_e3c (f : D → D → Option Rn) (g : D → D → Option Rn) (mc : M Rs) (db : D) (da : D) (σ : SD) : Out Rs := kch g mc db (f da db) σ
def k3_e3c (f : D → D → Option Rn) (g : D → D → Option Rn) (mc : M Rs) (ra : Rs) (db : D) (σ : SD) : Out Rs := (peek ra σ).bind (k4_e3c f g mc db)
def k2_e3c (f : D → D → Option Rn) (g : D → D → Option Rn) (mc : M Rs) (ra : Rs) (rb : Rs) (σ : SD) : Out Rs := (frz rb σ).bind (k3_e3c f g mc ra)
def k1_e3c (f : D → D → Option Rn) (g : D → D → Option Rn) (mb : M Rs) (mc : M Rs) (ra : Rs) (σ : SD) : Out Rs := (mb σ).bind (k2_e3c f g mc ra)
def k4_eSl (fs : D → Option Int → Option Int → Option Rn) (lo : Option Int) (hi : Option Int) (d : D) (σ : SD) : Out Rs := ans σ (fs d lo hi)
def k3_eSl (fs : D → Option Int → Option Int → Option Rn) (ra : Rs) (lo : Option Int) (hi : Option Int) (σ : SD) : Out Rs := (peek ra σ).bind (k4_eSl fs lo hi)
def k2_eSl (fs : D → Option Int → Option Int → Option Rn) (mh : M (Option Int)) (ra : Rs) (lo : Option Int) (σ : SD) : Out Rs := (mh σ).bind (k3_eSl fs ra lo)
def k1_eSl (fs : D → Option Int → Option Int → Option Rn) (ml : M (Option Int)) (mh : M (Option Int)) (ra : Rs) (σ : SD) : Out Rs := (ml σ).bind (k2_eSl fs mh ra)
def k1_eCall (np : Nat) (nP : Nat) (nN : Nat) (mf : M Fl) (dfl : List D) (rs : List Rs) (σ : SD) : Out Rs := callD np nP nN mf dfl rs σ
def k2_aCons (ra : Rs) (rs : List Rs) (σ : SD) : Out (List Rs) := .ok (ra :: rs) σ
def k1_aCons (ms : M (List Rs)) (ra : Rs) (σ : SD) : Out (List Rs) := (ms σ).bind (k2_aCons ra)
def k2_eFz  (d : D) (σ : SD) : Out Rs := .ok (.fz d) σ
def k1_eFz  (ra : Rs) (σ : SD) : Out Rs := (frz ra σ).bind (k2_eFz)
theorem q_eVar (i : Nat) (σ : SD) : eVar i σ = kVar i (σ[i]?) σ := id rfl
theorem q_kVar1 (i : Nat) (d : D) (σ : SD) : kVar i (some (some (.fz d))) σ = .ok (.fz d) σ := id rfl
theorem q_kVar2 (i : Nat) (d : D) (σ : SD) : kVar i (some (some (.ow d))) σ = .ok (.pk i) σ := id rfl
theorem q_eC (d : D) (σ : SD) : eC d σ = .ok (.fz d) σ := id rfl
theorem q_peek1 (d : D) (σ : SD) : peek (.fz d) σ = .ok d σ := id rfl
theorem q_peek2 (d : D) (σ : SD) : peek (.ow d) σ = .ok d σ := id rfl
theorem q_peek3 (i : Nat) (σ : SD) : peek (.pk i) σ = kPk (σ[i]?) σ := id rfl
theorem q_kPk1 (d : D) (σ : SD) : kPk (some (some (.fz d))) σ = .ok d σ := id rfl
theorem q_kPk2 (d : D) (σ : SD) : kPk (some (some (.ow d))) σ = .ok d σ := id rfl
theorem q_frz1 (d : D) (σ : SD) : frz (.fz d) σ = .ok d σ := id rfl
theorem q_frz2 (ds : List D) (σ : SD) : frz (.ow (.lst ds)) σ = .ok (.lst ds) σ := id rfl
theorem q_frz3 (i : Nat) (σ : SD) : frz (.pk i) σ = kFz i (σ[i]?) σ := id rfl
theorem q_kFz1 (i : Nat) (d : D) (σ : SD) : kFz i (some (some (.fz d))) σ = .ok d σ := id rfl
theorem q_kFz2 (i : Nat) (ds : List D) (σ : SD) : kFz i (some (some (.ow (.lst ds)))) σ = .ok (.lst ds) (σ.set i (some (.fz (.lst ds)))) := id rfl
theorem q_peekL0 (σ : SD) : peekL [] σ = .ok [] σ := id rfl
theorem q_peekL1 (ra : Rs) (rs : List Rs) (σ : SD) : peekL (ra :: rs) σ = (peekL rs σ).bind (kpl1 ra) := id rfl
theorem q_kpl1 (ra : Rs) (ds : List D) (σ : SD) : kpl1 ra ds σ = (peek ra σ).bind (kpl2 ds) := id rfl
theorem q_kfl1 (ra : Rs) (ds : List D) (σ : SD) : kfl1 ra ds σ = (frz ra σ).bind (kpl2 ds) := id rfl
theorem q_kpl2 (ds : List D) (d : D) (σ : SD) : kpl2 ds d σ = .ok (d :: ds) σ := id rfl
theorem q_frzL0 (σ : SD) : frzL [] σ = .ok [] σ := id rfl
theorem q_frzL1 (ra : Rs) (rs : List Rs) (σ : SD) : frzL (ra :: rs) σ = (frzL rs σ).bind (kfl1 ra) := id rfl
theorem q_ans1 (d : D) (σ : SD) : ans σ (some (.val d)) = .ok (.fz d) σ := id rfl
theorem q_ans2 (ds : List D) (σ : SD) : ans σ (some (.newL ds)) = .ok (.ow (.lst ds)) σ := id rfl
theorem q_ans3 (ds : List D) (σ : SD) : ans σ (some (.newT ds)) = .ok (.fz (.tup ds)) σ := id rfl
theorem q_k2_eCB (fl : List D → Option Rn) (ds : List D) (σ : SD) : k2_eCB fl ds σ = ans σ (fl ds) := id rfl
theorem q_k1_eCB (fl : List D → Option Rn) (rs : List Rs) (σ : SD) : k1_eCB fl rs σ = (peekL rs σ).bind (k2_eCB fl) := id rfl
theorem q_eCB (fl : List D → Option Rn) (ms : M (List Rs)) (σ : SD) : eCB fl ms σ = (ms σ).bind (k1_eCB fl) := id rfl
theorem q_k2_e1 (f1 : D → Option Rn) (da : D) (σ : SD) : k2_e1 f1 da σ = ans σ (f1 da) := id rfl
theorem q_k1_e1 (f1 : D → Option Rn) (ra : Rs) (σ : SD) : k1_e1 f1 ra σ = (peek ra σ).bind (k2_e1 f1) := id rfl
theorem q_e1 (f1 : D → Option Rn) (ma : M Rs) (σ : SD) : e1 f1 ma σ = (ma σ).bind (k1_e1 f1) := id rfl
theorem q_k4_e2 (f : D → D → Option Rn) (db : D) (da : D) (σ : SD) : k4_e2 f db da σ = ans σ (f da db) := id rfl
theorem q_k3_e2 (f : D → D → Option Rn) (ra : Rs) (db : D) (σ : SD) : k3_e2 f ra db σ = (peek ra σ).bind (k4_e2 f db) := id rfl
theorem q_k2_e2 (f : D → D → Option Rn) (ra : Rs) (rb : Rs) (σ : SD) : k2_e2 f ra rb σ = (peek rb σ).bind (k3_e2 f ra) := id rfl
theorem q_k1_e2 (f : D → D → Option Rn) (mb : M Rs) (ra : Rs) (σ : SD) : k1_e2 f mb ra σ = (mb σ).bind (k2_e2 f ra) := id rfl
theorem q_e2 (f : D → D → Option Rn) (ma : M Rs) (mb : M Rs) (σ : SD) : e2 f ma mb σ = (ma σ).bind (k1_e2 f mb) := id rfl
theorem q_kch1 (g : D → D → Option Rn) (mc : M Rs) (db : D) (σ : SD) : kch g mc db (some (.val (.bl true))) σ = (mc σ).bind (kch1 g db) := id rfl
theorem q_kch2 (g : D → D → Option Rn) (mc : M Rs) (db : D) (σ : SD) : kch g mc db (some (.val (.bl false))) σ = .ok (.fz (.bl false)) σ := id rfl
theorem q_kch3 (g : D → D → Option Rn) (db : D) (rc : Rs) (σ : SD) : kch1 g db rc σ = (peek rc σ).bind (kch2 g db) := id rfl
theorem q_kch4 (g : D → D → Option Rn) (db dc : D) (σ : SD) : kch2 g db dc σ = ans σ (g db dc) := id rfl
theorem q_k4_e3c (f : D → D → Option Rn) (g : D → D → Option Rn) (mc : M Rs) (db : D) (da : D) (σ : SD) : k4_e3c f g mc db da σ = kch g mc db (f da db) σ := id rfl
theorem q_k3_e3c (f : D → D → Option Rn) (g : D → D → Option Rn) (mc : M Rs) (ra : Rs) (db : D) (σ : SD) : k3_e3c f g mc ra db σ = (peek ra σ).bind (k4_e3c f g mc db) := id rfl
theorem q_k2_e3c (f : D → D → Option Rn) (g : D → D → Option Rn) (mc : M Rs) (ra : Rs) (rb : Rs) (σ : SD) : k2_e3c f g mc ra rb σ = (frz rb σ).bind (k3_e3c f g mc ra) := id rfl
theorem q_k1_e3c (f : D → D → Option Rn) (g : D → D → Option Rn) (mb : M Rs) (mc : M Rs) (ra : Rs) (σ : SD) : k1_e3c f g mb mc ra σ = (mb σ).bind (k2_e3c f g mc ra) := id rfl
theorem q_e3c (f : D → D → Option Rn) (g : D → D → Option Rn) (ma : M Rs) (mb : M Rs) (mc : M Rs) (σ : SD) : e3c f g ma mb mc σ = (ma σ).bind (k1_e3c f g mb mc) := id rfl
theorem q_eIf (mt : M Bool) (ma mb : M Rs) (σ : SD) : eIf mt ma mb σ = (mt σ).bind (kIfE ma mb) := by
  unfold eIf ebT
  congr 1
  funext b σ1
  cases b <;> rfl
theorem q_kIfE1 (ma mb : M Rs) (σ : SD) : kIfE ma mb true σ = ma σ := id rfl
theorem q_kIfE2 (ma mb : M Rs) (σ : SD) : kIfE ma mb false σ = mb σ := id rfl
theorem q_eAnd (ma mb : M Rs) (σ : SD) : eAnd ma mb σ = (ma σ).bind (kAnd mb) := id rfl
theorem q_kAnd1 (mb : M Rs) (σ : SD) : kAnd mb (.fz (.bl true)) σ = mb σ := id rfl
theorem q_kAnd2 (mb : M Rs) (σ : SD) : kAnd mb (.fz (.bl false)) σ = .ok (.fz (.bl false)) σ := id rfl
theorem q_eOr (ma mb : M Rs) (σ : SD) : eOr ma mb σ = (ma σ).bind (kOr mb) := id rfl
theorem q_kOr1 (mb : M Rs) (σ : SD) : kOr mb (.fz (.bl true)) σ = .ok (.fz (.bl true)) σ := id rfl
theorem q_kOr2 (mb : M Rs) (σ : SD) : kOr mb (.fz (.bl false)) σ = mb σ := id rfl
theorem q_eNot (ma : M Rs) (σ : SD) : eNot ma σ = (ma σ).bind kNot := id rfl
theorem q_kNot (b : Bool) (σ : SD) : kNot (.fz (.bl b)) σ = .ok (.fz (.bl (!b))) σ := id rfl
theorem q_eTup (ms : M (List Rs)) (σ : SD) : eTup ms σ = (ms σ).bind kTup1 := id rfl
theorem q_eLst (ms : M (List Rs)) (σ : SD) : eLst ms σ = (ms σ).bind kLst1 := id rfl
theorem q_kTup1 (rs : List Rs) (σ : SD) : kTup1 rs σ = (frzL rs σ).bind kTup := id rfl
theorem q_kLst1 (rs : List Rs) (σ : SD) : kLst1 rs σ = (frzL rs σ).bind kLst := id rfl
theorem q_kTupN0 (σ : SD) : kTup [] σ = .ok (.fz (.tup [])) σ := if_pos (show 0 ≤ 16777216 by decide)
theorem q_kLstN0 (σ : SD) : kLst [] σ = .ok (.ow (.lst [])) σ := if_pos (show 0 ≤ 16777216 by decide)
theorem q_kTupN1 (x0 : D) (σ : SD) : kTup [x0] σ = .ok (.fz (.tup [x0])) σ := if_pos (show 1 ≤ 16777216 by decide)
theorem q_kLstN1 (x0 : D) (σ : SD) : kLst [x0] σ = .ok (.ow (.lst [x0])) σ := if_pos (show 1 ≤ 16777216 by decide)
theorem q_kTupN2 (x0 x1 : D) (σ : SD) : kTup [x0, x1] σ = .ok (.fz (.tup [x0, x1])) σ := if_pos (show 2 ≤ 16777216 by decide)
theorem q_kLstN2 (x0 x1 : D) (σ : SD) : kLst [x0, x1] σ = .ok (.ow (.lst [x0, x1])) σ := if_pos (show 2 ≤ 16777216 by decide)
theorem q_kTupN3 (x0 x1 x2 : D) (σ : SD) : kTup [x0, x1, x2] σ = .ok (.fz (.tup [x0, x1, x2])) σ := if_pos (show 3 ≤ 16777216 by decide)
theorem q_kLstN3 (x0 x1 x2 : D) (σ : SD) : kLst [x0, x1, x2] σ = .ok (.ow (.lst [x0, x1, x2])) σ := if_pos (show 3 ≤ 16777216 by decide)
theorem q_kTupN4 (x0 x1 x2 x3 : D) (σ : SD) : kTup [x0, x1, x2, x3] σ = .ok (.fz (.tup [x0, x1, x2, x3])) σ := if_pos (show 4 ≤ 16777216 by decide)
theorem q_kLstN4 (x0 x1 x2 x3 : D) (σ : SD) : kLst [x0, x1, x2, x3] σ = .ok (.ow (.lst [x0, x1, x2, x3])) σ := if_pos (show 4 ≤ 16777216 by decide)
theorem q_kTupN5 (x0 x1 x2 x3 x4 : D) (σ : SD) : kTup [x0, x1, x2, x3, x4] σ = .ok (.fz (.tup [x0, x1, x2, x3, x4])) σ := if_pos (show 5 ≤ 16777216 by decide)
theorem q_kLstN5 (x0 x1 x2 x3 x4 : D) (σ : SD) : kLst [x0, x1, x2, x3, x4] σ = .ok (.ow (.lst [x0, x1, x2, x3, x4])) σ := if_pos (show 5 ≤ 16777216 by decide)
theorem q_kTupN6 (x0 x1 x2 x3 x4 x5 : D) (σ : SD) : kTup [x0, x1, x2, x3, x4, x5] σ = .ok (.fz (.tup [x0, x1, x2, x3, x4, x5])) σ := if_pos (show 6 ≤ 16777216 by decide)
theorem q_kLstN6 (x0 x1 x2 x3 x4 x5 : D) (σ : SD) : kLst [x0, x1, x2, x3, x4, x5] σ = .ok (.ow (.lst [x0, x1, x2, x3, x4, x5])) σ := if_pos (show 6 ≤ 16777216 by decide)
theorem q_kTupN7 (x0 x1 x2 x3 x4 x5 x6 : D) (σ : SD) : kTup [x0, x1, x2, x3, x4, x5, x6] σ = .ok (.fz (.tup [x0, x1, x2, x3, x4, x5, x6])) σ := if_pos (show 7 ≤ 16777216 by decide)
theorem q_kLstN7 (x0 x1 x2 x3 x4 x5 x6 : D) (σ : SD) : kLst [x0, x1, x2, x3, x4, x5, x6] σ = .ok (.ow (.lst [x0, x1, x2, x3, x4, x5, x6])) σ := if_pos (show 7 ≤ 16777216 by decide)
theorem q_kTupN8 (x0 x1 x2 x3 x4 x5 x6 x7 : D) (σ : SD) : kTup [x0, x1, x2, x3, x4, x5, x6, x7] σ = .ok (.fz (.tup [x0, x1, x2, x3, x4, x5, x6, x7])) σ := if_pos (show 8 ≤ 16777216 by decide)
theorem q_kLstN8 (x0 x1 x2 x3 x4 x5 x6 x7 : D) (σ : SD) : kLst [x0, x1, x2, x3, x4, x5, x6, x7] σ = .ok (.ow (.lst [x0, x1, x2, x3, x4, x5, x6, x7])) σ := if_pos (show 8 ≤ 16777216 by decide)
theorem q_kTupN9 (x0 x1 x2 x3 x4 x5 x6 x7 x8 : D) (σ : SD) : kTup [x0, x1, x2, x3, x4, x5, x6, x7, x8] σ = .ok (.fz (.tup [x0, x1, x2, x3, x4, x5, x6, x7, x8])) σ := if_pos (show 9 ≤ 16777216 by decide)
theorem q_kLstN9 (x0 x1 x2 x3 x4 x5 x6 x7 x8 : D) (σ : SD) : kLst [x0, x1, x2, x3, x4, x5, x6, x7, x8] σ = .ok (.ow (.lst [x0, x1, x2, x3, x4, x5, x6, x7, x8])) σ := if_pos (show 9 ≤ 16777216 by decide)
theorem q_pNo (σ : SD) : pNo σ = .ok none σ := id rfl
theorem q_pSo (m : M Rs) (σ : SD) : pSo m σ = (m σ).bind kSo := id rfl
theorem q_kSo (i : Int) (σ : SD) : kSo (.fz (.int i)) σ = .ok (some i) σ := id rfl
theorem q_k4_eSl (fs : D → Option Int → Option Int → Option Rn) (lo : Option Int) (hi : Option Int) (d : D) (σ : SD) : k4_eSl fs lo hi d σ = ans σ (fs d lo hi) := id rfl
theorem q_k3_eSl (fs : D → Option Int → Option Int → Option Rn) (ra : Rs) (lo : Option Int) (hi : Option Int) (σ : SD) : k3_eSl fs ra lo hi σ = (peek ra σ).bind (k4_eSl fs lo hi) := id rfl
theorem q_k2_eSl (fs : D → Option Int → Option Int → Option Rn) (mh : M (Option Int)) (ra : Rs) (lo : Option Int) (σ : SD) : k2_eSl fs mh ra lo σ = (mh σ).bind (k3_eSl fs ra lo) := id rfl
theorem q_k1_eSl (fs : D → Option Int → Option Int → Option Rn) (ml : M (Option Int)) (mh : M (Option Int)) (ra : Rs) (σ : SD) : k1_eSl fs ml mh ra σ = (ml σ).bind (k2_eSl fs mh ra) := id rfl
theorem q_eSl (fs : D → Option Int → Option Int → Option Rn) (m : M Rs) (ml : M (Option Int)) (mh : M (Option Int)) (σ : SD) : eSl fs m ml mh σ = (m σ).bind (k1_eSl fs ml mh) := id rfl
theorem q_eJoin (ma mb : M Rs) (σ : SD) : eJoin ma mb σ = (ma σ).bind (kJ0 mb) := id rfl
theorem q_kJ0 (s : List Nat) (mb : M Rs) (σ : SD) : kJ0 mb (.fz (.str s)) σ = (mb σ).bind (kJ1 s) := id rfl
theorem q_kJ1 (s : List Nat) (rb : Rs) (σ : SD) : kJ1 s rb σ = (peek rb σ).bind (kJ2 s) := id rfl
theorem q_kJ2 (s : List Nat) (db : D) (σ : SD) : kJ2 s db σ = ans σ (dJoin s db) := id rfl
theorem q_k1_eCall (np : Nat) (nP : Nat) (nN : Nat) (mf : M Fl) (dfl : List D) (rs : List Rs) (σ : SD) : k1_eCall np nP nN mf dfl rs σ = callD np nP nN mf dfl rs σ := id rfl
theorem q_eCall (np : Nat) (nP : Nat) (nN : Nat) (mf : M Fl) (dfl : List D) (ms : M (List Rs)) (σ : SD) : eCall np nP nN mf dfl ms σ = (ms σ).bind (k1_eCall np nP nN mf dfl) := id rfl
theorem q_aNil (σ : SD) : aNil σ = .ok [] σ := id rfl
theorem q_k2_aCons (ra : Rs) (rs : List Rs) (σ : SD) : k2_aCons ra rs σ = .ok (ra :: rs) σ := id rfl
theorem q_k1_aCons (ms : M (List Rs)) (ra : Rs) (σ : SD) : k1_aCons ms ra σ = (ms σ).bind (k2_aCons ra) := id rfl
theorem q_aCons (m : M Rs) (ms : M (List Rs)) (σ : SD) : aCons m ms σ = (m σ).bind (k1_aCons ms) := id rfl
theorem q_k2_eFz  (d : D) (σ : SD) : k2_eFz d σ = .ok (.fz d) σ := id rfl
theorem q_k1_eFz  (ra : Rs) (σ : SD) : k1_eFz ra σ = (frz ra σ).bind (k2_eFz) := id rfl
theorem q_eFz (m : M Rs) (σ : SD) : eFz m σ = (m σ).bind (k1_eFz) := id rfl
theorem q_tB1 (m : M Rs) (σ : SD) : tB1 m σ = (m σ).bind kB1 := id rfl
theorem q_kB1 (b : Bool) (σ : SD) : kB1 (.fz (.bl b)) σ = .ok b σ := id rfl
theorem q_tTru (m : M Rs) (σ : SD) : tTru m σ = (m σ).bind kTr0 := id rfl
theorem q_kTr0 (ra : Rs) (σ : SD) : kTr0 ra σ = (peek ra σ).bind kTr1 := id rfl
theorem q_kTr1 (d : D) (σ : SD) : kTr1 d σ = kTr2 (truth d) σ := id rfl
theorem q_kTrb (b : Bool) (σ : SD) : kTr1 (.bl b) σ = .ok b σ := id rfl
theorem q_truthB (b : Bool) : truth (.bl b) = some b := id rfl
theorem q_kTr2 (b : Bool) (σ : SD) : kTr2 (some b) σ = .ok b σ := id rfl
theorem q_tAnd (ta tb : M Bool) (σ : SD) : tAnd' ta tb σ = (ta σ).bind (kTA tb) := id rfl
theorem q_tOr (ta tb : M Bool) (σ : SD) : tOr' ta tb σ = (ta σ).bind (kTO tb) := id rfl
theorem q_tNot (ta : M Bool) (σ : SD) : tNot' ta σ = (ta σ).bind kTN := id rfl
theorem q_kTA1 (tb : M Bool) (σ : SD) : kTA tb true σ = tb σ := id rfl
theorem q_kTA2 (tb : M Bool) (σ : SD) : kTA tb false σ = .ok false σ := id rfl
theorem q_kTO1 (tb : M Bool) (σ : SD) : kTO tb true σ = .ok true σ := id rfl
theorem q_kTO2 (tb : M Bool) (σ : SD) : kTO tb false σ = tb σ := id rfl
theorem q_kTN (b : Bool) (σ : SD) : kTN b σ = .ok (!b) σ := id rfl
theorem q_tTrue (σ : SD) : tTrue σ = .ok true σ := id rfl
theorem q_bNil (σ : SD) : bNil σ = .ok .nx σ := id rfl
theorem q_bCons (sa sb : M Fl) (σ : SD) : bCons sa sb σ = (sa σ).bind (kBC sb) := id rfl
theorem q_kBC1 (sb : M Fl) (σ : SD) : kBC sb .nx σ = sb σ := id rfl
theorem q_kBC2 (sb : M Fl) (ra : Rs) (σ : SD) : kBC sb (.rt ra) σ = .ok (.rt ra) σ := id rfl
theorem q_kBC3 (sb : M Fl) (σ : SD) : kBC sb .bk σ = .ok .bk σ := id rfl
theorem q_kBC4 (sb : M Fl) (σ : SD) : kBC sb .ct σ = .ok .ct σ := id rfl
theorem q_sPass (σ : SD) : sPass σ = .ok .nx σ := id rfl
theorem q_sBreak (σ : SD) : sBreak σ = .ok .bk σ := id rfl
theorem q_sCont (σ : SD) : sCont σ = .ok .ct σ := id rfl
theorem q_sRetN (σ : SD) : sRetN σ = .ok (.rt (.fz .non)) σ := id rfl
theorem q_sExpr (m : M Rs) (σ : SD) : sExpr m σ = (m σ).bind kEx := id rfl
theorem q_kEx (ra : Rs) (σ : SD) : kEx ra σ = .ok .nx σ := id rfl
theorem q_sRet (m : M Rs) (σ : SD) : sRet m σ = (m σ).bind kRt := id rfl
theorem q_kRt (ra : Rs) (σ : SD) : kRt ra σ = .ok (.rt ra) σ := id rfl
theorem q_sIf (t : M Bool) (sa sb : M Fl) (σ : SD) : sIf t sa sb σ = (t σ).bind (kIf sa sb) := id rfl
theorem q_kIf1 (sa sb : M Fl) (σ : SD) : kIf sa sb true σ = sa σ := id rfl
theorem q_kIf2 (sa sb : M Fl) (σ : SD) : kIf sa sb false σ = sb σ := id rfl
theorem q_kU (u : Unit) (σ : SD) : kU u σ = .ok .nx σ := id rfl
theorem q_sSet (i : Nat) (m : M Rs) (σ : SD) : sSet i m σ = (m σ).bind (kSet i) := id rfl
theorem q_kSet (i : Nat) (ra : Rs) (σ : SD) : kSet i ra σ = (setSl i ra σ).bind kU := id rfl
theorem q_set1 (i : Nat) (d : D) (σ : SD) (h : i < σ.length) : setSl i (.fz d) σ = .ok () (σ.set i (some (.fz d))) := if_pos h
theorem q_set2 (i : Nat) (d : D) (σ : SD) (h : i < σ.length) : setSl i (.ow d) σ = .ok () (σ.set i (some (.ow d))) := if_pos h
theorem q_set3 (i j : Nat) (σ : SD) (h : i < σ.length) : setSl i (.pk j) σ = kSl2 i j (σ[j]?) σ := if_pos h
theorem q_kSl1 (i j : Nat) (d : D) (σ : SD) : kSl2 i j (some (some (.fz d))) σ = .ok () (σ.set i (some (.fz d))) := id rfl
theorem q_kSl2 (i j : Nat) (ds : List D) (σ : SD) : kSl2 i j (some (some (.ow (.lst ds)))) σ = .ok () ((σ.set j (some (.fz (.lst ds)))).set i (some (.fz (.lst ds)))) := id rfl
theorem q_gNm (i : Nat) (d : D) (σ : SD) (h : i < σ.length) : gNm i d σ = .ok () (σ.set i (some (.fz d))) := if_pos h
theorem q_gNms0 (σ : SD) : gNms [] [] σ = .ok () σ := id rfl
theorem q_gNms1 (i : Nat) (is : List Nat) (d : D) (ds : List D) (σ : SD) : gNms (i :: is) (d :: ds) σ = (gNm i d σ).bind (kGs is ds) := id rfl
theorem q_kGs (is : List Nat) (ds : List D) (u : Unit) (σ : SD) : kGs is ds u σ = gNms is ds σ := id rfl
theorem q_gTp (is : List Nat) (ds : List D) (σ : SD) : gTp is (.tup ds) σ = gNms is ds σ := id rfl
theorem q_gSq1 (is : List Nat) (ds : List D) (σ : SD) : gSq is (.tup ds) σ = gNms is ds σ := id rfl
theorem q_gSq2 (is : List Nat) (ds : List D) (σ : SD) : gSq is (.lst ds) σ = gNms is ds σ := id rfl
theorem q_sAsg (gg : D → SD → Out Unit) (m : M Rs) (σ : SD) : sAsg gg m σ = (m σ).bind (kAs0 gg) := id rfl
theorem q_kAs0 (gg : D → SD → Out Unit) (ra : Rs) (σ : SD) : kAs0 gg ra σ = (frz ra σ).bind (kAs1 gg) := id rfl
theorem q_kAs1 (gg : D → SD → Out Unit) (d : D) (σ : SD) : kAs1 gg d σ = (gg d σ).bind kU := id rfl
theorem q_sAug (f : D → D → Option Rn) (i : Nat) (m : M Rs) (σ : SD) : sAug f i m σ = kAug f i m (σ[i]?) σ := id rfl
theorem q_kAug (f : D → D → Option Rn) (i : Nat) (m : M Rs) (d : D) (σ : SD) : kAug f i m (some (some (.fz d))) σ = (m σ).bind (kAug1 f i d) := id rfl
theorem q_kAug1 (f : D → D → Option Rn) (i : Nat) (d : D) (ra : Rs) (σ : SD) : kAug1 f i d ra σ = (peek ra σ).bind (kAug2 f i d) := id rfl
theorem q_kAug2 (f : D → D → Option Rn) (i : Nat) (d d2 : D) (σ : SD) : kAug2 f i d d2 σ = kAug3 i (f d d2) σ := id rfl
theorem q_kAug3 (i : Nat) (z : D) (σ : SD) (h : i < σ.length) : kAug3 i (some (.val z)) σ = .ok .nx (σ.set i (some (.fz z))) := if_pos h
theorem q_eIter (m : M Rs) (σ : SD) : eIter m σ = (m σ).bind kIt0 := id rfl
theorem q_kIt0 (ra : Rs) (σ : SD) : kIt0 ra σ = (frz ra σ).bind kIt1 := id rfl
theorem q_kIt1 (d : D) (σ : SD) : kIt1 d σ = kIt2 (itemsOf d) σ := id rfl
theorem q_kIt2 (ds : List D) (σ : SD) : kIt2 (some ds) σ = .ok ds σ := id rfl
theorem q_iRng (fi : List D → Option (List D)) (ms : M (List Rs)) (σ : SD) : iRng fi ms σ = (ms σ).bind (kRg0 fi) := id rfl
theorem q_kRg0 (fi : List D → Option (List D)) (rs : List Rs) (σ : SD) : kRg0 fi rs σ = (peekL rs σ).bind (kRg1 fi) := id rfl
theorem q_kRg1 (fi : List D → Option (List D)) (ds : List D) (σ : SD) : kRg1 fi ds σ = kIt2 (fi ds) σ := id rfl
theorem q_iZip (ms : M (List Rs)) (σ : SD) : DL.iZip ms σ = (ms σ).bind kZp1 := id rfl
theorem q_kZp1 (rs : List Rs) (σ : SD) : kZp1 rs σ = (frzL rs σ).bind kZp2 := id rfl
theorem q_kZp2 (x y : D) (σ : SD) : kZp2 [x, y] σ = (kIt2 ((itemsZ x).bind fun xs => (itemsZ y).map fun ys => zipD xs ys) σ) := by
  unfold kZp2
  cases h1 : itemsZ x with
  | none => simp [h1, kIt2]
  | some xs => cases h2 : itemsZ y with
    | none => simp [h1, h2, kIt2]
    | some ys => simp [h1, h2, kIt2]
theorem q_iEnum (ms : M (List Rs)) (σ : SD) : DL.iEnum ms σ = (ms σ).bind kEn1 := id rfl
theorem q_kEn1 (rs : List Rs) (σ : SD) : kEn1 rs σ = (frzL rs σ).bind kEn2 := id rfl
theorem q_kEn2 (x : D) (σ : SD) : kEn2 [x] σ = kIt2 ((itemsZ x).map fun xs => enumD 0 xs) σ := by
  unfold kEn2
  cases h1 : itemsZ x with
  | none => simp [h1, kIt2]
  | some xs => simp [h1, kIt2]
theorem q_sFor (it : M (List D)) (gg : D → SD → Out Unit) (sb : M Fl) (σ : SD) : sFor it gg sb σ = (it σ).bind (kFor gg sb) := id rfl
theorem q_kFor (gg : D → SD → Out Unit) (sb : M Fl) (ds : List D) (σ : SD) : kFor gg sb ds σ = forL gg sb ds σ := id rfl
theorem q_sWhile (n : Nat) (t : M Bool) (sb : M Fl) (σ : SD) : sWhile n t sb σ = whileL t sb n σ := id rfl
theorem q_sPar (i j : Nat) (ma mb : M Rs) (σ : SD) : sPar i j ma mb σ = (ma σ).bind (kPr0 i j mb) := id rfl
theorem q_kPr0 (i j : Nat) (mb : M Rs) (ra : Rs) (σ : SD) : kPr0 i j mb ra σ = (mb σ).bind (kPr1 i j ra) := id rfl
theorem q_kPr1 (i j : Nat) (ra rb : Rs) (σ : SD) : kPr1 i j ra rb σ = kPr2 i j ra rb (noPk ra) σ := id rfl
theorem q_kPr2 (i j : Nat) (ra rb : Rs) (σ : SD) : kPr2 i j ra rb true σ = (setSl j rb σ).bind (kPr3 i ra) := id rfl
theorem q_kPr3 (i : Nat) (ra : Rs) (u : Unit) (σ : SD) : kPr3 i ra u σ = (setSl i ra σ).bind kU := id rfl
theorem q_noPk1 (d : D) : noPk (.fz d) = true := id rfl
theorem q_noPk2 (d : D) : noPk (.ow d) = true := id rfl
theorem q_sPar3 (i j l : Nat) (ma mb mc : M Rs) (σ : SD) : sPar3 i j l ma mb mc σ = (ma σ).bind (kPt0 i j l mb mc) := id rfl
theorem q_kPt0 (i j l : Nat) (mb mc : M Rs) (ra : Rs) (σ : SD) : kPt0 i j l mb mc ra σ = (mb σ).bind (kPt1 i j l mc ra) := id rfl
theorem q_kPt1 (i j l : Nat) (mc : M Rs) (ra rb : Rs) (σ : SD) : kPt1 i j l mc ra rb σ = (mc σ).bind (kPt2 i j l ra rb) := id rfl
theorem q_kPt2 (i j l : Nat) (ra rb rc : Rs) (σ : SD) : kPt2 i j l ra rb rc σ = kPt3 i j l ra rb rc (noPk ra && noPk rb) σ := id rfl
theorem q_kPt3 (i j l : Nat) (ra rb rc : Rs) (σ : SD) : kPt3 i j l ra rb rc true σ = (setSl l rc σ).bind (kPt4 i j ra rb) := id rfl
theorem q_kPt4 (i j : Nat) (ra rb : Rs) (u : Unit) (σ : SD) : kPt4 i j ra rb u σ = (setSl j rb σ).bind (kPr3 i ra) := id rfl
theorem q_eMt (fr : Bool) (fm : List D → List D → Option (D × List D)) (i : Nat) (ms : M (List Rs)) (σ : SD) : eMt fr fm i ms σ = kMt0 fr fm i ms (σ[i]?) σ := by
  unfold eMt kMt0
  cases h : σ[i]? with
  | none => rfl
  | some s => cases s with
    | none => rfl
    | some s => cases s with
      | fz d => rfl
      | ow d => cases d <;> rfl
theorem q_kMt0 (fr : Bool) (fm : List D → List D → Option (D × List D)) (i : Nat) (ms : M (List Rs)) (xs : List D) (σ : SD) : kMt0 fr fm i ms (some (some (.ow (.lst xs)))) σ = (ms σ).bind (kMt1 fr fm i) := id rfl
theorem q_kMt1 (fr : Bool) (fm : List D → List D → Option (D × List D)) (i : Nat) (rs : List Rs) (σ : SD) : kMt1 fr fm i rs σ = (rdA fr rs σ).bind (kMt1b fm i) := id rfl
theorem q_kMt1b (fm : List D → List D → Option (D × List D)) (i : Nat) (as : List D) (σ : SD) : kMt1b fm i as σ = kMt2 fm i as (σ[i]?) σ := id rfl
theorem q_kMt2 (fm : List D → List D → Option (D × List D)) (i : Nat) (as xs : List D) (σ : SD) : kMt2 fm i as (some (some (.ow (.lst xs)))) σ = kMt3 i (fm xs as) σ := id rfl
theorem q_kMt3 (i : Nat) (d : D) (ys : List D) (σ : SD) : kMt3 i (some (d, ys)) σ = .ok (.fz d) (σ.set i (some (.ow (.lst ys)))) := id rfl
theorem q_rdA1 (rs : List Rs) (σ : SD) : rdA true rs σ = frzL rs σ := id rfl
theorem q_rdA2 (rs : List Rs) (σ : SD) : rdA false rs σ = peekL rs σ := id rfl
theorem q_sPut (i : Nat) (mk m : M Rs) (σ : SD) : sPut i mk m σ = (m σ).bind (kPu0 i mk) := by
  unfold sPut
  congr 1
theorem q_kPu0 (i : Nat) (mk : M Rs) (ra : Rs) (σ : SD) : kPu0 i mk ra σ = (frz ra σ).bind (kPu1 i mk) := id rfl
theorem q_kPu1 (i : Nat) (mk : M Rs) (d : D) (σ : SD) : kPu1 i mk d σ = kPu2 i mk d (σ[i]?) σ := id rfl
theorem q_kPu2 (i : Nat) (mk : M Rs) (d : D) (xs : List D) (σ : SD) : kPu2 i mk d (some (some (.ow (.lst xs)))) σ = (mk σ).bind (kPu2b i d) := id rfl
theorem q_kPu2b (i : Nat) (d : D) (rk : Rs) (σ : SD) : kPu2b i d rk σ = kPu3 i d rk (σ[i]?) σ := id rfl
theorem q_kPu3 (i : Nat) (d : D) (k : Int) (xs : List D) (σ : SD) : kPu3 i d (.fz (.int k)) (some (some (.ow (.lst xs)))) σ = kPu4 i d xs (ixN xs.length k) σ := id rfl
theorem q_kPu4 (i : Nat) (d : D) (xs : List D) (j : Nat) (σ : SD) : kPu4 i d xs (some j) σ = .ok .nx (σ.set i (some (.ow (.lst (xs.set j d))))) := id rfl
theorem q_stepL (gg : D → SD → Out Unit) (mt : M Bool) (m : M Rs) (d : D) (σ : SD) : stepL gg mt m d σ = (gg d σ).bind (kStw mt m) := id rfl
theorem q_kStw (mt : M Bool) (m : M Rs) (u : Unit) (σ : SD) : kStw mt m u σ = (mt σ).bind (kStx m) := id rfl
theorem q_kStx1 (m : M Rs) (σ : SD) : kStx m true σ = (m σ).bind kSty := id rfl
theorem q_kStx2 (m : M Rs) (σ : SD) : kStx m false σ = .ok none σ := id rfl
theorem q_kSty (ra : Rs) (σ : SD) : kSty ra σ = (frz ra σ).bind kStz := id rfl
theorem q_kStz (d : D) (σ : SD) : kStz d σ = .ok (some d) σ := id rfl
theorem y_kIfE (ma mb : M Rs) (b : Bool) (σ : SD) : kIfE ma mb b σ = if b = true then ma σ else mb σ := id rfl
theorem y_kTA (tb : M Bool) (b : Bool) (σ : SD) : kTA tb b σ = if b = true then tb σ else .ok false σ := id rfl
theorem y_kTO (tb : M Bool) (b : Bool) (σ : SD) : kTO tb b σ = if b = true then .ok true σ else tb σ := id rfl
theorem y_kAnd (mb : M Rs) (b : Bool) (σ : SD) : kAnd mb (.fz (.bl b)) σ = if b = true then mb σ else .ok (.fz (.bl false)) σ := id rfl
theorem y_kOr (mb : M Rs) (b : Bool) (σ : SD) : kOr mb (.fz (.bl b)) σ = if b = true then .ok (.fz (.bl true)) σ else mb σ := id rfl
theorem y_kStx (m : M Rs) (b : Bool) (σ : SD) : kStx m b σ = if b = true then (m σ).bind kSty else .ok none σ := id rfl
theorem y_if {α : Type} (b : Bool) (x y : α) (σ : SD) : (if b = true then Out.ok x σ else Out.ok y σ) = Out.ok (if b = true then x else y) σ := by cases b <;> rfl
theorem y_fz (b : Bool) (x y : D) : (if b = true then Rs.fz x else Rs.fz y) = Rs.fz (if b = true then x else y) := by cases b <;> rfl
theorem y_and (b c : Bool) : (if b = true then c else false) = (b && c) := by cases b <;> rfl
theorem y_or (b c : Bool) : (if b = true then true else c) = (b || c) := by cases b <;> rfl
theorem y_andD (b c : Bool) : (if b = true then D.bl c else D.bl false) = D.bl (b && c) := by cases b <;> rfl
theorem y_orD (b c : Bool) : (if b = true then D.bl true else D.bl c) = D.bl (b || c) := by cases b <;> rfl
end DL

namespace PN
def flipN (c : Nat) : Nat := if c = 43 then 45 else if c = 45 then 43 else c
def isSg (c : Nat) : Prop := c = 43 ∨ c = 45 ∨ c = 48
theorem isSg_flip {c : Nat} (h : isSg c) : isSg (flipN c) := by
  rcases h with rfl | rfl | rfl <;> simp [flipN, isSg]
theorem flip_flip {c : Nat} (h : isSg c) : flipN (flipN c) = c := by
  rcases h with rfl | rfl | rfl <;> rfl
/-- signs at some things turned -/
def tA (th : List Nat) : Nat → List Nat → List Nat
  | _, [] => []
  | k, c :: s => (if k ∈ th then flipN c else c) :: tA th (k + 1) s
theorem tA_zip (th : List Nat) : ∀ (s : List Nat) (k : Nat), (s.zipIdx k).map (fun p => if p.2 ∈ th then flipN p.1 else p.1) = tA th k s
  | [], _ => rfl
  | c :: s, k => by
    rw [List.zipIdx_cons, List.map_cons, tA_zip th s (k + 1)]
    rfl
theorem tA_len (th : List Nat) : ∀ (k : Nat) (s : List Nat), (tA th k s).length = s.length
  | _, [] => rfl
  | k, c :: s => by
    unfold tA
    rw [List.length_cons, List.length_cons, tA_len th (k + 1) s]
theorem tA_sg (th : List Nat) : ∀ (k : Nat) (s : List Nat), (∀ c ∈ s, isSg c) → ∀ c ∈ tA th k s, isSg c
  | _, [], _, c, hc => by simp [tA] at hc
  | k, x :: s, h, c, hc => by
    unfold tA at hc
    rcases List.mem_cons.mp hc with rfl | hc
    · split
      · exact isSg_flip (h x List.mem_cons_self)
      · exact h x List.mem_cons_self
    · exact tA_sg th (k + 1) s (fun c hc => h c (List.mem_cons_of_mem _ hc)) c hc
theorem tA_tA (th : List Nat) : ∀ (k : Nat) (s : List Nat), (∀ c ∈ s, isSg c) → tA th k (tA th k s) = s
  | _, [], _ => rfl
  | k, x :: s, h => by
    show (if k ∈ th then flipN (if k ∈ th then flipN x else x) else (if k ∈ th then flipN x else x)) :: tA th (k + 1) (tA th (k + 1) s) = _
    rw [tA_tA th (k + 1) s fun c hc => h c (List.mem_cons_of_mem _ hc)]
    by_cases hk : k ∈ th
    · rw [if_pos hk, if_pos hk, flip_flip (h x List.mem_cons_self)]
    · rw [if_neg hk, if_neg hk]
theorem tA_nil : ∀ (k : Nat) (s : List Nat), tA [] k s = s
  | _, [] => rfl
  | k, x :: s => by
    unfold tA
    rw [tA_nil (k + 1) s, if_neg List.not_mem_nil]
/-- one row laid over another -/
def laidN (a b : List Nat) : List Nat := (a.zip b).map fun p => if p.1 = 48 then p.2 else p.1
theorem laidN_cons (x y : Nat) (a b : List Nat) : laidN (x :: a) (y :: b) = (if x = 48 then y else x) :: laidN a b := rfl
theorem laidN_len (a b : List Nat) (h : a.length = b.length) : (laidN a b).length = a.length := by
  unfold laidN
  rw [List.length_map, List.length_zip, h, Nat.min_self]
theorem laidN_sg : ∀ a b : List Nat, (∀ c ∈ a, isSg c) → (∀ c ∈ b, isSg c) → ∀ c ∈ laidN a b, isSg c
  | [], b, _, _, c, h => by simp [laidN] at h
  | a :: as, [], _, _, c, h => by simp [laidN] at h
  | a :: as, b :: bs, ha, hb, c, h => by
    rw [laidN_cons] at h
    rcases List.mem_cons.mp h with rfl | h
    · split
      · exact hb b List.mem_cons_self
      · exact ha a List.mem_cons_self
    · exact laidN_sg as bs (fun c hc => ha c (List.mem_cons_of_mem _ hc)) (fun c hc => hb c (List.mem_cons_of_mem _ hc)) c h
theorem laidN_self : ∀ a : List Nat, laidN a a = a
  | [] => rfl
  | x :: a => by rw [laidN_cons, laidN_self a, ite_self]
theorem laidN_assoc : ∀ a b c : List Nat, laidN (laidN a b) c = laidN a (laidN b c)
  | [], b, c => rfl
  | x :: a, [], c => rfl
  | x :: a, y :: b, [] => rfl
  | x :: a, y :: b, z :: c => by
    rw [laidN_cons, laidN_cons, laidN_cons, laidN_cons, laidN_assoc a b c]
    by_cases h : x = 48
    · simp [h]
    · simp [h]
/-- the things at which two rows are apart -/
def apK : Nat → List Nat → List Nat → List Nat
  | k, x :: a, y :: b => if x ≠ 48 ∧ y = flipN x then k :: apK (k + 1) a b else apK (k + 1) a b
  | _, _, _ => []
theorem apK_zip (B : List Nat) : ∀ (a b : List Nat) (k : Nat), B.drop k = b → a.length = b.length →
    ((a.zipIdx k).filter (fun p => decide (p.1 ≠ 48) && decide (B[p.2]? = some (flipN p.1)))).map (·.2) = apK k a b
  | [], b, k, _, _ => by simp [apK]
  | x :: a, [], k, _, h => by simp at h
  | x :: a, y :: b, k, hB, h => by
    have hy : B[k]? = some y := by
      have := congrArg (fun l => l[0]?) hB
      simpa using this
    have hB2 : B.drop (k + 1) = b := by
      have := congrArg (fun l => l.drop 1) hB
      simpa [List.drop_drop] using this
    have ih := apK_zip B a b (k + 1) hB2 (by simpa using h)
    rw [List.zipIdx_cons, List.filter_cons]
    unfold apK
    rw [← ih]
    by_cases h1 : x = 48
    · simp [h1]
    · by_cases h2 : y = flipN x
      · simp [h1, h2, hy]
      · simp [h1, h2, hy]
theorem apK_self : ∀ (k : Nat) (a : List Nat), (∀ c ∈ a, isSg c) → apK k a a = []
  | _, [], _ => rfl
  | k, x :: a, h => by
    unfold apK
    have : ¬ (x ≠ 48 ∧ x = flipN x) := by
      rcases h x List.mem_cons_self with rfl | rfl | rfl <;> simp [flipN]
    rw [if_neg this]
    exact apK_self (k + 1) a fun c hc => h c (List.mem_cons_of_mem _ hc)
/-- rows can be exchanged exactly if they are nowhere apart -/
theorem laid_comm : ∀ (k : Nat) (a b : List Nat), (∀ c ∈ a, isSg c) → (∀ c ∈ b, isSg c) → a.length = b.length → (laidN a b = laidN b a ↔ apK k a b = [])
  | k, [], [], _, _, _ => by simp [laidN, apK]
  | k, [], y :: b, _, _, h => by simp at h
  | k, x :: a, [], _, _, h => by simp at h
  | k, x :: a, y :: b, ha, hb, h => by
    have ih := laid_comm (k + 1) a b (fun c hc => ha c (List.mem_cons_of_mem _ hc)) (fun c hc => hb c (List.mem_cons_of_mem _ hc)) (by simpa using h)
    rw [laidN_cons, laidN_cons]
    unfold apK
    rcases ha x List.mem_cons_self with rfl | rfl | rfl <;> rcases hb y List.mem_cons_self with rfl | rfl | rfl <;> simp [flipN, ih]
/-- the pairs at which none is 0: whether they are equal -/
def prs : List Nat → List Nat → List Bool
  | x :: a, y :: b => if x ≠ 48 ∧ y ≠ 48 then decide (x = y) :: prs a b else prs a b
  | _, _ => []
theorem prs_zip : ∀ a b : List Nat, ((a.zip b).filter fun p => decide (p.1 ≠ 48) && decide (p.2 ≠ 48)).map (fun p => decide (p.1 = p.2)) = prs a b
  | [], b => by simp [prs]
  | x :: a, [] => by simp [prs]
  | x :: a, y :: b => by
    have ih := prs_zip a b
    rw [List.zip_cons_cons, List.filter_cons]
    unfold prs
    rw [← ih]
    by_cases h1 : x = 48
    · simp [h1]
    · by_cases h2 : y = 48
      · simp [h1, h2]
      · simp [h1, h2]
/-- upright -/
def upN (a b : List Nat) : Bool := decide (prs a b = []) || (decide (true ∈ prs a b) && decide (false ∈ prs a b))
theorem prs_comm : ∀ a b : List Nat, prs a b = prs b a
  | [], [] => rfl
  | [], y :: b => by simp [prs]
  | x :: a, [] => by simp [prs]
  | x :: a, y :: b => by
    unfold prs
    rw [prs_comm a b]
    by_cases h1 : x = 48 <;> by_cases h2 : y = 48 <;> simp [h1, h2, eq_comm]
theorem upN_comm (a b : List Nat) : upN a b = upN b a := by
  unfold upN
  rw [prs_comm]
/-- common things, as the law lists them -/
def cmK : Nat → List Nat → List Nat → List Nat
  | k, x :: a, y :: b => if x ≠ 48 ∧ y ≠ 48 then k :: cmK (k + 1) a b else cmK (k + 1) a b
  | _, _, _ => []
theorem cmK_zip (B : List Nat) : ∀ (a b : List Nat) (k : Nat), B.drop k = b → a.length = b.length →
    ((a.zipIdx k).filter (fun p => decide (p.1 ≠ 48) && decide (B[p.2]? ≠ some 48))).map (·.2) = cmK k a b
  | [], b, k, _, _ => by simp [cmK]
  | x :: a, [], k, _, h => by simp at h
  | x :: a, y :: b, k, hB, h => by
    have hy : B[k]? = some y := by
      have := congrArg (fun l => l[0]?) hB
      simpa using this
    have hB2 : B.drop (k + 1) = b := by
      have := congrArg (fun l => l.drop 1) hB
      simpa [List.drop_drop] using this
    have ih := cmK_zip B a b (k + 1) hB2 (by simpa using h)
    rw [List.zipIdx_cons, List.filter_cons]
    unfold cmK
    rw [← ih]
    by_cases h1 : x = 48
    · simp [h1]
    · by_cases h2 : y = 48
      · simp [h1, h2, hy]
      · simp [h1, h2, hy]
theorem cm_ap : ∀ (k : Nat) (a b : List Nat), (∀ c ∈ a, isSg c) → (∀ c ∈ b, isSg c) →
    (cmK k a b).length = (prs a b).length ∧ (apK k a b).length = (prs a b).count false
  | k, [], b, _, _ => by simp [cmK, apK, prs]
  | k, x :: a, [], _, _ => by simp [cmK, apK, prs]
  | k, x :: a, y :: b, ha, hb => by
    have ih := cm_ap (k + 1) a b (fun c hc => ha c (List.mem_cons_of_mem _ hc)) (fun c hc => hb c (List.mem_cons_of_mem _ hc))
    unfold cmK apK prs
    rcases ha x List.mem_cons_self with rfl | rfl | rfl <;> rcases hb y List.mem_cons_self with rfl | rfl | rfl <;> simp [flipN, ih]
theorem count_lt : ∀ l : List Bool, l.count false < l.length ↔ true ∈ l
  | [] => by simp
  | b :: l => by
    have ih := count_lt l
    have := List.count_le_length (a := false) (l := l)
    cases b
    · simp [List.count_cons, ih]
    · simp [List.count_cons]
      omega
/-- upright, as the law says it -/
theorem up_law (k : Nat) (a b : List Nat) (ha : ∀ c ∈ a, isSg c) (hb : ∀ c ∈ b, isSg c) :
    (decide (cmK k a b = []) || (decide (0 < (apK k a b).length) && decide ((apK k a b).length < (cmK k a b).length))) = upN a b := by
  obtain ⟨h1, h2⟩ := cm_ap k a b ha hb
  unfold upN
  have e1 : decide (cmK k a b = []) = decide (prs a b = []) := by
    refine decide_eq_decide.mpr ?_
    rw [← List.length_eq_zero_iff, ← List.length_eq_zero_iff (l := prs a b), h1]
  have e2 : decide (0 < (apK k a b).length) = decide (false ∈ prs a b) := by
    rw [h2]
    have : (0 < (prs a b).count false) ↔ false ∈ prs a b := List.count_pos_iff
    exact decide_eq_decide.mpr this
  have e3 : decide ((apK k a b).length < (cmK k a b).length) = decide (true ∈ prs a b) := by
    rw [h1, h2]
    exact decide_eq_decide.mpr (count_lt _)
  rw [e1, e2, e3, Bool.and_comm (decide (true ∈ prs a b))]
theorem prs_tA (th : List Nat) : ∀ (k : Nat) (a b : List Nat), (∀ c ∈ a, isSg c) → (∀ c ∈ b, isSg c) → prs (tA th k a) (tA th k b) = prs a b
  | k, [], b, _, _ => by simp [tA, prs]
  | k, x :: a, [], _, _ => by simp [tA, prs]
  | k, x :: a, y :: b, ha, hb => by
    have ih := prs_tA th (k + 1) a b (fun c hc => ha c (List.mem_cons_of_mem _ hc)) (fun c hc => hb c (List.mem_cons_of_mem _ hc))
    unfold tA prs
    rw [ih]
    by_cases hk : k ∈ th
    · rw [if_pos hk, if_pos hk]
      rcases ha x List.mem_cons_self with rfl | rfl | rfl <;> rcases hb y List.mem_cons_self with rfl | rfl | rfl <;> simp [flipN]
    · rw [if_neg hk, if_neg hk]
theorem apK_tA (th : List Nat) : ∀ (k : Nat) (a b : List Nat), (∀ c ∈ a, isSg c) → (∀ c ∈ b, isSg c) → apK k (tA th k a) (tA th k b) = apK k a b
  | k, [], b, _, _ => by simp [tA, apK]
  | k, x :: a, [], _, _ => by simp [tA, apK]
  | k, x :: a, y :: b, ha, hb => by
    have ih := apK_tA th (k + 1) a b (fun c hc => ha c (List.mem_cons_of_mem _ hc)) (fun c hc => hb c (List.mem_cons_of_mem _ hc))
    unfold tA apK
    rw [ih]
    by_cases hk : k ∈ th
    · rw [if_pos hk, if_pos hk]
      rcases ha x List.mem_cons_self with rfl | rfl | rfl <;> rcases hb y List.mem_cons_self with rfl | rfl | rfl <;> simp [flipN]
    · rw [if_neg hk, if_neg hk]
theorem upN_tA (th : List Nat) (k : Nat) (a b : List Nat) (ha : ∀ c ∈ a, isSg c) (hb : ∀ c ∈ b, isSg c) : upN (tA th k a) (tA th k b) = upN a b := by
  unfold upN
  rw [prs_tA th k a b ha hb]
/-- the things of a row; those that it lacks -/
def heldN (s : List Nat) : List Nat := (s.zipIdx.filter fun p => decide (p.1 ≠ 48)).map (·.2)
def zerosN (s : List Nat) : List Nat := (s.zipIdx.filter fun p => decide (p.1 = 48)).map (·.2)
theorem zeros_range (S : List Nat) : ∀ (s : List Nat) (k : Nat), S.drop k = s → ((s.zipIdx k).filter fun p => decide (p.1 = 48)).map (·.2) = ((List.range' k s.length).filter fun i => decide (S[i]? = some 48))
  | [], k, _ => rfl
  | c :: s, k, h => by
    have hy : S[k]? = some c := by
      have := congrArg (fun l => l[0]?) h
      simpa using this
    have h2 : S.drop (k + 1) = s := by
      have := congrArg (fun l => l.drop 1) h
      simpa [List.drop_drop] using this
    have ih := zeros_range S s (k + 1) h2
    rw [List.zipIdx_cons, List.filter_cons, List.length_cons, List.range'_succ, List.filter_cons, ← ih]
    by_cases hc : c = 48
    · simp [hc, hy]
    · simp [hc, hy]
/-- stores, one after the other -/
theorem foldl_set (f : Nat → Nat) : ∀ (th : List Nat) (l : List Nat) (i : Nat), (th.foldl (fun l t => l.set t (f t)) l)[i]? = if i < l.length then (if i ∈ th then some (f i) else l[i]?) else none
  | [], l, i => by
    simp
  | t :: th, l, i => by
    rw [List.foldl_cons, foldl_set f th (l.set t (f t)) i, List.length_set]
    by_cases hi : i < l.length
    · rw [if_pos hi, if_pos hi]
      by_cases h1 : i ∈ th
      · rw [if_pos h1, if_pos (List.mem_cons_of_mem _ h1)]
      · rw [if_neg h1]
        by_cases h2 : i = t
        · subst h2
          rw [if_pos List.mem_cons_self, List.getElem?_set_self hi]
        · rw [if_neg (by simp [h1, h2]), List.getElem?_set_ne (Ne.symm h2)]
    · rw [if_neg hi, if_neg hi]
end PN

namespace PN
/-- signs at things -/
def sgN (s th : List Nat) : List Nat := th.map fun t => s.getD t 48
theorem sgN_len (s th : List Nat) : (sgN s th).length = th.length := by simp [sgN]
/-- spread rows, as the program makes them: stores, one after the other -/
def putN (ps : List (Nat × Nat)) (l : List Nat) : List Nat := ps.foldl (fun l p => l.set p.1 p.2) l
theorem putN_len : ∀ (ps : List (Nat × Nat)) (l : List Nat), (putN ps l).length = l.length
  | [], _ => rfl
  | p :: ps, l => by
    show (putN ps (l.set p.1 p.2)).length = _
    rw [putN_len ps, List.length_set]
theorem putN_map (f : Nat → Nat) : ∀ (th l : List Nat), putN (th.map fun t => (t, f t)) l = th.foldl (fun l t => l.set t (f t)) l
  | [], _ => rfl
  | t :: th, l => by
    show putN (th.map fun t => (t, f t)) (l.set t (f t)) = _
    rw [putN_map f th]
    rfl
/-- as the law makes them -/
def dueN (s th : List Nat) (most : Nat) : List Nat := ((List.range s.length).map fun i => if i ∈ th then s.getD i 48 else 48) ++ List.replicate (most - s.length) 48
theorem spread_due (s th : List Nat) (most : Nat) (h : s.length ≤ most) (ht : ∀ t ∈ th, t < s.length) : putN (th.map fun t => (t, s.getD t 48)) (List.replicate most 48) = dueN s th most := by
  rw [putN_map]
  apply List.ext_getElem?
  intro i
  rw [foldl_set, List.length_replicate]
  unfold dueN
  by_cases h1 : i < s.length
  · rw [if_pos (by omega), List.getElem?_append_left (by simpa using h1), List.getElem?_map, List.getElem?_range h1]
    by_cases hm : i ∈ th
    · simp [hm]
    · rw [if_neg hm, List.getElem?_replicate, if_pos (by omega)]
      simp [hm]
  · have hm : i ∉ th := fun z => h1 (ht i z)
    rw [List.getElem?_append_right (by simpa using h1)]
    by_cases h2 : i < most
    · rw [if_pos h2, if_neg hm, List.getElem?_replicate, if_pos h2, List.getElem?_replicate, if_pos (by simp; omega)]
    · rw [if_neg h2, List.getElem?_replicate, if_neg (by simp; omega)]
end PN

namespace DL
open PySem L2
/-- dice -/
def Dc (d : D) : Prop := ∃ a b c : Int, d = .lst [.int a, .int b, .int c]
def rollM : M Fl := (bCons (sIf (tB1 (e2 dGt (e2 dIx (eVar 0) (eC (.int 0))) (eC (.int 0)))) (bCons (sSet 2 (e2 dMod (eCB dInt (aCons (e2 dIx (eVar 0) (eC (.int 0))) aNil)) (eVar 1))) (bCons (sPut 0 (eC (.int 0)) (e2 dFdiv (e2 dIx (eVar 0) (eC (.int 0))) (eVar 1))) (sRet (eVar 2)))) bNil) (bCons (sPut 0 (eC (.int 2)) (e2 dAdd (e2 dIx (eVar 0) (eC (.int 2))) (eC (.int 1)))) (bCons (sSet 3 (e2 dMod (eCB dInt (aCons (e2 dAdd (e2 dIx (eVar 0) (eC (.int 1))) (e2 dMul (eC (.int 104395303)) (e2 dIx (eVar 0) (eC (.int 2))))) aNil)) (eC (.int 2305843009213693487)))) (bCons (sSet 4 (e2 dAdd (e2 dMul (e2 dMod (eCB dInt (aCons (e2 dAdd (e2 dMul (eVar 3) (eVar 3)) (e2 dMul (eC (.int 113)) (e2 dIx (eVar 0) (eC (.int 2))))) aNil)) (eC (.int 2305843009213693223))) (eC (.int 3497861))) (eVar 3))) (sRet (e2 dMod (eCB dInt (aCons (e2 dFdiv (eVar 4) (eC (.int 65536))) aNil)) (eVar 1)))))))
def diceM : M Fl := (bCons (sSet 2 (eIf (tB1 (e2 dLt (eVar 1) (eCB dLen (aCons (eVar 0) aNil)))) (eCB dInt (aCons (e2 dIx (eVar 0) (eVar 1)) aNil)) (e2 dAdd (e2 dMul (eC (.int 89)) (eVar 1)) (eC (.int 53))))) (bCons (sSet 3 (e2 dMod (eCB dMax2 (aCons (eC (.int 0)) (aCons (e2 dSub (eCB dAbs (aCons (eVar 2) aNil)) (e2 dPow (eC (.int 10)) (eC (.int 16)))) aNil))) (e2 dMul (e2 dPow (eC (.int 10)) (eC (.int 60))) (e2 dPow (eC (.int 10)) (eC (.int 60)))))) (sRet (eLst (aCons (eVar 3) (aCons (e2 dAdd (e2 dAdd (e2 dAdd (e2 dMul (e2 dMod (eCB dAbs (aCons (eVar 2) aNil)) (eC (.int 1152921504606846397))) (eC (.int 73))) (e2 dMul (eC (.int 811)) (eVar 1))) (e2 dMul (eC (.int 43)) (eCB dInt (aCons (e2 dLt (eVar 2) (eC (.int 0))) aNil)))) (eC (.int 19))) (aCons (eC (.int 0)) aNil)))))))
theorem big64_lit {x : Int} (h1 : -18446744073709551616 < x) (h2 : x < 18446744073709551616) : big64 x = true := decide_eq_true ⟨h1, h2⟩
theorem dMul_l {x y : Int} (h : big64 x = true) : dMul (.int x) (.int y) = some (.val (.int (x * y))) := by
  simp only [dMul, h, Bool.true_or, if_true, ri]
theorem dMul_r {x y : Int} (h : big64 y = true) : dMul (.int x) (.int y) = some (.val (.int (x * y))) := by
  simp only [dMul, h, Bool.true_or, Bool.or_true, if_true, ri]
theorem dMod_p {x y : Int} (h : 0 < y) : dMod (.int x) (.int y) = some (.val (.int (x % y))) := by
  simp only [dMod, h, if_true, ri]
theorem dFdiv_p {x y : Int} (h : 0 < y) (h4 : big4k y = true) : dFdiv (.int x) (.int y) = some (.val (.int (x / y))) := by
  simp only [dFdiv, h, h4, decide_true, Bool.and_self, if_true, ri]
theorem ix0 (a b c : D) : dIx (.lst [a, b, c]) (.int 0) = some (.val a) := rfl
theorem ix1 (a b c : D) : dIx (.lst [a, b, c]) (.int 1) = some (.val b) := rfl
theorem ix2 (a b c : D) : dIx (.lst [a, b, c]) (.int 2) = some (.val c) := rfl
theorem p_roll (a b c t : Int) (ht : 0 < t) (h4 : big4k t = true) : ∃ r a' c' : Int, 0 ≤ r ∧ r < t ∧ Rets0 (rollM (startD 5 [.ow (.lst [.int a, .int b, .int c]), .fz (.int t)])) (.int r) (.lst [.int a', .int b, .int c']) := by
  by_cases ha : 0 < a
  · refine ⟨a % t, a / t, c, Int.emod_nonneg _ (by omega), Int.emod_lt_of_pos _ ht, ?_⟩
    have e : dGt (.int a) (.int 0) = some (.val (.bl true)) := by
      show some (Rn.val (.bl (decide (0 < a)))) = _
      rw [decide_eq_true ha]
    have hi : ixN 3 0 = some 0 := rfl
    simp only [rollM, bind_ok, bind_exc, bind_stuck, q_eVar, q_kVar1, q_kVar2, q_eC, q_peek1, q_peek2, q_peek3, q_kPk1, q_kPk2, q_frz1, q_frz2, q_frz3, q_kFz1, q_kFz2, q_peekL0, q_peekL1, q_kpl1, q_kfl1, q_kpl2, q_frzL0, q_frzL1, q_ans1, q_ans2, q_ans3, q_k2_eCB, q_k1_eCB, q_eCB, q_k2_e1, q_k1_e1, q_e1, q_k4_e2, q_k3_e2, q_k2_e2, q_k1_e2, q_e2, q_kch1, q_kch2, q_kch3, q_kch4, q_k4_e3c, q_k3_e3c, q_k2_e3c, q_k1_e3c, q_e3c, q_eIf, q_kIfE1, q_kIfE2, q_eAnd, q_kAnd1, q_kAnd2, q_eOr, q_kOr1, q_kOr2, q_eNot, q_kNot, q_eTup, q_eLst, q_kTup1, q_kLst1, q_kTupN0, q_kLstN0, q_kTupN1, q_kLstN1, q_kTupN2, q_kLstN2, q_kTupN3, q_kLstN3, q_kTupN4, q_kLstN4, q_kTupN5, q_kLstN5, q_kTupN6, q_kLstN6, q_kTupN7, q_kLstN7, q_kTupN8, q_kLstN8, q_kTupN9, q_kLstN9, q_pNo, q_pSo, q_kSo, q_k4_eSl, q_k3_eSl, q_k2_eSl, q_k1_eSl, q_eSl, q_eJoin, q_kJ0, q_kJ1, q_kJ2, q_k1_eCall, q_eCall, q_aNil, q_k2_aCons, q_k1_aCons, q_aCons, q_k2_eFz, q_k1_eFz, q_eFz, q_tB1, q_kB1, q_tTru, q_kTr0, q_kTr1, q_kTrb, q_truthB, q_kTr2, q_tAnd, q_tOr, q_tNot, q_kTA1, q_kTA2, q_kTO1, q_kTO2, q_kTN, q_tTrue, q_bNil, q_bCons, q_kBC1, q_kBC2, q_kBC3, q_kBC4, q_sPass, q_sBreak, q_sCont, q_sRetN, q_sExpr, q_kEx, q_sRet, q_kRt, q_sIf, q_kIf1, q_kIf2, q_kU, q_sSet, q_kSet, q_set1, q_set2, q_set3, q_kSl1, q_kSl2, q_gNm, q_gNms0, q_gNms1, q_kGs, q_gTp, q_gSq1, q_gSq2, q_sAsg, q_kAs0, q_kAs1, q_sAug, q_kAug, q_kAug1, q_kAug2, q_kAug3, q_eIter, q_kIt0, q_kIt1, q_kIt2, q_iRng, q_kRg0, q_kRg1, q_iZip, q_kZp1, q_kZp2, q_iEnum, q_kEn1, q_kEn2, q_sFor, q_kFor, q_sWhile, q_sPar, q_kPr0, q_kPr1, q_kPr2, q_kPr3, q_noPk1, q_noPk2, q_sPar3, q_kPt0, q_kPt1, q_kPt2, q_kPt3, q_kPt4, q_eMt, q_kMt0, q_kMt1, q_kMt1b, q_kMt2, q_kMt3, q_rdA1, q_rdA2, q_sPut, q_kPu0, q_kPu1, q_kPu2, q_kPu2b, q_kPu3, q_kPu4, q_stepL, q_kStw, q_kStx1, q_kStx2, q_kSty, q_kStz, startD_c, startD_n, startD_0, wipeD, backD, List.map_cons, List.map_nil, List.append_nil, List.nil_append, List.cons_append, List.getElem?_cons_zero, List.getElem?_cons_succ, List.set_cons_zero, List.set_cons_succ, List.length_cons, List.length_nil, Nat.reduceAdd, Nat.reduceLT, Nat.reduceLeDiff, Nat.zero_lt_succ, Nat.zero_lt_one, Bool.not_true, Bool.not_false, Bool.and_self, Bool.and_true, Bool.true_and, Bool.or_false, Bool.false_or, Bool.false_and, Bool.and_false, Bool.or_true, Bool.true_or, rets_ok, retsO_ok, retsN_ok, rets0_ok, true_and, and_true, and_self, y_kIfE, y_kTA, y_kTO, y_kAnd, y_kOr, y_kStx, y_if, y_fz, y_and, y_or, y_andD, y_orD, if_true, if_false, Bool.false_eq_true, Bool.true_eq_false, reduceIte, rb, ri, rs, Option.map_some, Option.bind_some, itemsOf, itemsZ, ix0, ix1, ix2, e, dMod_p ht, dFdiv_p ht h4, dInt, hi, rets0_ok]
  · have e : dGt (.int a) (.int 0) = some (.val (.bl false)) := by
      show some (Rn.val (.bl (decide (0 < a)))) = _
      rw [decide_eq_false ha]
    have hi : ixN 3 2 = some 2 := rfl
    have b1 : big64 104395303 = true := by decide
    have b2 : big64 113 = true := by decide
    have b3 : big64 3497861 = true := by decide
    have k1 : (0 : Int) < 2305843009213693487 := by decide
    have k2 : (0 : Int) < 2305843009213693223 := by decide
    have k3 : big4k 65536 = true := by decide +kernel
    have k4 : (0 : Int) < 65536 := by decide
    have hx : ∀ x : Int, big64 (x % 2305843009213693487) = true := fun x => by
      have h1 := Int.emod_nonneg x (b := 2305843009213693487) (by decide)
      have h2 := Int.emod_lt_of_pos x k1
      exact big64_lit (by omega) (by omega)
    refine ⟨(((((b + 104395303 * (c + 1)) % 2305843009213693487) * ((b + 104395303 * (c + 1)) % 2305843009213693487) + 113 * (c + 1)) % 2305843009213693223 * 3497861 + (b + 104395303 * (c + 1)) % 2305843009213693487) / 65536) % t, a, c + 1, Int.emod_nonneg _ (by omega), Int.emod_lt_of_pos _ ht, ?_⟩
    · simp only [rollM, bind_ok, bind_exc, bind_stuck, q_eVar, q_kVar1, q_kVar2, q_eC, q_peek1, q_peek2, q_peek3, q_kPk1, q_kPk2, q_frz1, q_frz2, q_frz3, q_kFz1, q_kFz2, q_peekL0, q_peekL1, q_kpl1, q_kfl1, q_kpl2, q_frzL0, q_frzL1, q_ans1, q_ans2, q_ans3, q_k2_eCB, q_k1_eCB, q_eCB, q_k2_e1, q_k1_e1, q_e1, q_k4_e2, q_k3_e2, q_k2_e2, q_k1_e2, q_e2, q_kch1, q_kch2, q_kch3, q_kch4, q_k4_e3c, q_k3_e3c, q_k2_e3c, q_k1_e3c, q_e3c, q_eIf, q_kIfE1, q_kIfE2, q_eAnd, q_kAnd1, q_kAnd2, q_eOr, q_kOr1, q_kOr2, q_eNot, q_kNot, q_eTup, q_eLst, q_kTup1, q_kLst1, q_kTupN0, q_kLstN0, q_kTupN1, q_kLstN1, q_kTupN2, q_kLstN2, q_kTupN3, q_kLstN3, q_kTupN4, q_kLstN4, q_kTupN5, q_kLstN5, q_kTupN6, q_kLstN6, q_kTupN7, q_kLstN7, q_kTupN8, q_kLstN8, q_kTupN9, q_kLstN9, q_pNo, q_pSo, q_kSo, q_k4_eSl, q_k3_eSl, q_k2_eSl, q_k1_eSl, q_eSl, q_eJoin, q_kJ0, q_kJ1, q_kJ2, q_k1_eCall, q_eCall, q_aNil, q_k2_aCons, q_k1_aCons, q_aCons, q_k2_eFz, q_k1_eFz, q_eFz, q_tB1, q_kB1, q_tTru, q_kTr0, q_kTr1, q_kTrb, q_truthB, q_kTr2, q_tAnd, q_tOr, q_tNot, q_kTA1, q_kTA2, q_kTO1, q_kTO2, q_kTN, q_tTrue, q_bNil, q_bCons, q_kBC1, q_kBC2, q_kBC3, q_kBC4, q_sPass, q_sBreak, q_sCont, q_sRetN, q_sExpr, q_kEx, q_sRet, q_kRt, q_sIf, q_kIf1, q_kIf2, q_kU, q_sSet, q_kSet, q_set1, q_set2, q_set3, q_kSl1, q_kSl2, q_gNm, q_gNms0, q_gNms1, q_kGs, q_gTp, q_gSq1, q_gSq2, q_sAsg, q_kAs0, q_kAs1, q_sAug, q_kAug, q_kAug1, q_kAug2, q_kAug3, q_eIter, q_kIt0, q_kIt1, q_kIt2, q_iRng, q_kRg0, q_kRg1, q_iZip, q_kZp1, q_kZp2, q_iEnum, q_kEn1, q_kEn2, q_sFor, q_kFor, q_sWhile, q_sPar, q_kPr0, q_kPr1, q_kPr2, q_kPr3, q_noPk1, q_noPk2, q_sPar3, q_kPt0, q_kPt1, q_kPt2, q_kPt3, q_kPt4, q_eMt, q_kMt0, q_kMt1, q_kMt1b, q_kMt2, q_kMt3, q_rdA1, q_rdA2, q_sPut, q_kPu0, q_kPu1, q_kPu2, q_kPu2b, q_kPu3, q_kPu4, q_stepL, q_kStw, q_kStx1, q_kStx2, q_kSty, q_kStz, startD_c, startD_n, startD_0, wipeD, backD, List.map_cons, List.map_nil, List.append_nil, List.nil_append, List.cons_append, List.getElem?_cons_zero, List.getElem?_cons_succ, List.set_cons_zero, List.set_cons_succ, List.length_cons, List.length_nil, Nat.reduceAdd, Nat.reduceLT, Nat.reduceLeDiff, Nat.zero_lt_succ, Nat.zero_lt_one, Bool.not_true, Bool.not_false, Bool.and_self, Bool.and_true, Bool.true_and, Bool.or_false, Bool.false_or, Bool.false_and, Bool.and_false, Bool.or_true, Bool.true_or, rets_ok, retsO_ok, retsN_ok, rets0_ok, true_and, and_true, and_self, y_kIfE, y_kTA, y_kTO, y_kAnd, y_kOr, y_kStx, y_if, y_fz, y_and, y_or, y_andD, y_orD, if_true, if_false, Bool.false_eq_true, Bool.true_eq_false, reduceIte, rb, ri, rs, Option.map_some, Option.bind_some, itemsOf, itemsZ, ix0, ix1, ix2, e, dMod_p ht, dMod_p k1, dMod_p k2, dMul_l b1, dMul_l b2, dMul_r b3, dFdiv_p k4 k3, dMul_l (hx _), dInt, dAdd, hi, rets0_ok]
/-- a roll with the dice in the first slot -/
theorem roll_run {d : D} (h : Dc d) (t : Nat) (ht : 0 < t) (h4 : t < 2 ^ 62) : ∃ (r : Nat) (d' : D), r < t ∧ Dc d' ∧ ∀ rest : SD, callD 2 2 5 rollM [] [.pk 0, .fz (.int (t : Nat))] (some (.ow d) :: rest) = .ok (.fz (.int (r : Nat))) (some (.ow d') :: rest) := by
  obtain ⟨a, b, c, rfl⟩ := h
  obtain ⟨r, a', c', h1, h2, h3⟩ := p_roll a b c (t : Int) (by omega) (by
    refine decide_eq_true ?_
    rw [Int.natAbs_natCast]
    exact Nat.lt_trans h4 (Nat.pow_lt_pow_right (by decide) (by decide)))
  refine ⟨r.toNat, _, by omega, ⟨a', b, c', rfl⟩, fun rest => ?_⟩
  rw [show ((r.toNat : Nat) : Int) = r by omega]
  exact call_l (as := [.int (t : Int)]) (σ := some (.ow (.lst [.int a, .int b, .int c])) :: rest) (by decide) rfl rfl (by decide) h3
theorem pow16 : dPow (.int 10) (.int 16) = some (.val (.int 10000000000000000)) := by
  show (if (0:Int) ≤ 16 ∧ (16:Int) ≤ 1000000 ∧ (10:Int).natAbs < 2 ^ 64 then ri ((10:Int) ^ (16:Int).toNat) else none) = _
  rw [if_pos (by decide)]
  rfl
theorem pow60 : dPow (.int 10) (.int 60) = some (.val (.int 1000000000000000000000000000000000000000000000000000000000000)) := by
  show (if (0:Int) ≤ 60 ∧ (60:Int) ≤ 1000000 ∧ (10:Int).natAbs < 2 ^ 64 then ri ((10:Int) ^ (60:Int).toNat) else none) = _
  rw [if_pos (by decide)]
  rfl
theorem pow120 : dMul (.int 1000000000000000000000000000000000000000000000000000000000000) (.int 1000000000000000000000000000000000000000000000000000000000000) = some (.val (.int 1000000000000000000000000000000000000000000000000000000000000000000000000000000000000000000000000000000000000000000000000)) := by
  show (if big64 1000000000000000000000000000000000000000000000000000000000000 || big64 1000000000000000000000000000000000000000000000000000000000000 || (big4k 1000000000000000000000000000000000000000000000000000000000000 && big4k 1000000000000000000000000000000000000000000000000000000000000) then ri (1000000000000000000000000000000000000000000000000000000000000 * 1000000000000000000000000000000000000000000000000000000000000) else none) = _
  rw [if_pos (by decide +kernel)]
  rfl
/-- what is made of a cell -/
theorem dice_rest (s i : D) (c x y z u v w t a1 a2 a3 a4 a5 a6 : Int) (b : Bool) (h1 : dAbs [.int c] = some (.val (.int x))) (p16 : dPow (.int 10) (.int 16) = some (.val (.int a1))) (p60 : dPow (.int 10) (.int 60) = some (.val (.int a2)))
    (h2 : dSub (.int x) (.int a1) = some (.val (.int y))) (h3 : dMax2 [.int 0, .int y] = some (.val (.int z))) (h4 : dMul (.int a2) (.int a2) = some (.val (.int a3))) (h5 : dMod (.int z) (.int a3) = some (.val (.int u)))
    (h6 : dMod (.int x) (.int 1152921504606846397) = some (.val (.int v))) (h7 : dMul (.int v) (.int 73) = some (.val (.int w))) (h8 : dMul (.int 811) i = some (.val (.int t))) (h9 : dAdd (.int w) (.int t) = some (.val (.int a4)))
    (h10 : dLt (.int c) (.int 0) = some (.val (.bl b))) (h11 : dInt [.bl b] = some (.val (.int a5))) (h12 : dMul (.int 43) (.int a5) = some (.val (.int a6))) (k1 k2 : Int) (h13 : dAdd (.int a4) (.int a6) = some (.val (.int k1))) (h14 : dAdd (.int k1) (.int 19) = some (.val (.int k2)))
    (pre : eIf (tB1 (e2 dLt (eVar 1) (eCB dLen (aCons (eVar 0) aNil)))) (eCB dInt (aCons (e2 dIx (eVar 0) (eVar 1)) aNil)) (e2 dAdd (e2 dMul (eC (.int 89)) (eVar 1)) (eC (.int 53))) [some (.fz s), some (.fz i), none, none] = .ok (.fz (.int c)) [some (.fz s), some (.fz i), none, none]) :
    RetsO (diceM (startD 4 [.fz s, .fz i])) (.lst [.int u, .int k2, .int 0]) := by
  simp only [diceM, bind_ok, bind_exc, bind_stuck, q_eVar, q_kVar1, q_kVar2, q_eC, q_peek1, q_peek2, q_peek3, q_kPk1, q_kPk2, q_frz1, q_frz2, q_frz3, q_kFz1, q_kFz2, q_peekL0, q_peekL1, q_kpl1, q_kfl1, q_kpl2, q_frzL0, q_frzL1, q_ans1, q_ans2, q_ans3, q_k2_eCB, q_k1_eCB, q_eCB, q_k2_e1, q_k1_e1, q_e1, q_k4_e2, q_k3_e2, q_k2_e2, q_k1_e2, q_e2, q_kch1, q_kch2, q_kch3, q_kch4, q_k4_e3c, q_k3_e3c, q_k2_e3c, q_k1_e3c, q_e3c, q_eIf, q_kIfE1, q_kIfE2, q_eAnd, q_kAnd1, q_kAnd2, q_eOr, q_kOr1, q_kOr2, q_eNot, q_kNot, q_eTup, q_eLst, q_kTup1, q_kLst1, q_kTupN0, q_kLstN0, q_kTupN1, q_kLstN1, q_kTupN2, q_kLstN2, q_kTupN3, q_kLstN3, q_kTupN4, q_kLstN4, q_kTupN5, q_kLstN5, q_kTupN6, q_kLstN6, q_kTupN7, q_kLstN7, q_kTupN8, q_kLstN8, q_kTupN9, q_kLstN9, q_pNo, q_pSo, q_kSo, q_k4_eSl, q_k3_eSl, q_k2_eSl, q_k1_eSl, q_eSl, q_eJoin, q_kJ0, q_kJ1, q_kJ2, q_k1_eCall, q_eCall, q_aNil, q_k2_aCons, q_k1_aCons, q_aCons, q_k2_eFz, q_k1_eFz, q_eFz, q_tB1, q_kB1, q_tTru, q_kTr0, q_kTr1, q_kTrb, q_truthB, q_kTr2, q_tAnd, q_tOr, q_tNot, q_kTA1, q_kTA2, q_kTO1, q_kTO2, q_kTN, q_tTrue, q_bNil, q_bCons, q_kBC1, q_kBC2, q_kBC3, q_kBC4, q_sPass, q_sBreak, q_sCont, q_sRetN, q_sExpr, q_kEx, q_sRet, q_kRt, q_sIf, q_kIf1, q_kIf2, q_kU, q_sSet, q_kSet, q_set1, q_set2, q_set3, q_kSl1, q_kSl2, q_gNm, q_gNms0, q_gNms1, q_kGs, q_gTp, q_gSq1, q_gSq2, q_sAsg, q_kAs0, q_kAs1, q_sAug, q_kAug, q_kAug1, q_kAug2, q_kAug3, q_eIter, q_kIt0, q_kIt1, q_kIt2, q_iRng, q_kRg0, q_kRg1, q_iZip, q_kZp1, q_kZp2, q_iEnum, q_kEn1, q_kEn2, q_sFor, q_kFor, q_sWhile, q_sPar, q_kPr0, q_kPr1, q_kPr2, q_kPr3, q_noPk1, q_noPk2, q_sPar3, q_kPt0, q_kPt1, q_kPt2, q_kPt3, q_kPt4, q_eMt, q_kMt0, q_kMt1, q_kMt1b, q_kMt2, q_kMt3, q_rdA1, q_rdA2, q_sPut, q_kPu0, q_kPu1, q_kPu2, q_kPu2b, q_kPu3, q_kPu4, q_stepL, q_kStw, q_kStx1, q_kStx2, q_kSty, q_kStz, startD_c, startD_n, startD_0, wipeD, backD, List.map_cons, List.map_nil, List.append_nil, List.nil_append, List.cons_append, List.getElem?_cons_zero, List.getElem?_cons_succ, List.set_cons_zero, List.set_cons_succ, List.length_cons, List.length_nil, Nat.reduceAdd, Nat.reduceLT, Nat.reduceLeDiff, Nat.zero_lt_succ, Nat.zero_lt_one, Bool.not_true, Bool.not_false, Bool.and_self, Bool.and_true, Bool.true_and, Bool.or_false, Bool.false_or, Bool.false_and, Bool.and_false, Bool.or_true, Bool.true_or, rets_ok, retsO_ok, retsN_ok, rets0_ok, true_and, and_true, and_self, ↓pre, h1, p16, p60, h2, h3, h4, h5, h6, h7, h8, h9, h10, h11, h12, h13, h14]
theorem dice_cell (s i : D) (b : Bool) (n c c1 c2 : D) (h1 : dLen [s] = some (.val n)) (h2 : dLt i n = some (.val (.bl b))) (h3 : b = true → dIx s i = some (.val c) ∧ dInt [c] = some (.val c)) (h4 : b = false → dMul (.int 89) i = some (.val c1) ∧ dAdd c1 (.int 53) = some (.val c)) :
    eIf (tB1 (e2 dLt (eVar 1) (eCB dLen (aCons (eVar 0) aNil)))) (eCB dInt (aCons (e2 dIx (eVar 0) (eVar 1)) aNil)) (e2 dAdd (e2 dMul (eC (.int 89)) (eVar 1)) (eC (.int 53))) [some (.fz s), some (.fz i), none, none] = .ok (.fz c) [some (.fz s), some (.fz i), none, none] := by
  cases b
  · obtain ⟨k1, k2⟩ := h4 rfl
    simp only [bind_ok, bind_exc, bind_stuck, q_eVar, q_kVar1, q_kVar2, q_eC, q_peek1, q_peek2, q_peek3, q_kPk1, q_kPk2, q_frz1, q_frz2, q_frz3, q_kFz1, q_kFz2, q_peekL0, q_peekL1, q_kpl1, q_kfl1, q_kpl2, q_frzL0, q_frzL1, q_ans1, q_ans2, q_ans3, q_k2_eCB, q_k1_eCB, q_eCB, q_k2_e1, q_k1_e1, q_e1, q_k4_e2, q_k3_e2, q_k2_e2, q_k1_e2, q_e2, q_kch1, q_kch2, q_kch3, q_kch4, q_k4_e3c, q_k3_e3c, q_k2_e3c, q_k1_e3c, q_e3c, q_eIf, q_kIfE1, q_kIfE2, q_eAnd, q_kAnd1, q_kAnd2, q_eOr, q_kOr1, q_kOr2, q_eNot, q_kNot, q_eTup, q_eLst, q_kTup1, q_kLst1, q_kTupN0, q_kLstN0, q_kTupN1, q_kLstN1, q_kTupN2, q_kLstN2, q_kTupN3, q_kLstN3, q_kTupN4, q_kLstN4, q_kTupN5, q_kLstN5, q_kTupN6, q_kLstN6, q_kTupN7, q_kLstN7, q_kTupN8, q_kLstN8, q_kTupN9, q_kLstN9, q_pNo, q_pSo, q_kSo, q_k4_eSl, q_k3_eSl, q_k2_eSl, q_k1_eSl, q_eSl, q_eJoin, q_kJ0, q_kJ1, q_kJ2, q_k1_eCall, q_eCall, q_aNil, q_k2_aCons, q_k1_aCons, q_aCons, q_k2_eFz, q_k1_eFz, q_eFz, q_tB1, q_kB1, q_tTru, q_kTr0, q_kTr1, q_kTrb, q_truthB, q_kTr2, q_tAnd, q_tOr, q_tNot, q_kTA1, q_kTA2, q_kTO1, q_kTO2, q_kTN, q_tTrue, q_bNil, q_bCons, q_kBC1, q_kBC2, q_kBC3, q_kBC4, q_sPass, q_sBreak, q_sCont, q_sRetN, q_sExpr, q_kEx, q_sRet, q_kRt, q_sIf, q_kIf1, q_kIf2, q_kU, q_sSet, q_kSet, q_set1, q_set2, q_set3, q_kSl1, q_kSl2, q_gNm, q_gNms0, q_gNms1, q_kGs, q_gTp, q_gSq1, q_gSq2, q_sAsg, q_kAs0, q_kAs1, q_sAug, q_kAug, q_kAug1, q_kAug2, q_kAug3, q_eIter, q_kIt0, q_kIt1, q_kIt2, q_iRng, q_kRg0, q_kRg1, q_iZip, q_kZp1, q_kZp2, q_iEnum, q_kEn1, q_kEn2, q_sFor, q_kFor, q_sWhile, q_sPar, q_kPr0, q_kPr1, q_kPr2, q_kPr3, q_noPk1, q_noPk2, q_sPar3, q_kPt0, q_kPt1, q_kPt2, q_kPt3, q_kPt4, q_eMt, q_kMt0, q_kMt1, q_kMt1b, q_kMt2, q_kMt3, q_rdA1, q_rdA2, q_sPut, q_kPu0, q_kPu1, q_kPu2, q_kPu2b, q_kPu3, q_kPu4, q_stepL, q_kStw, q_kStx1, q_kStx2, q_kSty, q_kStz, startD_c, startD_n, startD_0, wipeD, backD, List.map_cons, List.map_nil, List.append_nil, List.nil_append, List.cons_append, List.getElem?_cons_zero, List.getElem?_cons_succ, List.set_cons_zero, List.set_cons_succ, List.length_cons, List.length_nil, Nat.reduceAdd, Nat.reduceLT, Nat.reduceLeDiff, Nat.zero_lt_succ, Nat.zero_lt_one, Bool.not_true, Bool.not_false, Bool.and_self, Bool.and_true, Bool.true_and, Bool.or_false, Bool.false_or, Bool.false_and, Bool.and_false, Bool.or_true, Bool.true_or, rets_ok, retsO_ok, retsN_ok, rets0_ok, true_and, and_true, and_self, h1, h2, k1, k2]
  · obtain ⟨k1, k2⟩ := h3 rfl
    simp only [bind_ok, bind_exc, bind_stuck, q_eVar, q_kVar1, q_kVar2, q_eC, q_peek1, q_peek2, q_peek3, q_kPk1, q_kPk2, q_frz1, q_frz2, q_frz3, q_kFz1, q_kFz2, q_peekL0, q_peekL1, q_kpl1, q_kfl1, q_kpl2, q_frzL0, q_frzL1, q_ans1, q_ans2, q_ans3, q_k2_eCB, q_k1_eCB, q_eCB, q_k2_e1, q_k1_e1, q_e1, q_k4_e2, q_k3_e2, q_k2_e2, q_k1_e2, q_e2, q_kch1, q_kch2, q_kch3, q_kch4, q_k4_e3c, q_k3_e3c, q_k2_e3c, q_k1_e3c, q_e3c, q_eIf, q_kIfE1, q_kIfE2, q_eAnd, q_kAnd1, q_kAnd2, q_eOr, q_kOr1, q_kOr2, q_eNot, q_kNot, q_eTup, q_eLst, q_kTup1, q_kLst1, q_kTupN0, q_kLstN0, q_kTupN1, q_kLstN1, q_kTupN2, q_kLstN2, q_kTupN3, q_kLstN3, q_kTupN4, q_kLstN4, q_kTupN5, q_kLstN5, q_kTupN6, q_kLstN6, q_kTupN7, q_kLstN7, q_kTupN8, q_kLstN8, q_kTupN9, q_kLstN9, q_pNo, q_pSo, q_kSo, q_k4_eSl, q_k3_eSl, q_k2_eSl, q_k1_eSl, q_eSl, q_eJoin, q_kJ0, q_kJ1, q_kJ2, q_k1_eCall, q_eCall, q_aNil, q_k2_aCons, q_k1_aCons, q_aCons, q_k2_eFz, q_k1_eFz, q_eFz, q_tB1, q_kB1, q_tTru, q_kTr0, q_kTr1, q_kTrb, q_truthB, q_kTr2, q_tAnd, q_tOr, q_tNot, q_kTA1, q_kTA2, q_kTO1, q_kTO2, q_kTN, q_tTrue, q_bNil, q_bCons, q_kBC1, q_kBC2, q_kBC3, q_kBC4, q_sPass, q_sBreak, q_sCont, q_sRetN, q_sExpr, q_kEx, q_sRet, q_kRt, q_sIf, q_kIf1, q_kIf2, q_kU, q_sSet, q_kSet, q_set1, q_set2, q_set3, q_kSl1, q_kSl2, q_gNm, q_gNms0, q_gNms1, q_kGs, q_gTp, q_gSq1, q_gSq2, q_sAsg, q_kAs0, q_kAs1, q_sAug, q_kAug, q_kAug1, q_kAug2, q_kAug3, q_eIter, q_kIt0, q_kIt1, q_kIt2, q_iRng, q_kRg0, q_kRg1, q_iZip, q_kZp1, q_kZp2, q_iEnum, q_kEn1, q_kEn2, q_sFor, q_kFor, q_sWhile, q_sPar, q_kPr0, q_kPr1, q_kPr2, q_kPr3, q_noPk1, q_noPk2, q_sPar3, q_kPt0, q_kPt1, q_kPt2, q_kPt3, q_kPt4, q_eMt, q_kMt0, q_kMt1, q_kMt1b, q_kMt2, q_kMt3, q_rdA1, q_rdA2, q_sPut, q_kPu0, q_kPu1, q_kPu2, q_kPu2b, q_kPu3, q_kPu4, q_stepL, q_kStw, q_kStx1, q_kStx2, q_kSty, q_kStz, startD_c, startD_n, startD_0, wipeD, backD, List.map_cons, List.map_nil, List.append_nil, List.nil_append, List.cons_append, List.getElem?_cons_zero, List.getElem?_cons_succ, List.set_cons_zero, List.set_cons_succ, List.length_cons, List.length_nil, Nat.reduceAdd, Nat.reduceLT, Nat.reduceLeDiff, Nat.zero_lt_succ, Nat.zero_lt_one, Bool.not_true, Bool.not_false, Bool.and_self, Bool.and_true, Bool.true_and, Bool.or_false, Bool.false_or, Bool.false_and, Bool.and_false, Bool.or_true, Bool.true_or, rets_ok, retsO_ok, retsN_ok, rets0_ok, true_and, and_true, and_self, h1, h2, k1, k2]
theorem dice_run (ns : List Int) (i : Nat) : ∃ dd, Dc dd ∧ ∀ σ : SD, callD 2 2 4 diceM [] [.fz (.scr ns), .fz (.int (i : Nat))] σ = .ok (.ow dd) σ := by
  have pre : ∃ c : Int, eIf (tB1 (e2 dLt (eVar 1) (eCB dLen (aCons (eVar 0) aNil)))) (eCB dInt (aCons (e2 dIx (eVar 0) (eVar 1)) aNil)) (e2 dAdd (e2 dMul (eC (.int 89)) (eVar 1)) (eC (.int 53))) [some (.fz (.scr ns)), some (.fz (.int (i : Nat))), none, none] = .ok (.fz (.int c)) [some (.fz (.scr ns)), some (.fz (.int (i : Nat))), none, none] := by
    by_cases h : i < ns.length
    · refine ⟨ns[i], dice_cell _ _ true (.int (ns.length : Nat)) _ .non .non rfl ?_ (fun _ => ⟨?_, rfl⟩) (fun z => by cases z)⟩
      · show some (Rn.val (.bl (decide ((i : Int) < (ns.length : Nat))))) = _
        rw [decide_eq_true (by omega)]
      · have e : atI ns (i : Int) = some ns[i] := atI_nat (List.getElem?_eq_getElem h)
        simp only [dIx, e, Option.map_some]
    · refine ⟨89 * (i : Int) + 53, dice_cell _ _ false (.int (ns.length : Nat)) _ (.int (89 * (i : Int))) .non rfl ?_ (fun z => by cases z) (fun _ => ⟨dMul_l (by decide), rfl⟩)⟩
      · show some (Rn.val (.bl (decide ((i : Int) < (ns.length : Nat))))) = _
        rw [decide_eq_false (by omega)]
  obtain ⟨c, pre⟩ := pre
  refine ⟨_, ⟨_, _, _, rfl⟩, fun σ => call_ow (as := [.scr ns, .int (i : Nat)]) rfl (by decide) (dice_rest _ _ c _ _ _ _ _ _ _ _ _ _ _ _ _ _ rfl pow16 pow60 rfl rfl pow120 (dMod_p (by decide +kernel)) (dMod_p (by decide)) (dMul_r (by decide)) (dMul_l (by decide)) rfl rfl rfl (dMul_l (by decide)) _ _ rfl rfl pre)⟩
end DL

namespace W_k00
open PySem L2 DL
theorem k1 : L2.kitB "int" "int" = some true := by decide
theorem k2 : L2.kitB "int" "bool" = some false := by decide
theorem k3 : L2.kitB "str" "str" = some true := by decide
theorem k4 : L2.kitB "tuple" "tuple" = some true := by decide
theorem dIsi_ok {d : D} {t n : String} {b : Bool} (h : tyName d = some t) (k : L2.kitB t n = some b) : dIsi [d, .ty n] = some (.val (.bl b)) := by
  simp [dIsi, h, k]
/-- far from the greatest integer -/
structure InG (i : Int) : Prop where
  lo : decide (-1000000000000000000000000000000000000000000000000000000000000 < i) = true
  hi : decide (i < 1000000000000000000000000000000000000000000000000000000000000) = true
theorem inG9 : ∀ i : Nat, i ≤ 9 → InG i
  | 0, _ => ⟨by decide, by decide⟩
  | 1, _ => ⟨by decide, by decide⟩
  | 2, _ => ⟨by decide, by decide⟩
  | 3, _ => ⟨by decide, by decide⟩
  | 4, _ => ⟨by decide, by decide⟩
  | 5, _ => ⟨by decide, by decide⟩
  | 6, _ => ⟨by decide, by decide⟩
  | 7, _ => ⟨by decide, by decide⟩
  | 8, _ => ⟨by decide, by decide⟩
  | 9, _ => ⟨by decide, by decide⟩
  | n + 10, h => absurd h (by omega)
theorem p_is_integer {i : Int} (h : InG i) : ∃ σ, m_is_integer (startD 1 [.fz (.int i)]) = .ok (.rt (.fz (.bl true))) σ := by
  have e1 : dIsi [.int i, .ty "int"] = some (.val (.bl true)) := dIsi_ok rfl k1
  have e2 : dIsi [.int i, .ty "bool"] = some (.val (.bl false)) := dIsi_ok rfl k2
  simp [m_is_integer, startD, sRet, eAnd, isBl, eCB, aCons, aNil, eVar, eC, peekL, peek, ans, e1, e2, eNot, e3c, DL.e1, DL.e2, dNeg, dLt, ri, rb, Rn.rs, frz, d_GREATEST, h.lo, h.hi, -decide_eq_true_eq]
theorem p_is_from {i a b : Int} (hi : InG i) : ∃ σ, m_is_from (startD 3 [.fz (.int i), .fz (.int a), .fz (.int b)]) = .ok (.rt (.fz (.bl (decide (a ≤ i) && decide (i ≤ b))))) σ := by
  obtain ⟨σ, h⟩ := p_is_integer hi
  have c : ∀ σ, callD 1 1 1 m_is_integer [] [.fz (.int i)] σ = .ok (.fz (.bl true)) σ := fun σ => callD_fz (as := [.int i]) rfl (by decide) h
  simp [m_is_from, startD, sRet, eAnd, isBl, eCall, c, aCons, aNil, eVar, eC, peekL, peek, ans, e3c, dLe, ri, rb, Rn.rs, frz]
  by_cases h : a ≤ i <;> by_cases h' : i ≤ b <;> simp [h, h', ans, Rn.rs]
theorem sub_p (m : Nat) : ∀ σ : SD, ans σ (dSub (.int (m : Int)) (.int 1)) = .ok (.fz (.int ((m : Int) - 1))) σ := fun _ => rfl
theorem p_is_thing {i m : Nat} (h1 : i < m) (h2 : m ≤ 9) : ∃ σ, m_is_thing (startD 2 [.fz (.int i), .fz (.int m)]) = .ok (.rt (.fz (.bl true))) σ := by
  obtain ⟨σ, h⟩ := p_is_from (i := i) (a := 0) (b := (m : Int) - 1) (inG9 i (by omega))
  have e1 : decide ((0 : Int) ≤ i) = true := decide_eq_true (by omega)
  have e2 : decide ((i : Int) ≤ (m : Int) - 1) = true := decide_eq_true (by omega)
  rw [e1, e2] at h
  generalize hb : ((m : Int) - 1) = b at h
  refine ⟨[some (.fz (.int i)), some (.fz (.int m))], ?_⟩
  have c : ∀ σ, callD 3 3 3 m_is_from [] [.fz (.int i), .fz (.int 0), .fz (.int b)] σ = .ok (.fz (.bl true)) σ := fun σ => callD_fz (as := [.int i, .int 0, .int b]) rfl (by decide) h
  have a : aCons (eVar 0) (aCons (eC (.int 0)) (aCons (DL.e2 dSub (eVar 1) (eC (.int 1))) aNil)) [some (.fz (.int i)), some (.fz (.int m))] = .ok [.fz (.int i), .fz (.int 0), .fz (.int b)] [some (.fz (.int i)), some (.fz (.int m))] := by
    rw [← hb]
    rfl
  unfold m_is_thing sRet eCall
  rw [show startD 2 [Sl.fz (.int (i : Int)), .fz (.int (m : Int))] = [some (.fz (.int i)), some (.fz (.int m))] from rfl, a, bind_ok, c, bind_ok]
/-- a tuple of things -/
def tD (th : List Nat) : D := .tup (th.map fun (i : Nat) => .int (i : Int))
theorem p_are_ascending {th : List Nat} (hs : th.Pairwise (· < ·)) (hl : th.length ≤ 9) : ∃ σ, m_are_ascending (startD 3 [.fz (tD th)]) = .ok (.rt (.fz (.bl true))) σ := by
  have hz : ∀ σ : SD, σ = [some (.fz (tD th)), none, none] → DL.iZip (aCons (eVar 0) (aCons (eSl dSl (eVar 0) (pSo (eC (.int 1))) pNo) aNil)) σ = .ok (zipD (th.map fun (i : Nat) => .int (i : Int)) ((th.map fun (i : Nat) => D.int (i : Int)).drop 1)) σ := by
    rintro σ rfl
    cases th with
    | nil => rfl
    | cons x r =>
      have e : dSl (tD (x :: r)) (some 1) none = some (.newT (((x :: r).map fun (i : Nat) => D.int (i : Int)).drop 1)) := by
        show (if HT.sIx ((x :: r).map fun (i : Nat) => D.int (i : Int)).length 0 (some 1) = 0 ∧ HT.sIx ((x :: r).map fun (i : Nat) => D.int (i : Int)).length ((x :: r).map fun (i : Nat) => D.int (i : Int)).length none = ((x :: r).map fun (i : Nat) => D.int (i : Int)).length then some (Rn.val (.tup ((x :: r).map fun (i : Nat) => D.int (i : Int)))) else some (Rn.newT (cutD ((x :: r).map fun (i : Nat) => D.int (i : Int)) (some 1) none))) = _
        rw [if_neg ?_, cutD1]
        intro z
        have z1 := z.1
        rw [show HT.sIx ((x :: r).map fun (i : Nat) => D.int (i : Int)).length 0 (some 1) = min 1 _ from HT.sIx_nat _ 0 1] at z1
        simp at z1
      have e2 : ∀ σ : SD, σ = [some (.fz (tD (x :: r))), none, none] → eSl dSl (eVar 0) (pSo (eC (.int 1))) pNo σ = .ok (.fz (.tup (((x :: r).map fun (i : Nat) => D.int (i : Int)).drop 1))) σ := by
        rintro σ rfl
        simp only [eSl, eVar, pSo, pNo, eC, bind_ok, peek, List.getElem?_cons_zero, e, ans, Rn.rs]
      have e3 : aCons (eVar 0) (aCons (eSl dSl (eVar 0) (pSo (eC (.int 1))) pNo) aNil) [some (.fz (tD (x :: r))), none, none] = .ok [.fz (tD (x :: r)), .fz (.tup (((x :: r).map fun (i : Nat) => D.int (i : Int)).drop 1))] [some (.fz (tD (x :: r))), none, none] := by
        unfold aCons
        rw [show eVar 0 [some (Sl.fz (tD (x :: r))), none, none] = .ok (.fz (tD (x :: r))) [some (.fz (tD (x :: r))), none, none] from rfl, bind_ok, e2 _ rfl]
        rfl
      unfold DL.iZip
      rw [e3]
      rfl
  have hc := eLc_pure (g := gTp [1, 2]) (t := tTrue) (elt := DL.e2 dLt (eVar 1) (eVar 2)) (vs := [1, 2]) (f := fun _ => some (.bl true)) (hz _ rfl) rfl (by
    rw [zipD_length]
    simp
    omega) (by
    intro d hd
    have : ∃ a b : Nat, a < b ∧ d = .tup [.int a, .int b] := by
      clear hz hl
      induction th with
      | nil => simp [zipD] at hd
      | cons x r ih =>
        cases r with
        | nil => simp [zipD] at hd
        | cons y r =>
          rw [List.pairwise_cons] at hs
          have hd' : d = .tup [.int x, .int y] ∨ d ∈ zipD ((y :: r).map fun (i : Nat) => D.int (i : Int)) (((y :: r).map fun (i : Nat) => D.int (i : Int)).drop 1) := by
            simpa [zipD] using hd
          rcases hd' with rfl | hd'
          · exact ⟨x, y, hs.1 y (by simp), rfl⟩
          · exact ih hs.2 hd'
    obtain ⟨a, b, hab, rfl⟩ := this
    refine ⟨[some (.fz (tD th)), some (.fz (.int a)), some (.fz (.int b))], ?_, rfl⟩
    have e : decide ((a : Int) < (b : Int)) = true := decide_eq_true (by omega)
    simp [stepL, gTp, gNms, gNm, wipeD, tTrue, DL.e2, eVar, peek, dLt, rb, ans, Rn.rs, frz, hab])
  have ha := dAll_true (l := (zipD (th.map fun (i : Nat) => .int (i : Int)) ((th.map fun (i : Nat) => D.int (i : Int)).drop 1)).filterMap fun _ => some (.bl true)) (fun d hd => by
    obtain ⟨a, _, e⟩ := mem_filterMap hd
    exact (Option.some.inj e).symm)
  refine ⟨[some (.fz (tD th)), none, none], ?_⟩
  generalize hl : (zipD (th.map fun (i : Nat) => D.int (i : Int)) ((th.map fun (i : Nat) => D.int (i : Int)).drop 1)).filterMap (fun _ => some (D.bl true)) = l at hc ha
  have a : aCons (eLc (DL.iZip (aCons (eVar 0) (aCons (eSl dSl (eVar 0) (pSo (eC (.int 1))) pNo) aNil))) (gTp [1, 2]) tTrue (DL.e2 dLt (eVar 1) (eVar 2)) [1, 2]) aNil [some (.fz (tD th)), none, none] = .ok [.ow (.lst l)] [some (.fz (tD th)), none, none] := by
    show Out.bind (eLc _ _ _ _ _ _) _ = _
    rw [hc]
    rfl
  unfold m_are_ascending sRet eCB
  rw [show startD 3 [Sl.fz (tD th)] = [some (.fz (tD th)), none, none] from rfl, a, bind_ok, show ∀ σ : SD, peekL [.ow (.lst l)] σ = .ok [.lst l] σ from fun _ => rfl, bind_ok, ha]
  rfl
/-- a row -/
structure IsRow (s : List Nat) : Prop where
  sg : ∀ c ∈ s, c = 43 ∨ c = 45 ∨ c = 48
  len : s.length ≤ 9
theorem row_comp {s : List Nat} (h : IsRow s) (n : D) : ∃ l, eLc (eIter (eVar 0)) (gNm 2) tTrue (DL.e2 dIn (eVar 2) (eC d_SIGNS)) [2] [some (.fz (.str s)), some (.fz n), none] = .ok (.ow (.lst l)) [some (.fz (.str s)), some (.fz n), none] ∧ ∀ d ∈ l, d = .bl true := by
  refine ⟨_, eLc_pure (f := fun _ => some (.bl true)) (ds := s.map fun c => D.str [c]) rfl rfl (by have := h.len; simp; omega) (fun d hd => ?_), fun d hd => ?_⟩
  · obtain ⟨c, hc, rfl⟩ := List.mem_map.mp hd
    refine ⟨[some (.fz (.str s)), some (.fz n), some (.fz (.str [c]))], ?_, rfl⟩
    rcases h.sg c hc with rfl | rfl | rfl <;> rfl
  · obtain ⟨a, _, e⟩ := mem_filterMap hd
    exact (Option.some.inj e).symm
theorem p_is_row {s : List Nat} (h : IsRow s) : m_is_row (startD 3 [.fz (.str s), .fz (.int s.length)]) = .ok (.rt (.fz (.bl true))) [some (.fz (.str s)), some (.fz (.int s.length)), none] := by
  obtain ⟨l, h1, h2⟩ := row_comp h (.int s.length)
  have e1 : dIsi [.str s, .ty "str"] = some (.val (.bl true)) := dIsi_ok rfl k3
  have e2 := dAll_true h2
  have e3 : dLen [.str s] = some (.val (.int s.length)) := by
    have : s.length ≤ 16777216 := by have := h.len; omega
    simp [dLen, small, this, ri]
  have e4 : dEq (.int s.length) (.int s.length) = some (.val (.bl true)) := by
    simp [dEq, dGood, dOk, dDep, deq, rb]
  simp only [m_is_row, startD, sRet, eAnd, isBl, eCB, aCons, aNil, DL.e2, h1]
  simp [eVar, eC, peekL, peek, ans, e1, e2, e3, e4, Rn.rs, aCons, aNil, h1]
theorem p_is_any_row {s : List Nat} (h : IsRow s) : m_is_any_row (startD 1 [.fz (.str s)]) = .ok (.rt (.fz (.bl true))) [some (.fz (.str s))] := by
  have c : ∀ σ, callD 2 2 3 m_is_row [] [.fz (.str s), .fz (.int s.length)] σ = .ok (.fz (.bl true)) σ := fun σ => callD_fz (as := [.str s, .int s.length]) rfl (by decide) (p_is_row h)
  have e1 : dIsi [.str s, .ty "str"] = some (.val (.bl true)) := dIsi_ok rfl k3
  have e3 : dLen [.str s] = some (.val (.int s.length)) := by
    have : s.length ≤ 16777216 := by have := h.len; omega
    simp [dLen, small, this, ri]
  have e4 : dLe (.int s.length) d_MAX_THINGS = some (.val (.bl true)) := by
    have q : decide ((s.length : Int) ≤ 9) = true := decide_eq_true (by have := h.len; omega)
    show rb (decide ((s.length : Int) ≤ 9)) = _
    rw [q]
    rfl
  simp [m_is_any_row, startD, sRet, eAnd, isBl, eCB, aCons, aNil, DL.e2, eVar, eC, peekL, peek, ans, e1, e3, e4, Rn.rs, eCall, c]
theorem p_require_any_row {s : List Nat} (h : IsRow s) : m_require_any_row (startD 1 [.fz (.str s)]) = .ok .nx [some (.fz (.str s))] := by
  have c : ∀ σ, callD 1 1 1 m_is_any_row [] [.fz (.str s)] σ = .ok (.fz (.bl true)) σ := fun σ => callD_fz (as := [.str s]) rfl (by decide) (p_is_any_row h)
  simp [m_require_any_row, startD, sIf, tNot', tTru, eCall, aCons, aNil, eVar, c, peek, truth, bNil]
theorem p_require_row {s : List Nat} (h : IsRow s) : m_require_row (startD 2 [.fz (.str s), .fz (.int s.length)]) = .ok .nx [some (.fz (.str s)), some (.fz (.int s.length))] := by
  have c : ∀ σ, callD 2 2 3 m_is_row [] [.fz (.str s), .fz (.int s.length)] σ = .ok (.fz (.bl true)) σ := fun σ => callD_fz (as := [.str s, .int s.length]) rfl (by decide) (p_is_row h)
  simp [m_require_row, startD, sIf, tNot', tTru, eCall, aCons, aNil, eVar, c, peek, truth, bNil]
/-- ascending things below m -/
structure IsThings (th : List Nat) (m : Nat) : Prop where
  asc : th.Pairwise (· < ·)
  lt : ∀ i ∈ th, i < m
  len : th.length ≤ 9
  m9 : m ≤ 9
theorem things_turn {th : List Nat} {m i : Nat} (h : i < m) (h9 : m ≤ 9) : stepL (gNm 2) tTrue (eCall 2 2 2 m_is_thing [] (aCons (eVar 2) (aCons (eVar 1) aNil))) (.int i) [some (.fz (tD th)), some (.fz (.int m)), none] = .ok (some (.bl true)) [some (.fz (tD th)), some (.fz (.int m)), some (.fz (.int i))] := by
  obtain ⟨σ2, ht⟩ := p_is_thing h h9
  generalize (m : Int) = a at ht ⊢
  generalize (i : Int) = b at ht ⊢
  have ct : ∀ σ, callD 2 2 2 m_is_thing [] [.fz (.int b), .fz (.int a)] σ = .ok (.fz (.bl true)) σ := fun σ => callD_fz (as := [.int b, .int a]) rfl (by decide) ht
  have ar : aCons (eVar 2) (aCons (eVar 1) aNil) [some (.fz (tD th)), some (.fz (.int a)), some (.fz (.int b))] = .ok [.fz (.int b), .fz (.int a)] [some (.fz (tD th)), some (.fz (.int a)), some (.fz (.int b))] := rfl
  unfold stepL
  rw [show gNm 2 (.int b) [some (Sl.fz (tD th)), some (.fz (.int a)), none] = .ok () [some (.fz (tD th)), some (.fz (.int a)), some (.fz (.int b))] from rfl, bind_ok]
  unfold tTrue eCall
  rw [bind_ok, if_pos rfl, ar, bind_ok, ct, bind_ok]
  rfl
theorem p_is_things {th : List Nat} {m : Nat} (h : IsThings th m) : ∃ σ, m_is_things (startD 3 [.fz (tD th), .fz (.int m)]) = .ok (.rt (.fz (.bl true))) σ := by
  obtain ⟨σ1, ha⟩ := p_are_ascending h.asc h.len
  have hc : eLc (eIter (eVar 0)) (gNm 2) tTrue (eCall 2 2 2 m_is_thing [] (aCons (eVar 2) (aCons (eVar 1) aNil))) [2] [some (.fz (tD th)), some (.fz (.int m)), none] =
      .ok (.ow (.lst ((th.map fun (i : Nat) => D.int (i : Int)).filterMap fun _ => some (.bl true)))) [some (.fz (tD th)), some (.fz (.int m)), none] := by
    refine eLc_pure (ds := th.map fun (i : Nat) => D.int (i : Int)) rfl rfl (by rw [List.length_map]; exact Nat.le_trans h.len (by decide)) (fun d hd => ?_)
    obtain ⟨i, hi, rfl⟩ := List.mem_map.mp hd
    exact ⟨_, things_turn (h.lt i hi) h.m9, rfl⟩
  have e2 := dAll_true (l := (th.map fun (i : Nat) => D.int (i : Int)).filterMap fun _ => some (.bl true)) (fun d hd => by
    obtain ⟨a, _, e⟩ := mem_filterMap hd
    exact (Option.some.inj e).symm)
  generalize ((th.map fun (i : Nat) => D.int (i : Int)).filterMap fun _ => some (D.bl true)) = l at hc e2
  generalize (m : Int) = a at hc ⊢
  have hd : tyName (tD th) = some "tuple" := rfl
  generalize tD th = t at ha hc hd ⊢
  have e1 : dIsi [t, .ty "tuple"] = some (.val (.bl true)) := dIsi_ok hd k4
  have ca : ∀ σ, callD 1 1 3 m_are_ascending [] [.fz t] σ = .ok (.fz (.bl true)) σ := fun σ => callD_fz (as := [t]) rfl (by decide) ha
  refine ⟨[some (.fz t), some (.fz (.int a)), none], ?_⟩
  have t1 : tTru (eCB dIsi (aCons (eVar 0) (aCons (eC (.ty "tuple")) aNil))) [some (.fz t), some (.fz (.int a)), none] = .ok true [some (.fz t), some (.fz (.int a)), none] := by
    unfold tTru eCB
    rw [show aCons (eVar 0) (aCons (eC (.ty "tuple")) aNil) [some (.fz t), some (.fz (.int a)), none] = .ok [.fz t, .fz (.ty "tuple")] [some (.fz t), some (.fz (.int a)), none] from rfl, bind_ok, show ∀ σ : SD, peekL [.fz t, .fz (.ty "tuple")] σ = .ok [t, .ty "tuple"] σ from fun _ => rfl, bind_ok, e1]
    rfl
  have t2 : tTru (eCB dAll (aCons (eLc (eIter (eVar 0)) (gNm 2) tTrue (eCall 2 2 2 m_is_thing [] (aCons (eVar 2) (aCons (eVar 1) aNil))) [2]) aNil)) [some (.fz t), some (.fz (.int a)), none] = .ok true [some (.fz t), some (.fz (.int a)), none] := by
    have ar : aCons (eLc (eIter (eVar 0)) (gNm 2) tTrue (eCall 2 2 2 m_is_thing [] (aCons (eVar 2) (aCons (eVar 1) aNil))) [2]) aNil [some (.fz t), some (.fz (.int a)), none] = .ok [.ow (.lst l)] [some (.fz t), some (.fz (.int a)), none] := by
      show Out.bind (eLc _ _ _ _ _ _) _ = _
      rw [hc]
      rfl
    unfold tTru eCB
    rw [ar, bind_ok, show ∀ σ : SD, peekL [.ow (.lst l)] σ = .ok [.lst l] σ from fun _ => rfl, bind_ok, e2]
    rfl
  unfold m_is_things bCons sIf tOr' tNot'
  rw [show startD 3 [Sl.fz t, .fz (.int a)] = [some (.fz t), some (.fz (.int a)), none] from rfl, t1, bind_ok, bind_ok]
  simp only [Bool.not_true, Bool.false_eq_true, if_false]
  rw [t2]
  simp only [bind_ok, Bool.not_true, Bool.false_eq_true, if_false, bNil]
  unfold sRet eCall
  rw [show aCons (eVar 0) aNil [some (.fz t), some (.fz (.int a)), none] = .ok [.fz t] [some (.fz t), some (.fz (.int a)), none] from rfl, bind_ok, ca, bind_ok]
theorem p_require_things {th : List Nat} {m : Nat} (h : IsThings th m) : m_require_things (startD 2 [.fz (tD th), .fz (.int m)]) = .ok .nx [some (.fz (tD th)), some (.fz (.int m))] := by
  obtain ⟨σ, e⟩ := p_is_things h
  generalize (m : Int) = a at e ⊢
  generalize tD th = t at e ⊢
  have c : ∀ σ, callD 2 2 3 m_is_things [] [.fz t, .fz (.int a)] σ = .ok (.fz (.bl true)) σ := fun σ => callD_fz (as := [t, .int a]) rfl (by decide) e
  unfold m_require_things sIf tNot' tTru eCall
  rw [show startD 2 [Sl.fz t, .fz (.int a)] = [some (.fz t), some (.fz (.int a))] from rfl, show aCons (eVar 0) (aCons (eVar 1) aNil) [some (.fz t), some (.fz (.int a))] = .ok [.fz t, .fz (.int a)] [some (.fz t), some (.fz (.int a))] from rfl, bind_ok, c]
  rfl
end W_k00



namespace W_k00
open PySem L2 DL PN
theorem enumD_zip {α : Type} (f : α → D) : ∀ (s : List α) (k : Nat), enumD k (s.map f) = (s.zipIdx k).map fun p => .tup [.int (p.2 : Nat), f p.1]
  | [], _ => rfl
  | c :: s, k => by
    rw [List.map_cons, List.zipIdx_cons, List.map_cons]
    unfold enumD
    rw [enumD_zip f s (k + 1)]
theorem zipD_zip {α β : Type} (f : α → D) (g : β → D) : ∀ (a : List α) (b : List β), zipD (a.map f) (b.map g) = (a.zip b).map fun p => .tup [f p.1, g p.2]
  | [], _ => by simp [zipD]
  | _ :: _, [] => by simp [zipD]
  | x :: a, y :: b => by
    rw [List.map_cons, List.map_cons, List.zip_cons_cons, List.map_cons]
    unfold zipD
    rw [zipD_zip f g a b]
theorem dInts_0 (n : Nat) : dInts 0 n = (List.range n).map fun (i : Nat) => D.int (i : Int) := by
  unfold dInts
  simp
abbrev cD (c : Nat) : D := .str [c]
abbrev iD (i : Nat) : D := .int (i : Int)
theorem IsRow.sm {s : List Nat} (h : IsRow s) : s.length ≤ 16777216 := Nat.le_trans h.len (by decide)
theorem IsRow.ok {s : List Nat} (h : IsRow s) : dGood (.str s) = true := dGood_str (by
  unfold sOk
  rw [List.all_eq_true]
  intro c hc
  rcases h.sg c hc with rfl | rfl | rfl <;> rfl)
theorem mem_zipIdx {s : List Nat} {p : Nat × Nat} (h : p ∈ s.zipIdx) : s[p.2]? = some p.1 := by
  have := List.mem_zipIdx_iff_getElem? (x := p) (l := s)
  exact this.mp h
theorem mem_zipIdx1 {s : List Nat} {p : Nat × Nat} (h : p ∈ s.zipIdx) : p.1 ∈ s := by
  have := mem_zipIdx h
  exact List.mem_of_getElem? this
theorem dLook_flip {c : Nat} (h : isSg c) : dIx d_TURNED (.str [c]) = some (.val (.str [flipN c])) := by
  rcases h with rfl | rfl | rfl <;> rfl
theorem flip_disp {c : Nat} (h : isSg c) : dIx (.dic [(.str [43], .str [45]), (.str [45], .str [43]), (.str [48], .str [48])]) (.str [c]) = some (.val (.str [flipN c])) := by
  rcases h with rfl | rfl | rfl <;> rfl
theorem dNe_cc (a b : Nat) (ha : isSg a) (hb : isSg b) : dNe (.str [a]) (.str [b]) = some (.val (.bl (decide (a ≠ b)))) := by
  rcases ha with rfl | rfl | rfl <;> rcases hb with rfl | rfl | rfl <;> rfl
theorem dEq_cc (a b : Nat) (ha : isSg a) (hb : isSg b) : dEq (.str [a]) (.str [b]) = some (.val (.bl (decide (a = b)))) := by
  rcases ha with rfl | rfl | rfl <;> rcases hb with rfl | rfl | rfl <;> rfl
theorem sg48 : isSg 48 := .inr (.inr rfl)
theorem dLen_row {s : List Nat} (h : IsRow s) : dLen [.str s] = some (.val (.int s.length)) := by
  simp [dLen, small, h.sm, ri]
theorem iEnum_row {s : List Nat} (σ : SD) (i : Nat) (h : σ[i]? = some (some (.fz (.str s)))) : DL.iEnum (aCons (eVar i) aNil) σ = .ok (s.zipIdx.map fun p => .tup [.int (p.2 : Nat), .str [p.1]]) σ := by
  rw [← enumD_zip (fun c => D.str [c]) s 0]
  simp only [bind_ok, bind_exc, bind_stuck, q_eVar, q_kVar1, q_kVar2, q_eC, q_peek1, q_peek2, q_peek3, q_kPk1, q_kPk2, q_frz1, q_frz2, q_frz3, q_kFz1, q_kFz2, q_peekL0, q_peekL1, q_kpl1, q_kfl1, q_kpl2, q_frzL0, q_frzL1, q_ans1, q_ans2, q_ans3, q_k2_eCB, q_k1_eCB, q_eCB, q_k2_e1, q_k1_e1, q_e1, q_k4_e2, q_k3_e2, q_k2_e2, q_k1_e2, q_e2, q_kch1, q_kch2, q_kch3, q_kch4, q_k4_e3c, q_k3_e3c, q_k2_e3c, q_k1_e3c, q_e3c, q_eIf, q_kIfE1, q_kIfE2, q_eAnd, q_kAnd1, q_kAnd2, q_eOr, q_kOr1, q_kOr2, q_eNot, q_kNot, q_eTup, q_eLst, q_kTup1, q_kLst1, q_kTupN0, q_kLstN0, q_kTupN1, q_kLstN1, q_kTupN2, q_kLstN2, q_kTupN3, q_kLstN3, q_kTupN4, q_kLstN4, q_kTupN5, q_kLstN5, q_kTupN6, q_kLstN6, q_kTupN7, q_kLstN7, q_kTupN8, q_kLstN8, q_kTupN9, q_kLstN9, q_pNo, q_pSo, q_kSo, q_k4_eSl, q_k3_eSl, q_k2_eSl, q_k1_eSl, q_eSl, q_eJoin, q_kJ0, q_kJ1, q_kJ2, q_k1_eCall, q_eCall, q_aNil, q_k2_aCons, q_k1_aCons, q_aCons, q_k2_eFz, q_k1_eFz, q_eFz, q_tB1, q_kB1, q_tTru, q_kTr0, q_kTr1, q_kTrb, q_truthB, q_kTr2, q_tAnd, q_tOr, q_tNot, q_kTA1, q_kTA2, q_kTO1, q_kTO2, q_kTN, q_tTrue, q_bNil, q_bCons, q_kBC1, q_kBC2, q_kBC3, q_kBC4, q_sPass, q_sBreak, q_sCont, q_sRetN, q_sExpr, q_kEx, q_sRet, q_kRt, q_sIf, q_kIf1, q_kIf2, q_kU, q_sSet, q_kSet, q_set1, q_set2, q_set3, q_kSl1, q_kSl2, q_gNm, q_gNms0, q_gNms1, q_kGs, q_gTp, q_gSq1, q_gSq2, q_sAsg, q_kAs0, q_kAs1, q_sAug, q_kAug, q_kAug1, q_kAug2, q_kAug3, q_eIter, q_kIt0, q_kIt1, q_kIt2, q_iRng, q_kRg0, q_kRg1, q_iZip, q_kZp1, q_kZp2, q_iEnum, q_kEn1, q_kEn2, q_sFor, q_kFor, q_sWhile, q_sPar, q_kPr0, q_kPr1, q_kPr2, q_kPr3, q_noPk1, q_noPk2, q_sPar3, q_kPt0, q_kPt1, q_kPt2, q_kPt3, q_kPt4, q_eMt, q_kMt0, q_kMt1, q_kMt1b, q_kMt2, q_kMt3, q_rdA1, q_rdA2, q_sPut, q_kPu0, q_kPu1, q_kPu2, q_kPu2b, q_kPu3, q_kPu4, q_stepL, q_kStw, q_kStx1, q_kStx2, q_kSty, q_kStz, startD_c, startD_n, startD_0, wipeD, backD, List.map_cons, List.map_nil, List.append_nil, List.nil_append, List.cons_append, List.getElem?_cons_zero, List.getElem?_cons_succ, List.set_cons_zero, List.set_cons_succ, List.length_cons, List.length_nil, Nat.reduceAdd, Nat.reduceLT, Nat.reduceLeDiff, Nat.zero_lt_succ, Nat.zero_lt_one, Bool.not_true, Bool.not_false, Bool.and_self, Bool.and_true, Bool.true_and, Bool.or_false, Bool.false_or, Bool.false_and, Bool.and_false, Bool.or_true, Bool.true_or, rets_ok, retsO_ok, retsN_ok, rets0_ok, true_and, and_true, and_self, y_kIfE, y_kTA, y_kTO, y_kAnd, y_kOr, y_kStx, y_if, y_fz, y_and, y_or, y_andD, y_orD, if_true, if_false, Bool.false_eq_true, Bool.true_eq_false, reduceIte, rb, ri, rs, Option.map_some, Option.bind_some, itemsOf, itemsZ, h]
theorem iZip_rows {s t : List Nat} (σ : SD) (i j : Nat) (h : σ[i]? = some (some (.fz (.str s)))) (h2 : σ[j]? = some (some (.fz (.str t)))) : DL.iZip (aCons (eVar i) (aCons (eVar j) aNil)) σ = .ok ((s.zip t).map fun p => .tup [.str [p.1], .str [p.2]]) σ := by
  rw [← zipD_zip (fun c => D.str [c]) (fun c => D.str [c]) s t]
  simp only [bind_ok, bind_exc, bind_stuck, q_eVar, q_kVar1, q_kVar2, q_eC, q_peek1, q_peek2, q_peek3, q_kPk1, q_kPk2, q_frz1, q_frz2, q_frz3, q_kFz1, q_kFz2, q_peekL0, q_peekL1, q_kpl1, q_kfl1, q_kpl2, q_frzL0, q_frzL1, q_ans1, q_ans2, q_ans3, q_k2_eCB, q_k1_eCB, q_eCB, q_k2_e1, q_k1_e1, q_e1, q_k4_e2, q_k3_e2, q_k2_e2, q_k1_e2, q_e2, q_kch1, q_kch2, q_kch3, q_kch4, q_k4_e3c, q_k3_e3c, q_k2_e3c, q_k1_e3c, q_e3c, q_eIf, q_kIfE1, q_kIfE2, q_eAnd, q_kAnd1, q_kAnd2, q_eOr, q_kOr1, q_kOr2, q_eNot, q_kNot, q_eTup, q_eLst, q_kTup1, q_kLst1, q_kTupN0, q_kLstN0, q_kTupN1, q_kLstN1, q_kTupN2, q_kLstN2, q_kTupN3, q_kLstN3, q_kTupN4, q_kLstN4, q_kTupN5, q_kLstN5, q_kTupN6, q_kLstN6, q_kTupN7, q_kLstN7, q_kTupN8, q_kLstN8, q_kTupN9, q_kLstN9, q_pNo, q_pSo, q_kSo, q_k4_eSl, q_k3_eSl, q_k2_eSl, q_k1_eSl, q_eSl, q_eJoin, q_kJ0, q_kJ1, q_kJ2, q_k1_eCall, q_eCall, q_aNil, q_k2_aCons, q_k1_aCons, q_aCons, q_k2_eFz, q_k1_eFz, q_eFz, q_tB1, q_kB1, q_tTru, q_kTr0, q_kTr1, q_kTrb, q_truthB, q_kTr2, q_tAnd, q_tOr, q_tNot, q_kTA1, q_kTA2, q_kTO1, q_kTO2, q_kTN, q_tTrue, q_bNil, q_bCons, q_kBC1, q_kBC2, q_kBC3, q_kBC4, q_sPass, q_sBreak, q_sCont, q_sRetN, q_sExpr, q_kEx, q_sRet, q_kRt, q_sIf, q_kIf1, q_kIf2, q_kU, q_sSet, q_kSet, q_set1, q_set2, q_set3, q_kSl1, q_kSl2, q_gNm, q_gNms0, q_gNms1, q_kGs, q_gTp, q_gSq1, q_gSq2, q_sAsg, q_kAs0, q_kAs1, q_sAug, q_kAug, q_kAug1, q_kAug2, q_kAug3, q_eIter, q_kIt0, q_kIt1, q_kIt2, q_iRng, q_kRg0, q_kRg1, q_iZip, q_kZp1, q_kZp2, q_iEnum, q_kEn1, q_kEn2, q_sFor, q_kFor, q_sWhile, q_sPar, q_kPr0, q_kPr1, q_kPr2, q_kPr3, q_noPk1, q_noPk2, q_sPar3, q_kPt0, q_kPt1, q_kPt2, q_kPt3, q_kPt4, q_eMt, q_kMt0, q_kMt1, q_kMt1b, q_kMt2, q_kMt3, q_rdA1, q_rdA2, q_sPut, q_kPu0, q_kPu1, q_kPu2, q_kPu2b, q_kPu3, q_kPu4, q_stepL, q_kStw, q_kStx1, q_kStx2, q_kSty, q_kStz, startD_c, startD_n, startD_0, wipeD, backD, List.map_cons, List.map_nil, List.append_nil, List.nil_append, List.cons_append, List.getElem?_cons_zero, List.getElem?_cons_succ, List.set_cons_zero, List.set_cons_succ, List.length_cons, List.length_nil, Nat.reduceAdd, Nat.reduceLT, Nat.reduceLeDiff, Nat.zero_lt_succ, Nat.zero_lt_one, Bool.not_true, Bool.not_false, Bool.and_self, Bool.and_true, Bool.true_and, Bool.or_false, Bool.false_or, Bool.false_and, Bool.and_false, Bool.or_true, Bool.true_or, rets_ok, retsO_ok, retsN_ok, rets0_ok, true_and, and_true, and_self, y_kIfE, y_kTA, y_kTO, y_kAnd, y_kOr, y_kStx, y_if, y_fz, y_and, y_or, y_andD, y_orD, if_true, if_false, Bool.false_eq_true, Bool.true_eq_false, reduceIte, rb, ri, rs, Option.map_some, Option.bind_some, itemsOf, itemsZ, h, h2]
theorem in62_9 : ∀ n : Nat, n ≤ 9 → in62 (n : Int) = true
  | 0, _ => by decide
  | 1, _ => by decide
  | 2, _ => by decide
  | 3, _ => by decide
  | 4, _ => by decide
  | 5, _ => by decide
  | 6, _ => by decide
  | 7, _ => by decide
  | 8, _ => by decide
  | 9, _ => by decide
  | n + 10, h => absurd h (by omega)
theorem iRng_i {i : Int} (σ : SD) (k : Nat) (h : σ[k]? = some (some (.fz (.int i)))) (hi : in62 i = true) : iRng rng1 (aCons (eVar k) aNil) σ = .ok (dInts 0 i.toNat) σ := by
  simp only [bind_ok, bind_exc, bind_stuck, q_eVar, q_kVar1, q_kVar2, q_eC, q_peek1, q_peek2, q_peek3, q_kPk1, q_kPk2, q_frz1, q_frz2, q_frz3, q_kFz1, q_kFz2, q_peekL0, q_peekL1, q_kpl1, q_kfl1, q_kpl2, q_frzL0, q_frzL1, q_ans1, q_ans2, q_ans3, q_k2_eCB, q_k1_eCB, q_eCB, q_k2_e1, q_k1_e1, q_e1, q_k4_e2, q_k3_e2, q_k2_e2, q_k1_e2, q_e2, q_kch1, q_kch2, q_kch3, q_kch4, q_k4_e3c, q_k3_e3c, q_k2_e3c, q_k1_e3c, q_e3c, q_eIf, q_kIfE1, q_kIfE2, q_eAnd, q_kAnd1, q_kAnd2, q_eOr, q_kOr1, q_kOr2, q_eNot, q_kNot, q_eTup, q_eLst, q_kTup1, q_kLst1, q_kTupN0, q_kLstN0, q_kTupN1, q_kLstN1, q_kTupN2, q_kLstN2, q_kTupN3, q_kLstN3, q_kTupN4, q_kLstN4, q_kTupN5, q_kLstN5, q_kTupN6, q_kLstN6, q_kTupN7, q_kLstN7, q_kTupN8, q_kLstN8, q_kTupN9, q_kLstN9, q_pNo, q_pSo, q_kSo, q_k4_eSl, q_k3_eSl, q_k2_eSl, q_k1_eSl, q_eSl, q_eJoin, q_kJ0, q_kJ1, q_kJ2, q_k1_eCall, q_eCall, q_aNil, q_k2_aCons, q_k1_aCons, q_aCons, q_k2_eFz, q_k1_eFz, q_eFz, q_tB1, q_kB1, q_tTru, q_kTr0, q_kTr1, q_kTrb, q_truthB, q_kTr2, q_tAnd, q_tOr, q_tNot, q_kTA1, q_kTA2, q_kTO1, q_kTO2, q_kTN, q_tTrue, q_bNil, q_bCons, q_kBC1, q_kBC2, q_kBC3, q_kBC4, q_sPass, q_sBreak, q_sCont, q_sRetN, q_sExpr, q_kEx, q_sRet, q_kRt, q_sIf, q_kIf1, q_kIf2, q_kU, q_sSet, q_kSet, q_set1, q_set2, q_set3, q_kSl1, q_kSl2, q_gNm, q_gNms0, q_gNms1, q_kGs, q_gTp, q_gSq1, q_gSq2, q_sAsg, q_kAs0, q_kAs1, q_sAug, q_kAug, q_kAug1, q_kAug2, q_kAug3, q_eIter, q_kIt0, q_kIt1, q_kIt2, q_iRng, q_kRg0, q_kRg1, q_iZip, q_kZp1, q_kZp2, q_iEnum, q_kEn1, q_kEn2, q_sFor, q_kFor, q_sWhile, q_sPar, q_kPr0, q_kPr1, q_kPr2, q_kPr3, q_noPk1, q_noPk2, q_sPar3, q_kPt0, q_kPt1, q_kPt2, q_kPt3, q_kPt4, q_eMt, q_kMt0, q_kMt1, q_kMt1b, q_kMt2, q_kMt3, q_rdA1, q_rdA2, q_sPut, q_kPu0, q_kPu1, q_kPu2, q_kPu2b, q_kPu3, q_kPu4, q_stepL, q_kStw, q_kStx1, q_kStx2, q_kSty, q_kStz, startD_c, startD_n, startD_0, wipeD, backD, List.map_cons, List.map_nil, List.append_nil, List.nil_append, List.cons_append, List.getElem?_cons_zero, List.getElem?_cons_succ, List.set_cons_zero, List.set_cons_succ, List.length_cons, List.length_nil, Nat.reduceAdd, Nat.reduceLT, Nat.reduceLeDiff, Nat.zero_lt_succ, Nat.zero_lt_one, Bool.not_true, Bool.not_false, Bool.and_self, Bool.and_true, Bool.true_and, Bool.or_false, Bool.false_or, Bool.false_and, Bool.and_false, Bool.or_true, Bool.true_or, rets_ok, retsO_ok, retsN_ok, rets0_ok, true_and, and_true, and_self, y_kIfE, y_kTA, y_kTO, y_kAnd, y_kOr, y_kStx, y_if, y_fz, y_and, y_or, y_andD, y_orD, if_true, if_false, Bool.false_eq_true, Bool.true_eq_false, reduceIte, rb, ri, rs, Option.map_some, Option.bind_some, itemsOf, itemsZ, h, rng1, hi]
theorem iRng_n {n : Nat} (σ : SD) (i : Nat) (h : σ[i]? = some (some (.fz (.int (n : Nat))))) (hn : n ≤ 9) : iRng rng1 (aCons (eVar i) aNil) σ = .ok ((List.range n).map fun (i : Nat) => D.int (i : Int)) σ := by
  rw [iRng_i σ i h (in62_9 n hn), dInts_0, Int.toNat_natCast]
theorem eIter_row {s : List Nat} (σ : SD) (i : Nat) (h : σ[i]? = some (some (.fz (.str s)))) : eIter (eVar i) σ = .ok (s.map fun c => D.str [c]) σ := by
  simp only [bind_ok, bind_exc, bind_stuck, q_eVar, q_kVar1, q_kVar2, q_eC, q_peek1, q_peek2, q_peek3, q_kPk1, q_kPk2, q_frz1, q_frz2, q_frz3, q_kFz1, q_kFz2, q_peekL0, q_peekL1, q_kpl1, q_kfl1, q_kpl2, q_frzL0, q_frzL1, q_ans1, q_ans2, q_ans3, q_k2_eCB, q_k1_eCB, q_eCB, q_k2_e1, q_k1_e1, q_e1, q_k4_e2, q_k3_e2, q_k2_e2, q_k1_e2, q_e2, q_kch1, q_kch2, q_kch3, q_kch4, q_k4_e3c, q_k3_e3c, q_k2_e3c, q_k1_e3c, q_e3c, q_eIf, q_kIfE1, q_kIfE2, q_eAnd, q_kAnd1, q_kAnd2, q_eOr, q_kOr1, q_kOr2, q_eNot, q_kNot, q_eTup, q_eLst, q_kTup1, q_kLst1, q_kTupN0, q_kLstN0, q_kTupN1, q_kLstN1, q_kTupN2, q_kLstN2, q_kTupN3, q_kLstN3, q_kTupN4, q_kLstN4, q_kTupN5, q_kLstN5, q_kTupN6, q_kLstN6, q_kTupN7, q_kLstN7, q_kTupN8, q_kLstN8, q_kTupN9, q_kLstN9, q_pNo, q_pSo, q_kSo, q_k4_eSl, q_k3_eSl, q_k2_eSl, q_k1_eSl, q_eSl, q_eJoin, q_kJ0, q_kJ1, q_kJ2, q_k1_eCall, q_eCall, q_aNil, q_k2_aCons, q_k1_aCons, q_aCons, q_k2_eFz, q_k1_eFz, q_eFz, q_tB1, q_kB1, q_tTru, q_kTr0, q_kTr1, q_kTrb, q_truthB, q_kTr2, q_tAnd, q_tOr, q_tNot, q_kTA1, q_kTA2, q_kTO1, q_kTO2, q_kTN, q_tTrue, q_bNil, q_bCons, q_kBC1, q_kBC2, q_kBC3, q_kBC4, q_sPass, q_sBreak, q_sCont, q_sRetN, q_sExpr, q_kEx, q_sRet, q_kRt, q_sIf, q_kIf1, q_kIf2, q_kU, q_sSet, q_kSet, q_set1, q_set2, q_set3, q_kSl1, q_kSl2, q_gNm, q_gNms0, q_gNms1, q_kGs, q_gTp, q_gSq1, q_gSq2, q_sAsg, q_kAs0, q_kAs1, q_sAug, q_kAug, q_kAug1, q_kAug2, q_kAug3, q_eIter, q_kIt0, q_kIt1, q_kIt2, q_iRng, q_kRg0, q_kRg1, q_iZip, q_kZp1, q_kZp2, q_iEnum, q_kEn1, q_kEn2, q_sFor, q_kFor, q_sWhile, q_sPar, q_kPr0, q_kPr1, q_kPr2, q_kPr3, q_noPk1, q_noPk2, q_sPar3, q_kPt0, q_kPt1, q_kPt2, q_kPt3, q_kPt4, q_eMt, q_kMt0, q_kMt1, q_kMt1b, q_kMt2, q_kMt3, q_rdA1, q_rdA2, q_sPut, q_kPu0, q_kPu1, q_kPu2, q_kPu2b, q_kPu3, q_kPu4, q_stepL, q_kStw, q_kStx1, q_kStx2, q_kSty, q_kStz, startD_c, startD_n, startD_0, wipeD, backD, List.map_cons, List.map_nil, List.append_nil, List.nil_append, List.cons_append, List.getElem?_cons_zero, List.getElem?_cons_succ, List.set_cons_zero, List.set_cons_succ, List.length_cons, List.length_nil, Nat.reduceAdd, Nat.reduceLT, Nat.reduceLeDiff, Nat.zero_lt_succ, Nat.zero_lt_one, Bool.not_true, Bool.not_false, Bool.and_self, Bool.and_true, Bool.true_and, Bool.or_false, Bool.false_or, Bool.false_and, Bool.and_false, Bool.or_true, Bool.true_or, rets_ok, retsO_ok, retsN_ok, rets0_ok, true_and, and_true, and_self, y_kIfE, y_kTA, y_kTO, y_kAnd, y_kOr, y_kStx, y_if, y_fz, y_and, y_or, y_andD, y_orD, if_true, if_false, Bool.false_eq_true, Bool.true_eq_false, reduceIte, rb, ri, rs, Option.map_some, Option.bind_some, itemsOf, itemsZ, h]
theorem eIter_th {s : List Nat} (σ : SD) (i : Nat) (h : σ[i]? = some (some (.fz (tD s)))) : eIter (eVar i) σ = .ok (s.map fun (i : Nat) => D.int (i : Int)) σ := by
  simp only [bind_ok, bind_exc, bind_stuck, q_eVar, q_kVar1, q_kVar2, q_eC, q_peek1, q_peek2, q_peek3, q_kPk1, q_kPk2, q_frz1, q_frz2, q_frz3, q_kFz1, q_kFz2, q_peekL0, q_peekL1, q_kpl1, q_kfl1, q_kpl2, q_frzL0, q_frzL1, q_ans1, q_ans2, q_ans3, q_k2_eCB, q_k1_eCB, q_eCB, q_k2_e1, q_k1_e1, q_e1, q_k4_e2, q_k3_e2, q_k2_e2, q_k1_e2, q_e2, q_kch1, q_kch2, q_kch3, q_kch4, q_k4_e3c, q_k3_e3c, q_k2_e3c, q_k1_e3c, q_e3c, q_eIf, q_kIfE1, q_kIfE2, q_eAnd, q_kAnd1, q_kAnd2, q_eOr, q_kOr1, q_kOr2, q_eNot, q_kNot, q_eTup, q_eLst, q_kTup1, q_kLst1, q_kTupN0, q_kLstN0, q_kTupN1, q_kLstN1, q_kTupN2, q_kLstN2, q_kTupN3, q_kLstN3, q_kTupN4, q_kLstN4, q_kTupN5, q_kLstN5, q_kTupN6, q_kLstN6, q_kTupN7, q_kLstN7, q_kTupN8, q_kLstN8, q_kTupN9, q_kLstN9, q_pNo, q_pSo, q_kSo, q_k4_eSl, q_k3_eSl, q_k2_eSl, q_k1_eSl, q_eSl, q_eJoin, q_kJ0, q_kJ1, q_kJ2, q_k1_eCall, q_eCall, q_aNil, q_k2_aCons, q_k1_aCons, q_aCons, q_k2_eFz, q_k1_eFz, q_eFz, q_tB1, q_kB1, q_tTru, q_kTr0, q_kTr1, q_kTrb, q_truthB, q_kTr2, q_tAnd, q_tOr, q_tNot, q_kTA1, q_kTA2, q_kTO1, q_kTO2, q_kTN, q_tTrue, q_bNil, q_bCons, q_kBC1, q_kBC2, q_kBC3, q_kBC4, q_sPass, q_sBreak, q_sCont, q_sRetN, q_sExpr, q_kEx, q_sRet, q_kRt, q_sIf, q_kIf1, q_kIf2, q_kU, q_sSet, q_kSet, q_set1, q_set2, q_set3, q_kSl1, q_kSl2, q_gNm, q_gNms0, q_gNms1, q_kGs, q_gTp, q_gSq1, q_gSq2, q_sAsg, q_kAs0, q_kAs1, q_sAug, q_kAug, q_kAug1, q_kAug2, q_kAug3, q_eIter, q_kIt0, q_kIt1, q_kIt2, q_iRng, q_kRg0, q_kRg1, q_iZip, q_kZp1, q_kZp2, q_iEnum, q_kEn1, q_kEn2, q_sFor, q_kFor, q_sWhile, q_sPar, q_kPr0, q_kPr1, q_kPr2, q_kPr3, q_noPk1, q_noPk2, q_sPar3, q_kPt0, q_kPt1, q_kPt2, q_kPt3, q_kPt4, q_eMt, q_kMt0, q_kMt1, q_kMt1b, q_kMt2, q_kMt3, q_rdA1, q_rdA2, q_sPut, q_kPu0, q_kPu1, q_kPu2, q_kPu2b, q_kPu3, q_kPu4, q_stepL, q_kStw, q_kStx1, q_kStx2, q_kSty, q_kStz, startD_c, startD_n, startD_0, wipeD, backD, List.map_cons, List.map_nil, List.append_nil, List.nil_append, List.cons_append, List.getElem?_cons_zero, List.getElem?_cons_succ, List.set_cons_zero, List.set_cons_succ, List.length_cons, List.length_nil, Nat.reduceAdd, Nat.reduceLT, Nat.reduceLeDiff, Nat.zero_lt_succ, Nat.zero_lt_one, Bool.not_true, Bool.not_false, Bool.and_self, Bool.and_true, Bool.true_and, Bool.or_false, Bool.false_or, Bool.false_and, Bool.and_false, Bool.or_true, Bool.true_or, rets_ok, retsO_ok, retsN_ok, rets0_ok, true_and, and_true, and_self, y_kIfE, y_kTA, y_kTO, y_kAnd, y_kOr, y_kStx, y_if, y_fz, y_and, y_or, y_andD, y_orD, if_true, if_false, Bool.false_eq_true, Bool.true_eq_false, reduceIte, rb, ri, rs, Option.map_some, Option.bind_some, itemsOf, itemsZ, h, tD]
theorem zl {s : List Nat} (h : IsRow s) : s.zipIdx.length ≤ 16777216 := by
  rw [List.length_zipIdx]
  exact h.sm
theorem zl2 {s t : List Nat} (h : IsRow s) : (s.zip t).length ≤ 16777216 := by
  rw [List.length_zip]
  exact Nat.le_trans (Nat.min_le_left _ _) h.sm
theorem c_turned_row {s : List Nat} (h : IsRow s) (σ : SD) : callD 1 1 2 m_turned_row [] [.fz (.str s)] σ = .ok (.fz (.str (s.map flipN))) σ := call_fz (as := [.str s]) rfl (by decide) (by
  simp only [m_turned_row, bind_ok, bind_exc, bind_stuck, q_eVar, q_kVar1, q_kVar2, q_eC, q_peek1, q_peek2, q_peek3, q_kPk1, q_kPk2, q_frz1, q_frz2, q_frz3, q_kFz1, q_kFz2, q_peekL0, q_peekL1, q_kpl1, q_kfl1, q_kpl2, q_frzL0, q_frzL1, q_ans1, q_ans2, q_ans3, q_k2_eCB, q_k1_eCB, q_eCB, q_k2_e1, q_k1_e1, q_e1, q_k4_e2, q_k3_e2, q_k2_e2, q_k1_e2, q_e2, q_kch1, q_kch2, q_kch3, q_kch4, q_k4_e3c, q_k3_e3c, q_k2_e3c, q_k1_e3c, q_e3c, q_eIf, q_kIfE1, q_kIfE2, q_eAnd, q_kAnd1, q_kAnd2, q_eOr, q_kOr1, q_kOr2, q_eNot, q_kNot, q_eTup, q_eLst, q_kTup1, q_kLst1, q_kTupN0, q_kLstN0, q_kTupN1, q_kLstN1, q_kTupN2, q_kLstN2, q_kTupN3, q_kLstN3, q_kTupN4, q_kLstN4, q_kTupN5, q_kLstN5, q_kTupN6, q_kLstN6, q_kTupN7, q_kLstN7, q_kTupN8, q_kLstN8, q_kTupN9, q_kLstN9, q_pNo, q_pSo, q_kSo, q_k4_eSl, q_k3_eSl, q_k2_eSl, q_k1_eSl, q_eSl, q_eJoin, q_kJ0, q_kJ1, q_kJ2, q_k1_eCall, q_eCall, q_aNil, q_k2_aCons, q_k1_aCons, q_aCons, q_k2_eFz, q_k1_eFz, q_eFz, q_tB1, q_kB1, q_tTru, q_kTr0, q_kTr1, q_kTrb, q_truthB, q_kTr2, q_tAnd, q_tOr, q_tNot, q_kTA1, q_kTA2, q_kTO1, q_kTO2, q_kTN, q_tTrue, q_bNil, q_bCons, q_kBC1, q_kBC2, q_kBC3, q_kBC4, q_sPass, q_sBreak, q_sCont, q_sRetN, q_sExpr, q_kEx, q_sRet, q_kRt, q_sIf, q_kIf1, q_kIf2, q_kU, q_sSet, q_kSet, q_set1, q_set2, q_set3, q_kSl1, q_kSl2, q_gNm, q_gNms0, q_gNms1, q_kGs, q_gTp, q_gSq1, q_gSq2, q_sAsg, q_kAs0, q_kAs1, q_sAug, q_kAug, q_kAug1, q_kAug2, q_kAug3, q_eIter, q_kIt0, q_kIt1, q_kIt2, q_iRng, q_kRg0, q_kRg1, q_iZip, q_kZp1, q_kZp2, q_iEnum, q_kEn1, q_kEn2, q_sFor, q_kFor, q_sWhile, q_sPar, q_kPr0, q_kPr1, q_kPr2, q_kPr3, q_noPk1, q_noPk2, q_sPar3, q_kPt0, q_kPt1, q_kPt2, q_kPt3, q_kPt4, q_eMt, q_kMt0, q_kMt1, q_kMt1b, q_kMt2, q_kMt3, q_rdA1, q_rdA2, q_sPut, q_kPu0, q_kPu1, q_kPu2, q_kPu2b, q_kPu3, q_kPu4, q_stepL, q_kStw, q_kStx1, q_kStx2, q_kSty, q_kStz, startD_c, startD_n, startD_0, wipeD, backD, List.map_cons, List.map_nil, List.append_nil, List.nil_append, List.cons_append, List.getElem?_cons_zero, List.getElem?_cons_succ, List.set_cons_zero, List.set_cons_succ, List.length_cons, List.length_nil, Nat.reduceAdd, Nat.reduceLT, Nat.reduceLeDiff, Nat.zero_lt_succ, Nat.zero_lt_one, Bool.not_true, Bool.not_false, Bool.and_self, Bool.and_true, Bool.true_and, Bool.or_false, Bool.false_or, Bool.false_and, Bool.and_false, Bool.or_true, Bool.true_or, rets_ok, retsO_ok, retsN_ok, rets0_ok, true_and, and_true, and_self, y_kIfE, y_kTA, y_kTO, y_kAnd, y_kOr, y_kStx, y_if, y_fz, y_and, y_or, y_andD, y_orD, if_true, if_false, Bool.false_eq_true, Bool.true_eq_false, reduceIte, rb, ri, rs, Option.map_some, Option.bind_some, itemsOf, itemsZ]
  rw [eLc_all cD s (fun c => cD (flipN c)) (eIter_row _ _ rfl) rfl h.sm (fun c hc => ?_)]
  · simp only [bind_ok, bind_exc, bind_stuck, q_eVar, q_kVar1, q_kVar2, q_eC, q_peek1, q_peek2, q_peek3, q_kPk1, q_kPk2, q_frz1, q_frz2, q_frz3, q_kFz1, q_kFz2, q_peekL0, q_peekL1, q_kpl1, q_kfl1, q_kpl2, q_frzL0, q_frzL1, q_ans1, q_ans2, q_ans3, q_k2_eCB, q_k1_eCB, q_eCB, q_k2_e1, q_k1_e1, q_e1, q_k4_e2, q_k3_e2, q_k2_e2, q_k1_e2, q_e2, q_kch1, q_kch2, q_kch3, q_kch4, q_k4_e3c, q_k3_e3c, q_k2_e3c, q_k1_e3c, q_e3c, q_eIf, q_kIfE1, q_kIfE2, q_eAnd, q_kAnd1, q_kAnd2, q_eOr, q_kOr1, q_kOr2, q_eNot, q_kNot, q_eTup, q_eLst, q_kTup1, q_kLst1, q_kTupN0, q_kLstN0, q_kTupN1, q_kLstN1, q_kTupN2, q_kLstN2, q_kTupN3, q_kLstN3, q_kTupN4, q_kLstN4, q_kTupN5, q_kLstN5, q_kTupN6, q_kLstN6, q_kTupN7, q_kLstN7, q_kTupN8, q_kLstN8, q_kTupN9, q_kLstN9, q_pNo, q_pSo, q_kSo, q_k4_eSl, q_k3_eSl, q_k2_eSl, q_k1_eSl, q_eSl, q_eJoin, q_kJ0, q_kJ1, q_kJ2, q_k1_eCall, q_eCall, q_aNil, q_k2_aCons, q_k1_aCons, q_aCons, q_k2_eFz, q_k1_eFz, q_eFz, q_tB1, q_kB1, q_tTru, q_kTr0, q_kTr1, q_kTrb, q_truthB, q_kTr2, q_tAnd, q_tOr, q_tNot, q_kTA1, q_kTA2, q_kTO1, q_kTO2, q_kTN, q_tTrue, q_bNil, q_bCons, q_kBC1, q_kBC2, q_kBC3, q_kBC4, q_sPass, q_sBreak, q_sCont, q_sRetN, q_sExpr, q_kEx, q_sRet, q_kRt, q_sIf, q_kIf1, q_kIf2, q_kU, q_sSet, q_kSet, q_set1, q_set2, q_set3, q_kSl1, q_kSl2, q_gNm, q_gNms0, q_gNms1, q_kGs, q_gTp, q_gSq1, q_gSq2, q_sAsg, q_kAs0, q_kAs1, q_sAug, q_kAug, q_kAug1, q_kAug2, q_kAug3, q_eIter, q_kIt0, q_kIt1, q_kIt2, q_iRng, q_kRg0, q_kRg1, q_iZip, q_kZp1, q_kZp2, q_iEnum, q_kEn1, q_kEn2, q_sFor, q_kFor, q_sWhile, q_sPar, q_kPr0, q_kPr1, q_kPr2, q_kPr3, q_noPk1, q_noPk2, q_sPar3, q_kPt0, q_kPt1, q_kPt2, q_kPt3, q_kPt4, q_eMt, q_kMt0, q_kMt1, q_kMt1b, q_kMt2, q_kMt3, q_rdA1, q_rdA2, q_sPut, q_kPu0, q_kPu1, q_kPu2, q_kPu2b, q_kPu3, q_kPu4, q_stepL, q_kStw, q_kStx1, q_kStx2, q_kSty, q_kStz, startD_c, startD_n, startD_0, wipeD, backD, List.map_cons, List.map_nil, List.append_nil, List.nil_append, List.cons_append, List.getElem?_cons_zero, List.getElem?_cons_succ, List.set_cons_zero, List.set_cons_succ, List.length_cons, List.length_nil, Nat.reduceAdd, Nat.reduceLT, Nat.reduceLeDiff, Nat.zero_lt_succ, Nat.zero_lt_one, Bool.not_true, Bool.not_false, Bool.and_self, Bool.and_true, Bool.true_and, Bool.or_false, Bool.false_or, Bool.false_and, Bool.and_false, Bool.or_true, Bool.true_or, rets_ok, retsO_ok, retsN_ok, rets0_ok, true_and, and_true, and_self, y_kIfE, y_kTA, y_kTO, y_kAnd, y_kOr, y_kStx, y_if, y_fz, y_and, y_or, y_andD, y_orD, if_true, if_false, Bool.false_eq_true, Bool.true_eq_false, reduceIte, rb, ri, rs, Option.map_some, Option.bind_some, itemsOf, itemsZ, dJoin_signs _ _ h.sm]
  · have e := dLook_flip (h.sg c hc)
    simp only [bind_ok, bind_exc, bind_stuck, q_eVar, q_kVar1, q_kVar2, q_eC, q_peek1, q_peek2, q_peek3, q_kPk1, q_kPk2, q_frz1, q_frz2, q_frz3, q_kFz1, q_kFz2, q_peekL0, q_peekL1, q_kpl1, q_kfl1, q_kpl2, q_frzL0, q_frzL1, q_ans1, q_ans2, q_ans3, q_k2_eCB, q_k1_eCB, q_eCB, q_k2_e1, q_k1_e1, q_e1, q_k4_e2, q_k3_e2, q_k2_e2, q_k1_e2, q_e2, q_kch1, q_kch2, q_kch3, q_kch4, q_k4_e3c, q_k3_e3c, q_k2_e3c, q_k1_e3c, q_e3c, q_eIf, q_kIfE1, q_kIfE2, q_eAnd, q_kAnd1, q_kAnd2, q_eOr, q_kOr1, q_kOr2, q_eNot, q_kNot, q_eTup, q_eLst, q_kTup1, q_kLst1, q_kTupN0, q_kLstN0, q_kTupN1, q_kLstN1, q_kTupN2, q_kLstN2, q_kTupN3, q_kLstN3, q_kTupN4, q_kLstN4, q_kTupN5, q_kLstN5, q_kTupN6, q_kLstN6, q_kTupN7, q_kLstN7, q_kTupN8, q_kLstN8, q_kTupN9, q_kLstN9, q_pNo, q_pSo, q_kSo, q_k4_eSl, q_k3_eSl, q_k2_eSl, q_k1_eSl, q_eSl, q_eJoin, q_kJ0, q_kJ1, q_kJ2, q_k1_eCall, q_eCall, q_aNil, q_k2_aCons, q_k1_aCons, q_aCons, q_k2_eFz, q_k1_eFz, q_eFz, q_tB1, q_kB1, q_tTru, q_kTr0, q_kTr1, q_kTrb, q_truthB, q_kTr2, q_tAnd, q_tOr, q_tNot, q_kTA1, q_kTA2, q_kTO1, q_kTO2, q_kTN, q_tTrue, q_bNil, q_bCons, q_kBC1, q_kBC2, q_kBC3, q_kBC4, q_sPass, q_sBreak, q_sCont, q_sRetN, q_sExpr, q_kEx, q_sRet, q_kRt, q_sIf, q_kIf1, q_kIf2, q_kU, q_sSet, q_kSet, q_set1, q_set2, q_set3, q_kSl1, q_kSl2, q_gNm, q_gNms0, q_gNms1, q_kGs, q_gTp, q_gSq1, q_gSq2, q_sAsg, q_kAs0, q_kAs1, q_sAug, q_kAug, q_kAug1, q_kAug2, q_kAug3, q_eIter, q_kIt0, q_kIt1, q_kIt2, q_iRng, q_kRg0, q_kRg1, q_iZip, q_kZp1, q_kZp2, q_iEnum, q_kEn1, q_kEn2, q_sFor, q_kFor, q_sWhile, q_sPar, q_kPr0, q_kPr1, q_kPr2, q_kPr3, q_noPk1, q_noPk2, q_sPar3, q_kPt0, q_kPt1, q_kPt2, q_kPt3, q_kPt4, q_eMt, q_kMt0, q_kMt1, q_kMt1b, q_kMt2, q_kMt3, q_rdA1, q_rdA2, q_sPut, q_kPu0, q_kPu1, q_kPu2, q_kPu2b, q_kPu3, q_kPu4, q_stepL, q_kStw, q_kStx1, q_kStx2, q_kSty, q_kStz, startD_c, startD_n, startD_0, wipeD, backD, List.map_cons, List.map_nil, List.append_nil, List.nil_append, List.cons_append, List.getElem?_cons_zero, List.getElem?_cons_succ, List.set_cons_zero, List.set_cons_succ, List.length_cons, List.length_nil, Nat.reduceAdd, Nat.reduceLT, Nat.reduceLeDiff, Nat.zero_lt_succ, Nat.zero_lt_one, Bool.not_true, Bool.not_false, Bool.and_self, Bool.and_true, Bool.true_and, Bool.or_false, Bool.false_or, Bool.false_and, Bool.and_false, Bool.or_true, Bool.true_or, rets_ok, retsO_ok, retsN_ok, rets0_ok, true_and, and_true, and_self, y_kIfE, y_kTA, y_kTO, y_kAnd, y_kOr, y_kStx, y_if, y_fz, y_and, y_or, y_andD, y_orD, if_true, if_false, Bool.false_eq_true, Bool.true_eq_false, reduceIte, rb, ri, rs, Option.map_some, Option.bind_some, itemsOf, itemsZ, turn_ok, e])
end W_k00

namespace W_k00
open PySem L2 DL PN
theorem any_th (i : Nat) : ∀ th : List Nat, (th.map (fun (i : Nat) => D.int (i : Int))).any (fun z => deq z (.int i)) = decide (i ∈ th)
  | [] => rfl
  | t :: th => by
    rw [List.map_cons, List.any_cons, any_th i th]
    by_cases h1 : t = i
    · simp [deq, h1]
    · have : i ≠ t := fun z => h1 z.symm
      have h2 : ((t : Int) == (i : Int)) = false := by
        simp
        omega
      simp [deq, h2, this]
theorem good_th (th : List Nat) : dGood (tD th) = true := dGood_tupM _ th (fun _ _ => rfl) (fun _ _ => Nat.zero_le _)
theorem good_int (i : Int) : dGood (.int i) = true := rfl
theorem dIn_th (i : Nat) (th : List Nat) : dIn (.int i) (tD th) = some (.val (.bl (decide (i ∈ th)))) := by
  have g := good_th th
  have e := any_th i th
  unfold tD at g ⊢
  simp only [dIn, good_int, g, e, Bool.and_self, if_true, rb]
theorem c_turned_row_at {s th : List Nat} (h : IsRow s) (σ : SD) : callD 2 2 4 m_turned_row_at [] [.fz (.str s), .fz (tD th)] σ = .ok (.fz (.str (tA th 0 s))) σ := call_fz (as := [.str s, tD th]) rfl (by decide) (by
  simp only [m_turned_row_at, bind_ok, bind_exc, bind_stuck, q_eVar, q_kVar1, q_kVar2, q_eC, q_peek1, q_peek2, q_peek3, q_kPk1, q_kPk2, q_frz1, q_frz2, q_frz3, q_kFz1, q_kFz2, q_peekL0, q_peekL1, q_kpl1, q_kfl1, q_kpl2, q_frzL0, q_frzL1, q_ans1, q_ans2, q_ans3, q_k2_eCB, q_k1_eCB, q_eCB, q_k2_e1, q_k1_e1, q_e1, q_k4_e2, q_k3_e2, q_k2_e2, q_k1_e2, q_e2, q_kch1, q_kch2, q_kch3, q_kch4, q_k4_e3c, q_k3_e3c, q_k2_e3c, q_k1_e3c, q_e3c, q_eIf, q_kIfE1, q_kIfE2, q_eAnd, q_kAnd1, q_kAnd2, q_eOr, q_kOr1, q_kOr2, q_eNot, q_kNot, q_eTup, q_eLst, q_kTup1, q_kLst1, q_kTupN0, q_kLstN0, q_kTupN1, q_kLstN1, q_kTupN2, q_kLstN2, q_kTupN3, q_kLstN3, q_kTupN4, q_kLstN4, q_kTupN5, q_kLstN5, q_kTupN6, q_kLstN6, q_kTupN7, q_kLstN7, q_kTupN8, q_kLstN8, q_kTupN9, q_kLstN9, q_pNo, q_pSo, q_kSo, q_k4_eSl, q_k3_eSl, q_k2_eSl, q_k1_eSl, q_eSl, q_eJoin, q_kJ0, q_kJ1, q_kJ2, q_k1_eCall, q_eCall, q_aNil, q_k2_aCons, q_k1_aCons, q_aCons, q_k2_eFz, q_k1_eFz, q_eFz, q_tB1, q_kB1, q_tTru, q_kTr0, q_kTr1, q_kTrb, q_truthB, q_kTr2, q_tAnd, q_tOr, q_tNot, q_kTA1, q_kTA2, q_kTO1, q_kTO2, q_kTN, q_tTrue, q_bNil, q_bCons, q_kBC1, q_kBC2, q_kBC3, q_kBC4, q_sPass, q_sBreak, q_sCont, q_sRetN, q_sExpr, q_kEx, q_sRet, q_kRt, q_sIf, q_kIf1, q_kIf2, q_kU, q_sSet, q_kSet, q_set1, q_set2, q_set3, q_kSl1, q_kSl2, q_gNm, q_gNms0, q_gNms1, q_kGs, q_gTp, q_gSq1, q_gSq2, q_sAsg, q_kAs0, q_kAs1, q_sAug, q_kAug, q_kAug1, q_kAug2, q_kAug3, q_eIter, q_kIt0, q_kIt1, q_kIt2, q_iRng, q_kRg0, q_kRg1, q_iZip, q_kZp1, q_kZp2, q_iEnum, q_kEn1, q_kEn2, q_sFor, q_kFor, q_sWhile, q_sPar, q_kPr0, q_kPr1, q_kPr2, q_kPr3, q_noPk1, q_noPk2, q_sPar3, q_kPt0, q_kPt1, q_kPt2, q_kPt3, q_kPt4, q_eMt, q_kMt0, q_kMt1, q_kMt1b, q_kMt2, q_kMt3, q_rdA1, q_rdA2, q_sPut, q_kPu0, q_kPu1, q_kPu2, q_kPu2b, q_kPu3, q_kPu4, q_stepL, q_kStw, q_kStx1, q_kStx2, q_kSty, q_kStz, startD_c, startD_n, startD_0, wipeD, backD, List.map_cons, List.map_nil, List.append_nil, List.nil_append, List.cons_append, List.getElem?_cons_zero, List.getElem?_cons_succ, List.set_cons_zero, List.set_cons_succ, List.length_cons, List.length_nil, Nat.reduceAdd, Nat.reduceLT, Nat.reduceLeDiff, Nat.zero_lt_succ, Nat.zero_lt_one, Bool.not_true, Bool.not_false, Bool.and_self, Bool.and_true, Bool.true_and, Bool.or_false, Bool.false_or, Bool.false_and, Bool.and_false, Bool.or_true, Bool.true_or, rets_ok, retsO_ok, retsN_ok, rets0_ok, true_and, and_true, and_self, y_kIfE, y_kTA, y_kTO, y_kAnd, y_kOr, y_kStx, y_if, y_fz, y_and, y_or, y_andD, y_orD, if_true, if_false, Bool.false_eq_true, Bool.true_eq_false, reduceIte, rb, ri, rs, Option.map_some, Option.bind_some, itemsOf, itemsZ]
  rw [eLc_all (fun p => .tup [.int (p.2 : Nat), .str [p.1]]) s.zipIdx (fun p => cD (if p.2 ∈ th then flipN p.1 else p.1)) (iEnum_row _ _ rfl) rfl (zl h) (fun p hp => ?_)]
  · rw [← tA_zip]
    simp only [bind_ok, bind_exc, bind_stuck, q_eVar, q_kVar1, q_kVar2, q_eC, q_peek1, q_peek2, q_peek3, q_kPk1, q_kPk2, q_frz1, q_frz2, q_frz3, q_kFz1, q_kFz2, q_peekL0, q_peekL1, q_kpl1, q_kfl1, q_kpl2, q_frzL0, q_frzL1, q_ans1, q_ans2, q_ans3, q_k2_eCB, q_k1_eCB, q_eCB, q_k2_e1, q_k1_e1, q_e1, q_k4_e2, q_k3_e2, q_k2_e2, q_k1_e2, q_e2, q_kch1, q_kch2, q_kch3, q_kch4, q_k4_e3c, q_k3_e3c, q_k2_e3c, q_k1_e3c, q_e3c, q_eIf, q_kIfE1, q_kIfE2, q_eAnd, q_kAnd1, q_kAnd2, q_eOr, q_kOr1, q_kOr2, q_eNot, q_kNot, q_eTup, q_eLst, q_kTup1, q_kLst1, q_kTupN0, q_kLstN0, q_kTupN1, q_kLstN1, q_kTupN2, q_kLstN2, q_kTupN3, q_kLstN3, q_kTupN4, q_kLstN4, q_kTupN5, q_kLstN5, q_kTupN6, q_kLstN6, q_kTupN7, q_kLstN7, q_kTupN8, q_kLstN8, q_kTupN9, q_kLstN9, q_pNo, q_pSo, q_kSo, q_k4_eSl, q_k3_eSl, q_k2_eSl, q_k1_eSl, q_eSl, q_eJoin, q_kJ0, q_kJ1, q_kJ2, q_k1_eCall, q_eCall, q_aNil, q_k2_aCons, q_k1_aCons, q_aCons, q_k2_eFz, q_k1_eFz, q_eFz, q_tB1, q_kB1, q_tTru, q_kTr0, q_kTr1, q_kTrb, q_truthB, q_kTr2, q_tAnd, q_tOr, q_tNot, q_kTA1, q_kTA2, q_kTO1, q_kTO2, q_kTN, q_tTrue, q_bNil, q_bCons, q_kBC1, q_kBC2, q_kBC3, q_kBC4, q_sPass, q_sBreak, q_sCont, q_sRetN, q_sExpr, q_kEx, q_sRet, q_kRt, q_sIf, q_kIf1, q_kIf2, q_kU, q_sSet, q_kSet, q_set1, q_set2, q_set3, q_kSl1, q_kSl2, q_gNm, q_gNms0, q_gNms1, q_kGs, q_gTp, q_gSq1, q_gSq2, q_sAsg, q_kAs0, q_kAs1, q_sAug, q_kAug, q_kAug1, q_kAug2, q_kAug3, q_eIter, q_kIt0, q_kIt1, q_kIt2, q_iRng, q_kRg0, q_kRg1, q_iZip, q_kZp1, q_kZp2, q_iEnum, q_kEn1, q_kEn2, q_sFor, q_kFor, q_sWhile, q_sPar, q_kPr0, q_kPr1, q_kPr2, q_kPr3, q_noPk1, q_noPk2, q_sPar3, q_kPt0, q_kPt1, q_kPt2, q_kPt3, q_kPt4, q_eMt, q_kMt0, q_kMt1, q_kMt1b, q_kMt2, q_kMt3, q_rdA1, q_rdA2, q_sPut, q_kPu0, q_kPu1, q_kPu2, q_kPu2b, q_kPu3, q_kPu4, q_stepL, q_kStw, q_kStx1, q_kStx2, q_kSty, q_kStz, startD_c, startD_n, startD_0, wipeD, backD, List.map_cons, List.map_nil, List.append_nil, List.nil_append, List.cons_append, List.getElem?_cons_zero, List.getElem?_cons_succ, List.set_cons_zero, List.set_cons_succ, List.length_cons, List.length_nil, Nat.reduceAdd, Nat.reduceLT, Nat.reduceLeDiff, Nat.zero_lt_succ, Nat.zero_lt_one, Bool.not_true, Bool.not_false, Bool.and_self, Bool.and_true, Bool.true_and, Bool.or_false, Bool.false_or, Bool.false_and, Bool.and_false, Bool.or_true, Bool.true_or, rets_ok, retsO_ok, retsN_ok, rets0_ok, true_and, and_true, and_self, y_kIfE, y_kTA, y_kTO, y_kAnd, y_kOr, y_kStx, y_if, y_fz, y_and, y_or, y_andD, y_orD, if_true, if_false, Bool.false_eq_true, Bool.true_eq_false, reduceIte, rb, ri, rs, Option.map_some, Option.bind_some, itemsOf, itemsZ, dJoin_signs _ _ (zl h)]
  · have e := dLook_flip (h.sg _ (mem_zipIdx1 hp))
    simp only [bind_ok, bind_exc, bind_stuck, q_eVar, q_kVar1, q_kVar2, q_eC, q_peek1, q_peek2, q_peek3, q_kPk1, q_kPk2, q_frz1, q_frz2, q_frz3, q_kFz1, q_kFz2, q_peekL0, q_peekL1, q_kpl1, q_kfl1, q_kpl2, q_frzL0, q_frzL1, q_ans1, q_ans2, q_ans3, q_k2_eCB, q_k1_eCB, q_eCB, q_k2_e1, q_k1_e1, q_e1, q_k4_e2, q_k3_e2, q_k2_e2, q_k1_e2, q_e2, q_kch1, q_kch2, q_kch3, q_kch4, q_k4_e3c, q_k3_e3c, q_k2_e3c, q_k1_e3c, q_e3c, q_eIf, q_kIfE1, q_kIfE2, q_eAnd, q_kAnd1, q_kAnd2, q_eOr, q_kOr1, q_kOr2, q_eNot, q_kNot, q_eTup, q_eLst, q_kTup1, q_kLst1, q_kTupN0, q_kLstN0, q_kTupN1, q_kLstN1, q_kTupN2, q_kLstN2, q_kTupN3, q_kLstN3, q_kTupN4, q_kLstN4, q_kTupN5, q_kLstN5, q_kTupN6, q_kLstN6, q_kTupN7, q_kLstN7, q_kTupN8, q_kLstN8, q_kTupN9, q_kLstN9, q_pNo, q_pSo, q_kSo, q_k4_eSl, q_k3_eSl, q_k2_eSl, q_k1_eSl, q_eSl, q_eJoin, q_kJ0, q_kJ1, q_kJ2, q_k1_eCall, q_eCall, q_aNil, q_k2_aCons, q_k1_aCons, q_aCons, q_k2_eFz, q_k1_eFz, q_eFz, q_tB1, q_kB1, q_tTru, q_kTr0, q_kTr1, q_kTrb, q_truthB, q_kTr2, q_tAnd, q_tOr, q_tNot, q_kTA1, q_kTA2, q_kTO1, q_kTO2, q_kTN, q_tTrue, q_bNil, q_bCons, q_kBC1, q_kBC2, q_kBC3, q_kBC4, q_sPass, q_sBreak, q_sCont, q_sRetN, q_sExpr, q_kEx, q_sRet, q_kRt, q_sIf, q_kIf1, q_kIf2, q_kU, q_sSet, q_kSet, q_set1, q_set2, q_set3, q_kSl1, q_kSl2, q_gNm, q_gNms0, q_gNms1, q_kGs, q_gTp, q_gSq1, q_gSq2, q_sAsg, q_kAs0, q_kAs1, q_sAug, q_kAug, q_kAug1, q_kAug2, q_kAug3, q_eIter, q_kIt0, q_kIt1, q_kIt2, q_iRng, q_kRg0, q_kRg1, q_iZip, q_kZp1, q_kZp2, q_iEnum, q_kEn1, q_kEn2, q_sFor, q_kFor, q_sWhile, q_sPar, q_kPr0, q_kPr1, q_kPr2, q_kPr3, q_noPk1, q_noPk2, q_sPar3, q_kPt0, q_kPt1, q_kPt2, q_kPt3, q_kPt4, q_eMt, q_kMt0, q_kMt1, q_kMt1b, q_kMt2, q_kMt3, q_rdA1, q_rdA2, q_sPut, q_kPu0, q_kPu1, q_kPu2, q_kPu2b, q_kPu3, q_kPu4, q_stepL, q_kStw, q_kStx1, q_kStx2, q_kSty, q_kStz, startD_c, startD_n, startD_0, wipeD, backD, List.map_cons, List.map_nil, List.append_nil, List.nil_append, List.cons_append, List.getElem?_cons_zero, List.getElem?_cons_succ, List.set_cons_zero, List.set_cons_succ, List.length_cons, List.length_nil, Nat.reduceAdd, Nat.reduceLT, Nat.reduceLeDiff, Nat.zero_lt_succ, Nat.zero_lt_one, Bool.not_true, Bool.not_false, Bool.and_self, Bool.and_true, Bool.true_and, Bool.or_false, Bool.false_or, Bool.false_and, Bool.and_false, Bool.or_true, Bool.true_or, rets_ok, retsO_ok, retsN_ok, rets0_ok, true_and, and_true, and_self, y_kIfE, y_kTA, y_kTO, y_kAnd, y_kOr, y_kStx, y_if, y_fz, y_and, y_or, y_andD, y_orD, if_true, if_false, Bool.false_eq_true, Bool.true_eq_false, reduceIte, rb, ri, rs, Option.map_some, Option.bind_some, itemsOf, itemsZ, turn_ok, e, dIn_th]
    by_cases hm : p.2 ∈ th <;> simp [hm])
theorem c_laid {s t : List Nat} (h : IsRow s) (h2 : IsRow t) (σ : SD) : callD 2 2 4 m_laid [] [.fz (.str s), .fz (.str t)] σ = .ok (.fz (.str (laidN s t))) σ := call_fz (as := [.str s, .str t]) rfl (by decide) (by
  simp only [m_laid, bind_ok, bind_exc, bind_stuck, q_eVar, q_kVar1, q_kVar2, q_eC, q_peek1, q_peek2, q_peek3, q_kPk1, q_kPk2, q_frz1, q_frz2, q_frz3, q_kFz1, q_kFz2, q_peekL0, q_peekL1, q_kpl1, q_kfl1, q_kpl2, q_frzL0, q_frzL1, q_ans1, q_ans2, q_ans3, q_k2_eCB, q_k1_eCB, q_eCB, q_k2_e1, q_k1_e1, q_e1, q_k4_e2, q_k3_e2, q_k2_e2, q_k1_e2, q_e2, q_kch1, q_kch2, q_kch3, q_kch4, q_k4_e3c, q_k3_e3c, q_k2_e3c, q_k1_e3c, q_e3c, q_eIf, q_kIfE1, q_kIfE2, q_eAnd, q_kAnd1, q_kAnd2, q_eOr, q_kOr1, q_kOr2, q_eNot, q_kNot, q_eTup, q_eLst, q_kTup1, q_kLst1, q_kTupN0, q_kLstN0, q_kTupN1, q_kLstN1, q_kTupN2, q_kLstN2, q_kTupN3, q_kLstN3, q_kTupN4, q_kLstN4, q_kTupN5, q_kLstN5, q_kTupN6, q_kLstN6, q_kTupN7, q_kLstN7, q_kTupN8, q_kLstN8, q_kTupN9, q_kLstN9, q_pNo, q_pSo, q_kSo, q_k4_eSl, q_k3_eSl, q_k2_eSl, q_k1_eSl, q_eSl, q_eJoin, q_kJ0, q_kJ1, q_kJ2, q_k1_eCall, q_eCall, q_aNil, q_k2_aCons, q_k1_aCons, q_aCons, q_k2_eFz, q_k1_eFz, q_eFz, q_tB1, q_kB1, q_tTru, q_kTr0, q_kTr1, q_kTrb, q_truthB, q_kTr2, q_tAnd, q_tOr, q_tNot, q_kTA1, q_kTA2, q_kTO1, q_kTO2, q_kTN, q_tTrue, q_bNil, q_bCons, q_kBC1, q_kBC2, q_kBC3, q_kBC4, q_sPass, q_sBreak, q_sCont, q_sRetN, q_sExpr, q_kEx, q_sRet, q_kRt, q_sIf, q_kIf1, q_kIf2, q_kU, q_sSet, q_kSet, q_set1, q_set2, q_set3, q_kSl1, q_kSl2, q_gNm, q_gNms0, q_gNms1, q_kGs, q_gTp, q_gSq1, q_gSq2, q_sAsg, q_kAs0, q_kAs1, q_sAug, q_kAug, q_kAug1, q_kAug2, q_kAug3, q_eIter, q_kIt0, q_kIt1, q_kIt2, q_iRng, q_kRg0, q_kRg1, q_iZip, q_kZp1, q_kZp2, q_iEnum, q_kEn1, q_kEn2, q_sFor, q_kFor, q_sWhile, q_sPar, q_kPr0, q_kPr1, q_kPr2, q_kPr3, q_noPk1, q_noPk2, q_sPar3, q_kPt0, q_kPt1, q_kPt2, q_kPt3, q_kPt4, q_eMt, q_kMt0, q_kMt1, q_kMt1b, q_kMt2, q_kMt3, q_rdA1, q_rdA2, q_sPut, q_kPu0, q_kPu1, q_kPu2, q_kPu2b, q_kPu3, q_kPu4, q_stepL, q_kStw, q_kStx1, q_kStx2, q_kSty, q_kStz, startD_c, startD_n, startD_0, wipeD, backD, List.map_cons, List.map_nil, List.append_nil, List.nil_append, List.cons_append, List.getElem?_cons_zero, List.getElem?_cons_succ, List.set_cons_zero, List.set_cons_succ, List.length_cons, List.length_nil, Nat.reduceAdd, Nat.reduceLT, Nat.reduceLeDiff, Nat.zero_lt_succ, Nat.zero_lt_one, Bool.not_true, Bool.not_false, Bool.and_self, Bool.and_true, Bool.true_and, Bool.or_false, Bool.false_or, Bool.false_and, Bool.and_false, Bool.or_true, Bool.true_or, rets_ok, retsO_ok, retsN_ok, rets0_ok, true_and, and_true, and_self, y_kIfE, y_kTA, y_kTO, y_kAnd, y_kOr, y_kStx, y_if, y_fz, y_and, y_or, y_andD, y_orD, if_true, if_false, Bool.false_eq_true, Bool.true_eq_false, reduceIte, rb, ri, rs, Option.map_some, Option.bind_some, itemsOf, itemsZ]
  rw [eLc_all (fun p => .tup [.str [p.1], .str [p.2]]) (s.zip t) (fun p => cD (if p.1 = 48 then p.2 else p.1)) (iZip_rows _ _ _ rfl rfl) rfl (zl2 h) (fun p hp => ?_)]
  · unfold laidN
    simp only [bind_ok, bind_exc, bind_stuck, q_eVar, q_kVar1, q_kVar2, q_eC, q_peek1, q_peek2, q_peek3, q_kPk1, q_kPk2, q_frz1, q_frz2, q_frz3, q_kFz1, q_kFz2, q_peekL0, q_peekL1, q_kpl1, q_kfl1, q_kpl2, q_frzL0, q_frzL1, q_ans1, q_ans2, q_ans3, q_k2_eCB, q_k1_eCB, q_eCB, q_k2_e1, q_k1_e1, q_e1, q_k4_e2, q_k3_e2, q_k2_e2, q_k1_e2, q_e2, q_kch1, q_kch2, q_kch3, q_kch4, q_k4_e3c, q_k3_e3c, q_k2_e3c, q_k1_e3c, q_e3c, q_eIf, q_kIfE1, q_kIfE2, q_eAnd, q_kAnd1, q_kAnd2, q_eOr, q_kOr1, q_kOr2, q_eNot, q_kNot, q_eTup, q_eLst, q_kTup1, q_kLst1, q_kTupN0, q_kLstN0, q_kTupN1, q_kLstN1, q_kTupN2, q_kLstN2, q_kTupN3, q_kLstN3, q_kTupN4, q_kLstN4, q_kTupN5, q_kLstN5, q_kTupN6, q_kLstN6, q_kTupN7, q_kLstN7, q_kTupN8, q_kLstN8, q_kTupN9, q_kLstN9, q_pNo, q_pSo, q_kSo, q_k4_eSl, q_k3_eSl, q_k2_eSl, q_k1_eSl, q_eSl, q_eJoin, q_kJ0, q_kJ1, q_kJ2, q_k1_eCall, q_eCall, q_aNil, q_k2_aCons, q_k1_aCons, q_aCons, q_k2_eFz, q_k1_eFz, q_eFz, q_tB1, q_kB1, q_tTru, q_kTr0, q_kTr1, q_kTrb, q_truthB, q_kTr2, q_tAnd, q_tOr, q_tNot, q_kTA1, q_kTA2, q_kTO1, q_kTO2, q_kTN, q_tTrue, q_bNil, q_bCons, q_kBC1, q_kBC2, q_kBC3, q_kBC4, q_sPass, q_sBreak, q_sCont, q_sRetN, q_sExpr, q_kEx, q_sRet, q_kRt, q_sIf, q_kIf1, q_kIf2, q_kU, q_sSet, q_kSet, q_set1, q_set2, q_set3, q_kSl1, q_kSl2, q_gNm, q_gNms0, q_gNms1, q_kGs, q_gTp, q_gSq1, q_gSq2, q_sAsg, q_kAs0, q_kAs1, q_sAug, q_kAug, q_kAug1, q_kAug2, q_kAug3, q_eIter, q_kIt0, q_kIt1, q_kIt2, q_iRng, q_kRg0, q_kRg1, q_iZip, q_kZp1, q_kZp2, q_iEnum, q_kEn1, q_kEn2, q_sFor, q_kFor, q_sWhile, q_sPar, q_kPr0, q_kPr1, q_kPr2, q_kPr3, q_noPk1, q_noPk2, q_sPar3, q_kPt0, q_kPt1, q_kPt2, q_kPt3, q_kPt4, q_eMt, q_kMt0, q_kMt1, q_kMt1b, q_kMt2, q_kMt3, q_rdA1, q_rdA2, q_sPut, q_kPu0, q_kPu1, q_kPu2, q_kPu2b, q_kPu3, q_kPu4, q_stepL, q_kStw, q_kStx1, q_kStx2, q_kSty, q_kStz, startD_c, startD_n, startD_0, wipeD, backD, List.map_cons, List.map_nil, List.append_nil, List.nil_append, List.cons_append, List.getElem?_cons_zero, List.getElem?_cons_succ, List.set_cons_zero, List.set_cons_succ, List.length_cons, List.length_nil, Nat.reduceAdd, Nat.reduceLT, Nat.reduceLeDiff, Nat.zero_lt_succ, Nat.zero_lt_one, Bool.not_true, Bool.not_false, Bool.and_self, Bool.and_true, Bool.true_and, Bool.or_false, Bool.false_or, Bool.false_and, Bool.and_false, Bool.or_true, Bool.true_or, rets_ok, retsO_ok, retsN_ok, rets0_ok, true_and, and_true, and_self, y_kIfE, y_kTA, y_kTO, y_kAnd, y_kOr, y_kStx, y_if, y_fz, y_and, y_or, y_andD, y_orD, if_true, if_false, Bool.false_eq_true, Bool.true_eq_false, reduceIte, rb, ri, rs, Option.map_some, Option.bind_some, itemsOf, itemsZ, dJoin_signs _ _ (zl2 h)]
  · have e := dEq_cc p.1 48 (h.sg _ (List.of_mem_zip hp).1) sg48
    simp only [bind_ok, bind_exc, bind_stuck, q_eVar, q_kVar1, q_kVar2, q_eC, q_peek1, q_peek2, q_peek3, q_kPk1, q_kPk2, q_frz1, q_frz2, q_frz3, q_kFz1, q_kFz2, q_peekL0, q_peekL1, q_kpl1, q_kfl1, q_kpl2, q_frzL0, q_frzL1, q_ans1, q_ans2, q_ans3, q_k2_eCB, q_k1_eCB, q_eCB, q_k2_e1, q_k1_e1, q_e1, q_k4_e2, q_k3_e2, q_k2_e2, q_k1_e2, q_e2, q_kch1, q_kch2, q_kch3, q_kch4, q_k4_e3c, q_k3_e3c, q_k2_e3c, q_k1_e3c, q_e3c, q_eIf, q_kIfE1, q_kIfE2, q_eAnd, q_kAnd1, q_kAnd2, q_eOr, q_kOr1, q_kOr2, q_eNot, q_kNot, q_eTup, q_eLst, q_kTup1, q_kLst1, q_kTupN0, q_kLstN0, q_kTupN1, q_kLstN1, q_kTupN2, q_kLstN2, q_kTupN3, q_kLstN3, q_kTupN4, q_kLstN4, q_kTupN5, q_kLstN5, q_kTupN6, q_kLstN6, q_kTupN7, q_kLstN7, q_kTupN8, q_kLstN8, q_kTupN9, q_kLstN9, q_pNo, q_pSo, q_kSo, q_k4_eSl, q_k3_eSl, q_k2_eSl, q_k1_eSl, q_eSl, q_eJoin, q_kJ0, q_kJ1, q_kJ2, q_k1_eCall, q_eCall, q_aNil, q_k2_aCons, q_k1_aCons, q_aCons, q_k2_eFz, q_k1_eFz, q_eFz, q_tB1, q_kB1, q_tTru, q_kTr0, q_kTr1, q_kTrb, q_truthB, q_kTr2, q_tAnd, q_tOr, q_tNot, q_kTA1, q_kTA2, q_kTO1, q_kTO2, q_kTN, q_tTrue, q_bNil, q_bCons, q_kBC1, q_kBC2, q_kBC3, q_kBC4, q_sPass, q_sBreak, q_sCont, q_sRetN, q_sExpr, q_kEx, q_sRet, q_kRt, q_sIf, q_kIf1, q_kIf2, q_kU, q_sSet, q_kSet, q_set1, q_set2, q_set3, q_kSl1, q_kSl2, q_gNm, q_gNms0, q_gNms1, q_kGs, q_gTp, q_gSq1, q_gSq2, q_sAsg, q_kAs0, q_kAs1, q_sAug, q_kAug, q_kAug1, q_kAug2, q_kAug3, q_eIter, q_kIt0, q_kIt1, q_kIt2, q_iRng, q_kRg0, q_kRg1, q_iZip, q_kZp1, q_kZp2, q_iEnum, q_kEn1, q_kEn2, q_sFor, q_kFor, q_sWhile, q_sPar, q_kPr0, q_kPr1, q_kPr2, q_kPr3, q_noPk1, q_noPk2, q_sPar3, q_kPt0, q_kPt1, q_kPt2, q_kPt3, q_kPt4, q_eMt, q_kMt0, q_kMt1, q_kMt1b, q_kMt2, q_kMt3, q_rdA1, q_rdA2, q_sPut, q_kPu0, q_kPu1, q_kPu2, q_kPu2b, q_kPu3, q_kPu4, q_stepL, q_kStw, q_kStx1, q_kStx2, q_kSty, q_kStz, startD_c, startD_n, startD_0, wipeD, backD, List.map_cons, List.map_nil, List.append_nil, List.nil_append, List.cons_append, List.getElem?_cons_zero, List.getElem?_cons_succ, List.set_cons_zero, List.set_cons_succ, List.length_cons, List.length_nil, Nat.reduceAdd, Nat.reduceLT, Nat.reduceLeDiff, Nat.zero_lt_succ, Nat.zero_lt_one, Bool.not_true, Bool.not_false, Bool.and_self, Bool.and_true, Bool.true_and, Bool.or_false, Bool.false_or, Bool.false_and, Bool.and_false, Bool.or_true, Bool.true_or, rets_ok, retsO_ok, retsN_ok, rets0_ok, true_and, and_true, and_self, y_kIfE, y_kTA, y_kTO, y_kAnd, y_kOr, y_kStx, y_if, y_fz, y_and, y_or, y_andD, y_orD, if_true, if_false, Bool.false_eq_true, Bool.true_eq_false, reduceIte, rb, ri, rs, Option.map_some, Option.bind_some, itemsOf, itemsZ, turn_ok, d_ZERO, e]
    by_cases hm : p.1 = 48 <;> simp [hm])
theorem dIx_str {t : List Nat} (ht : IsRow t) {i c : Nat} (h : t[i]? = some c) : dIx (.str t) (.int i) = some (.val (.str [c])) := by
  have hs : small t.length := ht.sm
  have : atI t (i : Int) = some c := atI_nat h
  simp only [dIx, if_pos hs, this, Option.map_some]
theorem at_row {s t : List Nat} (hl : s.length = t.length) {p : Nat × Nat} (h : p ∈ s.zipIdx) : ∃ c, c ∈ t ∧ t[p.2]? = some c := by
  have h1 := mem_zipIdx h
  have hi : p.2 < s.length := by
    rcases Nat.lt_or_ge p.2 s.length with q | q
    · exact q
    · rw [List.getElem?_eq_none q] at h1
      cases h1
  have hi2 : p.2 < t.length := by omega
  exact ⟨t[p.2], List.getElem_mem hi2, List.getElem?_eq_getElem hi2⟩
abbrev apP (t : List Nat) : Nat × Nat → Bool := fun p => decide (p.1 ≠ 48) && decide (t[p.2]? = some (flipN p.1))
theorem apP_map {s t : List Nat} (hl : s.length = t.length) : ((s.zipIdx.filter (apP t)).map fun p => D.int (p.2 : Nat)) = (apK 0 s t).map fun (i : Nat) => D.int (i : Int) := by
  rw [← apK_zip t s t 0 rfl hl, List.map_map]
  rfl
theorem c_apart_at {s t : List Nat} (h : IsRow s) (h2 : IsRow t) (hl : s.length = t.length) (σ : SD) : callD 2 2 4 m_apart_at [] [.fz (.str s), .fz (.str t)] σ = .ok (.fz (tD (apK 0 s t))) σ := call_fz (as := [.str s, .str t]) rfl (by decide) (by
  simp only [m_apart_at, bind_ok, bind_exc, bind_stuck, q_eVar, q_kVar1, q_kVar2, q_eC, q_peek1, q_peek2, q_peek3, q_kPk1, q_kPk2, q_frz1, q_frz2, q_frz3, q_kFz1, q_kFz2, q_peekL0, q_peekL1, q_kpl1, q_kfl1, q_kpl2, q_frzL0, q_frzL1, q_ans1, q_ans2, q_ans3, q_k2_eCB, q_k1_eCB, q_eCB, q_k2_e1, q_k1_e1, q_e1, q_k4_e2, q_k3_e2, q_k2_e2, q_k1_e2, q_e2, q_kch1, q_kch2, q_kch3, q_kch4, q_k4_e3c, q_k3_e3c, q_k2_e3c, q_k1_e3c, q_e3c, q_eIf, q_kIfE1, q_kIfE2, q_eAnd, q_kAnd1, q_kAnd2, q_eOr, q_kOr1, q_kOr2, q_eNot, q_kNot, q_eTup, q_eLst, q_kTup1, q_kLst1, q_kTupN0, q_kLstN0, q_kTupN1, q_kLstN1, q_kTupN2, q_kLstN2, q_kTupN3, q_kLstN3, q_kTupN4, q_kLstN4, q_kTupN5, q_kLstN5, q_kTupN6, q_kLstN6, q_kTupN7, q_kLstN7, q_kTupN8, q_kLstN8, q_kTupN9, q_kLstN9, q_pNo, q_pSo, q_kSo, q_k4_eSl, q_k3_eSl, q_k2_eSl, q_k1_eSl, q_eSl, q_eJoin, q_kJ0, q_kJ1, q_kJ2, q_k1_eCall, q_eCall, q_aNil, q_k2_aCons, q_k1_aCons, q_aCons, q_k2_eFz, q_k1_eFz, q_eFz, q_tB1, q_kB1, q_tTru, q_kTr0, q_kTr1, q_kTrb, q_truthB, q_kTr2, q_tAnd, q_tOr, q_tNot, q_kTA1, q_kTA2, q_kTO1, q_kTO2, q_kTN, q_tTrue, q_bNil, q_bCons, q_kBC1, q_kBC2, q_kBC3, q_kBC4, q_sPass, q_sBreak, q_sCont, q_sRetN, q_sExpr, q_kEx, q_sRet, q_kRt, q_sIf, q_kIf1, q_kIf2, q_kU, q_sSet, q_kSet, q_set1, q_set2, q_set3, q_kSl1, q_kSl2, q_gNm, q_gNms0, q_gNms1, q_kGs, q_gTp, q_gSq1, q_gSq2, q_sAsg, q_kAs0, q_kAs1, q_sAug, q_kAug, q_kAug1, q_kAug2, q_kAug3, q_eIter, q_kIt0, q_kIt1, q_kIt2, q_iRng, q_kRg0, q_kRg1, q_iZip, q_kZp1, q_kZp2, q_iEnum, q_kEn1, q_kEn2, q_sFor, q_kFor, q_sWhile, q_sPar, q_kPr0, q_kPr1, q_kPr2, q_kPr3, q_noPk1, q_noPk2, q_sPar3, q_kPt0, q_kPt1, q_kPt2, q_kPt3, q_kPt4, q_eMt, q_kMt0, q_kMt1, q_kMt1b, q_kMt2, q_kMt3, q_rdA1, q_rdA2, q_sPut, q_kPu0, q_kPu1, q_kPu2, q_kPu2b, q_kPu3, q_kPu4, q_stepL, q_kStw, q_kStx1, q_kStx2, q_kSty, q_kStz, startD_c, startD_n, startD_0, wipeD, backD, List.map_cons, List.map_nil, List.append_nil, List.nil_append, List.cons_append, List.getElem?_cons_zero, List.getElem?_cons_succ, List.set_cons_zero, List.set_cons_succ, List.length_cons, List.length_nil, Nat.reduceAdd, Nat.reduceLT, Nat.reduceLeDiff, Nat.zero_lt_succ, Nat.zero_lt_one, Bool.not_true, Bool.not_false, Bool.and_self, Bool.and_true, Bool.true_and, Bool.or_false, Bool.false_or, Bool.false_and, Bool.and_false, Bool.or_true, Bool.true_or, rets_ok, retsO_ok, retsN_ok, rets0_ok, true_and, and_true, and_self, y_kIfE, y_kTA, y_kTO, y_kAnd, y_kOr, y_kStx, y_if, y_fz, y_and, y_or, y_andD, y_orD, if_true, if_false, Bool.false_eq_true, Bool.true_eq_false, reduceIte, rb, ri, rs, Option.map_some, Option.bind_some, itemsOf, itemsZ]
  rw [eLc_if (fun p => .tup [.int (p.2 : Nat), .str [p.1]]) s.zipIdx (apP t) (fun p => .int (p.2 : Nat)) (iEnum_row _ _ rfl) rfl (zl h) (fun p hp => ?_)]
  · rw [apP_map hl]
    simp only [bind_ok, bind_exc, bind_stuck, q_eVar, q_kVar1, q_kVar2, q_eC, q_peek1, q_peek2, q_peek3, q_kPk1, q_kPk2, q_frz1, q_frz2, q_frz3, q_kFz1, q_kFz2, q_peekL0, q_peekL1, q_kpl1, q_kfl1, q_kpl2, q_frzL0, q_frzL1, q_ans1, q_ans2, q_ans3, q_k2_eCB, q_k1_eCB, q_eCB, q_k2_e1, q_k1_e1, q_e1, q_k4_e2, q_k3_e2, q_k2_e2, q_k1_e2, q_e2, q_kch1, q_kch2, q_kch3, q_kch4, q_k4_e3c, q_k3_e3c, q_k2_e3c, q_k1_e3c, q_e3c, q_eIf, q_kIfE1, q_kIfE2, q_eAnd, q_kAnd1, q_kAnd2, q_eOr, q_kOr1, q_kOr2, q_eNot, q_kNot, q_eTup, q_eLst, q_kTup1, q_kLst1, q_kTupN0, q_kLstN0, q_kTupN1, q_kLstN1, q_kTupN2, q_kLstN2, q_kTupN3, q_kLstN3, q_kTupN4, q_kLstN4, q_kTupN5, q_kLstN5, q_kTupN6, q_kLstN6, q_kTupN7, q_kLstN7, q_kTupN8, q_kLstN8, q_kTupN9, q_kLstN9, q_pNo, q_pSo, q_kSo, q_k4_eSl, q_k3_eSl, q_k2_eSl, q_k1_eSl, q_eSl, q_eJoin, q_kJ0, q_kJ1, q_kJ2, q_k1_eCall, q_eCall, q_aNil, q_k2_aCons, q_k1_aCons, q_aCons, q_k2_eFz, q_k1_eFz, q_eFz, q_tB1, q_kB1, q_tTru, q_kTr0, q_kTr1, q_kTrb, q_truthB, q_kTr2, q_tAnd, q_tOr, q_tNot, q_kTA1, q_kTA2, q_kTO1, q_kTO2, q_kTN, q_tTrue, q_bNil, q_bCons, q_kBC1, q_kBC2, q_kBC3, q_kBC4, q_sPass, q_sBreak, q_sCont, q_sRetN, q_sExpr, q_kEx, q_sRet, q_kRt, q_sIf, q_kIf1, q_kIf2, q_kU, q_sSet, q_kSet, q_set1, q_set2, q_set3, q_kSl1, q_kSl2, q_gNm, q_gNms0, q_gNms1, q_kGs, q_gTp, q_gSq1, q_gSq2, q_sAsg, q_kAs0, q_kAs1, q_sAug, q_kAug, q_kAug1, q_kAug2, q_kAug3, q_eIter, q_kIt0, q_kIt1, q_kIt2, q_iRng, q_kRg0, q_kRg1, q_iZip, q_kZp1, q_kZp2, q_iEnum, q_kEn1, q_kEn2, q_sFor, q_kFor, q_sWhile, q_sPar, q_kPr0, q_kPr1, q_kPr2, q_kPr3, q_noPk1, q_noPk2, q_sPar3, q_kPt0, q_kPt1, q_kPt2, q_kPt3, q_kPt4, q_eMt, q_kMt0, q_kMt1, q_kMt1b, q_kMt2, q_kMt3, q_rdA1, q_rdA2, q_sPut, q_kPu0, q_kPu1, q_kPu2, q_kPu2b, q_kPu3, q_kPu4, q_stepL, q_kStw, q_kStx1, q_kStx2, q_kSty, q_kStz, startD_c, startD_n, startD_0, wipeD, backD, List.map_cons, List.map_nil, List.append_nil, List.nil_append, List.cons_append, List.getElem?_cons_zero, List.getElem?_cons_succ, List.set_cons_zero, List.set_cons_succ, List.length_cons, List.length_nil, Nat.reduceAdd, Nat.reduceLT, Nat.reduceLeDiff, Nat.zero_lt_succ, Nat.zero_lt_one, Bool.not_true, Bool.not_false, Bool.and_self, Bool.and_true, Bool.true_and, Bool.or_false, Bool.false_or, Bool.false_and, Bool.and_false, Bool.or_true, Bool.true_or, rets_ok, retsO_ok, retsN_ok, rets0_ok, true_and, and_true, and_self, y_kIfE, y_kTA, y_kTO, y_kAnd, y_kOr, y_kStx, y_if, y_fz, y_and, y_or, y_andD, y_orD, if_true, if_false, Bool.false_eq_true, Bool.true_eq_false, reduceIte, rb, ri, rs, Option.map_some, Option.bind_some, itemsOf, itemsZ, dTuple, tD]
  · obtain ⟨c, hc, hq⟩ := at_row hl hp
    have e1 := dNe_cc p.1 48 (h.sg _ (mem_zipIdx1 hp)) sg48
    have e2 := dIx_str h2 hq
    have e3 := dLook_flip (h.sg _ (mem_zipIdx1 hp))
    have e4 := dEq_cc c (flipN p.1) (h2.sg _ hc) (isSg_flip (h.sg _ (mem_zipIdx1 hp)))
    simp only [bind_ok, bind_exc, bind_stuck, q_eVar, q_kVar1, q_kVar2, q_eC, q_peek1, q_peek2, q_peek3, q_kPk1, q_kPk2, q_frz1, q_frz2, q_frz3, q_kFz1, q_kFz2, q_peekL0, q_peekL1, q_kpl1, q_kfl1, q_kpl2, q_frzL0, q_frzL1, q_ans1, q_ans2, q_ans3, q_k2_eCB, q_k1_eCB, q_eCB, q_k2_e1, q_k1_e1, q_e1, q_k4_e2, q_k3_e2, q_k2_e2, q_k1_e2, q_e2, q_kch1, q_kch2, q_kch3, q_kch4, q_k4_e3c, q_k3_e3c, q_k2_e3c, q_k1_e3c, q_e3c, q_eIf, q_kIfE1, q_kIfE2, q_eAnd, q_kAnd1, q_kAnd2, q_eOr, q_kOr1, q_kOr2, q_eNot, q_kNot, q_eTup, q_eLst, q_kTup1, q_kLst1, q_kTupN0, q_kLstN0, q_kTupN1, q_kLstN1, q_kTupN2, q_kLstN2, q_kTupN3, q_kLstN3, q_kTupN4, q_kLstN4, q_kTupN5, q_kLstN5, q_kTupN6, q_kLstN6, q_kTupN7, q_kLstN7, q_kTupN8, q_kLstN8, q_kTupN9, q_kLstN9, q_pNo, q_pSo, q_kSo, q_k4_eSl, q_k3_eSl, q_k2_eSl, q_k1_eSl, q_eSl, q_eJoin, q_kJ0, q_kJ1, q_kJ2, q_k1_eCall, q_eCall, q_aNil, q_k2_aCons, q_k1_aCons, q_aCons, q_k2_eFz, q_k1_eFz, q_eFz, q_tB1, q_kB1, q_tTru, q_kTr0, q_kTr1, q_kTrb, q_truthB, q_kTr2, q_tAnd, q_tOr, q_tNot, q_kTA1, q_kTA2, q_kTO1, q_kTO2, q_kTN, q_tTrue, q_bNil, q_bCons, q_kBC1, q_kBC2, q_kBC3, q_kBC4, q_sPass, q_sBreak, q_sCont, q_sRetN, q_sExpr, q_kEx, q_sRet, q_kRt, q_sIf, q_kIf1, q_kIf2, q_kU, q_sSet, q_kSet, q_set1, q_set2, q_set3, q_kSl1, q_kSl2, q_gNm, q_gNms0, q_gNms1, q_kGs, q_gTp, q_gSq1, q_gSq2, q_sAsg, q_kAs0, q_kAs1, q_sAug, q_kAug, q_kAug1, q_kAug2, q_kAug3, q_eIter, q_kIt0, q_kIt1, q_kIt2, q_iRng, q_kRg0, q_kRg1, q_iZip, q_kZp1, q_kZp2, q_iEnum, q_kEn1, q_kEn2, q_sFor, q_kFor, q_sWhile, q_sPar, q_kPr0, q_kPr1, q_kPr2, q_kPr3, q_noPk1, q_noPk2, q_sPar3, q_kPt0, q_kPt1, q_kPt2, q_kPt3, q_kPt4, q_eMt, q_kMt0, q_kMt1, q_kMt1b, q_kMt2, q_kMt3, q_rdA1, q_rdA2, q_sPut, q_kPu0, q_kPu1, q_kPu2, q_kPu2b, q_kPu3, q_kPu4, q_stepL, q_kStw, q_kStx1, q_kStx2, q_kSty, q_kStz, startD_c, startD_n, startD_0, wipeD, backD, List.map_cons, List.map_nil, List.append_nil, List.nil_append, List.cons_append, List.getElem?_cons_zero, List.getElem?_cons_succ, List.set_cons_zero, List.set_cons_succ, List.length_cons, List.length_nil, Nat.reduceAdd, Nat.reduceLT, Nat.reduceLeDiff, Nat.zero_lt_succ, Nat.zero_lt_one, Bool.not_true, Bool.not_false, Bool.and_self, Bool.and_true, Bool.true_and, Bool.or_false, Bool.false_or, Bool.false_and, Bool.and_false, Bool.or_true, Bool.true_or, rets_ok, retsO_ok, retsN_ok, rets0_ok, true_and, and_true, and_self, y_kIfE, y_kTA, y_kTO, y_kAnd, y_kOr, y_kStx, y_if, y_fz, y_and, y_or, y_andD, y_orD, if_true, if_false, Bool.false_eq_true, Bool.true_eq_false, reduceIte, rb, ri, rs, Option.map_some, Option.bind_some, itemsOf, itemsZ, turn_ok, d_ZERO, e1, e2, e3, e4, apP, hq, Option.some.injEq])
theorem deqL_bl (a b : Bool) : deq (.bl a) (.bl b) = decide (a = b) := by
  cases a <;> cases b <;> rfl
theorem good_bls (bs : List Bool) : dGood (.lst (bs.map D.bl)) = true := dGood_lstM _ bs (fun _ _ => rfl) (fun _ _ => Nat.zero_le _)
theorem dEq_nil (ds : List D) (h : dGood (.lst ds) = true) : dEq (.lst ds) (.lst []) = some (.val (.bl (decide (ds = [])))) := by
  rw [dEq_of h rfl]
  cases ds with
  | nil => rfl
  | cons d ds => simp [deq, deqL]
theorem dEq_nilT (ds : List D) (h : dGood (.tup ds) = true) : dEq (.tup ds) (.tup []) = some (.val (.bl (decide (ds = [])))) := by
  rw [dEq_of h rfl]
  cases ds with
  | nil => rfl
  | cons d ds => simp [deq, deqL]
theorem any_bl (b : Bool) : ∀ bs : List Bool, (bs.map D.bl).any (fun z => deq z (.bl b)) = decide (b ∈ bs)
  | [] => rfl
  | t :: th => by
    rw [List.map_cons, List.any_cons, any_bl b th, deqL_bl]
    cases b <;> cases t <;> simp
theorem dIn_bls (b : Bool) (bs : List Bool) : dIn (.bl b) (.lst (bs.map D.bl)) = some (.val (.bl (decide (b ∈ bs)))) := by
  have g := good_bls bs
  have e := any_bl b bs
  have g1 : dGood (.bl b) = true := rfl
  simp only [dIn, g1, g, e, Bool.and_self, if_true, rb]
abbrev nzP : Nat × Nat → Bool := fun p => decide (p.1 ≠ 48) && decide (p.2 ≠ 48)
theorem c_are_upright {s t : List Nat} (h : IsRow s) (h2 : IsRow t) (σ : SD) : callD 2 2 5 m_are_upright [] [.fz (.str s), .fz (.str t)] σ = .ok (.fz (.bl (upN s t))) σ := call_fz (as := [.str s, .str t]) rfl (by decide) (by
  simp only [m_are_upright, bind_ok, bind_exc, bind_stuck, q_eVar, q_kVar1, q_kVar2, q_eC, q_peek1, q_peek2, q_peek3, q_kPk1, q_kPk2, q_frz1, q_frz2, q_frz3, q_kFz1, q_kFz2, q_peekL0, q_peekL1, q_kpl1, q_kfl1, q_kpl2, q_frzL0, q_frzL1, q_ans1, q_ans2, q_ans3, q_k2_eCB, q_k1_eCB, q_eCB, q_k2_e1, q_k1_e1, q_e1, q_k4_e2, q_k3_e2, q_k2_e2, q_k1_e2, q_e2, q_kch1, q_kch2, q_kch3, q_kch4, q_k4_e3c, q_k3_e3c, q_k2_e3c, q_k1_e3c, q_e3c, q_eIf, q_kIfE1, q_kIfE2, q_eAnd, q_kAnd1, q_kAnd2, q_eOr, q_kOr1, q_kOr2, q_eNot, q_kNot, q_eTup, q_eLst, q_kTup1, q_kLst1, q_kTupN0, q_kLstN0, q_kTupN1, q_kLstN1, q_kTupN2, q_kLstN2, q_kTupN3, q_kLstN3, q_kTupN4, q_kLstN4, q_kTupN5, q_kLstN5, q_kTupN6, q_kLstN6, q_kTupN7, q_kLstN7, q_kTupN8, q_kLstN8, q_kTupN9, q_kLstN9, q_pNo, q_pSo, q_kSo, q_k4_eSl, q_k3_eSl, q_k2_eSl, q_k1_eSl, q_eSl, q_eJoin, q_kJ0, q_kJ1, q_kJ2, q_k1_eCall, q_eCall, q_aNil, q_k2_aCons, q_k1_aCons, q_aCons, q_k2_eFz, q_k1_eFz, q_eFz, q_tB1, q_kB1, q_tTru, q_kTr0, q_kTr1, q_kTrb, q_truthB, q_kTr2, q_tAnd, q_tOr, q_tNot, q_kTA1, q_kTA2, q_kTO1, q_kTO2, q_kTN, q_tTrue, q_bNil, q_bCons, q_kBC1, q_kBC2, q_kBC3, q_kBC4, q_sPass, q_sBreak, q_sCont, q_sRetN, q_sExpr, q_kEx, q_sRet, q_kRt, q_sIf, q_kIf1, q_kIf2, q_kU, q_sSet, q_kSet, q_set1, q_set2, q_set3, q_kSl1, q_kSl2, q_gNm, q_gNms0, q_gNms1, q_kGs, q_gTp, q_gSq1, q_gSq2, q_sAsg, q_kAs0, q_kAs1, q_sAug, q_kAug, q_kAug1, q_kAug2, q_kAug3, q_eIter, q_kIt0, q_kIt1, q_kIt2, q_iRng, q_kRg0, q_kRg1, q_iZip, q_kZp1, q_kZp2, q_iEnum, q_kEn1, q_kEn2, q_sFor, q_kFor, q_sWhile, q_sPar, q_kPr0, q_kPr1, q_kPr2, q_kPr3, q_noPk1, q_noPk2, q_sPar3, q_kPt0, q_kPt1, q_kPt2, q_kPt3, q_kPt4, q_eMt, q_kMt0, q_kMt1, q_kMt1b, q_kMt2, q_kMt3, q_rdA1, q_rdA2, q_sPut, q_kPu0, q_kPu1, q_kPu2, q_kPu2b, q_kPu3, q_kPu4, q_stepL, q_kStw, q_kStx1, q_kStx2, q_kSty, q_kStz, startD_c, startD_n, startD_0, wipeD, backD, List.map_cons, List.map_nil, List.append_nil, List.nil_append, List.cons_append, List.getElem?_cons_zero, List.getElem?_cons_succ, List.set_cons_zero, List.set_cons_succ, List.length_cons, List.length_nil, Nat.reduceAdd, Nat.reduceLT, Nat.reduceLeDiff, Nat.zero_lt_succ, Nat.zero_lt_one, Bool.not_true, Bool.not_false, Bool.and_self, Bool.and_true, Bool.true_and, Bool.or_false, Bool.false_or, Bool.false_and, Bool.and_false, Bool.or_true, Bool.true_or, rets_ok, retsO_ok, retsN_ok, rets0_ok, true_and, and_true, and_self, y_kIfE, y_kTA, y_kTO, y_kAnd, y_kOr, y_kStx, y_if, y_fz, y_and, y_or, y_andD, y_orD, if_true, if_false, Bool.false_eq_true, Bool.true_eq_false, reduceIte, rb, ri, rs, Option.map_some, Option.bind_some, itemsOf, itemsZ]
  rw [eLc_if (fun p => .tup [.str [p.1], .str [p.2]]) (s.zip t) nzP (fun p => .bl (decide (p.1 = p.2))) (iZip_rows _ _ _ rfl rfl) rfl (zl2 h) (fun p hp => ?_)]
  · have e : ((s.zip t).filter nzP).map (fun p => D.bl (decide (p.1 = p.2))) = (prs s t).map D.bl := by
      rw [← prs_zip, List.map_map]
      rfl
    rw [e]
    have e2 := dEq_nil _ (good_bls (prs s t))
    simp only [bind_ok, bind_exc, bind_stuck, q_eVar, q_kVar1, q_kVar2, q_eC, q_peek1, q_peek2, q_peek3, q_kPk1, q_kPk2, q_frz1, q_frz2, q_frz3, q_kFz1, q_kFz2, q_peekL0, q_peekL1, q_kpl1, q_kfl1, q_kpl2, q_frzL0, q_frzL1, q_ans1, q_ans2, q_ans3, q_k2_eCB, q_k1_eCB, q_eCB, q_k2_e1, q_k1_e1, q_e1, q_k4_e2, q_k3_e2, q_k2_e2, q_k1_e2, q_e2, q_kch1, q_kch2, q_kch3, q_kch4, q_k4_e3c, q_k3_e3c, q_k2_e3c, q_k1_e3c, q_e3c, q_eIf, q_kIfE1, q_kIfE2, q_eAnd, q_kAnd1, q_kAnd2, q_eOr, q_kOr1, q_kOr2, q_eNot, q_kNot, q_eTup, q_eLst, q_kTup1, q_kLst1, q_kTupN0, q_kLstN0, q_kTupN1, q_kLstN1, q_kTupN2, q_kLstN2, q_kTupN3, q_kLstN3, q_kTupN4, q_kLstN4, q_kTupN5, q_kLstN5, q_kTupN6, q_kLstN6, q_kTupN7, q_kLstN7, q_kTupN8, q_kLstN8, q_kTupN9, q_kLstN9, q_pNo, q_pSo, q_kSo, q_k4_eSl, q_k3_eSl, q_k2_eSl, q_k1_eSl, q_eSl, q_eJoin, q_kJ0, q_kJ1, q_kJ2, q_k1_eCall, q_eCall, q_aNil, q_k2_aCons, q_k1_aCons, q_aCons, q_k2_eFz, q_k1_eFz, q_eFz, q_tB1, q_kB1, q_tTru, q_kTr0, q_kTr1, q_kTrb, q_truthB, q_kTr2, q_tAnd, q_tOr, q_tNot, q_kTA1, q_kTA2, q_kTO1, q_kTO2, q_kTN, q_tTrue, q_bNil, q_bCons, q_kBC1, q_kBC2, q_kBC3, q_kBC4, q_sPass, q_sBreak, q_sCont, q_sRetN, q_sExpr, q_kEx, q_sRet, q_kRt, q_sIf, q_kIf1, q_kIf2, q_kU, q_sSet, q_kSet, q_set1, q_set2, q_set3, q_kSl1, q_kSl2, q_gNm, q_gNms0, q_gNms1, q_kGs, q_gTp, q_gSq1, q_gSq2, q_sAsg, q_kAs0, q_kAs1, q_sAug, q_kAug, q_kAug1, q_kAug2, q_kAug3, q_eIter, q_kIt0, q_kIt1, q_kIt2, q_iRng, q_kRg0, q_kRg1, q_iZip, q_kZp1, q_kZp2, q_iEnum, q_kEn1, q_kEn2, q_sFor, q_kFor, q_sWhile, q_sPar, q_kPr0, q_kPr1, q_kPr2, q_kPr3, q_noPk1, q_noPk2, q_sPar3, q_kPt0, q_kPt1, q_kPt2, q_kPt3, q_kPt4, q_eMt, q_kMt0, q_kMt1, q_kMt1b, q_kMt2, q_kMt3, q_rdA1, q_rdA2, q_sPut, q_kPu0, q_kPu1, q_kPu2, q_kPu2b, q_kPu3, q_kPu4, q_stepL, q_kStw, q_kStx1, q_kStx2, q_kSty, q_kStz, startD_c, startD_n, startD_0, wipeD, backD, List.map_cons, List.map_nil, List.append_nil, List.nil_append, List.cons_append, List.getElem?_cons_zero, List.getElem?_cons_succ, List.set_cons_zero, List.set_cons_succ, List.length_cons, List.length_nil, Nat.reduceAdd, Nat.reduceLT, Nat.reduceLeDiff, Nat.zero_lt_succ, Nat.zero_lt_one, Bool.not_true, Bool.not_false, Bool.and_self, Bool.and_true, Bool.true_and, Bool.or_false, Bool.false_or, Bool.false_and, Bool.and_false, Bool.or_true, Bool.true_or, rets_ok, retsO_ok, retsN_ok, rets0_ok, true_and, and_true, and_self, y_kIfE, y_kTA, y_kTO, y_kAnd, y_kOr, y_kStx, y_if, y_fz, y_and, y_or, y_andD, y_orD, if_true, if_false, Bool.false_eq_true, Bool.true_eq_false, reduceIte, rb, ri, rs, Option.map_some, Option.bind_some, itemsOf, itemsZ, dIn_bls, e2, upN, List.map_eq_nil_iff]
  · have m := List.of_mem_zip hp
    have e1 := dNe_cc p.1 48 (h.sg _ m.1) sg48
    have e2 := dNe_cc p.2 48 (h2.sg _ m.2) sg48
    have e3 := dEq_cc p.1 p.2 (h.sg _ m.1) (h2.sg _ m.2)
    simp only [bind_ok, bind_exc, bind_stuck, q_eVar, q_kVar1, q_kVar2, q_eC, q_peek1, q_peek2, q_peek3, q_kPk1, q_kPk2, q_frz1, q_frz2, q_frz3, q_kFz1, q_kFz2, q_peekL0, q_peekL1, q_kpl1, q_kfl1, q_kpl2, q_frzL0, q_frzL1, q_ans1, q_ans2, q_ans3, q_k2_eCB, q_k1_eCB, q_eCB, q_k2_e1, q_k1_e1, q_e1, q_k4_e2, q_k3_e2, q_k2_e2, q_k1_e2, q_e2, q_kch1, q_kch2, q_kch3, q_kch4, q_k4_e3c, q_k3_e3c, q_k2_e3c, q_k1_e3c, q_e3c, q_eIf, q_kIfE1, q_kIfE2, q_eAnd, q_kAnd1, q_kAnd2, q_eOr, q_kOr1, q_kOr2, q_eNot, q_kNot, q_eTup, q_eLst, q_kTup1, q_kLst1, q_kTupN0, q_kLstN0, q_kTupN1, q_kLstN1, q_kTupN2, q_kLstN2, q_kTupN3, q_kLstN3, q_kTupN4, q_kLstN4, q_kTupN5, q_kLstN5, q_kTupN6, q_kLstN6, q_kTupN7, q_kLstN7, q_kTupN8, q_kLstN8, q_kTupN9, q_kLstN9, q_pNo, q_pSo, q_kSo, q_k4_eSl, q_k3_eSl, q_k2_eSl, q_k1_eSl, q_eSl, q_eJoin, q_kJ0, q_kJ1, q_kJ2, q_k1_eCall, q_eCall, q_aNil, q_k2_aCons, q_k1_aCons, q_aCons, q_k2_eFz, q_k1_eFz, q_eFz, q_tB1, q_kB1, q_tTru, q_kTr0, q_kTr1, q_kTrb, q_truthB, q_kTr2, q_tAnd, q_tOr, q_tNot, q_kTA1, q_kTA2, q_kTO1, q_kTO2, q_kTN, q_tTrue, q_bNil, q_bCons, q_kBC1, q_kBC2, q_kBC3, q_kBC4, q_sPass, q_sBreak, q_sCont, q_sRetN, q_sExpr, q_kEx, q_sRet, q_kRt, q_sIf, q_kIf1, q_kIf2, q_kU, q_sSet, q_kSet, q_set1, q_set2, q_set3, q_kSl1, q_kSl2, q_gNm, q_gNms0, q_gNms1, q_kGs, q_gTp, q_gSq1, q_gSq2, q_sAsg, q_kAs0, q_kAs1, q_sAug, q_kAug, q_kAug1, q_kAug2, q_kAug3, q_eIter, q_kIt0, q_kIt1, q_kIt2, q_iRng, q_kRg0, q_kRg1, q_iZip, q_kZp1, q_kZp2, q_iEnum, q_kEn1, q_kEn2, q_sFor, q_kFor, q_sWhile, q_sPar, q_kPr0, q_kPr1, q_kPr2, q_kPr3, q_noPk1, q_noPk2, q_sPar3, q_kPt0, q_kPt1, q_kPt2, q_kPt3, q_kPt4, q_eMt, q_kMt0, q_kMt1, q_kMt1b, q_kMt2, q_kMt3, q_rdA1, q_rdA2, q_sPut, q_kPu0, q_kPu1, q_kPu2, q_kPu2b, q_kPu3, q_kPu4, q_stepL, q_kStw, q_kStx1, q_kStx2, q_kSty, q_kStz, startD_c, startD_n, startD_0, wipeD, backD, List.map_cons, List.map_nil, List.append_nil, List.nil_append, List.cons_append, List.getElem?_cons_zero, List.getElem?_cons_succ, List.set_cons_zero, List.set_cons_succ, List.length_cons, List.length_nil, Nat.reduceAdd, Nat.reduceLT, Nat.reduceLeDiff, Nat.zero_lt_succ, Nat.zero_lt_one, Bool.not_true, Bool.not_false, Bool.and_self, Bool.and_true, Bool.true_and, Bool.or_false, Bool.false_or, Bool.false_and, Bool.and_false, Bool.or_true, Bool.true_or, rets_ok, retsO_ok, retsN_ok, rets0_ok, true_and, and_true, and_self, y_kIfE, y_kTA, y_kTO, y_kAnd, y_kOr, y_kStx, y_if, y_fz, y_and, y_or, y_andD, y_orD, if_true, if_false, Bool.false_eq_true, Bool.true_eq_false, reduceIte, rb, ri, rs, Option.map_some, Option.bind_some, itemsOf, itemsZ, turn_ok, d_ZERO, e1, e2, e3])
theorem held_map (s : List Nat) : ((s.zipIdx.filter fun p => decide (p.1 ≠ 48)).map fun p => D.int (p.2 : Nat)) = (heldN s).map fun (i : Nat) => D.int (i : Int) := by
  unfold heldN
  rw [List.map_map]
  rfl
theorem c_held {s : List Nat} (h : IsRow s) (σ : SD) : callD 1 1 3 m_held [] [.fz (.str s)] σ = .ok (.fz (tD (heldN s))) σ := call_fz (as := [.str s]) rfl (by decide) (by
  simp only [m_held, bind_ok, bind_exc, bind_stuck, q_eVar, q_kVar1, q_kVar2, q_eC, q_peek1, q_peek2, q_peek3, q_kPk1, q_kPk2, q_frz1, q_frz2, q_frz3, q_kFz1, q_kFz2, q_peekL0, q_peekL1, q_kpl1, q_kfl1, q_kpl2, q_frzL0, q_frzL1, q_ans1, q_ans2, q_ans3, q_k2_eCB, q_k1_eCB, q_eCB, q_k2_e1, q_k1_e1, q_e1, q_k4_e2, q_k3_e2, q_k2_e2, q_k1_e2, q_e2, q_kch1, q_kch2, q_kch3, q_kch4, q_k4_e3c, q_k3_e3c, q_k2_e3c, q_k1_e3c, q_e3c, q_eIf, q_kIfE1, q_kIfE2, q_eAnd, q_kAnd1, q_kAnd2, q_eOr, q_kOr1, q_kOr2, q_eNot, q_kNot, q_eTup, q_eLst, q_kTup1, q_kLst1, q_kTupN0, q_kLstN0, q_kTupN1, q_kLstN1, q_kTupN2, q_kLstN2, q_kTupN3, q_kLstN3, q_kTupN4, q_kLstN4, q_kTupN5, q_kLstN5, q_kTupN6, q_kLstN6, q_kTupN7, q_kLstN7, q_kTupN8, q_kLstN8, q_kTupN9, q_kLstN9, q_pNo, q_pSo, q_kSo, q_k4_eSl, q_k3_eSl, q_k2_eSl, q_k1_eSl, q_eSl, q_eJoin, q_kJ0, q_kJ1, q_kJ2, q_k1_eCall, q_eCall, q_aNil, q_k2_aCons, q_k1_aCons, q_aCons, q_k2_eFz, q_k1_eFz, q_eFz, q_tB1, q_kB1, q_tTru, q_kTr0, q_kTr1, q_kTrb, q_truthB, q_kTr2, q_tAnd, q_tOr, q_tNot, q_kTA1, q_kTA2, q_kTO1, q_kTO2, q_kTN, q_tTrue, q_bNil, q_bCons, q_kBC1, q_kBC2, q_kBC3, q_kBC4, q_sPass, q_sBreak, q_sCont, q_sRetN, q_sExpr, q_kEx, q_sRet, q_kRt, q_sIf, q_kIf1, q_kIf2, q_kU, q_sSet, q_kSet, q_set1, q_set2, q_set3, q_kSl1, q_kSl2, q_gNm, q_gNms0, q_gNms1, q_kGs, q_gTp, q_gSq1, q_gSq2, q_sAsg, q_kAs0, q_kAs1, q_sAug, q_kAug, q_kAug1, q_kAug2, q_kAug3, q_eIter, q_kIt0, q_kIt1, q_kIt2, q_iRng, q_kRg0, q_kRg1, q_iZip, q_kZp1, q_kZp2, q_iEnum, q_kEn1, q_kEn2, q_sFor, q_kFor, q_sWhile, q_sPar, q_kPr0, q_kPr1, q_kPr2, q_kPr3, q_noPk1, q_noPk2, q_sPar3, q_kPt0, q_kPt1, q_kPt2, q_kPt3, q_kPt4, q_eMt, q_kMt0, q_kMt1, q_kMt1b, q_kMt2, q_kMt3, q_rdA1, q_rdA2, q_sPut, q_kPu0, q_kPu1, q_kPu2, q_kPu2b, q_kPu3, q_kPu4, q_stepL, q_kStw, q_kStx1, q_kStx2, q_kSty, q_kStz, startD_c, startD_n, startD_0, wipeD, backD, List.map_cons, List.map_nil, List.append_nil, List.nil_append, List.cons_append, List.getElem?_cons_zero, List.getElem?_cons_succ, List.set_cons_zero, List.set_cons_succ, List.length_cons, List.length_nil, Nat.reduceAdd, Nat.reduceLT, Nat.reduceLeDiff, Nat.zero_lt_succ, Nat.zero_lt_one, Bool.not_true, Bool.not_false, Bool.and_self, Bool.and_true, Bool.true_and, Bool.or_false, Bool.false_or, Bool.false_and, Bool.and_false, Bool.or_true, Bool.true_or, rets_ok, retsO_ok, retsN_ok, rets0_ok, true_and, and_true, and_self, y_kIfE, y_kTA, y_kTO, y_kAnd, y_kOr, y_kStx, y_if, y_fz, y_and, y_or, y_andD, y_orD, if_true, if_false, Bool.false_eq_true, Bool.true_eq_false, reduceIte, rb, ri, rs, Option.map_some, Option.bind_some, itemsOf, itemsZ]
  rw [eLc_if (fun p => .tup [.int (p.2 : Nat), .str [p.1]]) s.zipIdx (fun p => decide (p.1 ≠ 48)) (fun p => .int (p.2 : Nat)) (iEnum_row _ _ rfl) rfl (zl h) (fun p hp => ?_)]
  · rw [held_map]
    simp only [bind_ok, bind_exc, bind_stuck, q_eVar, q_kVar1, q_kVar2, q_eC, q_peek1, q_peek2, q_peek3, q_kPk1, q_kPk2, q_frz1, q_frz2, q_frz3, q_kFz1, q_kFz2, q_peekL0, q_peekL1, q_kpl1, q_kfl1, q_kpl2, q_frzL0, q_frzL1, q_ans1, q_ans2, q_ans3, q_k2_eCB, q_k1_eCB, q_eCB, q_k2_e1, q_k1_e1, q_e1, q_k4_e2, q_k3_e2, q_k2_e2, q_k1_e2, q_e2, q_kch1, q_kch2, q_kch3, q_kch4, q_k4_e3c, q_k3_e3c, q_k2_e3c, q_k1_e3c, q_e3c, q_eIf, q_kIfE1, q_kIfE2, q_eAnd, q_kAnd1, q_kAnd2, q_eOr, q_kOr1, q_kOr2, q_eNot, q_kNot, q_eTup, q_eLst, q_kTup1, q_kLst1, q_kTupN0, q_kLstN0, q_kTupN1, q_kLstN1, q_kTupN2, q_kLstN2, q_kTupN3, q_kLstN3, q_kTupN4, q_kLstN4, q_kTupN5, q_kLstN5, q_kTupN6, q_kLstN6, q_kTupN7, q_kLstN7, q_kTupN8, q_kLstN8, q_kTupN9, q_kLstN9, q_pNo, q_pSo, q_kSo, q_k4_eSl, q_k3_eSl, q_k2_eSl, q_k1_eSl, q_eSl, q_eJoin, q_kJ0, q_kJ1, q_kJ2, q_k1_eCall, q_eCall, q_aNil, q_k2_aCons, q_k1_aCons, q_aCons, q_k2_eFz, q_k1_eFz, q_eFz, q_tB1, q_kB1, q_tTru, q_kTr0, q_kTr1, q_kTrb, q_truthB, q_kTr2, q_tAnd, q_tOr, q_tNot, q_kTA1, q_kTA2, q_kTO1, q_kTO2, q_kTN, q_tTrue, q_bNil, q_bCons, q_kBC1, q_kBC2, q_kBC3, q_kBC4, q_sPass, q_sBreak, q_sCont, q_sRetN, q_sExpr, q_kEx, q_sRet, q_kRt, q_sIf, q_kIf1, q_kIf2, q_kU, q_sSet, q_kSet, q_set1, q_set2, q_set3, q_kSl1, q_kSl2, q_gNm, q_gNms0, q_gNms1, q_kGs, q_gTp, q_gSq1, q_gSq2, q_sAsg, q_kAs0, q_kAs1, q_sAug, q_kAug, q_kAug1, q_kAug2, q_kAug3, q_eIter, q_kIt0, q_kIt1, q_kIt2, q_iRng, q_kRg0, q_kRg1, q_iZip, q_kZp1, q_kZp2, q_iEnum, q_kEn1, q_kEn2, q_sFor, q_kFor, q_sWhile, q_sPar, q_kPr0, q_kPr1, q_kPr2, q_kPr3, q_noPk1, q_noPk2, q_sPar3, q_kPt0, q_kPt1, q_kPt2, q_kPt3, q_kPt4, q_eMt, q_kMt0, q_kMt1, q_kMt1b, q_kMt2, q_kMt3, q_rdA1, q_rdA2, q_sPut, q_kPu0, q_kPu1, q_kPu2, q_kPu2b, q_kPu3, q_kPu4, q_stepL, q_kStw, q_kStx1, q_kStx2, q_kSty, q_kStz, startD_c, startD_n, startD_0, wipeD, backD, List.map_cons, List.map_nil, List.append_nil, List.nil_append, List.cons_append, List.getElem?_cons_zero, List.getElem?_cons_succ, List.set_cons_zero, List.set_cons_succ, List.length_cons, List.length_nil, Nat.reduceAdd, Nat.reduceLT, Nat.reduceLeDiff, Nat.zero_lt_succ, Nat.zero_lt_one, Bool.not_true, Bool.not_false, Bool.and_self, Bool.and_true, Bool.true_and, Bool.or_false, Bool.false_or, Bool.false_and, Bool.and_false, Bool.or_true, Bool.true_or, rets_ok, retsO_ok, retsN_ok, rets0_ok, true_and, and_true, and_self, y_kIfE, y_kTA, y_kTO, y_kAnd, y_kOr, y_kStx, y_if, y_fz, y_and, y_or, y_andD, y_orD, if_true, if_false, Bool.false_eq_true, Bool.true_eq_false, reduceIte, rb, ri, rs, Option.map_some, Option.bind_some, itemsOf, itemsZ, dTuple, tD]
  · have e1 := dNe_cc p.1 48 (h.sg _ (mem_zipIdx1 hp)) sg48
    simp only [bind_ok, bind_exc, bind_stuck, q_eVar, q_kVar1, q_kVar2, q_eC, q_peek1, q_peek2, q_peek3, q_kPk1, q_kPk2, q_frz1, q_frz2, q_frz3, q_kFz1, q_kFz2, q_peekL0, q_peekL1, q_kpl1, q_kfl1, q_kpl2, q_frzL0, q_frzL1, q_ans1, q_ans2, q_ans3, q_k2_eCB, q_k1_eCB, q_eCB, q_k2_e1, q_k1_e1, q_e1, q_k4_e2, q_k3_e2, q_k2_e2, q_k1_e2, q_e2, q_kch1, q_kch2, q_kch3, q_kch4, q_k4_e3c, q_k3_e3c, q_k2_e3c, q_k1_e3c, q_e3c, q_eIf, q_kIfE1, q_kIfE2, q_eAnd, q_kAnd1, q_kAnd2, q_eOr, q_kOr1, q_kOr2, q_eNot, q_kNot, q_eTup, q_eLst, q_kTup1, q_kLst1, q_kTupN0, q_kLstN0, q_kTupN1, q_kLstN1, q_kTupN2, q_kLstN2, q_kTupN3, q_kLstN3, q_kTupN4, q_kLstN4, q_kTupN5, q_kLstN5, q_kTupN6, q_kLstN6, q_kTupN7, q_kLstN7, q_kTupN8, q_kLstN8, q_kTupN9, q_kLstN9, q_pNo, q_pSo, q_kSo, q_k4_eSl, q_k3_eSl, q_k2_eSl, q_k1_eSl, q_eSl, q_eJoin, q_kJ0, q_kJ1, q_kJ2, q_k1_eCall, q_eCall, q_aNil, q_k2_aCons, q_k1_aCons, q_aCons, q_k2_eFz, q_k1_eFz, q_eFz, q_tB1, q_kB1, q_tTru, q_kTr0, q_kTr1, q_kTrb, q_truthB, q_kTr2, q_tAnd, q_tOr, q_tNot, q_kTA1, q_kTA2, q_kTO1, q_kTO2, q_kTN, q_tTrue, q_bNil, q_bCons, q_kBC1, q_kBC2, q_kBC3, q_kBC4, q_sPass, q_sBreak, q_sCont, q_sRetN, q_sExpr, q_kEx, q_sRet, q_kRt, q_sIf, q_kIf1, q_kIf2, q_kU, q_sSet, q_kSet, q_set1, q_set2, q_set3, q_kSl1, q_kSl2, q_gNm, q_gNms0, q_gNms1, q_kGs, q_gTp, q_gSq1, q_gSq2, q_sAsg, q_kAs0, q_kAs1, q_sAug, q_kAug, q_kAug1, q_kAug2, q_kAug3, q_eIter, q_kIt0, q_kIt1, q_kIt2, q_iRng, q_kRg0, q_kRg1, q_iZip, q_kZp1, q_kZp2, q_iEnum, q_kEn1, q_kEn2, q_sFor, q_kFor, q_sWhile, q_sPar, q_kPr0, q_kPr1, q_kPr2, q_kPr3, q_noPk1, q_noPk2, q_sPar3, q_kPt0, q_kPt1, q_kPt2, q_kPt3, q_kPt4, q_eMt, q_kMt0, q_kMt1, q_kMt1b, q_kMt2, q_kMt3, q_rdA1, q_rdA2, q_sPut, q_kPu0, q_kPu1, q_kPu2, q_kPu2b, q_kPu3, q_kPu4, q_stepL, q_kStw, q_kStx1, q_kStx2, q_kSty, q_kStz, startD_c, startD_n, startD_0, wipeD, backD, List.map_cons, List.map_nil, List.append_nil, List.nil_append, List.cons_append, List.getElem?_cons_zero, List.getElem?_cons_succ, List.set_cons_zero, List.set_cons_succ, List.length_cons, List.length_nil, Nat.reduceAdd, Nat.reduceLT, Nat.reduceLeDiff, Nat.zero_lt_succ, Nat.zero_lt_one, Bool.not_true, Bool.not_false, Bool.and_self, Bool.and_true, Bool.true_and, Bool.or_false, Bool.false_or, Bool.false_and, Bool.and_false, Bool.or_true, Bool.true_or, rets_ok, retsO_ok, retsN_ok, rets0_ok, true_and, and_true, and_self, y_kIfE, y_kTA, y_kTO, y_kAnd, y_kOr, y_kStx, y_if, y_fz, y_and, y_or, y_andD, y_orD, if_true, if_false, Bool.false_eq_true, Bool.true_eq_false, reduceIte, rb, ri, rs, Option.map_some, Option.bind_some, itemsOf, itemsZ, turn_ok, d_ZERO, e1])
theorem c_any {s : List Nat} (h : IsRow s) (σ : SD) : callD 1 1 1 m_require_any_row [] [.fz (.str s)] σ = .ok (.fz .non) σ := call_nx (as := [.str s]) rfl (by decide) ⟨_, p_require_any_row h⟩
theorem c_req {s : List Nat} (h : IsRow s) {i : Int} (hi : i = s.length) (σ : SD) : callD 2 2 2 m_require_row [] [.fz (.str s), .fz (.int i)] σ = .ok (.fz .non) σ := by
  subst hi
  exact call_nx (as := [.str s, .int s.length]) rfl (by decide) ⟨_, p_require_row h⟩
theorem c_reqth {th : List Nat} {m : Nat} (h : IsThings th m) (σ : SD) : callD 2 2 2 m_require_things [] [.fz (tD th), .fz (.int m)] σ = .ok (.fz .non) σ :=
  call_nx (as := [tD th, .int m]) rfl (by decide) ⟨_, p_require_things h⟩
theorem c_turned0 {s : List Nat} (h : IsRow s) (σ : SD) : callD 2 2 2 m_turned [.non] [.fz (.str s)] σ = .ok (.fz (.str (s.map flipN))) σ := call_fz (as := [.str s]) rfl (by decide) (by
  simp only [m_turned, bind_ok, bind_exc, bind_stuck, q_eVar, q_kVar1, q_kVar2, q_eC, q_peek1, q_peek2, q_peek3, q_kPk1, q_kPk2, q_frz1, q_frz2, q_frz3, q_kFz1, q_kFz2, q_peekL0, q_peekL1, q_kpl1, q_kfl1, q_kpl2, q_frzL0, q_frzL1, q_ans1, q_ans2, q_ans3, q_k2_eCB, q_k1_eCB, q_eCB, q_k2_e1, q_k1_e1, q_e1, q_k4_e2, q_k3_e2, q_k2_e2, q_k1_e2, q_e2, q_kch1, q_kch2, q_kch3, q_kch4, q_k4_e3c, q_k3_e3c, q_k2_e3c, q_k1_e3c, q_e3c, q_eIf, q_kIfE1, q_kIfE2, q_eAnd, q_kAnd1, q_kAnd2, q_eOr, q_kOr1, q_kOr2, q_eNot, q_kNot, q_eTup, q_eLst, q_kTup1, q_kLst1, q_kTupN0, q_kLstN0, q_kTupN1, q_kLstN1, q_kTupN2, q_kLstN2, q_kTupN3, q_kLstN3, q_kTupN4, q_kLstN4, q_kTupN5, q_kLstN5, q_kTupN6, q_kLstN6, q_kTupN7, q_kLstN7, q_kTupN8, q_kLstN8, q_kTupN9, q_kLstN9, q_pNo, q_pSo, q_kSo, q_k4_eSl, q_k3_eSl, q_k2_eSl, q_k1_eSl, q_eSl, q_eJoin, q_kJ0, q_kJ1, q_kJ2, q_k1_eCall, q_eCall, q_aNil, q_k2_aCons, q_k1_aCons, q_aCons, q_k2_eFz, q_k1_eFz, q_eFz, q_tB1, q_kB1, q_tTru, q_kTr0, q_kTr1, q_kTrb, q_truthB, q_kTr2, q_tAnd, q_tOr, q_tNot, q_kTA1, q_kTA2, q_kTO1, q_kTO2, q_kTN, q_tTrue, q_bNil, q_bCons, q_kBC1, q_kBC2, q_kBC3, q_kBC4, q_sPass, q_sBreak, q_sCont, q_sRetN, q_sExpr, q_kEx, q_sRet, q_kRt, q_sIf, q_kIf1, q_kIf2, q_kU, q_sSet, q_kSet, q_set1, q_set2, q_set3, q_kSl1, q_kSl2, q_gNm, q_gNms0, q_gNms1, q_kGs, q_gTp, q_gSq1, q_gSq2, q_sAsg, q_kAs0, q_kAs1, q_sAug, q_kAug, q_kAug1, q_kAug2, q_kAug3, q_eIter, q_kIt0, q_kIt1, q_kIt2, q_iRng, q_kRg0, q_kRg1, q_iZip, q_kZp1, q_kZp2, q_iEnum, q_kEn1, q_kEn2, q_sFor, q_kFor, q_sWhile, q_sPar, q_kPr0, q_kPr1, q_kPr2, q_kPr3, q_noPk1, q_noPk2, q_sPar3, q_kPt0, q_kPt1, q_kPt2, q_kPt3, q_kPt4, q_eMt, q_kMt0, q_kMt1, q_kMt1b, q_kMt2, q_kMt3, q_rdA1, q_rdA2, q_sPut, q_kPu0, q_kPu1, q_kPu2, q_kPu2b, q_kPu3, q_kPu4, q_stepL, q_kStw, q_kStx1, q_kStx2, q_kSty, q_kStz, startD_c, startD_n, startD_0, wipeD, backD, List.map_cons, List.map_nil, List.append_nil, List.nil_append, List.cons_append, List.getElem?_cons_zero, List.getElem?_cons_succ, List.set_cons_zero, List.set_cons_succ, List.length_cons, List.length_nil, Nat.reduceAdd, Nat.reduceLT, Nat.reduceLeDiff, Nat.zero_lt_succ, Nat.zero_lt_one, Bool.not_true, Bool.not_false, Bool.and_self, Bool.and_true, Bool.true_and, Bool.or_false, Bool.false_or, Bool.false_and, Bool.and_false, Bool.or_true, Bool.true_or, rets_ok, retsO_ok, retsN_ok, rets0_ok, true_and, and_true, and_self, y_kIfE, y_kTA, y_kTO, y_kAnd, y_kOr, y_kStx, y_if, y_fz, y_and, y_or, y_andD, y_orD, if_true, if_false, Bool.false_eq_true, Bool.true_eq_false, reduceIte, rb, ri, rs, Option.map_some, Option.bind_some, itemsOf, itemsZ, c_any h, dIsN, c_turned_row h])
theorem c_turned {s th : List Nat} (h : IsRow s) (ht : IsThings th s.length) (σ : SD) : callD 2 2 2 m_turned [] [.fz (.str s), .fz (tD th)] σ = .ok (.fz (.str (tA th 0 s))) σ := call_fz (as := [.str s, tD th]) rfl (by decide) (by
  have e1 : dIsN (tD th) .non = some (.val (.bl false)) := rfl
  have e2 := dLen_row h
  have e3 := c_reqth ht
  generalize (s.length : Int) = n at e2 e3
  simp only [m_turned, bind_ok, bind_exc, bind_stuck, q_eVar, q_kVar1, q_kVar2, q_eC, q_peek1, q_peek2, q_peek3, q_kPk1, q_kPk2, q_frz1, q_frz2, q_frz3, q_kFz1, q_kFz2, q_peekL0, q_peekL1, q_kpl1, q_kfl1, q_kpl2, q_frzL0, q_frzL1, q_ans1, q_ans2, q_ans3, q_k2_eCB, q_k1_eCB, q_eCB, q_k2_e1, q_k1_e1, q_e1, q_k4_e2, q_k3_e2, q_k2_e2, q_k1_e2, q_e2, q_kch1, q_kch2, q_kch3, q_kch4, q_k4_e3c, q_k3_e3c, q_k2_e3c, q_k1_e3c, q_e3c, q_eIf, q_kIfE1, q_kIfE2, q_eAnd, q_kAnd1, q_kAnd2, q_eOr, q_kOr1, q_kOr2, q_eNot, q_kNot, q_eTup, q_eLst, q_kTup1, q_kLst1, q_kTupN0, q_kLstN0, q_kTupN1, q_kLstN1, q_kTupN2, q_kLstN2, q_kTupN3, q_kLstN3, q_kTupN4, q_kLstN4, q_kTupN5, q_kLstN5, q_kTupN6, q_kLstN6, q_kTupN7, q_kLstN7, q_kTupN8, q_kLstN8, q_kTupN9, q_kLstN9, q_pNo, q_pSo, q_kSo, q_k4_eSl, q_k3_eSl, q_k2_eSl, q_k1_eSl, q_eSl, q_eJoin, q_kJ0, q_kJ1, q_kJ2, q_k1_eCall, q_eCall, q_aNil, q_k2_aCons, q_k1_aCons, q_aCons, q_k2_eFz, q_k1_eFz, q_eFz, q_tB1, q_kB1, q_tTru, q_kTr0, q_kTr1, q_kTrb, q_truthB, q_kTr2, q_tAnd, q_tOr, q_tNot, q_kTA1, q_kTA2, q_kTO1, q_kTO2, q_kTN, q_tTrue, q_bNil, q_bCons, q_kBC1, q_kBC2, q_kBC3, q_kBC4, q_sPass, q_sBreak, q_sCont, q_sRetN, q_sExpr, q_kEx, q_sRet, q_kRt, q_sIf, q_kIf1, q_kIf2, q_kU, q_sSet, q_kSet, q_set1, q_set2, q_set3, q_kSl1, q_kSl2, q_gNm, q_gNms0, q_gNms1, q_kGs, q_gTp, q_gSq1, q_gSq2, q_sAsg, q_kAs0, q_kAs1, q_sAug, q_kAug, q_kAug1, q_kAug2, q_kAug3, q_eIter, q_kIt0, q_kIt1, q_kIt2, q_iRng, q_kRg0, q_kRg1, q_iZip, q_kZp1, q_kZp2, q_iEnum, q_kEn1, q_kEn2, q_sFor, q_kFor, q_sWhile, q_sPar, q_kPr0, q_kPr1, q_kPr2, q_kPr3, q_noPk1, q_noPk2, q_sPar3, q_kPt0, q_kPt1, q_kPt2, q_kPt3, q_kPt4, q_eMt, q_kMt0, q_kMt1, q_kMt1b, q_kMt2, q_kMt3, q_rdA1, q_rdA2, q_sPut, q_kPu0, q_kPu1, q_kPu2, q_kPu2b, q_kPu3, q_kPu4, q_stepL, q_kStw, q_kStx1, q_kStx2, q_kSty, q_kStz, startD_c, startD_n, startD_0, wipeD, backD, List.map_cons, List.map_nil, List.append_nil, List.nil_append, List.cons_append, List.getElem?_cons_zero, List.getElem?_cons_succ, List.set_cons_zero, List.set_cons_succ, List.length_cons, List.length_nil, Nat.reduceAdd, Nat.reduceLT, Nat.reduceLeDiff, Nat.zero_lt_succ, Nat.zero_lt_one, Bool.not_true, Bool.not_false, Bool.and_self, Bool.and_true, Bool.true_and, Bool.or_false, Bool.false_or, Bool.false_and, Bool.and_false, Bool.or_true, Bool.true_or, rets_ok, retsO_ok, retsN_ok, rets0_ok, true_and, and_true, and_self, y_kIfE, y_kTA, y_kTO, y_kAnd, y_kOr, y_kStx, y_if, y_fz, y_and, y_or, y_andD, y_orD, if_true, if_false, Bool.false_eq_true, Bool.true_eq_false, reduceIte, rb, ri, rs, Option.map_some, Option.bind_some, itemsOf, itemsZ, c_any h, e1, e2, e3, c_turned_row_at h])
theorem c_laid_over {s t : List Nat} (h : IsRow s) (h2 : IsRow t) (hl : s.length = t.length) (σ : SD) : callD 2 2 2 m_laid_over [] [.fz (.str s), .fz (.str t)] σ = .ok (.fz (.str (laidN s t))) σ := call_fz (as := [.str s, .str t]) rfl (by decide) (by
  have e2 := dLen_row h
  have e3 := c_req h2 (i := s.length) (by rw [hl])
  generalize (s.length : Int) = n at e2 e3
  simp only [m_laid_over, bind_ok, bind_exc, bind_stuck, q_eVar, q_kVar1, q_kVar2, q_eC, q_peek1, q_peek2, q_peek3, q_kPk1, q_kPk2, q_frz1, q_frz2, q_frz3, q_kFz1, q_kFz2, q_peekL0, q_peekL1, q_kpl1, q_kfl1, q_kpl2, q_frzL0, q_frzL1, q_ans1, q_ans2, q_ans3, q_k2_eCB, q_k1_eCB, q_eCB, q_k2_e1, q_k1_e1, q_e1, q_k4_e2, q_k3_e2, q_k2_e2, q_k1_e2, q_e2, q_kch1, q_kch2, q_kch3, q_kch4, q_k4_e3c, q_k3_e3c, q_k2_e3c, q_k1_e3c, q_e3c, q_eIf, q_kIfE1, q_kIfE2, q_eAnd, q_kAnd1, q_kAnd2, q_eOr, q_kOr1, q_kOr2, q_eNot, q_kNot, q_eTup, q_eLst, q_kTup1, q_kLst1, q_kTupN0, q_kLstN0, q_kTupN1, q_kLstN1, q_kTupN2, q_kLstN2, q_kTupN3, q_kLstN3, q_kTupN4, q_kLstN4, q_kTupN5, q_kLstN5, q_kTupN6, q_kLstN6, q_kTupN7, q_kLstN7, q_kTupN8, q_kLstN8, q_kTupN9, q_kLstN9, q_pNo, q_pSo, q_kSo, q_k4_eSl, q_k3_eSl, q_k2_eSl, q_k1_eSl, q_eSl, q_eJoin, q_kJ0, q_kJ1, q_kJ2, q_k1_eCall, q_eCall, q_aNil, q_k2_aCons, q_k1_aCons, q_aCons, q_k2_eFz, q_k1_eFz, q_eFz, q_tB1, q_kB1, q_tTru, q_kTr0, q_kTr1, q_kTrb, q_truthB, q_kTr2, q_tAnd, q_tOr, q_tNot, q_kTA1, q_kTA2, q_kTO1, q_kTO2, q_kTN, q_tTrue, q_bNil, q_bCons, q_kBC1, q_kBC2, q_kBC3, q_kBC4, q_sPass, q_sBreak, q_sCont, q_sRetN, q_sExpr, q_kEx, q_sRet, q_kRt, q_sIf, q_kIf1, q_kIf2, q_kU, q_sSet, q_kSet, q_set1, q_set2, q_set3, q_kSl1, q_kSl2, q_gNm, q_gNms0, q_gNms1, q_kGs, q_gTp, q_gSq1, q_gSq2, q_sAsg, q_kAs0, q_kAs1, q_sAug, q_kAug, q_kAug1, q_kAug2, q_kAug3, q_eIter, q_kIt0, q_kIt1, q_kIt2, q_iRng, q_kRg0, q_kRg1, q_iZip, q_kZp1, q_kZp2, q_iEnum, q_kEn1, q_kEn2, q_sFor, q_kFor, q_sWhile, q_sPar, q_kPr0, q_kPr1, q_kPr2, q_kPr3, q_noPk1, q_noPk2, q_sPar3, q_kPt0, q_kPt1, q_kPt2, q_kPt3, q_kPt4, q_eMt, q_kMt0, q_kMt1, q_kMt1b, q_kMt2, q_kMt3, q_rdA1, q_rdA2, q_sPut, q_kPu0, q_kPu1, q_kPu2, q_kPu2b, q_kPu3, q_kPu4, q_stepL, q_kStw, q_kStx1, q_kStx2, q_kSty, q_kStz, startD_c, startD_n, startD_0, wipeD, backD, List.map_cons, List.map_nil, List.append_nil, List.nil_append, List.cons_append, List.getElem?_cons_zero, List.getElem?_cons_succ, List.set_cons_zero, List.set_cons_succ, List.length_cons, List.length_nil, Nat.reduceAdd, Nat.reduceLT, Nat.reduceLeDiff, Nat.zero_lt_succ, Nat.zero_lt_one, Bool.not_true, Bool.not_false, Bool.and_self, Bool.and_true, Bool.true_and, Bool.or_false, Bool.false_or, Bool.false_and, Bool.and_false, Bool.or_true, Bool.true_or, rets_ok, retsO_ok, retsN_ok, rets0_ok, true_and, and_true, and_self, y_kIfE, y_kTA, y_kTO, y_kAnd, y_kOr, y_kStx, y_if, y_fz, y_and, y_or, y_andD, y_orD, if_true, if_false, Bool.false_eq_true, Bool.true_eq_false, reduceIte, rb, ri, rs, Option.map_some, Option.bind_some, itemsOf, itemsZ, c_any h, e2, e3, c_laid h h2])
theorem c_apart {s t : List Nat} (h : IsRow s) (h2 : IsRow t) (hl : s.length = t.length) (σ : SD) : callD 2 2 2 m_apart [] [.fz (.str s), .fz (.str t)] σ = .ok (.fz (tD (apK 0 s t))) σ := call_fz (as := [.str s, .str t]) rfl (by decide) (by
  have e2 := dLen_row h
  have e3 := c_req h2 (i := s.length) (by rw [hl])
  generalize (s.length : Int) = n at e2 e3
  simp only [m_apart, bind_ok, bind_exc, bind_stuck, q_eVar, q_kVar1, q_kVar2, q_eC, q_peek1, q_peek2, q_peek3, q_kPk1, q_kPk2, q_frz1, q_frz2, q_frz3, q_kFz1, q_kFz2, q_peekL0, q_peekL1, q_kpl1, q_kfl1, q_kpl2, q_frzL0, q_frzL1, q_ans1, q_ans2, q_ans3, q_k2_eCB, q_k1_eCB, q_eCB, q_k2_e1, q_k1_e1, q_e1, q_k4_e2, q_k3_e2, q_k2_e2, q_k1_e2, q_e2, q_kch1, q_kch2, q_kch3, q_kch4, q_k4_e3c, q_k3_e3c, q_k2_e3c, q_k1_e3c, q_e3c, q_eIf, q_kIfE1, q_kIfE2, q_eAnd, q_kAnd1, q_kAnd2, q_eOr, q_kOr1, q_kOr2, q_eNot, q_kNot, q_eTup, q_eLst, q_kTup1, q_kLst1, q_kTupN0, q_kLstN0, q_kTupN1, q_kLstN1, q_kTupN2, q_kLstN2, q_kTupN3, q_kLstN3, q_kTupN4, q_kLstN4, q_kTupN5, q_kLstN5, q_kTupN6, q_kLstN6, q_kTupN7, q_kLstN7, q_kTupN8, q_kLstN8, q_kTupN9, q_kLstN9, q_pNo, q_pSo, q_kSo, q_k4_eSl, q_k3_eSl, q_k2_eSl, q_k1_eSl, q_eSl, q_eJoin, q_kJ0, q_kJ1, q_kJ2, q_k1_eCall, q_eCall, q_aNil, q_k2_aCons, q_k1_aCons, q_aCons, q_k2_eFz, q_k1_eFz, q_eFz, q_tB1, q_kB1, q_tTru, q_kTr0, q_kTr1, q_kTrb, q_truthB, q_kTr2, q_tAnd, q_tOr, q_tNot, q_kTA1, q_kTA2, q_kTO1, q_kTO2, q_kTN, q_tTrue, q_bNil, q_bCons, q_kBC1, q_kBC2, q_kBC3, q_kBC4, q_sPass, q_sBreak, q_sCont, q_sRetN, q_sExpr, q_kEx, q_sRet, q_kRt, q_sIf, q_kIf1, q_kIf2, q_kU, q_sSet, q_kSet, q_set1, q_set2, q_set3, q_kSl1, q_kSl2, q_gNm, q_gNms0, q_gNms1, q_kGs, q_gTp, q_gSq1, q_gSq2, q_sAsg, q_kAs0, q_kAs1, q_sAug, q_kAug, q_kAug1, q_kAug2, q_kAug3, q_eIter, q_kIt0, q_kIt1, q_kIt2, q_iRng, q_kRg0, q_kRg1, q_iZip, q_kZp1, q_kZp2, q_iEnum, q_kEn1, q_kEn2, q_sFor, q_kFor, q_sWhile, q_sPar, q_kPr0, q_kPr1, q_kPr2, q_kPr3, q_noPk1, q_noPk2, q_sPar3, q_kPt0, q_kPt1, q_kPt2, q_kPt3, q_kPt4, q_eMt, q_kMt0, q_kMt1, q_kMt1b, q_kMt2, q_kMt3, q_rdA1, q_rdA2, q_sPut, q_kPu0, q_kPu1, q_kPu2, q_kPu2b, q_kPu3, q_kPu4, q_stepL, q_kStw, q_kStx1, q_kStx2, q_kSty, q_kStz, startD_c, startD_n, startD_0, wipeD, backD, List.map_cons, List.map_nil, List.append_nil, List.nil_append, List.cons_append, List.getElem?_cons_zero, List.getElem?_cons_succ, List.set_cons_zero, List.set_cons_succ, List.length_cons, List.length_nil, Nat.reduceAdd, Nat.reduceLT, Nat.reduceLeDiff, Nat.zero_lt_succ, Nat.zero_lt_one, Bool.not_true, Bool.not_false, Bool.and_self, Bool.and_true, Bool.true_and, Bool.or_false, Bool.false_or, Bool.false_and, Bool.and_false, Bool.or_true, Bool.true_or, rets_ok, retsO_ok, retsN_ok, rets0_ok, true_and, and_true, and_self, y_kIfE, y_kTA, y_kTO, y_kAnd, y_kOr, y_kStx, y_if, y_fz, y_and, y_or, y_andD, y_orD, if_true, if_false, Bool.false_eq_true, Bool.true_eq_false, reduceIte, rb, ri, rs, Option.map_some, Option.bind_some, itemsOf, itemsZ, c_any h, e2, e3, c_apart_at h h2 hl])
theorem c_is_upright {s t : List Nat} (h : IsRow s) (h2 : IsRow t) (hl : s.length = t.length) (σ : SD) : callD 2 2 2 m_is_upright [] [.fz (.str s), .fz (.str t)] σ = .ok (.fz (.bl (upN s t))) σ := call_fz (as := [.str s, .str t]) rfl (by decide) (by
  have e2 := dLen_row h
  have e3 := c_req h2 (i := s.length) (by rw [hl])
  generalize (s.length : Int) = n at e2 e3
  simp only [m_is_upright, bind_ok, bind_exc, bind_stuck, q_eVar, q_kVar1, q_kVar2, q_eC, q_peek1, q_peek2, q_peek3, q_kPk1, q_kPk2, q_frz1, q_frz2, q_frz3, q_kFz1, q_kFz2, q_peekL0, q_peekL1, q_kpl1, q_kfl1, q_kpl2, q_frzL0, q_frzL1, q_ans1, q_ans2, q_ans3, q_k2_eCB, q_k1_eCB, q_eCB, q_k2_e1, q_k1_e1, q_e1, q_k4_e2, q_k3_e2, q_k2_e2, q_k1_e2, q_e2, q_kch1, q_kch2, q_kch3, q_kch4, q_k4_e3c, q_k3_e3c, q_k2_e3c, q_k1_e3c, q_e3c, q_eIf, q_kIfE1, q_kIfE2, q_eAnd, q_kAnd1, q_kAnd2, q_eOr, q_kOr1, q_kOr2, q_eNot, q_kNot, q_eTup, q_eLst, q_kTup1, q_kLst1, q_kTupN0, q_kLstN0, q_kTupN1, q_kLstN1, q_kTupN2, q_kLstN2, q_kTupN3, q_kLstN3, q_kTupN4, q_kLstN4, q_kTupN5, q_kLstN5, q_kTupN6, q_kLstN6, q_kTupN7, q_kLstN7, q_kTupN8, q_kLstN8, q_kTupN9, q_kLstN9, q_pNo, q_pSo, q_kSo, q_k4_eSl, q_k3_eSl, q_k2_eSl, q_k1_eSl, q_eSl, q_eJoin, q_kJ0, q_kJ1, q_kJ2, q_k1_eCall, q_eCall, q_aNil, q_k2_aCons, q_k1_aCons, q_aCons, q_k2_eFz, q_k1_eFz, q_eFz, q_tB1, q_kB1, q_tTru, q_kTr0, q_kTr1, q_kTrb, q_truthB, q_kTr2, q_tAnd, q_tOr, q_tNot, q_kTA1, q_kTA2, q_kTO1, q_kTO2, q_kTN, q_tTrue, q_bNil, q_bCons, q_kBC1, q_kBC2, q_kBC3, q_kBC4, q_sPass, q_sBreak, q_sCont, q_sRetN, q_sExpr, q_kEx, q_sRet, q_kRt, q_sIf, q_kIf1, q_kIf2, q_kU, q_sSet, q_kSet, q_set1, q_set2, q_set3, q_kSl1, q_kSl2, q_gNm, q_gNms0, q_gNms1, q_kGs, q_gTp, q_gSq1, q_gSq2, q_sAsg, q_kAs0, q_kAs1, q_sAug, q_kAug, q_kAug1, q_kAug2, q_kAug3, q_eIter, q_kIt0, q_kIt1, q_kIt2, q_iRng, q_kRg0, q_kRg1, q_iZip, q_kZp1, q_kZp2, q_iEnum, q_kEn1, q_kEn2, q_sFor, q_kFor, q_sWhile, q_sPar, q_kPr0, q_kPr1, q_kPr2, q_kPr3, q_noPk1, q_noPk2, q_sPar3, q_kPt0, q_kPt1, q_kPt2, q_kPt3, q_kPt4, q_eMt, q_kMt0, q_kMt1, q_kMt1b, q_kMt2, q_kMt3, q_rdA1, q_rdA2, q_sPut, q_kPu0, q_kPu1, q_kPu2, q_kPu2b, q_kPu3, q_kPu4, q_stepL, q_kStw, q_kStx1, q_kStx2, q_kSty, q_kStz, startD_c, startD_n, startD_0, wipeD, backD, List.map_cons, List.map_nil, List.append_nil, List.nil_append, List.cons_append, List.getElem?_cons_zero, List.getElem?_cons_succ, List.set_cons_zero, List.set_cons_succ, List.length_cons, List.length_nil, Nat.reduceAdd, Nat.reduceLT, Nat.reduceLeDiff, Nat.zero_lt_succ, Nat.zero_lt_one, Bool.not_true, Bool.not_false, Bool.and_self, Bool.and_true, Bool.true_and, Bool.or_false, Bool.false_or, Bool.false_and, Bool.and_false, Bool.or_true, Bool.true_or, rets_ok, retsO_ok, retsN_ok, rets0_ok, true_and, and_true, and_self, y_kIfE, y_kTA, y_kTO, y_kAnd, y_kOr, y_kStx, y_if, y_fz, y_and, y_or, y_andD, y_orD, if_true, if_false, Bool.false_eq_true, Bool.true_eq_false, reduceIte, rb, ri, rs, Option.map_some, Option.bind_some, itemsOf, itemsZ, c_any h, e2, e3, c_are_upright h h2])
theorem c_things_of {s : List Nat} (h : IsRow s) (σ : SD) : callD 1 1 1 m_things_of [] [.fz (.str s)] σ = .ok (.fz (tD (heldN s))) σ := call_fz (as := [.str s]) rfl (by decide) (by
  simp only [m_things_of, bind_ok, bind_exc, bind_stuck, q_eVar, q_kVar1, q_kVar2, q_eC, q_peek1, q_peek2, q_peek3, q_kPk1, q_kPk2, q_frz1, q_frz2, q_frz3, q_kFz1, q_kFz2, q_peekL0, q_peekL1, q_kpl1, q_kfl1, q_kpl2, q_frzL0, q_frzL1, q_ans1, q_ans2, q_ans3, q_k2_eCB, q_k1_eCB, q_eCB, q_k2_e1, q_k1_e1, q_e1, q_k4_e2, q_k3_e2, q_k2_e2, q_k1_e2, q_e2, q_kch1, q_kch2, q_kch3, q_kch4, q_k4_e3c, q_k3_e3c, q_k2_e3c, q_k1_e3c, q_e3c, q_eIf, q_kIfE1, q_kIfE2, q_eAnd, q_kAnd1, q_kAnd2, q_eOr, q_kOr1, q_kOr2, q_eNot, q_kNot, q_eTup, q_eLst, q_kTup1, q_kLst1, q_kTupN0, q_kLstN0, q_kTupN1, q_kLstN1, q_kTupN2, q_kLstN2, q_kTupN3, q_kLstN3, q_kTupN4, q_kLstN4, q_kTupN5, q_kLstN5, q_kTupN6, q_kLstN6, q_kTupN7, q_kLstN7, q_kTupN8, q_kLstN8, q_kTupN9, q_kLstN9, q_pNo, q_pSo, q_kSo, q_k4_eSl, q_k3_eSl, q_k2_eSl, q_k1_eSl, q_eSl, q_eJoin, q_kJ0, q_kJ1, q_kJ2, q_k1_eCall, q_eCall, q_aNil, q_k2_aCons, q_k1_aCons, q_aCons, q_k2_eFz, q_k1_eFz, q_eFz, q_tB1, q_kB1, q_tTru, q_kTr0, q_kTr1, q_kTrb, q_truthB, q_kTr2, q_tAnd, q_tOr, q_tNot, q_kTA1, q_kTA2, q_kTO1, q_kTO2, q_kTN, q_tTrue, q_bNil, q_bCons, q_kBC1, q_kBC2, q_kBC3, q_kBC4, q_sPass, q_sBreak, q_sCont, q_sRetN, q_sExpr, q_kEx, q_sRet, q_kRt, q_sIf, q_kIf1, q_kIf2, q_kU, q_sSet, q_kSet, q_set1, q_set2, q_set3, q_kSl1, q_kSl2, q_gNm, q_gNms0, q_gNms1, q_kGs, q_gTp, q_gSq1, q_gSq2, q_sAsg, q_kAs0, q_kAs1, q_sAug, q_kAug, q_kAug1, q_kAug2, q_kAug3, q_eIter, q_kIt0, q_kIt1, q_kIt2, q_iRng, q_kRg0, q_kRg1, q_iZip, q_kZp1, q_kZp2, q_iEnum, q_kEn1, q_kEn2, q_sFor, q_kFor, q_sWhile, q_sPar, q_kPr0, q_kPr1, q_kPr2, q_kPr3, q_noPk1, q_noPk2, q_sPar3, q_kPt0, q_kPt1, q_kPt2, q_kPt3, q_kPt4, q_eMt, q_kMt0, q_kMt1, q_kMt1b, q_kMt2, q_kMt3, q_rdA1, q_rdA2, q_sPut, q_kPu0, q_kPu1, q_kPu2, q_kPu2b, q_kPu3, q_kPu4, q_stepL, q_kStw, q_kStx1, q_kStx2, q_kSty, q_kStz, startD_c, startD_n, startD_0, wipeD, backD, List.map_cons, List.map_nil, List.append_nil, List.nil_append, List.cons_append, List.getElem?_cons_zero, List.getElem?_cons_succ, List.set_cons_zero, List.set_cons_succ, List.length_cons, List.length_nil, Nat.reduceAdd, Nat.reduceLT, Nat.reduceLeDiff, Nat.zero_lt_succ, Nat.zero_lt_one, Bool.not_true, Bool.not_false, Bool.and_self, Bool.and_true, Bool.true_and, Bool.or_false, Bool.false_or, Bool.false_and, Bool.and_false, Bool.or_true, Bool.true_or, rets_ok, retsO_ok, retsN_ok, rets0_ok, true_and, and_true, and_self, y_kIfE, y_kTA, y_kTO, y_kAnd, y_kOr, y_kStx, y_if, y_fz, y_and, y_or, y_andD, y_orD, if_true, if_false, Bool.false_eq_true, Bool.true_eq_false, reduceIte, rb, ri, rs, Option.map_some, Option.bind_some, itemsOf, itemsZ, c_any h, c_held h])
theorem zeros_map (s : List Nat) : ((s.zipIdx.filter fun p => decide (p.1 = 48)).map fun p => D.int (p.2 : Nat)) = (zerosN s).map fun (i : Nat) => D.int (i : Int) := by
  unfold zerosN
  rw [List.map_map]
  rfl
theorem c_zeros_of {s : List Nat} (h : IsRow s) (σ : SD) : callD 1 1 3 m_zeros_of [] [.fz (.str s)] σ = .ok (.fz (tD (zerosN s))) σ := call_fz (as := [.str s]) rfl (by decide) (by
  simp only [m_zeros_of, bind_ok, bind_exc, bind_stuck, q_eVar, q_kVar1, q_kVar2, q_eC, q_peek1, q_peek2, q_peek3, q_kPk1, q_kPk2, q_frz1, q_frz2, q_frz3, q_kFz1, q_kFz2, q_peekL0, q_peekL1, q_kpl1, q_kfl1, q_kpl2, q_frzL0, q_frzL1, q_ans1, q_ans2, q_ans3, q_k2_eCB, q_k1_eCB, q_eCB, q_k2_e1, q_k1_e1, q_e1, q_k4_e2, q_k3_e2, q_k2_e2, q_k1_e2, q_e2, q_kch1, q_kch2, q_kch3, q_kch4, q_k4_e3c, q_k3_e3c, q_k2_e3c, q_k1_e3c, q_e3c, q_eIf, q_kIfE1, q_kIfE2, q_eAnd, q_kAnd1, q_kAnd2, q_eOr, q_kOr1, q_kOr2, q_eNot, q_kNot, q_eTup, q_eLst, q_kTup1, q_kLst1, q_kTupN0, q_kLstN0, q_kTupN1, q_kLstN1, q_kTupN2, q_kLstN2, q_kTupN3, q_kLstN3, q_kTupN4, q_kLstN4, q_kTupN5, q_kLstN5, q_kTupN6, q_kLstN6, q_kTupN7, q_kLstN7, q_kTupN8, q_kLstN8, q_kTupN9, q_kLstN9, q_pNo, q_pSo, q_kSo, q_k4_eSl, q_k3_eSl, q_k2_eSl, q_k1_eSl, q_eSl, q_eJoin, q_kJ0, q_kJ1, q_kJ2, q_k1_eCall, q_eCall, q_aNil, q_k2_aCons, q_k1_aCons, q_aCons, q_k2_eFz, q_k1_eFz, q_eFz, q_tB1, q_kB1, q_tTru, q_kTr0, q_kTr1, q_kTrb, q_truthB, q_kTr2, q_tAnd, q_tOr, q_tNot, q_kTA1, q_kTA2, q_kTO1, q_kTO2, q_kTN, q_tTrue, q_bNil, q_bCons, q_kBC1, q_kBC2, q_kBC3, q_kBC4, q_sPass, q_sBreak, q_sCont, q_sRetN, q_sExpr, q_kEx, q_sRet, q_kRt, q_sIf, q_kIf1, q_kIf2, q_kU, q_sSet, q_kSet, q_set1, q_set2, q_set3, q_kSl1, q_kSl2, q_gNm, q_gNms0, q_gNms1, q_kGs, q_gTp, q_gSq1, q_gSq2, q_sAsg, q_kAs0, q_kAs1, q_sAug, q_kAug, q_kAug1, q_kAug2, q_kAug3, q_eIter, q_kIt0, q_kIt1, q_kIt2, q_iRng, q_kRg0, q_kRg1, q_iZip, q_kZp1, q_kZp2, q_iEnum, q_kEn1, q_kEn2, q_sFor, q_kFor, q_sWhile, q_sPar, q_kPr0, q_kPr1, q_kPr2, q_kPr3, q_noPk1, q_noPk2, q_sPar3, q_kPt0, q_kPt1, q_kPt2, q_kPt3, q_kPt4, q_eMt, q_kMt0, q_kMt1, q_kMt1b, q_kMt2, q_kMt3, q_rdA1, q_rdA2, q_sPut, q_kPu0, q_kPu1, q_kPu2, q_kPu2b, q_kPu3, q_kPu4, q_stepL, q_kStw, q_kStx1, q_kStx2, q_kSty, q_kStz, startD_c, startD_n, startD_0, wipeD, backD, List.map_cons, List.map_nil, List.append_nil, List.nil_append, List.cons_append, List.getElem?_cons_zero, List.getElem?_cons_succ, List.set_cons_zero, List.set_cons_succ, List.length_cons, List.length_nil, Nat.reduceAdd, Nat.reduceLT, Nat.reduceLeDiff, Nat.zero_lt_succ, Nat.zero_lt_one, Bool.not_true, Bool.not_false, Bool.and_self, Bool.and_true, Bool.true_and, Bool.or_false, Bool.false_or, Bool.false_and, Bool.and_false, Bool.or_true, Bool.true_or, rets_ok, retsO_ok, retsN_ok, rets0_ok, true_and, and_true, and_self, y_kIfE, y_kTA, y_kTO, y_kAnd, y_kOr, y_kStx, y_if, y_fz, y_and, y_or, y_andD, y_orD, if_true, if_false, Bool.false_eq_true, Bool.true_eq_false, reduceIte, rb, ri, rs, Option.map_some, Option.bind_some, itemsOf, itemsZ, c_any h]
  rw [eLc_if (fun p => .tup [.int (p.2 : Nat), .str [p.1]]) s.zipIdx (fun p => decide (p.1 = 48)) (fun p => .int (p.2 : Nat)) (iEnum_row _ _ rfl) rfl (zl h) (fun p hp => ?_)]
  · rw [zeros_map]
    simp only [bind_ok, bind_exc, bind_stuck, q_eVar, q_kVar1, q_kVar2, q_eC, q_peek1, q_peek2, q_peek3, q_kPk1, q_kPk2, q_frz1, q_frz2, q_frz3, q_kFz1, q_kFz2, q_peekL0, q_peekL1, q_kpl1, q_kfl1, q_kpl2, q_frzL0, q_frzL1, q_ans1, q_ans2, q_ans3, q_k2_eCB, q_k1_eCB, q_eCB, q_k2_e1, q_k1_e1, q_e1, q_k4_e2, q_k3_e2, q_k2_e2, q_k1_e2, q_e2, q_kch1, q_kch2, q_kch3, q_kch4, q_k4_e3c, q_k3_e3c, q_k2_e3c, q_k1_e3c, q_e3c, q_eIf, q_kIfE1, q_kIfE2, q_eAnd, q_kAnd1, q_kAnd2, q_eOr, q_kOr1, q_kOr2, q_eNot, q_kNot, q_eTup, q_eLst, q_kTup1, q_kLst1, q_kTupN0, q_kLstN0, q_kTupN1, q_kLstN1, q_kTupN2, q_kLstN2, q_kTupN3, q_kLstN3, q_kTupN4, q_kLstN4, q_kTupN5, q_kLstN5, q_kTupN6, q_kLstN6, q_kTupN7, q_kLstN7, q_kTupN8, q_kLstN8, q_kTupN9, q_kLstN9, q_pNo, q_pSo, q_kSo, q_k4_eSl, q_k3_eSl, q_k2_eSl, q_k1_eSl, q_eSl, q_eJoin, q_kJ0, q_kJ1, q_kJ2, q_k1_eCall, q_eCall, q_aNil, q_k2_aCons, q_k1_aCons, q_aCons, q_k2_eFz, q_k1_eFz, q_eFz, q_tB1, q_kB1, q_tTru, q_kTr0, q_kTr1, q_kTrb, q_truthB, q_kTr2, q_tAnd, q_tOr, q_tNot, q_kTA1, q_kTA2, q_kTO1, q_kTO2, q_kTN, q_tTrue, q_bNil, q_bCons, q_kBC1, q_kBC2, q_kBC3, q_kBC4, q_sPass, q_sBreak, q_sCont, q_sRetN, q_sExpr, q_kEx, q_sRet, q_kRt, q_sIf, q_kIf1, q_kIf2, q_kU, q_sSet, q_kSet, q_set1, q_set2, q_set3, q_kSl1, q_kSl2, q_gNm, q_gNms0, q_gNms1, q_kGs, q_gTp, q_gSq1, q_gSq2, q_sAsg, q_kAs0, q_kAs1, q_sAug, q_kAug, q_kAug1, q_kAug2, q_kAug3, q_eIter, q_kIt0, q_kIt1, q_kIt2, q_iRng, q_kRg0, q_kRg1, q_iZip, q_kZp1, q_kZp2, q_iEnum, q_kEn1, q_kEn2, q_sFor, q_kFor, q_sWhile, q_sPar, q_kPr0, q_kPr1, q_kPr2, q_kPr3, q_noPk1, q_noPk2, q_sPar3, q_kPt0, q_kPt1, q_kPt2, q_kPt3, q_kPt4, q_eMt, q_kMt0, q_kMt1, q_kMt1b, q_kMt2, q_kMt3, q_rdA1, q_rdA2, q_sPut, q_kPu0, q_kPu1, q_kPu2, q_kPu2b, q_kPu3, q_kPu4, q_stepL, q_kStw, q_kStx1, q_kStx2, q_kSty, q_kStz, startD_c, startD_n, startD_0, wipeD, backD, List.map_cons, List.map_nil, List.append_nil, List.nil_append, List.cons_append, List.getElem?_cons_zero, List.getElem?_cons_succ, List.set_cons_zero, List.set_cons_succ, List.length_cons, List.length_nil, Nat.reduceAdd, Nat.reduceLT, Nat.reduceLeDiff, Nat.zero_lt_succ, Nat.zero_lt_one, Bool.not_true, Bool.not_false, Bool.and_self, Bool.and_true, Bool.true_and, Bool.or_false, Bool.false_or, Bool.false_and, Bool.and_false, Bool.or_true, Bool.true_or, rets_ok, retsO_ok, retsN_ok, rets0_ok, true_and, and_true, and_self, y_kIfE, y_kTA, y_kTO, y_kAnd, y_kOr, y_kStx, y_if, y_fz, y_and, y_or, y_andD, y_orD, if_true, if_false, Bool.false_eq_true, Bool.true_eq_false, reduceIte, rb, ri, rs, Option.map_some, Option.bind_some, itemsOf, itemsZ, dTuple, tD]
  · have e1 := dEq_cc p.1 48 (h.sg _ (mem_zipIdx1 hp)) sg48
    simp only [bind_ok, bind_exc, bind_stuck, q_eVar, q_kVar1, q_kVar2, q_eC, q_peek1, q_peek2, q_peek3, q_kPk1, q_kPk2, q_frz1, q_frz2, q_frz3, q_kFz1, q_kFz2, q_peekL0, q_peekL1, q_kpl1, q_kfl1, q_kpl2, q_frzL0, q_frzL1, q_ans1, q_ans2, q_ans3, q_k2_eCB, q_k1_eCB, q_eCB, q_k2_e1, q_k1_e1, q_e1, q_k4_e2, q_k3_e2, q_k2_e2, q_k1_e2, q_e2, q_kch1, q_kch2, q_kch3, q_kch4, q_k4_e3c, q_k3_e3c, q_k2_e3c, q_k1_e3c, q_e3c, q_eIf, q_kIfE1, q_kIfE2, q_eAnd, q_kAnd1, q_kAnd2, q_eOr, q_kOr1, q_kOr2, q_eNot, q_kNot, q_eTup, q_eLst, q_kTup1, q_kLst1, q_kTupN0, q_kLstN0, q_kTupN1, q_kLstN1, q_kTupN2, q_kLstN2, q_kTupN3, q_kLstN3, q_kTupN4, q_kLstN4, q_kTupN5, q_kLstN5, q_kTupN6, q_kLstN6, q_kTupN7, q_kLstN7, q_kTupN8, q_kLstN8, q_kTupN9, q_kLstN9, q_pNo, q_pSo, q_kSo, q_k4_eSl, q_k3_eSl, q_k2_eSl, q_k1_eSl, q_eSl, q_eJoin, q_kJ0, q_kJ1, q_kJ2, q_k1_eCall, q_eCall, q_aNil, q_k2_aCons, q_k1_aCons, q_aCons, q_k2_eFz, q_k1_eFz, q_eFz, q_tB1, q_kB1, q_tTru, q_kTr0, q_kTr1, q_kTrb, q_truthB, q_kTr2, q_tAnd, q_tOr, q_tNot, q_kTA1, q_kTA2, q_kTO1, q_kTO2, q_kTN, q_tTrue, q_bNil, q_bCons, q_kBC1, q_kBC2, q_kBC3, q_kBC4, q_sPass, q_sBreak, q_sCont, q_sRetN, q_sExpr, q_kEx, q_sRet, q_kRt, q_sIf, q_kIf1, q_kIf2, q_kU, q_sSet, q_kSet, q_set1, q_set2, q_set3, q_kSl1, q_kSl2, q_gNm, q_gNms0, q_gNms1, q_kGs, q_gTp, q_gSq1, q_gSq2, q_sAsg, q_kAs0, q_kAs1, q_sAug, q_kAug, q_kAug1, q_kAug2, q_kAug3, q_eIter, q_kIt0, q_kIt1, q_kIt2, q_iRng, q_kRg0, q_kRg1, q_iZip, q_kZp1, q_kZp2, q_iEnum, q_kEn1, q_kEn2, q_sFor, q_kFor, q_sWhile, q_sPar, q_kPr0, q_kPr1, q_kPr2, q_kPr3, q_noPk1, q_noPk2, q_sPar3, q_kPt0, q_kPt1, q_kPt2, q_kPt3, q_kPt4, q_eMt, q_kMt0, q_kMt1, q_kMt1b, q_kMt2, q_kMt3, q_rdA1, q_rdA2, q_sPut, q_kPu0, q_kPu1, q_kPu2, q_kPu2b, q_kPu3, q_kPu4, q_stepL, q_kStw, q_kStx1, q_kStx2, q_kSty, q_kStz, startD_c, startD_n, startD_0, wipeD, backD, List.map_cons, List.map_nil, List.append_nil, List.nil_append, List.cons_append, List.getElem?_cons_zero, List.getElem?_cons_succ, List.set_cons_zero, List.set_cons_succ, List.length_cons, List.length_nil, Nat.reduceAdd, Nat.reduceLT, Nat.reduceLeDiff, Nat.zero_lt_succ, Nat.zero_lt_one, Bool.not_true, Bool.not_false, Bool.and_self, Bool.and_true, Bool.true_and, Bool.or_false, Bool.false_or, Bool.false_and, Bool.and_false, Bool.or_true, Bool.true_or, rets_ok, retsO_ok, retsN_ok, rets0_ok, true_and, and_true, and_self, y_kIfE, y_kTA, y_kTO, y_kAnd, y_kOr, y_kStx, y_if, y_fz, y_and, y_or, y_andD, y_orD, if_true, if_false, Bool.false_eq_true, Bool.true_eq_false, reduceIte, rb, ri, rs, Option.map_some, Option.bind_some, itemsOf, itemsZ, turn_ok, d_ZERO, e1])
end W_k00

namespace W_k00
open PySem L2 DL PN
theorem IsRow.map_flip {s : List Nat} (h : IsRow s) : IsRow (s.map flipN) := ⟨fun c hc => by
  obtain ⟨a, ha, rfl⟩ := List.mem_map.mp hc
  exact isSg_flip (h.sg a ha), by rw [List.length_map]; exact h.len⟩
theorem IsRow.tA {s : List Nat} (h : IsRow s) (th : List Nat) : IsRow (tA th 0 s) := ⟨tA_sg th 0 s h.sg, by rw [tA_len]; exact h.len⟩
theorem IsRow.laid {s t : List Nat} (h : IsRow s) (h2 : IsRow t) (hl : s.length = t.length) : IsRow (laidN s t) := ⟨laidN_sg s t h.sg h2.sg, by rw [laidN_len s t hl]; exact h.len⟩
theorem IsThings.ge {th : List Nat} {m n : Nat} (h : IsThings th m) (h1 : m ≤ n) (h9 : n ≤ 9) : IsThings th n := ⟨h.asc, fun i hi => Nat.lt_of_lt_of_le (h.lt i hi) h1, h.len, h9⟩
theorem c_lflip {c : Nat} (h : isSg c) (σ : SD) : callD 1 1 1 m__law_flip [] [.fz (.str [c])] σ = .ok (.fz (.str [flipN c])) σ := call_fz (as := [.str [c]]) rfl (by decide) (by
  rcases h with rfl | rfl | rfl <;> exact ⟨_, rfl⟩)
theorem c_lturn {s : List Nat} (h : IsRow s) (σ : SD) : callD 1 1 2 m__law_turn [] [.fz (.str s)] σ = .ok (.fz (.str (s.map flipN))) σ := call_fz (as := [.str s]) rfl (by decide) (by
  simp only [m__law_turn, bind_ok, bind_exc, bind_stuck, q_eVar, q_kVar1, q_kVar2, q_eC, q_peek1, q_peek2, q_peek3, q_kPk1, q_kPk2, q_frz1, q_frz2, q_frz3, q_kFz1, q_kFz2, q_peekL0, q_peekL1, q_kpl1, q_kfl1, q_kpl2, q_frzL0, q_frzL1, q_ans1, q_ans2, q_ans3, q_k2_eCB, q_k1_eCB, q_eCB, q_k2_e1, q_k1_e1, q_e1, q_k4_e2, q_k3_e2, q_k2_e2, q_k1_e2, q_e2, q_kch1, q_kch2, q_kch3, q_kch4, q_k4_e3c, q_k3_e3c, q_k2_e3c, q_k1_e3c, q_e3c, q_eIf, q_kIfE1, q_kIfE2, q_eAnd, q_kAnd1, q_kAnd2, q_eOr, q_kOr1, q_kOr2, q_eNot, q_kNot, q_eTup, q_eLst, q_kTup1, q_kLst1, q_kTupN0, q_kLstN0, q_kTupN1, q_kLstN1, q_kTupN2, q_kLstN2, q_kTupN3, q_kLstN3, q_kTupN4, q_kLstN4, q_kTupN5, q_kLstN5, q_kTupN6, q_kLstN6, q_kTupN7, q_kLstN7, q_kTupN8, q_kLstN8, q_kTupN9, q_kLstN9, q_pNo, q_pSo, q_kSo, q_k4_eSl, q_k3_eSl, q_k2_eSl, q_k1_eSl, q_eSl, q_eJoin, q_kJ0, q_kJ1, q_kJ2, q_k1_eCall, q_eCall, q_aNil, q_k2_aCons, q_k1_aCons, q_aCons, q_k2_eFz, q_k1_eFz, q_eFz, q_tB1, q_kB1, q_tTru, q_kTr0, q_kTr1, q_kTrb, q_truthB, q_kTr2, q_tAnd, q_tOr, q_tNot, q_kTA1, q_kTA2, q_kTO1, q_kTO2, q_kTN, q_tTrue, q_bNil, q_bCons, q_kBC1, q_kBC2, q_kBC3, q_kBC4, q_sPass, q_sBreak, q_sCont, q_sRetN, q_sExpr, q_kEx, q_sRet, q_kRt, q_sIf, q_kIf1, q_kIf2, q_kU, q_sSet, q_kSet, q_set1, q_set2, q_set3, q_kSl1, q_kSl2, q_gNm, q_gNms0, q_gNms1, q_kGs, q_gTp, q_gSq1, q_gSq2, q_sAsg, q_kAs0, q_kAs1, q_sAug, q_kAug, q_kAug1, q_kAug2, q_kAug3, q_eIter, q_kIt0, q_kIt1, q_kIt2, q_iRng, q_kRg0, q_kRg1, q_iZip, q_kZp1, q_kZp2, q_iEnum, q_kEn1, q_kEn2, q_sFor, q_kFor, q_sWhile, q_sPar, q_kPr0, q_kPr1, q_kPr2, q_kPr3, q_noPk1, q_noPk2, q_sPar3, q_kPt0, q_kPt1, q_kPt2, q_kPt3, q_kPt4, q_eMt, q_kMt0, q_kMt1, q_kMt1b, q_kMt2, q_kMt3, q_rdA1, q_rdA2, q_sPut, q_kPu0, q_kPu1, q_kPu2, q_kPu2b, q_kPu3, q_kPu4, q_stepL, q_kStw, q_kStx1, q_kStx2, q_kSty, q_kStz, startD_c, startD_n, startD_0, wipeD, backD, List.map_cons, List.map_nil, List.append_nil, List.nil_append, List.cons_append, List.getElem?_cons_zero, List.getElem?_cons_succ, List.set_cons_zero, List.set_cons_succ, List.length_cons, List.length_nil, Nat.reduceAdd, Nat.reduceLT, Nat.reduceLeDiff, Nat.zero_lt_succ, Nat.zero_lt_one, Bool.not_true, Bool.not_false, Bool.and_self, Bool.and_true, Bool.true_and, Bool.or_false, Bool.false_or, Bool.false_and, Bool.and_false, Bool.or_true, Bool.true_or, rets_ok, retsO_ok, retsN_ok, rets0_ok, true_and, and_true, and_self, y_kIfE, y_kTA, y_kTO, y_kAnd, y_kOr, y_kStx, y_if, y_fz, y_and, y_or, y_andD, y_orD, if_true, if_false, Bool.false_eq_true, Bool.true_eq_false, reduceIte, rb, ri, rs, Option.map_some, Option.bind_some, itemsOf, itemsZ]
  rw [eLc_all cD s (fun c => cD (flipN c)) (eIter_row _ _ rfl) rfl h.sm (fun c hc => ?_)]
  · simp only [bind_ok, bind_exc, bind_stuck, q_eVar, q_kVar1, q_kVar2, q_eC, q_peek1, q_peek2, q_peek3, q_kPk1, q_kPk2, q_frz1, q_frz2, q_frz3, q_kFz1, q_kFz2, q_peekL0, q_peekL1, q_kpl1, q_kfl1, q_kpl2, q_frzL0, q_frzL1, q_ans1, q_ans2, q_ans3, q_k2_eCB, q_k1_eCB, q_eCB, q_k2_e1, q_k1_e1, q_e1, q_k4_e2, q_k3_e2, q_k2_e2, q_k1_e2, q_e2, q_kch1, q_kch2, q_kch3, q_kch4, q_k4_e3c, q_k3_e3c, q_k2_e3c, q_k1_e3c, q_e3c, q_eIf, q_kIfE1, q_kIfE2, q_eAnd, q_kAnd1, q_kAnd2, q_eOr, q_kOr1, q_kOr2, q_eNot, q_kNot, q_eTup, q_eLst, q_kTup1, q_kLst1, q_kTupN0, q_kLstN0, q_kTupN1, q_kLstN1, q_kTupN2, q_kLstN2, q_kTupN3, q_kLstN3, q_kTupN4, q_kLstN4, q_kTupN5, q_kLstN5, q_kTupN6, q_kLstN6, q_kTupN7, q_kLstN7, q_kTupN8, q_kLstN8, q_kTupN9, q_kLstN9, q_pNo, q_pSo, q_kSo, q_k4_eSl, q_k3_eSl, q_k2_eSl, q_k1_eSl, q_eSl, q_eJoin, q_kJ0, q_kJ1, q_kJ2, q_k1_eCall, q_eCall, q_aNil, q_k2_aCons, q_k1_aCons, q_aCons, q_k2_eFz, q_k1_eFz, q_eFz, q_tB1, q_kB1, q_tTru, q_kTr0, q_kTr1, q_kTrb, q_truthB, q_kTr2, q_tAnd, q_tOr, q_tNot, q_kTA1, q_kTA2, q_kTO1, q_kTO2, q_kTN, q_tTrue, q_bNil, q_bCons, q_kBC1, q_kBC2, q_kBC3, q_kBC4, q_sPass, q_sBreak, q_sCont, q_sRetN, q_sExpr, q_kEx, q_sRet, q_kRt, q_sIf, q_kIf1, q_kIf2, q_kU, q_sSet, q_kSet, q_set1, q_set2, q_set3, q_kSl1, q_kSl2, q_gNm, q_gNms0, q_gNms1, q_kGs, q_gTp, q_gSq1, q_gSq2, q_sAsg, q_kAs0, q_kAs1, q_sAug, q_kAug, q_kAug1, q_kAug2, q_kAug3, q_eIter, q_kIt0, q_kIt1, q_kIt2, q_iRng, q_kRg0, q_kRg1, q_iZip, q_kZp1, q_kZp2, q_iEnum, q_kEn1, q_kEn2, q_sFor, q_kFor, q_sWhile, q_sPar, q_kPr0, q_kPr1, q_kPr2, q_kPr3, q_noPk1, q_noPk2, q_sPar3, q_kPt0, q_kPt1, q_kPt2, q_kPt3, q_kPt4, q_eMt, q_kMt0, q_kMt1, q_kMt1b, q_kMt2, q_kMt3, q_rdA1, q_rdA2, q_sPut, q_kPu0, q_kPu1, q_kPu2, q_kPu2b, q_kPu3, q_kPu4, q_stepL, q_kStw, q_kStx1, q_kStx2, q_kSty, q_kStz, startD_c, startD_n, startD_0, wipeD, backD, List.map_cons, List.map_nil, List.append_nil, List.nil_append, List.cons_append, List.getElem?_cons_zero, List.getElem?_cons_succ, List.set_cons_zero, List.set_cons_succ, List.length_cons, List.length_nil, Nat.reduceAdd, Nat.reduceLT, Nat.reduceLeDiff, Nat.zero_lt_succ, Nat.zero_lt_one, Bool.not_true, Bool.not_false, Bool.and_self, Bool.and_true, Bool.true_and, Bool.or_false, Bool.false_or, Bool.false_and, Bool.and_false, Bool.or_true, Bool.true_or, rets_ok, retsO_ok, retsN_ok, rets0_ok, true_and, and_true, and_self, y_kIfE, y_kTA, y_kTO, y_kAnd, y_kOr, y_kStx, y_if, y_fz, y_and, y_or, y_andD, y_orD, if_true, if_false, Bool.false_eq_true, Bool.true_eq_false, reduceIte, rb, ri, rs, Option.map_some, Option.bind_some, itemsOf, itemsZ, dJoin_signs _ _ h.sm]
  · simp only [bind_ok, bind_exc, bind_stuck, q_eVar, q_kVar1, q_kVar2, q_eC, q_peek1, q_peek2, q_peek3, q_kPk1, q_kPk2, q_frz1, q_frz2, q_frz3, q_kFz1, q_kFz2, q_peekL0, q_peekL1, q_kpl1, q_kfl1, q_kpl2, q_frzL0, q_frzL1, q_ans1, q_ans2, q_ans3, q_k2_eCB, q_k1_eCB, q_eCB, q_k2_e1, q_k1_e1, q_e1, q_k4_e2, q_k3_e2, q_k2_e2, q_k1_e2, q_e2, q_kch1, q_kch2, q_kch3, q_kch4, q_k4_e3c, q_k3_e3c, q_k2_e3c, q_k1_e3c, q_e3c, q_eIf, q_kIfE1, q_kIfE2, q_eAnd, q_kAnd1, q_kAnd2, q_eOr, q_kOr1, q_kOr2, q_eNot, q_kNot, q_eTup, q_eLst, q_kTup1, q_kLst1, q_kTupN0, q_kLstN0, q_kTupN1, q_kLstN1, q_kTupN2, q_kLstN2, q_kTupN3, q_kLstN3, q_kTupN4, q_kLstN4, q_kTupN5, q_kLstN5, q_kTupN6, q_kLstN6, q_kTupN7, q_kLstN7, q_kTupN8, q_kLstN8, q_kTupN9, q_kLstN9, q_pNo, q_pSo, q_kSo, q_k4_eSl, q_k3_eSl, q_k2_eSl, q_k1_eSl, q_eSl, q_eJoin, q_kJ0, q_kJ1, q_kJ2, q_k1_eCall, q_eCall, q_aNil, q_k2_aCons, q_k1_aCons, q_aCons, q_k2_eFz, q_k1_eFz, q_eFz, q_tB1, q_kB1, q_tTru, q_kTr0, q_kTr1, q_kTrb, q_truthB, q_kTr2, q_tAnd, q_tOr, q_tNot, q_kTA1, q_kTA2, q_kTO1, q_kTO2, q_kTN, q_tTrue, q_bNil, q_bCons, q_kBC1, q_kBC2, q_kBC3, q_kBC4, q_sPass, q_sBreak, q_sCont, q_sRetN, q_sExpr, q_kEx, q_sRet, q_kRt, q_sIf, q_kIf1, q_kIf2, q_kU, q_sSet, q_kSet, q_set1, q_set2, q_set3, q_kSl1, q_kSl2, q_gNm, q_gNms0, q_gNms1, q_kGs, q_gTp, q_gSq1, q_gSq2, q_sAsg, q_kAs0, q_kAs1, q_sAug, q_kAug, q_kAug1, q_kAug2, q_kAug3, q_eIter, q_kIt0, q_kIt1, q_kIt2, q_iRng, q_kRg0, q_kRg1, q_iZip, q_kZp1, q_kZp2, q_iEnum, q_kEn1, q_kEn2, q_sFor, q_kFor, q_sWhile, q_sPar, q_kPr0, q_kPr1, q_kPr2, q_kPr3, q_noPk1, q_noPk2, q_sPar3, q_kPt0, q_kPt1, q_kPt2, q_kPt3, q_kPt4, q_eMt, q_kMt0, q_kMt1, q_kMt1b, q_kMt2, q_kMt3, q_rdA1, q_rdA2, q_sPut, q_kPu0, q_kPu1, q_kPu2, q_kPu2b, q_kPu3, q_kPu4, q_stepL, q_kStw, q_kStx1, q_kStx2, q_kSty, q_kStz, startD_c, startD_n, startD_0, wipeD, backD, List.map_cons, List.map_nil, List.append_nil, List.nil_append, List.cons_append, List.getElem?_cons_zero, List.getElem?_cons_succ, List.set_cons_zero, List.set_cons_succ, List.length_cons, List.length_nil, Nat.reduceAdd, Nat.reduceLT, Nat.reduceLeDiff, Nat.zero_lt_succ, Nat.zero_lt_one, Bool.not_true, Bool.not_false, Bool.and_self, Bool.and_true, Bool.true_and, Bool.or_false, Bool.false_or, Bool.false_and, Bool.and_false, Bool.or_true, Bool.true_or, rets_ok, retsO_ok, retsN_ok, rets0_ok, true_and, and_true, and_self, y_kIfE, y_kTA, y_kTO, y_kAnd, y_kOr, y_kStx, y_if, y_fz, y_and, y_or, y_andD, y_orD, if_true, if_false, Bool.false_eq_true, Bool.true_eq_false, reduceIte, rb, ri, rs, Option.map_some, Option.bind_some, itemsOf, itemsZ, turn_ok, c_lflip (h.sg c hc)])
theorem c_lturn_at {s th : List Nat} (h : IsRow s) (σ : SD) : callD 2 2 4 m__law_turn_at [] [.fz (.str s), .fz (tD th)] σ = .ok (.fz (.str (tA th 0 s))) σ := call_fz (as := [.str s, tD th]) rfl (by decide) (by
  simp only [m__law_turn_at, bind_ok, bind_exc, bind_stuck, q_eVar, q_kVar1, q_kVar2, q_eC, q_peek1, q_peek2, q_peek3, q_kPk1, q_kPk2, q_frz1, q_frz2, q_frz3, q_kFz1, q_kFz2, q_peekL0, q_peekL1, q_kpl1, q_kfl1, q_kpl2, q_frzL0, q_frzL1, q_ans1, q_ans2, q_ans3, q_k2_eCB, q_k1_eCB, q_eCB, q_k2_e1, q_k1_e1, q_e1, q_k4_e2, q_k3_e2, q_k2_e2, q_k1_e2, q_e2, q_kch1, q_kch2, q_kch3, q_kch4, q_k4_e3c, q_k3_e3c, q_k2_e3c, q_k1_e3c, q_e3c, q_eIf, q_kIfE1, q_kIfE2, q_eAnd, q_kAnd1, q_kAnd2, q_eOr, q_kOr1, q_kOr2, q_eNot, q_kNot, q_eTup, q_eLst, q_kTup1, q_kLst1, q_kTupN0, q_kLstN0, q_kTupN1, q_kLstN1, q_kTupN2, q_kLstN2, q_kTupN3, q_kLstN3, q_kTupN4, q_kLstN4, q_kTupN5, q_kLstN5, q_kTupN6, q_kLstN6, q_kTupN7, q_kLstN7, q_kTupN8, q_kLstN8, q_kTupN9, q_kLstN9, q_pNo, q_pSo, q_kSo, q_k4_eSl, q_k3_eSl, q_k2_eSl, q_k1_eSl, q_eSl, q_eJoin, q_kJ0, q_kJ1, q_kJ2, q_k1_eCall, q_eCall, q_aNil, q_k2_aCons, q_k1_aCons, q_aCons, q_k2_eFz, q_k1_eFz, q_eFz, q_tB1, q_kB1, q_tTru, q_kTr0, q_kTr1, q_kTrb, q_truthB, q_kTr2, q_tAnd, q_tOr, q_tNot, q_kTA1, q_kTA2, q_kTO1, q_kTO2, q_kTN, q_tTrue, q_bNil, q_bCons, q_kBC1, q_kBC2, q_kBC3, q_kBC4, q_sPass, q_sBreak, q_sCont, q_sRetN, q_sExpr, q_kEx, q_sRet, q_kRt, q_sIf, q_kIf1, q_kIf2, q_kU, q_sSet, q_kSet, q_set1, q_set2, q_set3, q_kSl1, q_kSl2, q_gNm, q_gNms0, q_gNms1, q_kGs, q_gTp, q_gSq1, q_gSq2, q_sAsg, q_kAs0, q_kAs1, q_sAug, q_kAug, q_kAug1, q_kAug2, q_kAug3, q_eIter, q_kIt0, q_kIt1, q_kIt2, q_iRng, q_kRg0, q_kRg1, q_iZip, q_kZp1, q_kZp2, q_iEnum, q_kEn1, q_kEn2, q_sFor, q_kFor, q_sWhile, q_sPar, q_kPr0, q_kPr1, q_kPr2, q_kPr3, q_noPk1, q_noPk2, q_sPar3, q_kPt0, q_kPt1, q_kPt2, q_kPt3, q_kPt4, q_eMt, q_kMt0, q_kMt1, q_kMt1b, q_kMt2, q_kMt3, q_rdA1, q_rdA2, q_sPut, q_kPu0, q_kPu1, q_kPu2, q_kPu2b, q_kPu3, q_kPu4, q_stepL, q_kStw, q_kStx1, q_kStx2, q_kSty, q_kStz, startD_c, startD_n, startD_0, wipeD, backD, List.map_cons, List.map_nil, List.append_nil, List.nil_append, List.cons_append, List.getElem?_cons_zero, List.getElem?_cons_succ, List.set_cons_zero, List.set_cons_succ, List.length_cons, List.length_nil, Nat.reduceAdd, Nat.reduceLT, Nat.reduceLeDiff, Nat.zero_lt_succ, Nat.zero_lt_one, Bool.not_true, Bool.not_false, Bool.and_self, Bool.and_true, Bool.true_and, Bool.or_false, Bool.false_or, Bool.false_and, Bool.and_false, Bool.or_true, Bool.true_or, rets_ok, retsO_ok, retsN_ok, rets0_ok, true_and, and_true, and_self, y_kIfE, y_kTA, y_kTO, y_kAnd, y_kOr, y_kStx, y_if, y_fz, y_and, y_or, y_andD, y_orD, if_true, if_false, Bool.false_eq_true, Bool.true_eq_false, reduceIte, rb, ri, rs, Option.map_some, Option.bind_some, itemsOf, itemsZ]
  rw [eLc_all (fun p => .tup [.int (p.2 : Nat), .str [p.1]]) s.zipIdx (fun p => cD (if p.2 ∈ th then flipN p.1 else p.1)) (iEnum_row _ _ rfl) rfl (zl h) (fun p hp => ?_)]
  · rw [← tA_zip]
    simp only [bind_ok, bind_exc, bind_stuck, q_eVar, q_kVar1, q_kVar2, q_eC, q_peek1, q_peek2, q_peek3, q_kPk1, q_kPk2, q_frz1, q_frz2, q_frz3, q_kFz1, q_kFz2, q_peekL0, q_peekL1, q_kpl1, q_kfl1, q_kpl2, q_frzL0, q_frzL1, q_ans1, q_ans2, q_ans3, q_k2_eCB, q_k1_eCB, q_eCB, q_k2_e1, q_k1_e1, q_e1, q_k4_e2, q_k3_e2, q_k2_e2, q_k1_e2, q_e2, q_kch1, q_kch2, q_kch3, q_kch4, q_k4_e3c, q_k3_e3c, q_k2_e3c, q_k1_e3c, q_e3c, q_eIf, q_kIfE1, q_kIfE2, q_eAnd, q_kAnd1, q_kAnd2, q_eOr, q_kOr1, q_kOr2, q_eNot, q_kNot, q_eTup, q_eLst, q_kTup1, q_kLst1, q_kTupN0, q_kLstN0, q_kTupN1, q_kLstN1, q_kTupN2, q_kLstN2, q_kTupN3, q_kLstN3, q_kTupN4, q_kLstN4, q_kTupN5, q_kLstN5, q_kTupN6, q_kLstN6, q_kTupN7, q_kLstN7, q_kTupN8, q_kLstN8, q_kTupN9, q_kLstN9, q_pNo, q_pSo, q_kSo, q_k4_eSl, q_k3_eSl, q_k2_eSl, q_k1_eSl, q_eSl, q_eJoin, q_kJ0, q_kJ1, q_kJ2, q_k1_eCall, q_eCall, q_aNil, q_k2_aCons, q_k1_aCons, q_aCons, q_k2_eFz, q_k1_eFz, q_eFz, q_tB1, q_kB1, q_tTru, q_kTr0, q_kTr1, q_kTrb, q_truthB, q_kTr2, q_tAnd, q_tOr, q_tNot, q_kTA1, q_kTA2, q_kTO1, q_kTO2, q_kTN, q_tTrue, q_bNil, q_bCons, q_kBC1, q_kBC2, q_kBC3, q_kBC4, q_sPass, q_sBreak, q_sCont, q_sRetN, q_sExpr, q_kEx, q_sRet, q_kRt, q_sIf, q_kIf1, q_kIf2, q_kU, q_sSet, q_kSet, q_set1, q_set2, q_set3, q_kSl1, q_kSl2, q_gNm, q_gNms0, q_gNms1, q_kGs, q_gTp, q_gSq1, q_gSq2, q_sAsg, q_kAs0, q_kAs1, q_sAug, q_kAug, q_kAug1, q_kAug2, q_kAug3, q_eIter, q_kIt0, q_kIt1, q_kIt2, q_iRng, q_kRg0, q_kRg1, q_iZip, q_kZp1, q_kZp2, q_iEnum, q_kEn1, q_kEn2, q_sFor, q_kFor, q_sWhile, q_sPar, q_kPr0, q_kPr1, q_kPr2, q_kPr3, q_noPk1, q_noPk2, q_sPar3, q_kPt0, q_kPt1, q_kPt2, q_kPt3, q_kPt4, q_eMt, q_kMt0, q_kMt1, q_kMt1b, q_kMt2, q_kMt3, q_rdA1, q_rdA2, q_sPut, q_kPu0, q_kPu1, q_kPu2, q_kPu2b, q_kPu3, q_kPu4, q_stepL, q_kStw, q_kStx1, q_kStx2, q_kSty, q_kStz, startD_c, startD_n, startD_0, wipeD, backD, List.map_cons, List.map_nil, List.append_nil, List.nil_append, List.cons_append, List.getElem?_cons_zero, List.getElem?_cons_succ, List.set_cons_zero, List.set_cons_succ, List.length_cons, List.length_nil, Nat.reduceAdd, Nat.reduceLT, Nat.reduceLeDiff, Nat.zero_lt_succ, Nat.zero_lt_one, Bool.not_true, Bool.not_false, Bool.and_self, Bool.and_true, Bool.true_and, Bool.or_false, Bool.false_or, Bool.false_and, Bool.and_false, Bool.or_true, Bool.true_or, rets_ok, retsO_ok, retsN_ok, rets0_ok, true_and, and_true, and_self, y_kIfE, y_kTA, y_kTO, y_kAnd, y_kOr, y_kStx, y_if, y_fz, y_and, y_or, y_andD, y_orD, if_true, if_false, Bool.false_eq_true, Bool.true_eq_false, reduceIte, rb, ri, rs, Option.map_some, Option.bind_some, itemsOf, itemsZ, dJoin_signs _ _ (zl h)]
  · simp only [bind_ok, bind_exc, bind_stuck, q_eVar, q_kVar1, q_kVar2, q_eC, q_peek1, q_peek2, q_peek3, q_kPk1, q_kPk2, q_frz1, q_frz2, q_frz3, q_kFz1, q_kFz2, q_peekL0, q_peekL1, q_kpl1, q_kfl1, q_kpl2, q_frzL0, q_frzL1, q_ans1, q_ans2, q_ans3, q_k2_eCB, q_k1_eCB, q_eCB, q_k2_e1, q_k1_e1, q_e1, q_k4_e2, q_k3_e2, q_k2_e2, q_k1_e2, q_e2, q_kch1, q_kch2, q_kch3, q_kch4, q_k4_e3c, q_k3_e3c, q_k2_e3c, q_k1_e3c, q_e3c, q_eIf, q_kIfE1, q_kIfE2, q_eAnd, q_kAnd1, q_kAnd2, q_eOr, q_kOr1, q_kOr2, q_eNot, q_kNot, q_eTup, q_eLst, q_kTup1, q_kLst1, q_kTupN0, q_kLstN0, q_kTupN1, q_kLstN1, q_kTupN2, q_kLstN2, q_kTupN3, q_kLstN3, q_kTupN4, q_kLstN4, q_kTupN5, q_kLstN5, q_kTupN6, q_kLstN6, q_kTupN7, q_kLstN7, q_kTupN8, q_kLstN8, q_kTupN9, q_kLstN9, q_pNo, q_pSo, q_kSo, q_k4_eSl, q_k3_eSl, q_k2_eSl, q_k1_eSl, q_eSl, q_eJoin, q_kJ0, q_kJ1, q_kJ2, q_k1_eCall, q_eCall, q_aNil, q_k2_aCons, q_k1_aCons, q_aCons, q_k2_eFz, q_k1_eFz, q_eFz, q_tB1, q_kB1, q_tTru, q_kTr0, q_kTr1, q_kTrb, q_truthB, q_kTr2, q_tAnd, q_tOr, q_tNot, q_kTA1, q_kTA2, q_kTO1, q_kTO2, q_kTN, q_tTrue, q_bNil, q_bCons, q_kBC1, q_kBC2, q_kBC3, q_kBC4, q_sPass, q_sBreak, q_sCont, q_sRetN, q_sExpr, q_kEx, q_sRet, q_kRt, q_sIf, q_kIf1, q_kIf2, q_kU, q_sSet, q_kSet, q_set1, q_set2, q_set3, q_kSl1, q_kSl2, q_gNm, q_gNms0, q_gNms1, q_kGs, q_gTp, q_gSq1, q_gSq2, q_sAsg, q_kAs0, q_kAs1, q_sAug, q_kAug, q_kAug1, q_kAug2, q_kAug3, q_eIter, q_kIt0, q_kIt1, q_kIt2, q_iRng, q_kRg0, q_kRg1, q_iZip, q_kZp1, q_kZp2, q_iEnum, q_kEn1, q_kEn2, q_sFor, q_kFor, q_sWhile, q_sPar, q_kPr0, q_kPr1, q_kPr2, q_kPr3, q_noPk1, q_noPk2, q_sPar3, q_kPt0, q_kPt1, q_kPt2, q_kPt3, q_kPt4, q_eMt, q_kMt0, q_kMt1, q_kMt1b, q_kMt2, q_kMt3, q_rdA1, q_rdA2, q_sPut, q_kPu0, q_kPu1, q_kPu2, q_kPu2b, q_kPu3, q_kPu4, q_stepL, q_kStw, q_kStx1, q_kStx2, q_kSty, q_kStz, startD_c, startD_n, startD_0, wipeD, backD, List.map_cons, List.map_nil, List.append_nil, List.nil_append, List.cons_append, List.getElem?_cons_zero, List.getElem?_cons_succ, List.set_cons_zero, List.set_cons_succ, List.length_cons, List.length_nil, Nat.reduceAdd, Nat.reduceLT, Nat.reduceLeDiff, Nat.zero_lt_succ, Nat.zero_lt_one, Bool.not_true, Bool.not_false, Bool.and_self, Bool.and_true, Bool.true_and, Bool.or_false, Bool.false_or, Bool.false_and, Bool.and_false, Bool.or_true, Bool.true_or, rets_ok, retsO_ok, retsN_ok, rets0_ok, true_and, and_true, and_self, y_kIfE, y_kTA, y_kTO, y_kAnd, y_kOr, y_kStx, y_if, y_fz, y_and, y_or, y_andD, y_orD, if_true, if_false, Bool.false_eq_true, Bool.true_eq_false, reduceIte, rb, ri, rs, Option.map_some, Option.bind_some, itemsOf, itemsZ, turn_ok, c_lflip (h.sg _ (mem_zipIdx1 hp)), dIn_th]
    by_cases hm : p.2 ∈ th <;> simp [hm])
theorem c_llaid {s t : List Nat} (h : IsRow s) (h2 : IsRow t) (σ : SD) : callD 2 2 4 m__law_laid [] [.fz (.str s), .fz (.str t)] σ = .ok (.fz (.str (laidN s t))) σ := call_fz (as := [.str s, .str t]) rfl (by decide) (by
  simp only [m__law_laid, bind_ok, bind_exc, bind_stuck, q_eVar, q_kVar1, q_kVar2, q_eC, q_peek1, q_peek2, q_peek3, q_kPk1, q_kPk2, q_frz1, q_frz2, q_frz3, q_kFz1, q_kFz2, q_peekL0, q_peekL1, q_kpl1, q_kfl1, q_kpl2, q_frzL0, q_frzL1, q_ans1, q_ans2, q_ans3, q_k2_eCB, q_k1_eCB, q_eCB, q_k2_e1, q_k1_e1, q_e1, q_k4_e2, q_k3_e2, q_k2_e2, q_k1_e2, q_e2, q_kch1, q_kch2, q_kch3, q_kch4, q_k4_e3c, q_k3_e3c, q_k2_e3c, q_k1_e3c, q_e3c, q_eIf, q_kIfE1, q_kIfE2, q_eAnd, q_kAnd1, q_kAnd2, q_eOr, q_kOr1, q_kOr2, q_eNot, q_kNot, q_eTup, q_eLst, q_kTup1, q_kLst1, q_kTupN0, q_kLstN0, q_kTupN1, q_kLstN1, q_kTupN2, q_kLstN2, q_kTupN3, q_kLstN3, q_kTupN4, q_kLstN4, q_kTupN5, q_kLstN5, q_kTupN6, q_kLstN6, q_kTupN7, q_kLstN7, q_kTupN8, q_kLstN8, q_kTupN9, q_kLstN9, q_pNo, q_pSo, q_kSo, q_k4_eSl, q_k3_eSl, q_k2_eSl, q_k1_eSl, q_eSl, q_eJoin, q_kJ0, q_kJ1, q_kJ2, q_k1_eCall, q_eCall, q_aNil, q_k2_aCons, q_k1_aCons, q_aCons, q_k2_eFz, q_k1_eFz, q_eFz, q_tB1, q_kB1, q_tTru, q_kTr0, q_kTr1, q_kTrb, q_truthB, q_kTr2, q_tAnd, q_tOr, q_tNot, q_kTA1, q_kTA2, q_kTO1, q_kTO2, q_kTN, q_tTrue, q_bNil, q_bCons, q_kBC1, q_kBC2, q_kBC3, q_kBC4, q_sPass, q_sBreak, q_sCont, q_sRetN, q_sExpr, q_kEx, q_sRet, q_kRt, q_sIf, q_kIf1, q_kIf2, q_kU, q_sSet, q_kSet, q_set1, q_set2, q_set3, q_kSl1, q_kSl2, q_gNm, q_gNms0, q_gNms1, q_kGs, q_gTp, q_gSq1, q_gSq2, q_sAsg, q_kAs0, q_kAs1, q_sAug, q_kAug, q_kAug1, q_kAug2, q_kAug3, q_eIter, q_kIt0, q_kIt1, q_kIt2, q_iRng, q_kRg0, q_kRg1, q_iZip, q_kZp1, q_kZp2, q_iEnum, q_kEn1, q_kEn2, q_sFor, q_kFor, q_sWhile, q_sPar, q_kPr0, q_kPr1, q_kPr2, q_kPr3, q_noPk1, q_noPk2, q_sPar3, q_kPt0, q_kPt1, q_kPt2, q_kPt3, q_kPt4, q_eMt, q_kMt0, q_kMt1, q_kMt1b, q_kMt2, q_kMt3, q_rdA1, q_rdA2, q_sPut, q_kPu0, q_kPu1, q_kPu2, q_kPu2b, q_kPu3, q_kPu4, q_stepL, q_kStw, q_kStx1, q_kStx2, q_kSty, q_kStz, startD_c, startD_n, startD_0, wipeD, backD, List.map_cons, List.map_nil, List.append_nil, List.nil_append, List.cons_append, List.getElem?_cons_zero, List.getElem?_cons_succ, List.set_cons_zero, List.set_cons_succ, List.length_cons, List.length_nil, Nat.reduceAdd, Nat.reduceLT, Nat.reduceLeDiff, Nat.zero_lt_succ, Nat.zero_lt_one, Bool.not_true, Bool.not_false, Bool.and_self, Bool.and_true, Bool.true_and, Bool.or_false, Bool.false_or, Bool.false_and, Bool.and_false, Bool.or_true, Bool.true_or, rets_ok, retsO_ok, retsN_ok, rets0_ok, true_and, and_true, and_self, y_kIfE, y_kTA, y_kTO, y_kAnd, y_kOr, y_kStx, y_if, y_fz, y_and, y_or, y_andD, y_orD, if_true, if_false, Bool.false_eq_true, Bool.true_eq_false, reduceIte, rb, ri, rs, Option.map_some, Option.bind_some, itemsOf, itemsZ]
  rw [eLc_all (fun p => .tup [.str [p.1], .str [p.2]]) (s.zip t) (fun p => cD (if p.1 = 48 then p.2 else p.1)) (iZip_rows _ _ _ rfl rfl) rfl (zl2 h) (fun p hp => ?_)]
  · unfold laidN
    simp only [bind_ok, bind_exc, bind_stuck, q_eVar, q_kVar1, q_kVar2, q_eC, q_peek1, q_peek2, q_peek3, q_kPk1, q_kPk2, q_frz1, q_frz2, q_frz3, q_kFz1, q_kFz2, q_peekL0, q_peekL1, q_kpl1, q_kfl1, q_kpl2, q_frzL0, q_frzL1, q_ans1, q_ans2, q_ans3, q_k2_eCB, q_k1_eCB, q_eCB, q_k2_e1, q_k1_e1, q_e1, q_k4_e2, q_k3_e2, q_k2_e2, q_k1_e2, q_e2, q_kch1, q_kch2, q_kch3, q_kch4, q_k4_e3c, q_k3_e3c, q_k2_e3c, q_k1_e3c, q_e3c, q_eIf, q_kIfE1, q_kIfE2, q_eAnd, q_kAnd1, q_kAnd2, q_eOr, q_kOr1, q_kOr2, q_eNot, q_kNot, q_eTup, q_eLst, q_kTup1, q_kLst1, q_kTupN0, q_kLstN0, q_kTupN1, q_kLstN1, q_kTupN2, q_kLstN2, q_kTupN3, q_kLstN3, q_kTupN4, q_kLstN4, q_kTupN5, q_kLstN5, q_kTupN6, q_kLstN6, q_kTupN7, q_kLstN7, q_kTupN8, q_kLstN8, q_kTupN9, q_kLstN9, q_pNo, q_pSo, q_kSo, q_k4_eSl, q_k3_eSl, q_k2_eSl, q_k1_eSl, q_eSl, q_eJoin, q_kJ0, q_kJ1, q_kJ2, q_k1_eCall, q_eCall, q_aNil, q_k2_aCons, q_k1_aCons, q_aCons, q_k2_eFz, q_k1_eFz, q_eFz, q_tB1, q_kB1, q_tTru, q_kTr0, q_kTr1, q_kTrb, q_truthB, q_kTr2, q_tAnd, q_tOr, q_tNot, q_kTA1, q_kTA2, q_kTO1, q_kTO2, q_kTN, q_tTrue, q_bNil, q_bCons, q_kBC1, q_kBC2, q_kBC3, q_kBC4, q_sPass, q_sBreak, q_sCont, q_sRetN, q_sExpr, q_kEx, q_sRet, q_kRt, q_sIf, q_kIf1, q_kIf2, q_kU, q_sSet, q_kSet, q_set1, q_set2, q_set3, q_kSl1, q_kSl2, q_gNm, q_gNms0, q_gNms1, q_kGs, q_gTp, q_gSq1, q_gSq2, q_sAsg, q_kAs0, q_kAs1, q_sAug, q_kAug, q_kAug1, q_kAug2, q_kAug3, q_eIter, q_kIt0, q_kIt1, q_kIt2, q_iRng, q_kRg0, q_kRg1, q_iZip, q_kZp1, q_kZp2, q_iEnum, q_kEn1, q_kEn2, q_sFor, q_kFor, q_sWhile, q_sPar, q_kPr0, q_kPr1, q_kPr2, q_kPr3, q_noPk1, q_noPk2, q_sPar3, q_kPt0, q_kPt1, q_kPt2, q_kPt3, q_kPt4, q_eMt, q_kMt0, q_kMt1, q_kMt1b, q_kMt2, q_kMt3, q_rdA1, q_rdA2, q_sPut, q_kPu0, q_kPu1, q_kPu2, q_kPu2b, q_kPu3, q_kPu4, q_stepL, q_kStw, q_kStx1, q_kStx2, q_kSty, q_kStz, startD_c, startD_n, startD_0, wipeD, backD, List.map_cons, List.map_nil, List.append_nil, List.nil_append, List.cons_append, List.getElem?_cons_zero, List.getElem?_cons_succ, List.set_cons_zero, List.set_cons_succ, List.length_cons, List.length_nil, Nat.reduceAdd, Nat.reduceLT, Nat.reduceLeDiff, Nat.zero_lt_succ, Nat.zero_lt_one, Bool.not_true, Bool.not_false, Bool.and_self, Bool.and_true, Bool.true_and, Bool.or_false, Bool.false_or, Bool.false_and, Bool.and_false, Bool.or_true, Bool.true_or, rets_ok, retsO_ok, retsN_ok, rets0_ok, true_and, and_true, and_self, y_kIfE, y_kTA, y_kTO, y_kAnd, y_kOr, y_kStx, y_if, y_fz, y_and, y_or, y_andD, y_orD, if_true, if_false, Bool.false_eq_true, Bool.true_eq_false, reduceIte, rb, ri, rs, Option.map_some, Option.bind_some, itemsOf, itemsZ, dJoin_signs _ _ (zl2 h)]
  · have e := dEq_cc p.1 48 (h.sg _ (List.of_mem_zip hp).1) sg48
    simp only [bind_ok, bind_exc, bind_stuck, q_eVar, q_kVar1, q_kVar2, q_eC, q_peek1, q_peek2, q_peek3, q_kPk1, q_kPk2, q_frz1, q_frz2, q_frz3, q_kFz1, q_kFz2, q_peekL0, q_peekL1, q_kpl1, q_kfl1, q_kpl2, q_frzL0, q_frzL1, q_ans1, q_ans2, q_ans3, q_k2_eCB, q_k1_eCB, q_eCB, q_k2_e1, q_k1_e1, q_e1, q_k4_e2, q_k3_e2, q_k2_e2, q_k1_e2, q_e2, q_kch1, q_kch2, q_kch3, q_kch4, q_k4_e3c, q_k3_e3c, q_k2_e3c, q_k1_e3c, q_e3c, q_eIf, q_kIfE1, q_kIfE2, q_eAnd, q_kAnd1, q_kAnd2, q_eOr, q_kOr1, q_kOr2, q_eNot, q_kNot, q_eTup, q_eLst, q_kTup1, q_kLst1, q_kTupN0, q_kLstN0, q_kTupN1, q_kLstN1, q_kTupN2, q_kLstN2, q_kTupN3, q_kLstN3, q_kTupN4, q_kLstN4, q_kTupN5, q_kLstN5, q_kTupN6, q_kLstN6, q_kTupN7, q_kLstN7, q_kTupN8, q_kLstN8, q_kTupN9, q_kLstN9, q_pNo, q_pSo, q_kSo, q_k4_eSl, q_k3_eSl, q_k2_eSl, q_k1_eSl, q_eSl, q_eJoin, q_kJ0, q_kJ1, q_kJ2, q_k1_eCall, q_eCall, q_aNil, q_k2_aCons, q_k1_aCons, q_aCons, q_k2_eFz, q_k1_eFz, q_eFz, q_tB1, q_kB1, q_tTru, q_kTr0, q_kTr1, q_kTrb, q_truthB, q_kTr2, q_tAnd, q_tOr, q_tNot, q_kTA1, q_kTA2, q_kTO1, q_kTO2, q_kTN, q_tTrue, q_bNil, q_bCons, q_kBC1, q_kBC2, q_kBC3, q_kBC4, q_sPass, q_sBreak, q_sCont, q_sRetN, q_sExpr, q_kEx, q_sRet, q_kRt, q_sIf, q_kIf1, q_kIf2, q_kU, q_sSet, q_kSet, q_set1, q_set2, q_set3, q_kSl1, q_kSl2, q_gNm, q_gNms0, q_gNms1, q_kGs, q_gTp, q_gSq1, q_gSq2, q_sAsg, q_kAs0, q_kAs1, q_sAug, q_kAug, q_kAug1, q_kAug2, q_kAug3, q_eIter, q_kIt0, q_kIt1, q_kIt2, q_iRng, q_kRg0, q_kRg1, q_iZip, q_kZp1, q_kZp2, q_iEnum, q_kEn1, q_kEn2, q_sFor, q_kFor, q_sWhile, q_sPar, q_kPr0, q_kPr1, q_kPr2, q_kPr3, q_noPk1, q_noPk2, q_sPar3, q_kPt0, q_kPt1, q_kPt2, q_kPt3, q_kPt4, q_eMt, q_kMt0, q_kMt1, q_kMt1b, q_kMt2, q_kMt3, q_rdA1, q_rdA2, q_sPut, q_kPu0, q_kPu1, q_kPu2, q_kPu2b, q_kPu3, q_kPu4, q_stepL, q_kStw, q_kStx1, q_kStx2, q_kSty, q_kStz, startD_c, startD_n, startD_0, wipeD, backD, List.map_cons, List.map_nil, List.append_nil, List.nil_append, List.cons_append, List.getElem?_cons_zero, List.getElem?_cons_succ, List.set_cons_zero, List.set_cons_succ, List.length_cons, List.length_nil, Nat.reduceAdd, Nat.reduceLT, Nat.reduceLeDiff, Nat.zero_lt_succ, Nat.zero_lt_one, Bool.not_true, Bool.not_false, Bool.and_self, Bool.and_true, Bool.true_and, Bool.or_false, Bool.false_or, Bool.false_and, Bool.and_false, Bool.or_true, Bool.true_or, rets_ok, retsO_ok, retsN_ok, rets0_ok, true_and, and_true, and_self, y_kIfE, y_kTA, y_kTO, y_kAnd, y_kOr, y_kStx, y_if, y_fz, y_and, y_or, y_andD, y_orD, if_true, if_false, Bool.false_eq_true, Bool.true_eq_false, reduceIte, rb, ri, rs, Option.map_some, Option.bind_some, itemsOf, itemsZ, turn_ok, e]
    by_cases hm : p.1 = 48 <;> simp [hm])
theorem c_lapart {s t : List Nat} (h : IsRow s) (h2 : IsRow t) (hl : s.length = t.length) (σ : SD) : callD 2 2 4 m__law_apart [] [.fz (.str s), .fz (.str t)] σ = .ok (.ow (.lst ((apK 0 s t).map fun (i : Nat) => D.int (i : Int)))) σ := call_ow (as := [.str s, .str t]) rfl (by decide) (by
  simp only [m__law_apart, bind_ok, bind_exc, bind_stuck, q_eVar, q_kVar1, q_kVar2, q_eC, q_peek1, q_peek2, q_peek3, q_kPk1, q_kPk2, q_frz1, q_frz2, q_frz3, q_kFz1, q_kFz2, q_peekL0, q_peekL1, q_kpl1, q_kfl1, q_kpl2, q_frzL0, q_frzL1, q_ans1, q_ans2, q_ans3, q_k2_eCB, q_k1_eCB, q_eCB, q_k2_e1, q_k1_e1, q_e1, q_k4_e2, q_k3_e2, q_k2_e2, q_k1_e2, q_e2, q_kch1, q_kch2, q_kch3, q_kch4, q_k4_e3c, q_k3_e3c, q_k2_e3c, q_k1_e3c, q_e3c, q_eIf, q_kIfE1, q_kIfE2, q_eAnd, q_kAnd1, q_kAnd2, q_eOr, q_kOr1, q_kOr2, q_eNot, q_kNot, q_eTup, q_eLst, q_kTup1, q_kLst1, q_kTupN0, q_kLstN0, q_kTupN1, q_kLstN1, q_kTupN2, q_kLstN2, q_kTupN3, q_kLstN3, q_kTupN4, q_kLstN4, q_kTupN5, q_kLstN5, q_kTupN6, q_kLstN6, q_kTupN7, q_kLstN7, q_kTupN8, q_kLstN8, q_kTupN9, q_kLstN9, q_pNo, q_pSo, q_kSo, q_k4_eSl, q_k3_eSl, q_k2_eSl, q_k1_eSl, q_eSl, q_eJoin, q_kJ0, q_kJ1, q_kJ2, q_k1_eCall, q_eCall, q_aNil, q_k2_aCons, q_k1_aCons, q_aCons, q_k2_eFz, q_k1_eFz, q_eFz, q_tB1, q_kB1, q_tTru, q_kTr0, q_kTr1, q_kTrb, q_truthB, q_kTr2, q_tAnd, q_tOr, q_tNot, q_kTA1, q_kTA2, q_kTO1, q_kTO2, q_kTN, q_tTrue, q_bNil, q_bCons, q_kBC1, q_kBC2, q_kBC3, q_kBC4, q_sPass, q_sBreak, q_sCont, q_sRetN, q_sExpr, q_kEx, q_sRet, q_kRt, q_sIf, q_kIf1, q_kIf2, q_kU, q_sSet, q_kSet, q_set1, q_set2, q_set3, q_kSl1, q_kSl2, q_gNm, q_gNms0, q_gNms1, q_kGs, q_gTp, q_gSq1, q_gSq2, q_sAsg, q_kAs0, q_kAs1, q_sAug, q_kAug, q_kAug1, q_kAug2, q_kAug3, q_eIter, q_kIt0, q_kIt1, q_kIt2, q_iRng, q_kRg0, q_kRg1, q_iZip, q_kZp1, q_kZp2, q_iEnum, q_kEn1, q_kEn2, q_sFor, q_kFor, q_sWhile, q_sPar, q_kPr0, q_kPr1, q_kPr2, q_kPr3, q_noPk1, q_noPk2, q_sPar3, q_kPt0, q_kPt1, q_kPt2, q_kPt3, q_kPt4, q_eMt, q_kMt0, q_kMt1, q_kMt1b, q_kMt2, q_kMt3, q_rdA1, q_rdA2, q_sPut, q_kPu0, q_kPu1, q_kPu2, q_kPu2b, q_kPu3, q_kPu4, q_stepL, q_kStw, q_kStx1, q_kStx2, q_kSty, q_kStz, startD_c, startD_n, startD_0, wipeD, backD, List.map_cons, List.map_nil, List.append_nil, List.nil_append, List.cons_append, List.getElem?_cons_zero, List.getElem?_cons_succ, List.set_cons_zero, List.set_cons_succ, List.length_cons, List.length_nil, Nat.reduceAdd, Nat.reduceLT, Nat.reduceLeDiff, Nat.zero_lt_succ, Nat.zero_lt_one, Bool.not_true, Bool.not_false, Bool.and_self, Bool.and_true, Bool.true_and, Bool.or_false, Bool.false_or, Bool.false_and, Bool.and_false, Bool.or_true, Bool.true_or, rets_ok, retsO_ok, retsN_ok, rets0_ok, true_and, and_true, and_self, y_kIfE, y_kTA, y_kTO, y_kAnd, y_kOr, y_kStx, y_if, y_fz, y_and, y_or, y_andD, y_orD, if_true, if_false, Bool.false_eq_true, Bool.true_eq_false, reduceIte, rb, ri, rs, Option.map_some, Option.bind_some, itemsOf, itemsZ]
  rw [eLc_if (fun p => .tup [.int (p.2 : Nat), .str [p.1]]) s.zipIdx (apP t) (fun p => .int (p.2 : Nat)) (iEnum_row _ _ rfl) rfl (zl h) (fun p hp => ?_)]
  · rw [apP_map hl]
    simp only [bind_ok, bind_exc, bind_stuck, q_eVar, q_kVar1, q_kVar2, q_eC, q_peek1, q_peek2, q_peek3, q_kPk1, q_kPk2, q_frz1, q_frz2, q_frz3, q_kFz1, q_kFz2, q_peekL0, q_peekL1, q_kpl1, q_kfl1, q_kpl2, q_frzL0, q_frzL1, q_ans1, q_ans2, q_ans3, q_k2_eCB, q_k1_eCB, q_eCB, q_k2_e1, q_k1_e1, q_e1, q_k4_e2, q_k3_e2, q_k2_e2, q_k1_e2, q_e2, q_kch1, q_kch2, q_kch3, q_kch4, q_k4_e3c, q_k3_e3c, q_k2_e3c, q_k1_e3c, q_e3c, q_eIf, q_kIfE1, q_kIfE2, q_eAnd, q_kAnd1, q_kAnd2, q_eOr, q_kOr1, q_kOr2, q_eNot, q_kNot, q_eTup, q_eLst, q_kTup1, q_kLst1, q_kTupN0, q_kLstN0, q_kTupN1, q_kLstN1, q_kTupN2, q_kLstN2, q_kTupN3, q_kLstN3, q_kTupN4, q_kLstN4, q_kTupN5, q_kLstN5, q_kTupN6, q_kLstN6, q_kTupN7, q_kLstN7, q_kTupN8, q_kLstN8, q_kTupN9, q_kLstN9, q_pNo, q_pSo, q_kSo, q_k4_eSl, q_k3_eSl, q_k2_eSl, q_k1_eSl, q_eSl, q_eJoin, q_kJ0, q_kJ1, q_kJ2, q_k1_eCall, q_eCall, q_aNil, q_k2_aCons, q_k1_aCons, q_aCons, q_k2_eFz, q_k1_eFz, q_eFz, q_tB1, q_kB1, q_tTru, q_kTr0, q_kTr1, q_kTrb, q_truthB, q_kTr2, q_tAnd, q_tOr, q_tNot, q_kTA1, q_kTA2, q_kTO1, q_kTO2, q_kTN, q_tTrue, q_bNil, q_bCons, q_kBC1, q_kBC2, q_kBC3, q_kBC4, q_sPass, q_sBreak, q_sCont, q_sRetN, q_sExpr, q_kEx, q_sRet, q_kRt, q_sIf, q_kIf1, q_kIf2, q_kU, q_sSet, q_kSet, q_set1, q_set2, q_set3, q_kSl1, q_kSl2, q_gNm, q_gNms0, q_gNms1, q_kGs, q_gTp, q_gSq1, q_gSq2, q_sAsg, q_kAs0, q_kAs1, q_sAug, q_kAug, q_kAug1, q_kAug2, q_kAug3, q_eIter, q_kIt0, q_kIt1, q_kIt2, q_iRng, q_kRg0, q_kRg1, q_iZip, q_kZp1, q_kZp2, q_iEnum, q_kEn1, q_kEn2, q_sFor, q_kFor, q_sWhile, q_sPar, q_kPr0, q_kPr1, q_kPr2, q_kPr3, q_noPk1, q_noPk2, q_sPar3, q_kPt0, q_kPt1, q_kPt2, q_kPt3, q_kPt4, q_eMt, q_kMt0, q_kMt1, q_kMt1b, q_kMt2, q_kMt3, q_rdA1, q_rdA2, q_sPut, q_kPu0, q_kPu1, q_kPu2, q_kPu2b, q_kPu3, q_kPu4, q_stepL, q_kStw, q_kStx1, q_kStx2, q_kSty, q_kStz, startD_c, startD_n, startD_0, wipeD, backD, List.map_cons, List.map_nil, List.append_nil, List.nil_append, List.cons_append, List.getElem?_cons_zero, List.getElem?_cons_succ, List.set_cons_zero, List.set_cons_succ, List.length_cons, List.length_nil, Nat.reduceAdd, Nat.reduceLT, Nat.reduceLeDiff, Nat.zero_lt_succ, Nat.zero_lt_one, Bool.not_true, Bool.not_false, Bool.and_self, Bool.and_true, Bool.true_and, Bool.or_false, Bool.false_or, Bool.false_and, Bool.and_false, Bool.or_true, Bool.true_or, rets_ok, retsO_ok, retsN_ok, rets0_ok, true_and, and_true, and_self, y_kIfE, y_kTA, y_kTO, y_kAnd, y_kOr, y_kStx, y_if, y_fz, y_and, y_or, y_andD, y_orD, if_true, if_false, Bool.false_eq_true, Bool.true_eq_false, reduceIte, rb, ri, rs, Option.map_some, Option.bind_some, itemsOf, itemsZ, retsO_ok]
  · obtain ⟨c, hc, hq⟩ := at_row hl hp
    have e1 := dNe_cc p.1 48 (h.sg _ (mem_zipIdx1 hp)) sg48
    have e2 := dIx_str h2 hq
    have e3 := c_lflip (h.sg _ (mem_zipIdx1 hp))
    have e4 := dEq_cc c (flipN p.1) (h2.sg _ hc) (isSg_flip (h.sg _ (mem_zipIdx1 hp)))
    simp only [bind_ok, bind_exc, bind_stuck, q_eVar, q_kVar1, q_kVar2, q_eC, q_peek1, q_peek2, q_peek3, q_kPk1, q_kPk2, q_frz1, q_frz2, q_frz3, q_kFz1, q_kFz2, q_peekL0, q_peekL1, q_kpl1, q_kfl1, q_kpl2, q_frzL0, q_frzL1, q_ans1, q_ans2, q_ans3, q_k2_eCB, q_k1_eCB, q_eCB, q_k2_e1, q_k1_e1, q_e1, q_k4_e2, q_k3_e2, q_k2_e2, q_k1_e2, q_e2, q_kch1, q_kch2, q_kch3, q_kch4, q_k4_e3c, q_k3_e3c, q_k2_e3c, q_k1_e3c, q_e3c, q_eIf, q_kIfE1, q_kIfE2, q_eAnd, q_kAnd1, q_kAnd2, q_eOr, q_kOr1, q_kOr2, q_eNot, q_kNot, q_eTup, q_eLst, q_kTup1, q_kLst1, q_kTupN0, q_kLstN0, q_kTupN1, q_kLstN1, q_kTupN2, q_kLstN2, q_kTupN3, q_kLstN3, q_kTupN4, q_kLstN4, q_kTupN5, q_kLstN5, q_kTupN6, q_kLstN6, q_kTupN7, q_kLstN7, q_kTupN8, q_kLstN8, q_kTupN9, q_kLstN9, q_pNo, q_pSo, q_kSo, q_k4_eSl, q_k3_eSl, q_k2_eSl, q_k1_eSl, q_eSl, q_eJoin, q_kJ0, q_kJ1, q_kJ2, q_k1_eCall, q_eCall, q_aNil, q_k2_aCons, q_k1_aCons, q_aCons, q_k2_eFz, q_k1_eFz, q_eFz, q_tB1, q_kB1, q_tTru, q_kTr0, q_kTr1, q_kTrb, q_truthB, q_kTr2, q_tAnd, q_tOr, q_tNot, q_kTA1, q_kTA2, q_kTO1, q_kTO2, q_kTN, q_tTrue, q_bNil, q_bCons, q_kBC1, q_kBC2, q_kBC3, q_kBC4, q_sPass, q_sBreak, q_sCont, q_sRetN, q_sExpr, q_kEx, q_sRet, q_kRt, q_sIf, q_kIf1, q_kIf2, q_kU, q_sSet, q_kSet, q_set1, q_set2, q_set3, q_kSl1, q_kSl2, q_gNm, q_gNms0, q_gNms1, q_kGs, q_gTp, q_gSq1, q_gSq2, q_sAsg, q_kAs0, q_kAs1, q_sAug, q_kAug, q_kAug1, q_kAug2, q_kAug3, q_eIter, q_kIt0, q_kIt1, q_kIt2, q_iRng, q_kRg0, q_kRg1, q_iZip, q_kZp1, q_kZp2, q_iEnum, q_kEn1, q_kEn2, q_sFor, q_kFor, q_sWhile, q_sPar, q_kPr0, q_kPr1, q_kPr2, q_kPr3, q_noPk1, q_noPk2, q_sPar3, q_kPt0, q_kPt1, q_kPt2, q_kPt3, q_kPt4, q_eMt, q_kMt0, q_kMt1, q_kMt1b, q_kMt2, q_kMt3, q_rdA1, q_rdA2, q_sPut, q_kPu0, q_kPu1, q_kPu2, q_kPu2b, q_kPu3, q_kPu4, q_stepL, q_kStw, q_kStx1, q_kStx2, q_kSty, q_kStz, startD_c, startD_n, startD_0, wipeD, backD, List.map_cons, List.map_nil, List.append_nil, List.nil_append, List.cons_append, List.getElem?_cons_zero, List.getElem?_cons_succ, List.set_cons_zero, List.set_cons_succ, List.length_cons, List.length_nil, Nat.reduceAdd, Nat.reduceLT, Nat.reduceLeDiff, Nat.zero_lt_succ, Nat.zero_lt_one, Bool.not_true, Bool.not_false, Bool.and_self, Bool.and_true, Bool.true_and, Bool.or_false, Bool.false_or, Bool.false_and, Bool.and_false, Bool.or_true, Bool.true_or, rets_ok, retsO_ok, retsN_ok, rets0_ok, true_and, and_true, and_self, y_kIfE, y_kTA, y_kTO, y_kAnd, y_kOr, y_kStx, y_if, y_fz, y_and, y_or, y_andD, y_orD, if_true, if_false, Bool.false_eq_true, Bool.true_eq_false, reduceIte, rb, ri, rs, Option.map_some, Option.bind_some, itemsOf, itemsZ, turn_ok, e1, e2, e3, e4, apP, hq, Option.some.injEq])
abbrev cmP (t : List Nat) : Nat × Nat → Bool := fun p => decide (p.1 ≠ 48) && decide (t[p.2]? ≠ some 48)
theorem cmP_map {s t : List Nat} (hl : s.length = t.length) : ((s.zipIdx.filter (cmP t)).map fun p => D.int (p.2 : Nat)) = (cmK 0 s t).map fun (i : Nat) => D.int (i : Int) := by
  rw [← cmK_zip t s t 0 rfl hl, List.map_map]
  rfl
theorem dLen_lst (ds : List D) : dLen [.lst ds] = some (.val (.int (ds.length : Nat))) := rfl
theorem c_lupright {s t : List Nat} (h : IsRow s) (h2 : IsRow t) (hl : s.length = t.length) (σ : SD) : callD 2 2 6 m__law_upright [] [.fz (.str s), .fz (.str t)] σ = .ok (.fz (.bl (upN s t))) σ := call_fz (as := [.str s, .str t]) rfl (by decide) (by
  simp only [m__law_upright, bind_ok, bind_exc, bind_stuck, q_eVar, q_kVar1, q_kVar2, q_eC, q_peek1, q_peek2, q_peek3, q_kPk1, q_kPk2, q_frz1, q_frz2, q_frz3, q_kFz1, q_kFz2, q_peekL0, q_peekL1, q_kpl1, q_kfl1, q_kpl2, q_frzL0, q_frzL1, q_ans1, q_ans2, q_ans3, q_k2_eCB, q_k1_eCB, q_eCB, q_k2_e1, q_k1_e1, q_e1, q_k4_e2, q_k3_e2, q_k2_e2, q_k1_e2, q_e2, q_kch1, q_kch2, q_kch3, q_kch4, q_k4_e3c, q_k3_e3c, q_k2_e3c, q_k1_e3c, q_e3c, q_eIf, q_kIfE1, q_kIfE2, q_eAnd, q_kAnd1, q_kAnd2, q_eOr, q_kOr1, q_kOr2, q_eNot, q_kNot, q_eTup, q_eLst, q_kTup1, q_kLst1, q_kTupN0, q_kLstN0, q_kTupN1, q_kLstN1, q_kTupN2, q_kLstN2, q_kTupN3, q_kLstN3, q_kTupN4, q_kLstN4, q_kTupN5, q_kLstN5, q_kTupN6, q_kLstN6, q_kTupN7, q_kLstN7, q_kTupN8, q_kLstN8, q_kTupN9, q_kLstN9, q_pNo, q_pSo, q_kSo, q_k4_eSl, q_k3_eSl, q_k2_eSl, q_k1_eSl, q_eSl, q_eJoin, q_kJ0, q_kJ1, q_kJ2, q_k1_eCall, q_eCall, q_aNil, q_k2_aCons, q_k1_aCons, q_aCons, q_k2_eFz, q_k1_eFz, q_eFz, q_tB1, q_kB1, q_tTru, q_kTr0, q_kTr1, q_kTrb, q_truthB, q_kTr2, q_tAnd, q_tOr, q_tNot, q_kTA1, q_kTA2, q_kTO1, q_kTO2, q_kTN, q_tTrue, q_bNil, q_bCons, q_kBC1, q_kBC2, q_kBC3, q_kBC4, q_sPass, q_sBreak, q_sCont, q_sRetN, q_sExpr, q_kEx, q_sRet, q_kRt, q_sIf, q_kIf1, q_kIf2, q_kU, q_sSet, q_kSet, q_set1, q_set2, q_set3, q_kSl1, q_kSl2, q_gNm, q_gNms0, q_gNms1, q_kGs, q_gTp, q_gSq1, q_gSq2, q_sAsg, q_kAs0, q_kAs1, q_sAug, q_kAug, q_kAug1, q_kAug2, q_kAug3, q_eIter, q_kIt0, q_kIt1, q_kIt2, q_iRng, q_kRg0, q_kRg1, q_iZip, q_kZp1, q_kZp2, q_iEnum, q_kEn1, q_kEn2, q_sFor, q_kFor, q_sWhile, q_sPar, q_kPr0, q_kPr1, q_kPr2, q_kPr3, q_noPk1, q_noPk2, q_sPar3, q_kPt0, q_kPt1, q_kPt2, q_kPt3, q_kPt4, q_eMt, q_kMt0, q_kMt1, q_kMt1b, q_kMt2, q_kMt3, q_rdA1, q_rdA2, q_sPut, q_kPu0, q_kPu1, q_kPu2, q_kPu2b, q_kPu3, q_kPu4, q_stepL, q_kStw, q_kStx1, q_kStx2, q_kSty, q_kStz, startD_c, startD_n, startD_0, wipeD, backD, List.map_cons, List.map_nil, List.append_nil, List.nil_append, List.cons_append, List.getElem?_cons_zero, List.getElem?_cons_succ, List.set_cons_zero, List.set_cons_succ, List.length_cons, List.length_nil, Nat.reduceAdd, Nat.reduceLT, Nat.reduceLeDiff, Nat.zero_lt_succ, Nat.zero_lt_one, Bool.not_true, Bool.not_false, Bool.and_self, Bool.and_true, Bool.true_and, Bool.or_false, Bool.false_or, Bool.false_and, Bool.and_false, Bool.or_true, Bool.true_or, rets_ok, retsO_ok, retsN_ok, rets0_ok, true_and, and_true, and_self, y_kIfE, y_kTA, y_kTO, y_kAnd, y_kOr, y_kStx, y_if, y_fz, y_and, y_or, y_andD, y_orD, if_true, if_false, Bool.false_eq_true, Bool.true_eq_false, reduceIte, rb, ri, rs, Option.map_some, Option.bind_some, itemsOf, itemsZ]
  rw [eLc_if (fun p => .tup [.int (p.2 : Nat), .str [p.1]]) s.zipIdx (cmP t) (fun p => .int (p.2 : Nat)) (iEnum_row _ _ rfl) rfl (zl h) (fun p hp => ?_)]
  · rw [cmP_map hl]
    have e2 := dEq_nil _ (dGood_lstM (fun (i : Nat) => D.int (i : Int)) (cmK 0 s t) (fun _ _ => rfl) (fun _ _ => Nat.zero_le _))
    rw [← up_law 0 s t h.sg h2.sg]
    simp only [bind_ok, bind_exc, bind_stuck, q_eVar, q_kVar1, q_kVar2, q_eC, q_peek1, q_peek2, q_peek3, q_kPk1, q_kPk2, q_frz1, q_frz2, q_frz3, q_kFz1, q_kFz2, q_peekL0, q_peekL1, q_kpl1, q_kfl1, q_kpl2, q_frzL0, q_frzL1, q_ans1, q_ans2, q_ans3, q_k2_eCB, q_k1_eCB, q_eCB, q_k2_e1, q_k1_e1, q_e1, q_k4_e2, q_k3_e2, q_k2_e2, q_k1_e2, q_e2, q_kch1, q_kch2, q_kch3, q_kch4, q_k4_e3c, q_k3_e3c, q_k2_e3c, q_k1_e3c, q_e3c, q_eIf, q_kIfE1, q_kIfE2, q_eAnd, q_kAnd1, q_kAnd2, q_eOr, q_kOr1, q_kOr2, q_eNot, q_kNot, q_eTup, q_eLst, q_kTup1, q_kLst1, q_kTupN0, q_kLstN0, q_kTupN1, q_kLstN1, q_kTupN2, q_kLstN2, q_kTupN3, q_kLstN3, q_kTupN4, q_kLstN4, q_kTupN5, q_kLstN5, q_kTupN6, q_kLstN6, q_kTupN7, q_kLstN7, q_kTupN8, q_kLstN8, q_kTupN9, q_kLstN9, q_pNo, q_pSo, q_kSo, q_k4_eSl, q_k3_eSl, q_k2_eSl, q_k1_eSl, q_eSl, q_eJoin, q_kJ0, q_kJ1, q_kJ2, q_k1_eCall, q_eCall, q_aNil, q_k2_aCons, q_k1_aCons, q_aCons, q_k2_eFz, q_k1_eFz, q_eFz, q_tB1, q_kB1, q_tTru, q_kTr0, q_kTr1, q_kTrb, q_truthB, q_kTr2, q_tAnd, q_tOr, q_tNot, q_kTA1, q_kTA2, q_kTO1, q_kTO2, q_kTN, q_tTrue, q_bNil, q_bCons, q_kBC1, q_kBC2, q_kBC3, q_kBC4, q_sPass, q_sBreak, q_sCont, q_sRetN, q_sExpr, q_kEx, q_sRet, q_kRt, q_sIf, q_kIf1, q_kIf2, q_kU, q_sSet, q_kSet, q_set1, q_set2, q_set3, q_kSl1, q_kSl2, q_gNm, q_gNms0, q_gNms1, q_kGs, q_gTp, q_gSq1, q_gSq2, q_sAsg, q_kAs0, q_kAs1, q_sAug, q_kAug, q_kAug1, q_kAug2, q_kAug3, q_eIter, q_kIt0, q_kIt1, q_kIt2, q_iRng, q_kRg0, q_kRg1, q_iZip, q_kZp1, q_kZp2, q_iEnum, q_kEn1, q_kEn2, q_sFor, q_kFor, q_sWhile, q_sPar, q_kPr0, q_kPr1, q_kPr2, q_kPr3, q_noPk1, q_noPk2, q_sPar3, q_kPt0, q_kPt1, q_kPt2, q_kPt3, q_kPt4, q_eMt, q_kMt0, q_kMt1, q_kMt1b, q_kMt2, q_kMt3, q_rdA1, q_rdA2, q_sPut, q_kPu0, q_kPu1, q_kPu2, q_kPu2b, q_kPu3, q_kPu4, q_stepL, q_kStw, q_kStx1, q_kStx2, q_kSty, q_kStz, startD_c, startD_n, startD_0, wipeD, backD, List.map_cons, List.map_nil, List.append_nil, List.nil_append, List.cons_append, List.getElem?_cons_zero, List.getElem?_cons_succ, List.set_cons_zero, List.set_cons_succ, List.length_cons, List.length_nil, Nat.reduceAdd, Nat.reduceLT, Nat.reduceLeDiff, Nat.zero_lt_succ, Nat.zero_lt_one, Bool.not_true, Bool.not_false, Bool.and_self, Bool.and_true, Bool.true_and, Bool.or_false, Bool.false_or, Bool.false_and, Bool.and_false, Bool.or_true, Bool.true_or, rets_ok, retsO_ok, retsN_ok, rets0_ok, true_and, and_true, and_self, y_kIfE, y_kTA, y_kTO, y_kAnd, y_kOr, y_kStx, y_if, y_fz, y_and, y_or, y_andD, y_orD, if_true, if_false, Bool.false_eq_true, Bool.true_eq_false, reduceIte, rb, ri, rs, Option.map_some, Option.bind_some, itemsOf, itemsZ, c_lapart h h2 hl, e2, dLen_lst, dLt, List.map_eq_nil_iff, List.length_map, Int.ofNat_lt, Int.natCast_pos]
    generalize decide (cmK 0 s t = []) = p
    generalize decide (0 < (apK 0 s t).length) = q
    cases p <;> cases q <;> simp only [bind_ok, bind_exc, bind_stuck, q_eVar, q_kVar1, q_kVar2, q_eC, q_peek1, q_peek2, q_peek3, q_kPk1, q_kPk2, q_frz1, q_frz2, q_frz3, q_kFz1, q_kFz2, q_peekL0, q_peekL1, q_kpl1, q_kfl1, q_kpl2, q_frzL0, q_frzL1, q_ans1, q_ans2, q_ans3, q_k2_eCB, q_k1_eCB, q_eCB, q_k2_e1, q_k1_e1, q_e1, q_k4_e2, q_k3_e2, q_k2_e2, q_k1_e2, q_e2, q_kch1, q_kch2, q_kch3, q_kch4, q_k4_e3c, q_k3_e3c, q_k2_e3c, q_k1_e3c, q_e3c, q_eIf, q_kIfE1, q_kIfE2, q_eAnd, q_kAnd1, q_kAnd2, q_eOr, q_kOr1, q_kOr2, q_eNot, q_kNot, q_eTup, q_eLst, q_kTup1, q_kLst1, q_kTupN0, q_kLstN0, q_kTupN1, q_kLstN1, q_kTupN2, q_kLstN2, q_kTupN3, q_kLstN3, q_kTupN4, q_kLstN4, q_kTupN5, q_kLstN5, q_kTupN6, q_kLstN6, q_kTupN7, q_kLstN7, q_kTupN8, q_kLstN8, q_kTupN9, q_kLstN9, q_pNo, q_pSo, q_kSo, q_k4_eSl, q_k3_eSl, q_k2_eSl, q_k1_eSl, q_eSl, q_eJoin, q_kJ0, q_kJ1, q_kJ2, q_k1_eCall, q_eCall, q_aNil, q_k2_aCons, q_k1_aCons, q_aCons, q_k2_eFz, q_k1_eFz, q_eFz, q_tB1, q_kB1, q_tTru, q_kTr0, q_kTr1, q_kTrb, q_truthB, q_kTr2, q_tAnd, q_tOr, q_tNot, q_kTA1, q_kTA2, q_kTO1, q_kTO2, q_kTN, q_tTrue, q_bNil, q_bCons, q_kBC1, q_kBC2, q_kBC3, q_kBC4, q_sPass, q_sBreak, q_sCont, q_sRetN, q_sExpr, q_kEx, q_sRet, q_kRt, q_sIf, q_kIf1, q_kIf2, q_kU, q_sSet, q_kSet, q_set1, q_set2, q_set3, q_kSl1, q_kSl2, q_gNm, q_gNms0, q_gNms1, q_kGs, q_gTp, q_gSq1, q_gSq2, q_sAsg, q_kAs0, q_kAs1, q_sAug, q_kAug, q_kAug1, q_kAug2, q_kAug3, q_eIter, q_kIt0, q_kIt1, q_kIt2, q_iRng, q_kRg0, q_kRg1, q_iZip, q_kZp1, q_kZp2, q_iEnum, q_kEn1, q_kEn2, q_sFor, q_kFor, q_sWhile, q_sPar, q_kPr0, q_kPr1, q_kPr2, q_kPr3, q_noPk1, q_noPk2, q_sPar3, q_kPt0, q_kPt1, q_kPt2, q_kPt3, q_kPt4, q_eMt, q_kMt0, q_kMt1, q_kMt1b, q_kMt2, q_kMt3, q_rdA1, q_rdA2, q_sPut, q_kPu0, q_kPu1, q_kPu2, q_kPu2b, q_kPu3, q_kPu4, q_stepL, q_kStw, q_kStx1, q_kStx2, q_kSty, q_kStz, startD_c, startD_n, startD_0, wipeD, backD, List.map_cons, List.map_nil, List.append_nil, List.nil_append, List.cons_append, List.getElem?_cons_zero, List.getElem?_cons_succ, List.set_cons_zero, List.set_cons_succ, List.length_cons, List.length_nil, Nat.reduceAdd, Nat.reduceLT, Nat.reduceLeDiff, Nat.zero_lt_succ, Nat.zero_lt_one, Bool.not_true, Bool.not_false, Bool.and_self, Bool.and_true, Bool.true_and, Bool.or_false, Bool.false_or, Bool.false_and, Bool.and_false, Bool.or_true, Bool.true_or, rets_ok, retsO_ok, retsN_ok, rets0_ok, true_and, and_true, and_self, y_kIfE, y_kTA, y_kTO, y_kAnd, y_kOr, y_kStx, y_if, y_fz, y_and, y_or, y_andD, y_orD, if_true, if_false, Bool.false_eq_true, Bool.true_eq_false, reduceIte, rb, ri, rs, Option.map_some, Option.bind_some, itemsOf, itemsZ, dLen_lst, dLt, List.length_map, Int.ofNat_lt]
  · obtain ⟨c, hc, hq⟩ := at_row hl hp
    have e1 := dNe_cc p.1 48 (h.sg _ (mem_zipIdx1 hp)) sg48
    have e2 := dIx_str h2 hq
    have e3 := dNe_cc c 48 (h2.sg _ hc) sg48
    simp only [bind_ok, bind_exc, bind_stuck, q_eVar, q_kVar1, q_kVar2, q_eC, q_peek1, q_peek2, q_peek3, q_kPk1, q_kPk2, q_frz1, q_frz2, q_frz3, q_kFz1, q_kFz2, q_peekL0, q_peekL1, q_kpl1, q_kfl1, q_kpl2, q_frzL0, q_frzL1, q_ans1, q_ans2, q_ans3, q_k2_eCB, q_k1_eCB, q_eCB, q_k2_e1, q_k1_e1, q_e1, q_k4_e2, q_k3_e2, q_k2_e2, q_k1_e2, q_e2, q_kch1, q_kch2, q_kch3, q_kch4, q_k4_e3c, q_k3_e3c, q_k2_e3c, q_k1_e3c, q_e3c, q_eIf, q_kIfE1, q_kIfE2, q_eAnd, q_kAnd1, q_kAnd2, q_eOr, q_kOr1, q_kOr2, q_eNot, q_kNot, q_eTup, q_eLst, q_kTup1, q_kLst1, q_kTupN0, q_kLstN0, q_kTupN1, q_kLstN1, q_kTupN2, q_kLstN2, q_kTupN3, q_kLstN3, q_kTupN4, q_kLstN4, q_kTupN5, q_kLstN5, q_kTupN6, q_kLstN6, q_kTupN7, q_kLstN7, q_kTupN8, q_kLstN8, q_kTupN9, q_kLstN9, q_pNo, q_pSo, q_kSo, q_k4_eSl, q_k3_eSl, q_k2_eSl, q_k1_eSl, q_eSl, q_eJoin, q_kJ0, q_kJ1, q_kJ2, q_k1_eCall, q_eCall, q_aNil, q_k2_aCons, q_k1_aCons, q_aCons, q_k2_eFz, q_k1_eFz, q_eFz, q_tB1, q_kB1, q_tTru, q_kTr0, q_kTr1, q_kTrb, q_truthB, q_kTr2, q_tAnd, q_tOr, q_tNot, q_kTA1, q_kTA2, q_kTO1, q_kTO2, q_kTN, q_tTrue, q_bNil, q_bCons, q_kBC1, q_kBC2, q_kBC3, q_kBC4, q_sPass, q_sBreak, q_sCont, q_sRetN, q_sExpr, q_kEx, q_sRet, q_kRt, q_sIf, q_kIf1, q_kIf2, q_kU, q_sSet, q_kSet, q_set1, q_set2, q_set3, q_kSl1, q_kSl2, q_gNm, q_gNms0, q_gNms1, q_kGs, q_gTp, q_gSq1, q_gSq2, q_sAsg, q_kAs0, q_kAs1, q_sAug, q_kAug, q_kAug1, q_kAug2, q_kAug3, q_eIter, q_kIt0, q_kIt1, q_kIt2, q_iRng, q_kRg0, q_kRg1, q_iZip, q_kZp1, q_kZp2, q_iEnum, q_kEn1, q_kEn2, q_sFor, q_kFor, q_sWhile, q_sPar, q_kPr0, q_kPr1, q_kPr2, q_kPr3, q_noPk1, q_noPk2, q_sPar3, q_kPt0, q_kPt1, q_kPt2, q_kPt3, q_kPt4, q_eMt, q_kMt0, q_kMt1, q_kMt1b, q_kMt2, q_kMt3, q_rdA1, q_rdA2, q_sPut, q_kPu0, q_kPu1, q_kPu2, q_kPu2b, q_kPu3, q_kPu4, q_stepL, q_kStw, q_kStx1, q_kStx2, q_kSty, q_kStz, startD_c, startD_n, startD_0, wipeD, backD, List.map_cons, List.map_nil, List.append_nil, List.nil_append, List.cons_append, List.getElem?_cons_zero, List.getElem?_cons_succ, List.set_cons_zero, List.set_cons_succ, List.length_cons, List.length_nil, Nat.reduceAdd, Nat.reduceLT, Nat.reduceLeDiff, Nat.zero_lt_succ, Nat.zero_lt_one, Bool.not_true, Bool.not_false, Bool.and_self, Bool.and_true, Bool.true_and, Bool.or_false, Bool.false_or, Bool.false_and, Bool.and_false, Bool.or_true, Bool.true_or, rets_ok, retsO_ok, retsN_ok, rets0_ok, true_and, and_true, and_self, y_kIfE, y_kTA, y_kTO, y_kAnd, y_kOr, y_kStx, y_if, y_fz, y_and, y_or, y_andD, y_orD, if_true, if_false, Bool.false_eq_true, Bool.true_eq_false, reduceIte, rb, ri, rs, Option.map_some, Option.bind_some, itemsOf, itemsZ, turn_ok, e1, e2, e3, cmP, hq, ne_eq, Option.some.injEq])
theorem c_lheld {s : List Nat} (h : IsRow s) (σ : SD) : callD 1 1 3 m__law_held [] [.fz (.str s)] σ = .ok (.fz (tD (heldN s))) σ := call_fz (as := [.str s]) rfl (by decide) (by
  simp only [m__law_held, bind_ok, bind_exc, bind_stuck, q_eVar, q_kVar1, q_kVar2, q_eC, q_peek1, q_peek2, q_peek3, q_kPk1, q_kPk2, q_frz1, q_frz2, q_frz3, q_kFz1, q_kFz2, q_peekL0, q_peekL1, q_kpl1, q_kfl1, q_kpl2, q_frzL0, q_frzL1, q_ans1, q_ans2, q_ans3, q_k2_eCB, q_k1_eCB, q_eCB, q_k2_e1, q_k1_e1, q_e1, q_k4_e2, q_k3_e2, q_k2_e2, q_k1_e2, q_e2, q_kch1, q_kch2, q_kch3, q_kch4, q_k4_e3c, q_k3_e3c, q_k2_e3c, q_k1_e3c, q_e3c, q_eIf, q_kIfE1, q_kIfE2, q_eAnd, q_kAnd1, q_kAnd2, q_eOr, q_kOr1, q_kOr2, q_eNot, q_kNot, q_eTup, q_eLst, q_kTup1, q_kLst1, q_kTupN0, q_kLstN0, q_kTupN1, q_kLstN1, q_kTupN2, q_kLstN2, q_kTupN3, q_kLstN3, q_kTupN4, q_kLstN4, q_kTupN5, q_kLstN5, q_kTupN6, q_kLstN6, q_kTupN7, q_kLstN7, q_kTupN8, q_kLstN8, q_kTupN9, q_kLstN9, q_pNo, q_pSo, q_kSo, q_k4_eSl, q_k3_eSl, q_k2_eSl, q_k1_eSl, q_eSl, q_eJoin, q_kJ0, q_kJ1, q_kJ2, q_k1_eCall, q_eCall, q_aNil, q_k2_aCons, q_k1_aCons, q_aCons, q_k2_eFz, q_k1_eFz, q_eFz, q_tB1, q_kB1, q_tTru, q_kTr0, q_kTr1, q_kTrb, q_truthB, q_kTr2, q_tAnd, q_tOr, q_tNot, q_kTA1, q_kTA2, q_kTO1, q_kTO2, q_kTN, q_tTrue, q_bNil, q_bCons, q_kBC1, q_kBC2, q_kBC3, q_kBC4, q_sPass, q_sBreak, q_sCont, q_sRetN, q_sExpr, q_kEx, q_sRet, q_kRt, q_sIf, q_kIf1, q_kIf2, q_kU, q_sSet, q_kSet, q_set1, q_set2, q_set3, q_kSl1, q_kSl2, q_gNm, q_gNms0, q_gNms1, q_kGs, q_gTp, q_gSq1, q_gSq2, q_sAsg, q_kAs0, q_kAs1, q_sAug, q_kAug, q_kAug1, q_kAug2, q_kAug3, q_eIter, q_kIt0, q_kIt1, q_kIt2, q_iRng, q_kRg0, q_kRg1, q_iZip, q_kZp1, q_kZp2, q_iEnum, q_kEn1, q_kEn2, q_sFor, q_kFor, q_sWhile, q_sPar, q_kPr0, q_kPr1, q_kPr2, q_kPr3, q_noPk1, q_noPk2, q_sPar3, q_kPt0, q_kPt1, q_kPt2, q_kPt3, q_kPt4, q_eMt, q_kMt0, q_kMt1, q_kMt1b, q_kMt2, q_kMt3, q_rdA1, q_rdA2, q_sPut, q_kPu0, q_kPu1, q_kPu2, q_kPu2b, q_kPu3, q_kPu4, q_stepL, q_kStw, q_kStx1, q_kStx2, q_kSty, q_kStz, startD_c, startD_n, startD_0, wipeD, backD, List.map_cons, List.map_nil, List.append_nil, List.nil_append, List.cons_append, List.getElem?_cons_zero, List.getElem?_cons_succ, List.set_cons_zero, List.set_cons_succ, List.length_cons, List.length_nil, Nat.reduceAdd, Nat.reduceLT, Nat.reduceLeDiff, Nat.zero_lt_succ, Nat.zero_lt_one, Bool.not_true, Bool.not_false, Bool.and_self, Bool.and_true, Bool.true_and, Bool.or_false, Bool.false_or, Bool.false_and, Bool.and_false, Bool.or_true, Bool.true_or, rets_ok, retsO_ok, retsN_ok, rets0_ok, true_and, and_true, and_self, y_kIfE, y_kTA, y_kTO, y_kAnd, y_kOr, y_kStx, y_if, y_fz, y_and, y_or, y_andD, y_orD, if_true, if_false, Bool.false_eq_true, Bool.true_eq_false, reduceIte, rb, ri, rs, Option.map_some, Option.bind_some, itemsOf, itemsZ]
  rw [eLc_if (fun p => .tup [.int (p.2 : Nat), .str [p.1]]) s.zipIdx (fun p => decide (p.1 ≠ 48)) (fun p => .int (p.2 : Nat)) (iEnum_row _ _ rfl) rfl (zl h) (fun p hp => ?_)]
  · rw [held_map]
    simp only [bind_ok, bind_exc, bind_stuck, q_eVar, q_kVar1, q_kVar2, q_eC, q_peek1, q_peek2, q_peek3, q_kPk1, q_kPk2, q_frz1, q_frz2, q_frz3, q_kFz1, q_kFz2, q_peekL0, q_peekL1, q_kpl1, q_kfl1, q_kpl2, q_frzL0, q_frzL1, q_ans1, q_ans2, q_ans3, q_k2_eCB, q_k1_eCB, q_eCB, q_k2_e1, q_k1_e1, q_e1, q_k4_e2, q_k3_e2, q_k2_e2, q_k1_e2, q_e2, q_kch1, q_kch2, q_kch3, q_kch4, q_k4_e3c, q_k3_e3c, q_k2_e3c, q_k1_e3c, q_e3c, q_eIf, q_kIfE1, q_kIfE2, q_eAnd, q_kAnd1, q_kAnd2, q_eOr, q_kOr1, q_kOr2, q_eNot, q_kNot, q_eTup, q_eLst, q_kTup1, q_kLst1, q_kTupN0, q_kLstN0, q_kTupN1, q_kLstN1, q_kTupN2, q_kLstN2, q_kTupN3, q_kLstN3, q_kTupN4, q_kLstN4, q_kTupN5, q_kLstN5, q_kTupN6, q_kLstN6, q_kTupN7, q_kLstN7, q_kTupN8, q_kLstN8, q_kTupN9, q_kLstN9, q_pNo, q_pSo, q_kSo, q_k4_eSl, q_k3_eSl, q_k2_eSl, q_k1_eSl, q_eSl, q_eJoin, q_kJ0, q_kJ1, q_kJ2, q_k1_eCall, q_eCall, q_aNil, q_k2_aCons, q_k1_aCons, q_aCons, q_k2_eFz, q_k1_eFz, q_eFz, q_tB1, q_kB1, q_tTru, q_kTr0, q_kTr1, q_kTrb, q_truthB, q_kTr2, q_tAnd, q_tOr, q_tNot, q_kTA1, q_kTA2, q_kTO1, q_kTO2, q_kTN, q_tTrue, q_bNil, q_bCons, q_kBC1, q_kBC2, q_kBC3, q_kBC4, q_sPass, q_sBreak, q_sCont, q_sRetN, q_sExpr, q_kEx, q_sRet, q_kRt, q_sIf, q_kIf1, q_kIf2, q_kU, q_sSet, q_kSet, q_set1, q_set2, q_set3, q_kSl1, q_kSl2, q_gNm, q_gNms0, q_gNms1, q_kGs, q_gTp, q_gSq1, q_gSq2, q_sAsg, q_kAs0, q_kAs1, q_sAug, q_kAug, q_kAug1, q_kAug2, q_kAug3, q_eIter, q_kIt0, q_kIt1, q_kIt2, q_iRng, q_kRg0, q_kRg1, q_iZip, q_kZp1, q_kZp2, q_iEnum, q_kEn1, q_kEn2, q_sFor, q_kFor, q_sWhile, q_sPar, q_kPr0, q_kPr1, q_kPr2, q_kPr3, q_noPk1, q_noPk2, q_sPar3, q_kPt0, q_kPt1, q_kPt2, q_kPt3, q_kPt4, q_eMt, q_kMt0, q_kMt1, q_kMt1b, q_kMt2, q_kMt3, q_rdA1, q_rdA2, q_sPut, q_kPu0, q_kPu1, q_kPu2, q_kPu2b, q_kPu3, q_kPu4, q_stepL, q_kStw, q_kStx1, q_kStx2, q_kSty, q_kStz, startD_c, startD_n, startD_0, wipeD, backD, List.map_cons, List.map_nil, List.append_nil, List.nil_append, List.cons_append, List.getElem?_cons_zero, List.getElem?_cons_succ, List.set_cons_zero, List.set_cons_succ, List.length_cons, List.length_nil, Nat.reduceAdd, Nat.reduceLT, Nat.reduceLeDiff, Nat.zero_lt_succ, Nat.zero_lt_one, Bool.not_true, Bool.not_false, Bool.and_self, Bool.and_true, Bool.true_and, Bool.or_false, Bool.false_or, Bool.false_and, Bool.and_false, Bool.or_true, Bool.true_or, rets_ok, retsO_ok, retsN_ok, rets0_ok, true_and, and_true, and_self, y_kIfE, y_kTA, y_kTO, y_kAnd, y_kOr, y_kStx, y_if, y_fz, y_and, y_or, y_andD, y_orD, if_true, if_false, Bool.false_eq_true, Bool.true_eq_false, reduceIte, rb, ri, rs, Option.map_some, Option.bind_some, itemsOf, itemsZ, dTuple, tD]
  · have e1 := dNe_cc p.1 48 (h.sg _ (mem_zipIdx1 hp)) sg48
    simp only [bind_ok, bind_exc, bind_stuck, q_eVar, q_kVar1, q_kVar2, q_eC, q_peek1, q_peek2, q_peek3, q_kPk1, q_kPk2, q_frz1, q_frz2, q_frz3, q_kFz1, q_kFz2, q_peekL0, q_peekL1, q_kpl1, q_kfl1, q_kpl2, q_frzL0, q_frzL1, q_ans1, q_ans2, q_ans3, q_k2_eCB, q_k1_eCB, q_eCB, q_k2_e1, q_k1_e1, q_e1, q_k4_e2, q_k3_e2, q_k2_e2, q_k1_e2, q_e2, q_kch1, q_kch2, q_kch3, q_kch4, q_k4_e3c, q_k3_e3c, q_k2_e3c, q_k1_e3c, q_e3c, q_eIf, q_kIfE1, q_kIfE2, q_eAnd, q_kAnd1, q_kAnd2, q_eOr, q_kOr1, q_kOr2, q_eNot, q_kNot, q_eTup, q_eLst, q_kTup1, q_kLst1, q_kTupN0, q_kLstN0, q_kTupN1, q_kLstN1, q_kTupN2, q_kLstN2, q_kTupN3, q_kLstN3, q_kTupN4, q_kLstN4, q_kTupN5, q_kLstN5, q_kTupN6, q_kLstN6, q_kTupN7, q_kLstN7, q_kTupN8, q_kLstN8, q_kTupN9, q_kLstN9, q_pNo, q_pSo, q_kSo, q_k4_eSl, q_k3_eSl, q_k2_eSl, q_k1_eSl, q_eSl, q_eJoin, q_kJ0, q_kJ1, q_kJ2, q_k1_eCall, q_eCall, q_aNil, q_k2_aCons, q_k1_aCons, q_aCons, q_k2_eFz, q_k1_eFz, q_eFz, q_tB1, q_kB1, q_tTru, q_kTr0, q_kTr1, q_kTrb, q_truthB, q_kTr2, q_tAnd, q_tOr, q_tNot, q_kTA1, q_kTA2, q_kTO1, q_kTO2, q_kTN, q_tTrue, q_bNil, q_bCons, q_kBC1, q_kBC2, q_kBC3, q_kBC4, q_sPass, q_sBreak, q_sCont, q_sRetN, q_sExpr, q_kEx, q_sRet, q_kRt, q_sIf, q_kIf1, q_kIf2, q_kU, q_sSet, q_kSet, q_set1, q_set2, q_set3, q_kSl1, q_kSl2, q_gNm, q_gNms0, q_gNms1, q_kGs, q_gTp, q_gSq1, q_gSq2, q_sAsg, q_kAs0, q_kAs1, q_sAug, q_kAug, q_kAug1, q_kAug2, q_kAug3, q_eIter, q_kIt0, q_kIt1, q_kIt2, q_iRng, q_kRg0, q_kRg1, q_iZip, q_kZp1, q_kZp2, q_iEnum, q_kEn1, q_kEn2, q_sFor, q_kFor, q_sWhile, q_sPar, q_kPr0, q_kPr1, q_kPr2, q_kPr3, q_noPk1, q_noPk2, q_sPar3, q_kPt0, q_kPt1, q_kPt2, q_kPt3, q_kPt4, q_eMt, q_kMt0, q_kMt1, q_kMt1b, q_kMt2, q_kMt3, q_rdA1, q_rdA2, q_sPut, q_kPu0, q_kPu1, q_kPu2, q_kPu2b, q_kPu3, q_kPu4, q_stepL, q_kStw, q_kStx1, q_kStx2, q_kSty, q_kStz, startD_c, startD_n, startD_0, wipeD, backD, List.map_cons, List.map_nil, List.append_nil, List.nil_append, List.cons_append, List.getElem?_cons_zero, List.getElem?_cons_succ, List.set_cons_zero, List.set_cons_succ, List.length_cons, List.length_nil, Nat.reduceAdd, Nat.reduceLT, Nat.reduceLeDiff, Nat.zero_lt_succ, Nat.zero_lt_one, Bool.not_true, Bool.not_false, Bool.and_self, Bool.and_true, Bool.true_and, Bool.or_false, Bool.false_or, Bool.false_and, Bool.and_false, Bool.or_true, Bool.true_or, rets_ok, retsO_ok, retsN_ok, rets0_ok, true_and, and_true, and_self, y_kIfE, y_kTA, y_kTO, y_kAnd, y_kOr, y_kStx, y_if, y_fz, y_and, y_or, y_andD, y_orD, if_true, if_false, Bool.false_eq_true, Bool.true_eq_false, reduceIte, rb, ri, rs, Option.map_some, Option.bind_some, itemsOf, itemsZ, turn_ok, e1])
theorem dIx_at {s : List Nat} (h : IsRow s) {i : Nat} (hi : i < s.length) : dIx (.str s) (.int (i : Nat)) = some (.val (.str [s.getD i 48])) := by
  refine dIx_str h ?_
  rw [List.getElem?_eq_getElem hi, List.getD_eq_getElem?_getD, List.getElem?_eq_getElem hi]
  rfl
theorem IsThings.sm {th : List Nat} {m : Nat} (h : IsThings th m) : th.length ≤ 16777216 := Nat.le_trans h.len (by decide)
theorem sgN_row {s th : List Nat} (h : IsRow s) (ht : IsThings th s.length) : IsRow (sgN s th) := ⟨fun c hc => by
  obtain ⟨i, hi, rfl⟩ := List.mem_map.mp hc
  have hl := ht.lt i hi
  rw [List.getD_eq_getElem?_getD, List.getElem?_eq_getElem hl]
  exact h.sg _ (List.getElem_mem hl), by rw [sgN_len]; exact ht.len⟩
theorem c_signs_at {s th : List Nat} (h : IsRow s) (ht : IsThings th s.length) (σ : SD) : callD 2 2 3 m_signs_at [] [.fz (.str s), .fz (tD th)] σ = .ok (.fz (.str (sgN s th))) σ := call_fz (as := [.str s, tD th]) rfl (by decide) (by
  have e2 := dLen_row h
  have e3 := c_reqth ht
  have e4 : ∀ σ : SD, σ = [some (.fz (.str s)), some (.fz (tD th)), none] → eLc (eIter (eVar 1)) (gNm 2) tTrue (DL.e2 dIx (eVar 0) (eVar 2)) [2] σ = .ok (.ow (.lst (th.map fun t => cD (s.getD t 48)))) σ := by
    rintro σ rfl
    refine eLc_all (fun (i : Nat) => D.int (i : Int)) th _ (eIter_th _ _ rfl) rfl ht.sm (fun i hi => ?_)
    simp only [bind_ok, bind_exc, bind_stuck, q_eVar, q_kVar1, q_kVar2, q_eC, q_peek1, q_peek2, q_peek3, q_kPk1, q_kPk2, q_frz1, q_frz2, q_frz3, q_kFz1, q_kFz2, q_peekL0, q_peekL1, q_kpl1, q_kfl1, q_kpl2, q_frzL0, q_frzL1, q_ans1, q_ans2, q_ans3, q_k2_eCB, q_k1_eCB, q_eCB, q_k2_e1, q_k1_e1, q_e1, q_k4_e2, q_k3_e2, q_k2_e2, q_k1_e2, q_e2, q_kch1, q_kch2, q_kch3, q_kch4, q_k4_e3c, q_k3_e3c, q_k2_e3c, q_k1_e3c, q_e3c, q_eIf, q_kIfE1, q_kIfE2, q_eAnd, q_kAnd1, q_kAnd2, q_eOr, q_kOr1, q_kOr2, q_eNot, q_kNot, q_eTup, q_eLst, q_kTup1, q_kLst1, q_kTupN0, q_kLstN0, q_kTupN1, q_kLstN1, q_kTupN2, q_kLstN2, q_kTupN3, q_kLstN3, q_kTupN4, q_kLstN4, q_kTupN5, q_kLstN5, q_kTupN6, q_kLstN6, q_kTupN7, q_kLstN7, q_kTupN8, q_kLstN8, q_kTupN9, q_kLstN9, q_pNo, q_pSo, q_kSo, q_k4_eSl, q_k3_eSl, q_k2_eSl, q_k1_eSl, q_eSl, q_eJoin, q_kJ0, q_kJ1, q_kJ2, q_k1_eCall, q_eCall, q_aNil, q_k2_aCons, q_k1_aCons, q_aCons, q_k2_eFz, q_k1_eFz, q_eFz, q_tB1, q_kB1, q_tTru, q_kTr0, q_kTr1, q_kTrb, q_truthB, q_kTr2, q_tAnd, q_tOr, q_tNot, q_kTA1, q_kTA2, q_kTO1, q_kTO2, q_kTN, q_tTrue, q_bNil, q_bCons, q_kBC1, q_kBC2, q_kBC3, q_kBC4, q_sPass, q_sBreak, q_sCont, q_sRetN, q_sExpr, q_kEx, q_sRet, q_kRt, q_sIf, q_kIf1, q_kIf2, q_kU, q_sSet, q_kSet, q_set1, q_set2, q_set3, q_kSl1, q_kSl2, q_gNm, q_gNms0, q_gNms1, q_kGs, q_gTp, q_gSq1, q_gSq2, q_sAsg, q_kAs0, q_kAs1, q_sAug, q_kAug, q_kAug1, q_kAug2, q_kAug3, q_eIter, q_kIt0, q_kIt1, q_kIt2, q_iRng, q_kRg0, q_kRg1, q_iZip, q_kZp1, q_kZp2, q_iEnum, q_kEn1, q_kEn2, q_sFor, q_kFor, q_sWhile, q_sPar, q_kPr0, q_kPr1, q_kPr2, q_kPr3, q_noPk1, q_noPk2, q_sPar3, q_kPt0, q_kPt1, q_kPt2, q_kPt3, q_kPt4, q_eMt, q_kMt0, q_kMt1, q_kMt1b, q_kMt2, q_kMt3, q_rdA1, q_rdA2, q_sPut, q_kPu0, q_kPu1, q_kPu2, q_kPu2b, q_kPu3, q_kPu4, q_stepL, q_kStw, q_kStx1, q_kStx2, q_kSty, q_kStz, startD_c, startD_n, startD_0, wipeD, backD, List.map_cons, List.map_nil, List.append_nil, List.nil_append, List.cons_append, List.getElem?_cons_zero, List.getElem?_cons_succ, List.set_cons_zero, List.set_cons_succ, List.length_cons, List.length_nil, Nat.reduceAdd, Nat.reduceLT, Nat.reduceLeDiff, Nat.zero_lt_succ, Nat.zero_lt_one, Bool.not_true, Bool.not_false, Bool.and_self, Bool.and_true, Bool.true_and, Bool.or_false, Bool.false_or, Bool.false_and, Bool.and_false, Bool.or_true, Bool.true_or, rets_ok, retsO_ok, retsN_ok, rets0_ok, true_and, and_true, and_self, y_kIfE, y_kTA, y_kTO, y_kAnd, y_kOr, y_kStx, y_if, y_fz, y_and, y_or, y_andD, y_orD, if_true, if_false, Bool.false_eq_true, Bool.true_eq_false, reduceIte, rb, ri, rs, Option.map_some, Option.bind_some, itemsOf, itemsZ, turn_ok, dIx_at h (ht.lt i hi)]
  generalize (s.length : Int) = n at e2 e3
  simp only [m_signs_at, bind_ok, bind_exc, bind_stuck, q_eVar, q_kVar1, q_kVar2, q_eC, q_peek1, q_peek2, q_peek3, q_kPk1, q_kPk2, q_frz1, q_frz2, q_frz3, q_kFz1, q_kFz2, q_peekL0, q_peekL1, q_kpl1, q_kfl1, q_kpl2, q_frzL0, q_frzL1, q_ans1, q_ans2, q_ans3, q_k2_eCB, q_k1_eCB, q_eCB, q_k2_e1, q_k1_e1, q_e1, q_k4_e2, q_k3_e2, q_k2_e2, q_k1_e2, q_e2, q_kch1, q_kch2, q_kch3, q_kch4, q_k4_e3c, q_k3_e3c, q_k2_e3c, q_k1_e3c, q_e3c, q_eIf, q_kIfE1, q_kIfE2, q_eAnd, q_kAnd1, q_kAnd2, q_eOr, q_kOr1, q_kOr2, q_eNot, q_kNot, q_eTup, q_eLst, q_kTup1, q_kLst1, q_kTupN0, q_kLstN0, q_kTupN1, q_kLstN1, q_kTupN2, q_kLstN2, q_kTupN3, q_kLstN3, q_kTupN4, q_kLstN4, q_kTupN5, q_kLstN5, q_kTupN6, q_kLstN6, q_kTupN7, q_kLstN7, q_kTupN8, q_kLstN8, q_kTupN9, q_kLstN9, q_pNo, q_pSo, q_kSo, q_k4_eSl, q_k3_eSl, q_k2_eSl, q_k1_eSl, q_eSl, q_eJoin, q_kJ0, q_kJ1, q_kJ2, q_k1_eCall, q_eCall, q_aNil, q_k2_aCons, q_k1_aCons, q_aCons, q_k2_eFz, q_k1_eFz, q_eFz, q_tB1, q_kB1, q_tTru, q_kTr0, q_kTr1, q_kTrb, q_truthB, q_kTr2, q_tAnd, q_tOr, q_tNot, q_kTA1, q_kTA2, q_kTO1, q_kTO2, q_kTN, q_tTrue, q_bNil, q_bCons, q_kBC1, q_kBC2, q_kBC3, q_kBC4, q_sPass, q_sBreak, q_sCont, q_sRetN, q_sExpr, q_kEx, q_sRet, q_kRt, q_sIf, q_kIf1, q_kIf2, q_kU, q_sSet, q_kSet, q_set1, q_set2, q_set3, q_kSl1, q_kSl2, q_gNm, q_gNms0, q_gNms1, q_kGs, q_gTp, q_gSq1, q_gSq2, q_sAsg, q_kAs0, q_kAs1, q_sAug, q_kAug, q_kAug1, q_kAug2, q_kAug3, q_eIter, q_kIt0, q_kIt1, q_kIt2, q_iRng, q_kRg0, q_kRg1, q_iZip, q_kZp1, q_kZp2, q_iEnum, q_kEn1, q_kEn2, q_sFor, q_kFor, q_sWhile, q_sPar, q_kPr0, q_kPr1, q_kPr2, q_kPr3, q_noPk1, q_noPk2, q_sPar3, q_kPt0, q_kPt1, q_kPt2, q_kPt3, q_kPt4, q_eMt, q_kMt0, q_kMt1, q_kMt1b, q_kMt2, q_kMt3, q_rdA1, q_rdA2, q_sPut, q_kPu0, q_kPu1, q_kPu2, q_kPu2b, q_kPu3, q_kPu4, q_stepL, q_kStw, q_kStx1, q_kStx2, q_kSty, q_kStz, startD_c, startD_n, startD_0, wipeD, backD, List.map_cons, List.map_nil, List.append_nil, List.nil_append, List.cons_append, List.getElem?_cons_zero, List.getElem?_cons_succ, List.set_cons_zero, List.set_cons_succ, List.length_cons, List.length_nil, Nat.reduceAdd, Nat.reduceLT, Nat.reduceLeDiff, Nat.zero_lt_succ, Nat.zero_lt_one, Bool.not_true, Bool.not_false, Bool.and_self, Bool.and_true, Bool.true_and, Bool.or_false, Bool.false_or, Bool.false_and, Bool.and_false, Bool.or_true, Bool.true_or, rets_ok, retsO_ok, retsN_ok, rets0_ok, true_and, and_true, and_self, y_kIfE, y_kTA, y_kTO, y_kAnd, y_kOr, y_kStx, y_if, y_fz, y_and, y_or, y_andD, y_orD, if_true, if_false, Bool.false_eq_true, Bool.true_eq_false, reduceIte, rb, ri, rs, Option.map_some, Option.bind_some, itemsOf, itemsZ, c_any h, e2, e3, e4 _ rfl, dJoin_signs (fun t => s.getD t 48) _ ht.sm, sgN])
theorem put_turn (a b c : Option Sl) (l : List Nat) (x y : Option Sl) (i v : Nat) (hi : i < l.length) : ((gTp [4, 5] (.tup [.int (i : Nat), .str [v]]) [a, b, c, some (.ow (.lst (l.map cD))), x, y]).bind fun _ σ1 => sPut 3 (eVar 4) (eVar 5) σ1) = .ok .nx [a, b, c, some (.ow (.lst ((l.set i v).map cD))), some (.fz (.int (i : Nat))), some (.fz (.str [v]))] := by
  have e : ixN (l.map cD).length (i : Nat) = some i := by
    unfold ixN
    rw [if_pos (by omega), if_pos (by rw [List.length_map]; omega)]
    simp
  simp only [bind_ok, bind_exc, bind_stuck, q_eVar, q_kVar1, q_kVar2, q_eC, q_peek1, q_peek2, q_peek3, q_kPk1, q_kPk2, q_frz1, q_frz2, q_frz3, q_kFz1, q_kFz2, q_peekL0, q_peekL1, q_kpl1, q_kfl1, q_kpl2, q_frzL0, q_frzL1, q_ans1, q_ans2, q_ans3, q_k2_eCB, q_k1_eCB, q_eCB, q_k2_e1, q_k1_e1, q_e1, q_k4_e2, q_k3_e2, q_k2_e2, q_k1_e2, q_e2, q_kch1, q_kch2, q_kch3, q_kch4, q_k4_e3c, q_k3_e3c, q_k2_e3c, q_k1_e3c, q_e3c, q_eIf, q_kIfE1, q_kIfE2, q_eAnd, q_kAnd1, q_kAnd2, q_eOr, q_kOr1, q_kOr2, q_eNot, q_kNot, q_eTup, q_eLst, q_kTup1, q_kLst1, q_kTupN0, q_kLstN0, q_kTupN1, q_kLstN1, q_kTupN2, q_kLstN2, q_kTupN3, q_kLstN3, q_kTupN4, q_kLstN4, q_kTupN5, q_kLstN5, q_kTupN6, q_kLstN6, q_kTupN7, q_kLstN7, q_kTupN8, q_kLstN8, q_kTupN9, q_kLstN9, q_pNo, q_pSo, q_kSo, q_k4_eSl, q_k3_eSl, q_k2_eSl, q_k1_eSl, q_eSl, q_eJoin, q_kJ0, q_kJ1, q_kJ2, q_k1_eCall, q_eCall, q_aNil, q_k2_aCons, q_k1_aCons, q_aCons, q_k2_eFz, q_k1_eFz, q_eFz, q_tB1, q_kB1, q_tTru, q_kTr0, q_kTr1, q_kTrb, q_truthB, q_kTr2, q_tAnd, q_tOr, q_tNot, q_kTA1, q_kTA2, q_kTO1, q_kTO2, q_kTN, q_tTrue, q_bNil, q_bCons, q_kBC1, q_kBC2, q_kBC3, q_kBC4, q_sPass, q_sBreak, q_sCont, q_sRetN, q_sExpr, q_kEx, q_sRet, q_kRt, q_sIf, q_kIf1, q_kIf2, q_kU, q_sSet, q_kSet, q_set1, q_set2, q_set3, q_kSl1, q_kSl2, q_gNm, q_gNms0, q_gNms1, q_kGs, q_gTp, q_gSq1, q_gSq2, q_sAsg, q_kAs0, q_kAs1, q_sAug, q_kAug, q_kAug1, q_kAug2, q_kAug3, q_eIter, q_kIt0, q_kIt1, q_kIt2, q_iRng, q_kRg0, q_kRg1, q_iZip, q_kZp1, q_kZp2, q_iEnum, q_kEn1, q_kEn2, q_sFor, q_kFor, q_sWhile, q_sPar, q_kPr0, q_kPr1, q_kPr2, q_kPr3, q_noPk1, q_noPk2, q_sPar3, q_kPt0, q_kPt1, q_kPt2, q_kPt3, q_kPt4, q_eMt, q_kMt0, q_kMt1, q_kMt1b, q_kMt2, q_kMt3, q_rdA1, q_rdA2, q_sPut, q_kPu0, q_kPu1, q_kPu2, q_kPu2b, q_kPu3, q_kPu4, q_stepL, q_kStw, q_kStx1, q_kStx2, q_kSty, q_kStz, startD_c, startD_n, startD_0, wipeD, backD, List.map_cons, List.map_nil, List.append_nil, List.nil_append, List.cons_append, List.getElem?_cons_zero, List.getElem?_cons_succ, List.set_cons_zero, List.set_cons_succ, List.length_cons, List.length_nil, Nat.reduceAdd, Nat.reduceLT, Nat.reduceLeDiff, Nat.zero_lt_succ, Nat.zero_lt_one, Bool.not_true, Bool.not_false, Bool.and_self, Bool.and_true, Bool.true_and, Bool.or_false, Bool.false_or, Bool.false_and, Bool.and_false, Bool.or_true, Bool.true_or, rets_ok, retsO_ok, retsN_ok, rets0_ok, true_and, and_true, and_self, y_kIfE, y_kTA, y_kTO, y_kAnd, y_kOr, y_kStx, y_if, y_fz, y_and, y_or, y_andD, y_orD, if_true, if_false, Bool.false_eq_true, Bool.true_eq_false, reduceIte, rb, ri, rs, Option.map_some, Option.bind_some, itemsOf, itemsZ, e, List.map_set]
theorem spread_loop (a b c : Option Sl) : ∀ (ps : List (Nat × Nat)) (l : List Nat) (x y : Option Sl), (∀ p ∈ ps, p.1 < l.length) →
    ∃ x' y', forL (gTp [4, 5]) (sPut 3 (eVar 4) (eVar 5)) (ps.map fun p => .tup [.int (p.1 : Nat), .str [p.2]]) [a, b, c, some (.ow (.lst (l.map cD))), x, y] = .ok .nx [a, b, c, some (.ow (.lst ((putN ps l).map cD))), x', y']
  | [], l, x, y, _ => ⟨x, y, rfl⟩
  | p :: ps, l, x, y, h => by
    obtain ⟨x', y', e⟩ := spread_loop a b c ps (l.set p.1 p.2) (some (.fz (.int (p.1 : Nat)))) (some (.fz (.str [p.2]))) (fun q hq => by
      rw [List.length_set]
      exact h q (List.mem_cons_of_mem _ hq))
    refine ⟨x', y', ?_⟩
    have t := put_turn a b c l x y p.1 p.2 (h p List.mem_cons_self)
    rw [List.map_cons]
    unfold forL
    cases hg : gTp [4, 5] (.tup [.int (p.1 : Nat), .str [p.2]]) [a, b, c, some (.ow (.lst (l.map cD))), x, y] with
    | stuck => rw [hg] at t; cases t
    | exc z σ1 => rw [hg] at t; cases t
    | ok u σ1 =>
      rw [hg, bind_ok] at t
      rw [bind_ok, t, bind_ok]
      exact e
theorem c_is_things {th : List Nat} {m : Nat} (h : IsThings th m) (σ : SD) : callD 2 2 3 m_is_things [] [.fz (tD th), .fz (.int m)] σ = .ok (.fz (.bl true)) σ := call_fz (as := [tD th, .int m]) rfl (by decide) (p_is_things h)
theorem c_is_from {i : Nat} (h9 : i ≤ 9) (σ : SD) : callD 3 3 3 m_is_from [] [.fz (.int i), .fz (.int 0), .fz (.int 9)] σ = .ok (.fz (.bl true)) σ := call_fz (as := [.int i, .int 0, .int 9]) rfl (by decide) (by
  have := p_is_from (i := i) (a := 0) (b := 9) (inG9 i h9)
  rw [decide_eq_true (show (0 : Int) ≤ i by omega), decide_eq_true (show (i : Int) ≤ 9 by omega)] at this
  exact this)
theorem zip_map {α β γ : Type} (f : α → β) (g : α → γ) : ∀ l : List α, (l.map f).zip (l.map g) = l.map fun a => (f a, g a)
  | [] => rfl
  | a :: l => by
    rw [List.map_cons, List.map_cons, List.zip_cons_cons, zip_map f g l]
    rfl
theorem getLast_lt {th : List Nat} {m : Nat} (ht : IsThings th m) (hne : th ≠ []) : ∃ i, i < m ∧ dIx (tD th) (.int (-1)) = some (.val (.int (i : Nat))) := by
  refine ⟨th.getLast hne, ht.lt _ (List.getLast_mem hne), ?_⟩
  have hp : 0 < th.length := List.length_pos_iff.mpr hne
  have e : ixN (th.map fun (i : Nat) => D.int (i : Int)).length (-1) = some (th.length - 1) := by
    unfold ixN
    rw [if_neg (by decide), if_pos (by rw [List.length_map]; omega), List.length_map]
    congr 1
    omega
  unfold tD
  simp only [dIx, atI, e, Option.bind_some, List.getElem?_map]
  rw [List.getElem?_eq_getElem (by omega), List.getLast_eq_getElem]
  rfl
theorem spread_run (part th m n k : D) (l l2 ps : List D) (due : List Nat) (e1 : ∀ σ, callD 1 1 1 m_require_any_row [] [.fz part] σ = .ok (.fz .non) σ) (e5 : ∀ σ, callD 2 2 3 m_is_things [] [.fz th, .fz n] σ = .ok (.fz (.bl true)) σ) (e2 : dLen [th] = some (.val k)) (e3 : dLen [part] = some (.val k)) (e4 : dNe k k = some (.val (.bl false))) (dm : d_MAX_THINGS = n)
 (e6' : ∀ σ, callD 3 3 3 m_is_from [] [.fz m, .fz (.int 0), .fz n] σ = .ok (.fz (.bl true)) σ) (test : ∀ (a c d e : Option Sl), tAnd' (tB1 (DL.e2 dNe (eVar 1) (eTup aNil))) (tB1 (DL.e2 dGe (DL.e2 dIx (eVar 1) (DL.e1 dNeg (eC (.int 1)))) (eVar 2))) [a, some (.fz th), some (.fz m), c, d, e] = .ok false [a, some (.fz th), some (.fz m), c, d, e]) 
 (comp : ∀ (a b d e : Option Sl), eLc (iRng rng1 (aCons (eVar 2) aNil)) (gNm 4) tTrue (eC d_ZERO) [4] [a, b, some (.fz m), d, none, e] = .ok (.ow (.lst l)) [a, b, some (.fz m), d, none, e])
(zip : ∀ (c d e f : Option Sl), DL.iZip (aCons (eVar 1) (aCons (eVar 0) aNil)) [some (.fz part), some (.fz th), c, d, e, f] = .ok ps [some (.fz part), some (.fz th), c, d, e, f]) (x' y' : Option Sl) (lp : forL (gTp [4, 5]) (sPut 3 (eVar 4) (eVar 5)) ps [some (.fz part), some (.fz th), some (.fz m), some (.ow (.lst l)), none, none] = .ok .nx [some (.fz part), some (.fz th), some (.fz m), some (.ow (.lst l2)), x', y']) 
(dj : dJoin [] (.lst l2) = some (.val (.str due))) :
 Rets (m_spread (startD 6 [.fz part, .fz th, .fz m])) (.str due) := by
  simp only [m_spread, bind_ok, bind_exc, bind_stuck, q_eVar, q_kVar1, q_kVar2, q_eC, q_peek1, q_peek2, q_peek3, q_kPk1, q_kPk2, q_frz1, q_frz2, q_frz3, q_kFz1, q_kFz2, q_peekL0, q_peekL1, q_kpl1, q_kfl1, q_kpl2, q_frzL0, q_frzL1, q_ans1, q_ans2, q_ans3, q_k2_eCB, q_k1_eCB, q_eCB, q_k2_e1, q_k1_e1, q_e1, q_k4_e2, q_k3_e2, q_k2_e2, q_k1_e2, q_e2, q_kch1, q_kch2, q_kch3, q_kch4, q_k4_e3c, q_k3_e3c, q_k2_e3c, q_k1_e3c, q_e3c, q_eIf, q_kIfE1, q_kIfE2, q_eAnd, q_kAnd1, q_kAnd2, q_eOr, q_kOr1, q_kOr2, q_eNot, q_kNot, q_eTup, q_eLst, q_kTup1, q_kLst1, q_kTupN0, q_kLstN0, q_kTupN1, q_kLstN1, q_kTupN2, q_kLstN2, q_kTupN3, q_kLstN3, q_kTupN4, q_kLstN4, q_kTupN5, q_kLstN5, q_kTupN6, q_kLstN6, q_kTupN7, q_kLstN7, q_kTupN8, q_kLstN8, q_kTupN9, q_kLstN9, q_pNo, q_pSo, q_kSo, q_k4_eSl, q_k3_eSl, q_k2_eSl, q_k1_eSl, q_eSl, q_eJoin, q_kJ0, q_kJ1, q_kJ2, q_k1_eCall, q_eCall, q_aNil, q_k2_aCons, q_k1_aCons, q_aCons, q_k2_eFz, q_k1_eFz, q_eFz, q_tB1, q_kB1, q_tTru, q_kTr0, q_kTr1, q_kTrb, q_truthB, q_kTr2, q_tAnd, q_tOr, q_tNot, q_kTA1, q_kTA2, q_kTO1, q_kTO2, q_kTN, q_tTrue, q_bNil, q_bCons, q_kBC1, q_kBC2, q_kBC3, q_kBC4, q_sPass, q_sBreak, q_sCont, q_sRetN, q_sExpr, q_kEx, q_sRet, q_kRt, q_sIf, q_kIf1, q_kIf2, q_kU, q_sSet, q_kSet, q_set1, q_set2, q_set3, q_kSl1, q_kSl2, q_gNm, q_gNms0, q_gNms1, q_kGs, q_gTp, q_gSq1, q_gSq2, q_sAsg, q_kAs0, q_kAs1, q_sAug, q_kAug, q_kAug1, q_kAug2, q_kAug3, q_eIter, q_kIt0, q_kIt1, q_kIt2, q_iRng, q_kRg0, q_kRg1, q_iZip, q_kZp1, q_kZp2, q_iEnum, q_kEn1, q_kEn2, q_sFor, q_kFor, q_sWhile, q_sPar, q_kPr0, q_kPr1, q_kPr2, q_kPr3, q_noPk1, q_noPk2, q_sPar3, q_kPt0, q_kPt1, q_kPt2, q_kPt3, q_kPt4, q_eMt, q_kMt0, q_kMt1, q_kMt1b, q_kMt2, q_kMt3, q_rdA1, q_rdA2, q_sPut, q_kPu0, q_kPu1, q_kPu2, q_kPu2b, q_kPu3, q_kPu4, q_stepL, q_kStw, q_kStx1, q_kStx2, q_kSty, q_kStz, startD_c, startD_n, startD_0, wipeD, backD, List.map_cons, List.map_nil, List.append_nil, List.nil_append, List.cons_append, List.getElem?_cons_zero, List.getElem?_cons_succ, List.set_cons_zero, List.set_cons_succ, List.length_cons, List.length_nil, Nat.reduceAdd, Nat.reduceLT, Nat.reduceLeDiff, Nat.zero_lt_succ, Nat.zero_lt_one, Bool.not_true, Bool.not_false, Bool.and_self, Bool.and_true, Bool.true_and, Bool.or_false, Bool.false_or, Bool.false_and, Bool.and_false, Bool.or_true, Bool.true_or, rets_ok, retsO_ok, retsN_ok, rets0_ok, true_and, and_true, and_self, e1, e2, e3, e4, e5, dm, e6', ↓test, comp, ↓zip, lp, dj]
theorem c_spread {s th : List Nat} (h : IsRow s) (ht : IsThings th s.length) {m : Nat} (hm : s.length ≤ m) (h9 : m ≤ 9) (σ : SD) : callD 3 3 6 m_spread [] [.fz (.str (sgN s th)), .fz (tD th), .fz (.int m)] σ = .ok (.fz (.str (dueN s th m))) σ := call_fz (as := [.str (sgN s th), tD th, .int m]) rfl (by decide) (by
  have hr := sgN_row h ht
  have e1 := c_any hr
  have e2 : dLen [tD th] = some (.val (.int (th.length : Nat))) := by
    unfold tD
    simp only [dLen, ri, List.length_map]
  have e3 := dLen_row hr
  rw [sgN_len] at e3
  have e4 : dNe (.int (th.length : Nat)) (.int (th.length : Nat)) = some (.val (.bl false)) := dNe_same rfl
  have e5 := c_is_things (ht.ge (Nat.le_trans hm h9) (Nat.le_refl 9))
  have e6 := c_is_from h9
  have test : ∀ (a c d e : Option Sl), tAnd' (tB1 (DL.e2 dNe (eVar 1) (eTup aNil))) (tB1 (DL.e2 dGe (DL.e2 dIx (eVar 1) (DL.e1 dNeg (eC (.int 1)))) (eVar 2))) [a, some (.fz (tD th)), some (.fz (.int (m : Nat))), c, d, e] = .ok false [a, some (.fz (tD th)), some (.fz (.int (m : Nat))), c, d, e] := by
    intro a c d e
    by_cases hne : th = []
    · subst hne
      rfl
    · have q1 : dNe (tD th) (.tup []) = some (.val (.bl true)) := by
        rw [dNe_of (good_th th) rfl]
        cases th with
        | nil => exact absurd rfl hne
        | cons t th => rfl
      obtain ⟨i, hi, q2⟩ := getLast_lt ht hne
      have q3 : dGe (.int (i : Nat)) (.int (m : Nat)) = some (.val (.bl false)) := by
        show some (Rn.val (.bl (decide ((m : Int) ≤ (i : Int))))) = _
        rw [decide_eq_false (by omega)]
      have q4 : dNeg (.int 1) = some (.val (.int (-1))) := rfl
      simp only [bind_ok, bind_exc, bind_stuck, q_eVar, q_kVar1, q_kVar2, q_eC, q_peek1, q_peek2, q_peek3, q_kPk1, q_kPk2, q_frz1, q_frz2, q_frz3, q_kFz1, q_kFz2, q_peekL0, q_peekL1, q_kpl1, q_kfl1, q_kpl2, q_frzL0, q_frzL1, q_ans1, q_ans2, q_ans3, q_k2_eCB, q_k1_eCB, q_eCB, q_k2_e1, q_k1_e1, q_e1, q_k4_e2, q_k3_e2, q_k2_e2, q_k1_e2, q_e2, q_kch1, q_kch2, q_kch3, q_kch4, q_k4_e3c, q_k3_e3c, q_k2_e3c, q_k1_e3c, q_e3c, q_eIf, q_kIfE1, q_kIfE2, q_eAnd, q_kAnd1, q_kAnd2, q_eOr, q_kOr1, q_kOr2, q_eNot, q_kNot, q_eTup, q_eLst, q_kTup1, q_kLst1, q_kTupN0, q_kLstN0, q_kTupN1, q_kLstN1, q_kTupN2, q_kLstN2, q_kTupN3, q_kLstN3, q_kTupN4, q_kLstN4, q_kTupN5, q_kLstN5, q_kTupN6, q_kLstN6, q_kTupN7, q_kLstN7, q_kTupN8, q_kLstN8, q_kTupN9, q_kLstN9, q_pNo, q_pSo, q_kSo, q_k4_eSl, q_k3_eSl, q_k2_eSl, q_k1_eSl, q_eSl, q_eJoin, q_kJ0, q_kJ1, q_kJ2, q_k1_eCall, q_eCall, q_aNil, q_k2_aCons, q_k1_aCons, q_aCons, q_k2_eFz, q_k1_eFz, q_eFz, q_tB1, q_kB1, q_tTru, q_kTr0, q_kTr1, q_kTrb, q_truthB, q_kTr2, q_tAnd, q_tOr, q_tNot, q_kTA1, q_kTA2, q_kTO1, q_kTO2, q_kTN, q_tTrue, q_bNil, q_bCons, q_kBC1, q_kBC2, q_kBC3, q_kBC4, q_sPass, q_sBreak, q_sCont, q_sRetN, q_sExpr, q_kEx, q_sRet, q_kRt, q_sIf, q_kIf1, q_kIf2, q_kU, q_sSet, q_kSet, q_set1, q_set2, q_set3, q_kSl1, q_kSl2, q_gNm, q_gNms0, q_gNms1, q_kGs, q_gTp, q_gSq1, q_gSq2, q_sAsg, q_kAs0, q_kAs1, q_sAug, q_kAug, q_kAug1, q_kAug2, q_kAug3, q_eIter, q_kIt0, q_kIt1, q_kIt2, q_iRng, q_kRg0, q_kRg1, q_iZip, q_kZp1, q_kZp2, q_iEnum, q_kEn1, q_kEn2, q_sFor, q_kFor, q_sWhile, q_sPar, q_kPr0, q_kPr1, q_kPr2, q_kPr3, q_noPk1, q_noPk2, q_sPar3, q_kPt0, q_kPt1, q_kPt2, q_kPt3, q_kPt4, q_eMt, q_kMt0, q_kMt1, q_kMt1b, q_kMt2, q_kMt3, q_rdA1, q_rdA2, q_sPut, q_kPu0, q_kPu1, q_kPu2, q_kPu2b, q_kPu3, q_kPu4, q_stepL, q_kStw, q_kStx1, q_kStx2, q_kSty, q_kStz, startD_c, startD_n, startD_0, wipeD, backD, List.map_cons, List.map_nil, List.append_nil, List.nil_append, List.cons_append, List.getElem?_cons_zero, List.getElem?_cons_succ, List.set_cons_zero, List.set_cons_succ, List.length_cons, List.length_nil, Nat.reduceAdd, Nat.reduceLT, Nat.reduceLeDiff, Nat.zero_lt_succ, Nat.zero_lt_one, Bool.not_true, Bool.not_false, Bool.and_self, Bool.and_true, Bool.true_and, Bool.or_false, Bool.false_or, Bool.false_and, Bool.and_false, Bool.or_true, Bool.true_or, rets_ok, retsO_ok, retsN_ok, rets0_ok, true_and, and_true, and_self, y_kIfE, y_kTA, y_kTO, y_kAnd, y_kOr, y_kStx, y_if, y_fz, y_and, y_or, y_andD, y_orD, if_true, if_false, Bool.false_eq_true, Bool.true_eq_false, reduceIte, rb, ri, rs, Option.map_some, Option.bind_some, itemsOf, itemsZ, q1, q2, q3, q4]
  have comp : ∀ (a b d e : Option Sl), eLc (iRng rng1 (aCons (eVar 2) aNil)) (gNm 4) tTrue (eC d_ZERO) [4] [a, b, some (.fz (.int (m : Nat))), d, none, e] = .ok (.ow (.lst ((List.replicate m 48).map cD))) [a, b, some (.fz (.int (m : Nat))), d, none, e] := by
    intro a b d e
    rw [eLc_all (fun (i : Nat) => D.int (i : Int)) (List.range m) (fun _ => cD 48) (iRng_n _ 2 rfl h9) rfl (by rw [List.length_range]; exact Nat.le_trans h9 (by decide)) (fun i hi => ?_)]
    · rw [List.map_const', List.length_range, List.map_replicate]
    · simp only [bind_ok, bind_exc, bind_stuck, q_eVar, q_kVar1, q_kVar2, q_eC, q_peek1, q_peek2, q_peek3, q_kPk1, q_kPk2, q_frz1, q_frz2, q_frz3, q_kFz1, q_kFz2, q_peekL0, q_peekL1, q_kpl1, q_kfl1, q_kpl2, q_frzL0, q_frzL1, q_ans1, q_ans2, q_ans3, q_k2_eCB, q_k1_eCB, q_eCB, q_k2_e1, q_k1_e1, q_e1, q_k4_e2, q_k3_e2, q_k2_e2, q_k1_e2, q_e2, q_kch1, q_kch2, q_kch3, q_kch4, q_k4_e3c, q_k3_e3c, q_k2_e3c, q_k1_e3c, q_e3c, q_eIf, q_kIfE1, q_kIfE2, q_eAnd, q_kAnd1, q_kAnd2, q_eOr, q_kOr1, q_kOr2, q_eNot, q_kNot, q_eTup, q_eLst, q_kTup1, q_kLst1, q_kTupN0, q_kLstN0, q_kTupN1, q_kLstN1, q_kTupN2, q_kLstN2, q_kTupN3, q_kLstN3, q_kTupN4, q_kLstN4, q_kTupN5, q_kLstN5, q_kTupN6, q_kLstN6, q_kTupN7, q_kLstN7, q_kTupN8, q_kLstN8, q_kTupN9, q_kLstN9, q_pNo, q_pSo, q_kSo, q_k4_eSl, q_k3_eSl, q_k2_eSl, q_k1_eSl, q_eSl, q_eJoin, q_kJ0, q_kJ1, q_kJ2, q_k1_eCall, q_eCall, q_aNil, q_k2_aCons, q_k1_aCons, q_aCons, q_k2_eFz, q_k1_eFz, q_eFz, q_tB1, q_kB1, q_tTru, q_kTr0, q_kTr1, q_kTrb, q_truthB, q_kTr2, q_tAnd, q_tOr, q_tNot, q_kTA1, q_kTA2, q_kTO1, q_kTO2, q_kTN, q_tTrue, q_bNil, q_bCons, q_kBC1, q_kBC2, q_kBC3, q_kBC4, q_sPass, q_sBreak, q_sCont, q_sRetN, q_sExpr, q_kEx, q_sRet, q_kRt, q_sIf, q_kIf1, q_kIf2, q_kU, q_sSet, q_kSet, q_set1, q_set2, q_set3, q_kSl1, q_kSl2, q_gNm, q_gNms0, q_gNms1, q_kGs, q_gTp, q_gSq1, q_gSq2, q_sAsg, q_kAs0, q_kAs1, q_sAug, q_kAug, q_kAug1, q_kAug2, q_kAug3, q_eIter, q_kIt0, q_kIt1, q_kIt2, q_iRng, q_kRg0, q_kRg1, q_iZip, q_kZp1, q_kZp2, q_iEnum, q_kEn1, q_kEn2, q_sFor, q_kFor, q_sWhile, q_sPar, q_kPr0, q_kPr1, q_kPr2, q_kPr3, q_noPk1, q_noPk2, q_sPar3, q_kPt0, q_kPt1, q_kPt2, q_kPt3, q_kPt4, q_eMt, q_kMt0, q_kMt1, q_kMt1b, q_kMt2, q_kMt3, q_rdA1, q_rdA2, q_sPut, q_kPu0, q_kPu1, q_kPu2, q_kPu2b, q_kPu3, q_kPu4, q_stepL, q_kStw, q_kStx1, q_kStx2, q_kSty, q_kStz, startD_c, startD_n, startD_0, wipeD, backD, List.map_cons, List.map_nil, List.append_nil, List.nil_append, List.cons_append, List.getElem?_cons_zero, List.getElem?_cons_succ, List.set_cons_zero, List.set_cons_succ, List.length_cons, List.length_nil, Nat.reduceAdd, Nat.reduceLT, Nat.reduceLeDiff, Nat.zero_lt_succ, Nat.zero_lt_one, Bool.not_true, Bool.not_false, Bool.and_self, Bool.and_true, Bool.true_and, Bool.or_false, Bool.false_or, Bool.false_and, Bool.and_false, Bool.or_true, Bool.true_or, rets_ok, retsO_ok, retsN_ok, rets0_ok, true_and, and_true, and_self, y_kIfE, y_kTA, y_kTO, y_kAnd, y_kOr, y_kStx, y_if, y_fz, y_and, y_or, y_andD, y_orD, if_true, if_false, Bool.false_eq_true, Bool.true_eq_false, reduceIte, rb, ri, rs, Option.map_some, Option.bind_some, itemsOf, itemsZ, turn_ok, d_ZERO]
  have zip : ∀ (c d e f : Option Sl), DL.iZip (aCons (eVar 1) (aCons (eVar 0) aNil)) [some (.fz (.str (sgN s th))), some (.fz (tD th)), c, d, e, f] = .ok ((th.map fun t => (t, s.getD t 48)).map fun p => .tup [.int (p.1 : Nat), .str [p.2]]) [some (.fz (.str (sgN s th))), some (.fz (tD th)), c, d, e, f] := by
    intro c d e f
    have z := zipD_zip (fun (i : Nat) => D.int (i : Int)) cD th (sgN s th)
    unfold sgN at z
    rw [show th.zip (th.map fun t => s.getD t 48) = th.map fun t => (t, s.getD t 48) by
      have := zip_map id (fun t => s.getD t 48) th
      simpa using this] at z
    simp only [bind_ok, bind_exc, bind_stuck, q_eVar, q_kVar1, q_kVar2, q_eC, q_peek1, q_peek2, q_peek3, q_kPk1, q_kPk2, q_frz1, q_frz2, q_frz3, q_kFz1, q_kFz2, q_peekL0, q_peekL1, q_kpl1, q_kfl1, q_kpl2, q_frzL0, q_frzL1, q_ans1, q_ans2, q_ans3, q_k2_eCB, q_k1_eCB, q_eCB, q_k2_e1, q_k1_e1, q_e1, q_k4_e2, q_k3_e2, q_k2_e2, q_k1_e2, q_e2, q_kch1, q_kch2, q_kch3, q_kch4, q_k4_e3c, q_k3_e3c, q_k2_e3c, q_k1_e3c, q_e3c, q_eIf, q_kIfE1, q_kIfE2, q_eAnd, q_kAnd1, q_kAnd2, q_eOr, q_kOr1, q_kOr2, q_eNot, q_kNot, q_eTup, q_eLst, q_kTup1, q_kLst1, q_kTupN0, q_kLstN0, q_kTupN1, q_kLstN1, q_kTupN2, q_kLstN2, q_kTupN3, q_kLstN3, q_kTupN4, q_kLstN4, q_kTupN5, q_kLstN5, q_kTupN6, q_kLstN6, q_kTupN7, q_kLstN7, q_kTupN8, q_kLstN8, q_kTupN9, q_kLstN9, q_pNo, q_pSo, q_kSo, q_k4_eSl, q_k3_eSl, q_k2_eSl, q_k1_eSl, q_eSl, q_eJoin, q_kJ0, q_kJ1, q_kJ2, q_k1_eCall, q_eCall, q_aNil, q_k2_aCons, q_k1_aCons, q_aCons, q_k2_eFz, q_k1_eFz, q_eFz, q_tB1, q_kB1, q_tTru, q_kTr0, q_kTr1, q_kTrb, q_truthB, q_kTr2, q_tAnd, q_tOr, q_tNot, q_kTA1, q_kTA2, q_kTO1, q_kTO2, q_kTN, q_tTrue, q_bNil, q_bCons, q_kBC1, q_kBC2, q_kBC3, q_kBC4, q_sPass, q_sBreak, q_sCont, q_sRetN, q_sExpr, q_kEx, q_sRet, q_kRt, q_sIf, q_kIf1, q_kIf2, q_kU, q_sSet, q_kSet, q_set1, q_set2, q_set3, q_kSl1, q_kSl2, q_gNm, q_gNms0, q_gNms1, q_kGs, q_gTp, q_gSq1, q_gSq2, q_sAsg, q_kAs0, q_kAs1, q_sAug, q_kAug, q_kAug1, q_kAug2, q_kAug3, q_eIter, q_kIt0, q_kIt1, q_kIt2, q_iRng, q_kRg0, q_kRg1, q_iZip, q_kZp1, q_kZp2, q_iEnum, q_kEn1, q_kEn2, q_sFor, q_kFor, q_sWhile, q_sPar, q_kPr0, q_kPr1, q_kPr2, q_kPr3, q_noPk1, q_noPk2, q_sPar3, q_kPt0, q_kPt1, q_kPt2, q_kPt3, q_kPt4, q_eMt, q_kMt0, q_kMt1, q_kMt1b, q_kMt2, q_kMt3, q_rdA1, q_rdA2, q_sPut, q_kPu0, q_kPu1, q_kPu2, q_kPu2b, q_kPu3, q_kPu4, q_stepL, q_kStw, q_kStx1, q_kStx2, q_kSty, q_kStz, startD_c, startD_n, startD_0, wipeD, backD, List.map_cons, List.map_nil, List.append_nil, List.nil_append, List.cons_append, List.getElem?_cons_zero, List.getElem?_cons_succ, List.set_cons_zero, List.set_cons_succ, List.length_cons, List.length_nil, Nat.reduceAdd, Nat.reduceLT, Nat.reduceLeDiff, Nat.zero_lt_succ, Nat.zero_lt_one, Bool.not_true, Bool.not_false, Bool.and_self, Bool.and_true, Bool.true_and, Bool.or_false, Bool.false_or, Bool.false_and, Bool.and_false, Bool.or_true, Bool.true_or, rets_ok, retsO_ok, retsN_ok, rets0_ok, true_and, and_true, and_self, y_kIfE, y_kTA, y_kTO, y_kAnd, y_kOr, y_kStx, y_if, y_fz, y_and, y_or, y_andD, y_orD, if_true, if_false, Bool.false_eq_true, Bool.true_eq_false, reduceIte, rb, ri, rs, Option.map_some, Option.bind_some, itemsOf, itemsZ, tD, sgN, z]
  obtain ⟨x', y', lp⟩ := spread_loop (some (.fz (.str (sgN s th)))) (some (.fz (tD th))) (some (.fz (.int (m : Nat)))) (th.map fun t => (t, s.getD t 48)) (List.replicate m 48) none none (fun p hp => by
    obtain ⟨t, ht', rfl⟩ := List.mem_map.mp hp
    rw [List.length_replicate]
    exact Nat.lt_of_lt_of_le (ht.lt t ht') hm)
  rw [spread_due s th m hm ht.lt] at lp
  have dm : d_MAX_THINGS = .int (9 : Nat) := rfl
  have sml : (dueN s th m).length ≤ 16777216 := by
    unfold dueN
    simp
    omega
  have dj : dJoin [] (.lst ((dueN s th m).map cD)) = some (.val (.str (dueN s th m))) := by
    have := dJoin_signs id (dueN s th m) sml
    rw [List.map_id] at this
    exact this
  generalize hdue : dueN s th m = due at lp dj
  have e6' : ∀ σ, callD 3 3 3 m_is_from [] [.fz (.int m), .fz (.int 0), .fz (.int ((9 : Nat) : Int))] σ = .ok (.fz (.bl true)) σ := e6
  exact spread_run _ _ _ _ _ _ _ _ _ e1 e5 e2 e3 e4 dm e6' test comp zip x' y' lp dj)
end W_k00

namespace W_k00
open PySem L2 DL PN
theorem c_roll {d : D} (h : Dc d) (t : Nat) (ht : 0 < t) (h4 : t < 2 ^ 62) : ∃ (r : Nat) (d' : D), r < t ∧ Dc d' ∧ ∀ rest : SD, callD 2 2 5 m__law_roll [] [.pk 0, .fz (.int (t : Nat))] (some (.ow d) :: rest) = .ok (.fz (.int (r : Nat))) (some (.ow d') :: rest) := roll_run h t ht h4
theorem c_pick {d : D} (h : Dc d) : ∃ (c : Nat) (d' : D), isSg c ∧ Dc d' ∧ ∀ rest : SD, callD 2 2 2 m__law_pick [] [.pk 0, .fz (.str [43, 45, 48])] (some (.ow d) :: rest) = .ok (.fz (.str [c])) (some (.ow d') :: rest) := by
  obtain ⟨r, d', hr, hd', e⟩ := c_roll h 3 (by decide) (by decide)
  have e3 : dLen [.str [43, 45, 48]] = some (.val (.int ((3 : Nat) : Int))) := rfl
  obtain ⟨c, hc, hq⟩ : ∃ c, isSg c ∧ dIx (.str [43, 45, 48]) (.int (r : Nat)) = some (.val (.str [c])) := match r, hr with
    | 0, _ => ⟨43, .inl rfl, rfl⟩
    | 1, _ => ⟨45, .inr (.inl rfl), rfl⟩
    | 2, _ => ⟨48, .inr (.inr rfl), rfl⟩
  refine ⟨c, d', hc, hd', fun rest => call_l (as := [.str [43, 45, 48]]) (by decide) rfl rfl (by decide) ?_⟩
  simp only [m__law_pick, bind_ok, bind_exc, bind_stuck, q_eVar, q_kVar1, q_kVar2, q_eC, q_peek1, q_peek2, q_peek3, q_kPk1, q_kPk2, q_frz1, q_frz2, q_frz3, q_kFz1, q_kFz2, q_peekL0, q_peekL1, q_kpl1, q_kfl1, q_kpl2, q_frzL0, q_frzL1, q_ans1, q_ans2, q_ans3, q_k2_eCB, q_k1_eCB, q_eCB, q_k2_e1, q_k1_e1, q_e1, q_k4_e2, q_k3_e2, q_k2_e2, q_k1_e2, q_e2, q_kch1, q_kch2, q_kch3, q_kch4, q_k4_e3c, q_k3_e3c, q_k2_e3c, q_k1_e3c, q_e3c, q_eIf, q_kIfE1, q_kIfE2, q_eAnd, q_kAnd1, q_kAnd2, q_eOr, q_kOr1, q_kOr2, q_eNot, q_kNot, q_eTup, q_eLst, q_kTup1, q_kLst1, q_kTupN0, q_kLstN0, q_kTupN1, q_kLstN1, q_kTupN2, q_kLstN2, q_kTupN3, q_kLstN3, q_kTupN4, q_kLstN4, q_kTupN5, q_kLstN5, q_kTupN6, q_kLstN6, q_kTupN7, q_kLstN7, q_kTupN8, q_kLstN8, q_kTupN9, q_kLstN9, q_pNo, q_pSo, q_kSo, q_k4_eSl, q_k3_eSl, q_k2_eSl, q_k1_eSl, q_eSl, q_eJoin, q_kJ0, q_kJ1, q_kJ2, q_k1_eCall, q_eCall, q_aNil, q_k2_aCons, q_k1_aCons, q_aCons, q_k2_eFz, q_k1_eFz, q_eFz, q_tB1, q_kB1, q_tTru, q_kTr0, q_kTr1, q_kTrb, q_truthB, q_kTr2, q_tAnd, q_tOr, q_tNot, q_kTA1, q_kTA2, q_kTO1, q_kTO2, q_kTN, q_tTrue, q_bNil, q_bCons, q_kBC1, q_kBC2, q_kBC3, q_kBC4, q_sPass, q_sBreak, q_sCont, q_sRetN, q_sExpr, q_kEx, q_sRet, q_kRt, q_sIf, q_kIf1, q_kIf2, q_kU, q_sSet, q_kSet, q_set1, q_set2, q_set3, q_kSl1, q_kSl2, q_gNm, q_gNms0, q_gNms1, q_kGs, q_gTp, q_gSq1, q_gSq2, q_sAsg, q_kAs0, q_kAs1, q_sAug, q_kAug, q_kAug1, q_kAug2, q_kAug3, q_eIter, q_kIt0, q_kIt1, q_kIt2, q_iRng, q_kRg0, q_kRg1, q_iZip, q_kZp1, q_kZp2, q_iEnum, q_kEn1, q_kEn2, q_sFor, q_kFor, q_sWhile, q_sPar, q_kPr0, q_kPr1, q_kPr2, q_kPr3, q_noPk1, q_noPk2, q_sPar3, q_kPt0, q_kPt1, q_kPt2, q_kPt3, q_kPt4, q_eMt, q_kMt0, q_kMt1, q_kMt1b, q_kMt2, q_kMt3, q_rdA1, q_rdA2, q_sPut, q_kPu0, q_kPu1, q_kPu2, q_kPu2b, q_kPu3, q_kPu4, q_stepL, q_kStw, q_kStx1, q_kStx2, q_kSty, q_kStz, startD_c, startD_n, startD_0, wipeD, backD, List.map_cons, List.map_nil, List.append_nil, List.nil_append, List.cons_append, List.getElem?_cons_zero, List.getElem?_cons_succ, List.set_cons_zero, List.set_cons_succ, List.length_cons, List.length_nil, Nat.reduceAdd, Nat.reduceLT, Nat.reduceLeDiff, Nat.zero_lt_succ, Nat.zero_lt_one, Bool.not_true, Bool.not_false, Bool.and_self, Bool.and_true, Bool.true_and, Bool.or_false, Bool.false_or, Bool.false_and, Bool.and_false, Bool.or_true, Bool.true_or, rets_ok, retsO_ok, retsN_ok, rets0_ok, true_and, and_true, and_self, y_kIfE, y_kTA, y_kTO, y_kAnd, y_kOr, y_kStx, y_if, y_fz, y_and, y_or, y_andD, y_orD, if_true, if_false, Bool.false_eq_true, Bool.true_eq_false, reduceIte, rb, ri, rs, Option.map_some, Option.bind_some, itemsOf, itemsZ, e3, e, hq, rets0_ok]
theorem qs_enc {α : Type} (enc : α → D) (P : α → Prop) : ∀ qs : List (D × Option D), (∀ q ∈ qs, ∃ c, P c ∧ q.2 = some (enc c)) → ∃ cs : List α, qs.filterMap (·.2) = cs.map enc ∧ (∀ c ∈ cs, P c) ∧ cs.length = qs.length
  | [], _ => ⟨[], rfl, fun _ h => by simp at h, rfl⟩
  | q :: qs, h => by
    obtain ⟨c, h1, h2⟩ := h q List.mem_cons_self
    obtain ⟨cs, k1, k2, k3⟩ := qs_enc enc P qs fun x hx => h x (List.mem_cons_of_mem _ hx)
    refine ⟨c :: cs, ?_, ?_, ?_⟩
    · rw [List.filterMap_cons, h2, List.map_cons, k1]
    · intro x hx
      rcases List.mem_cons.mp hx with rfl | hx
      · exact h1
      · exact k2 x hx
    · rw [List.length_cons, List.length_cons, k3]
theorem drawn_row_run (d d' n r : D) (l : List D) (v : Option Sl) (k3 : eLc (iRng rng1 (aCons (eVar 1) aNil)) (gNm 2) tTrue (eCall 2 2 2 m__law_pick [] (aCons (eVar 0) (aCons (eC (D.str [43, 45, 48])) aNil))) [2] [some (.ow d), some (.fz n), none] = .ok (.ow (.lst l)) (backD [some (.ow d), some (.fz n), none] [some (.ow d'), some (.fz n), v] [2])) (dj : dJoin [] (.lst l) = some (.val r)) : Rets0 (m__law_drawn_row (startD 3 [.ow d, .fz n])) r d' := by
  simp only [m__law_drawn_row, bind_ok, bind_exc, bind_stuck, q_eVar, q_kVar1, q_kVar2, q_eC, q_peek1, q_peek2, q_peek3, q_kPk1, q_kPk2, q_frz1, q_frz2, q_frz3, q_kFz1, q_kFz2, q_peekL0, q_peekL1, q_kpl1, q_kfl1, q_kpl2, q_frzL0, q_frzL1, q_ans1, q_ans2, q_ans3, q_k2_eCB, q_k1_eCB, q_eCB, q_k2_e1, q_k1_e1, q_e1, q_k4_e2, q_k3_e2, q_k2_e2, q_k1_e2, q_e2, q_kch1, q_kch2, q_kch3, q_kch4, q_k4_e3c, q_k3_e3c, q_k2_e3c, q_k1_e3c, q_e3c, q_eIf, q_kIfE1, q_kIfE2, q_eAnd, q_kAnd1, q_kAnd2, q_eOr, q_kOr1, q_kOr2, q_eNot, q_kNot, q_eTup, q_eLst, q_kTup1, q_kLst1, q_kTupN0, q_kLstN0, q_kTupN1, q_kLstN1, q_kTupN2, q_kLstN2, q_kTupN3, q_kLstN3, q_kTupN4, q_kLstN4, q_kTupN5, q_kLstN5, q_kTupN6, q_kLstN6, q_kTupN7, q_kLstN7, q_kTupN8, q_kLstN8, q_kTupN9, q_kLstN9, q_pNo, q_pSo, q_kSo, q_k4_eSl, q_k3_eSl, q_k2_eSl, q_k1_eSl, q_eSl, q_eJoin, q_kJ0, q_kJ1, q_kJ2, q_k1_eCall, q_eCall, q_aNil, q_k2_aCons, q_k1_aCons, q_aCons, q_k2_eFz, q_k1_eFz, q_eFz, q_tB1, q_kB1, q_tTru, q_kTr0, q_kTr1, q_kTrb, q_truthB, q_kTr2, q_tAnd, q_tOr, q_tNot, q_kTA1, q_kTA2, q_kTO1, q_kTO2, q_kTN, q_tTrue, q_bNil, q_bCons, q_kBC1, q_kBC2, q_kBC3, q_kBC4, q_sPass, q_sBreak, q_sCont, q_sRetN, q_sExpr, q_kEx, q_sRet, q_kRt, q_sIf, q_kIf1, q_kIf2, q_kU, q_sSet, q_kSet, q_set1, q_set2, q_set3, q_kSl1, q_kSl2, q_gNm, q_gNms0, q_gNms1, q_kGs, q_gTp, q_gSq1, q_gSq2, q_sAsg, q_kAs0, q_kAs1, q_sAug, q_kAug, q_kAug1, q_kAug2, q_kAug3, q_eIter, q_kIt0, q_kIt1, q_kIt2, q_iRng, q_kRg0, q_kRg1, q_iZip, q_kZp1, q_kZp2, q_iEnum, q_kEn1, q_kEn2, q_sFor, q_kFor, q_sWhile, q_sPar, q_kPr0, q_kPr1, q_kPr2, q_kPr3, q_noPk1, q_noPk2, q_sPar3, q_kPt0, q_kPt1, q_kPt2, q_kPt3, q_kPt4, q_eMt, q_kMt0, q_kMt1, q_kMt1b, q_kMt2, q_kMt3, q_rdA1, q_rdA2, q_sPut, q_kPu0, q_kPu1, q_kPu2, q_kPu2b, q_kPu3, q_kPu4, q_stepL, q_kStw, q_kStx1, q_kStx2, q_kSty, q_kStz, startD_c, startD_n, startD_0, wipeD, backD, List.map_cons, List.map_nil, List.append_nil, List.nil_append, List.cons_append, List.getElem?_cons_zero, List.getElem?_cons_succ, List.set_cons_zero, List.set_cons_succ, List.length_cons, List.length_nil, Nat.reduceAdd, Nat.reduceLT, Nat.reduceLeDiff, Nat.zero_lt_succ, Nat.zero_lt_one, Bool.not_true, Bool.not_false, Bool.and_self, Bool.and_true, Bool.true_and, Bool.or_false, Bool.false_or, Bool.false_and, Bool.and_false, Bool.or_true, Bool.true_or, rets_ok, retsO_ok, retsN_ok, rets0_ok, true_and, and_true, and_self, k3, dj]
theorem c_drawn_row {d : D} (h : Dc d) {n : Nat} (hn : n ≤ 9) : ∃ (s : List Nat) (d' : D), IsRow s ∧ s.length = n ∧ Dc d' ∧ ∀ rest : SD, callD 2 2 3 m__law_drawn_row [] [.pk 0, .fz (.int (n : Nat))] (some (.ow d) :: rest) = .ok (.fz (.str s)) (some (.ow d') :: rest) := by
  obtain ⟨qs, σ', k1, k2, k3, d', v, hd', rfl⟩ := eLc_run (it := iRng rng1 (aCons (eVar 1) aNil)) (g := gNm 2) (t := tTrue) (elt := eCall 2 2 2 m__law_pick [] (aCons (eVar 0) (aCons (eC (.str [43, 45, 48])) aNil))) (vs := [2])
    (σ := [some (.ow d), some (.fz (.int (n : Nat))), none]) (fun σ => ∃ (d : D) (v : Option Sl), Dc d ∧ σ = [some (.ow d), some (.fz (.int (n : Nat))), v]) (fun _ r => ∃ c, isSg c ∧ r = some (cD c))
    (iRng_n _ 1 rfl hn) rfl (by simp; omega) ⟨d, none, h, rfl⟩ (fun σ ⟨d, v, hd, e⟩ => ⟨d, none, hd, by subst e; rfl⟩) (fun x hx σ ⟨d, v, hd, e⟩ => by
      subst e
      obtain ⟨i, _, rfl⟩ := List.mem_map.mp hx
      obtain ⟨c, d', hc, hd', e⟩ := c_pick hd
      refine ⟨some (cD c), [some (.ow d'), some (.fz (.int (n : Nat))), some (.fz (.int (i : Nat)))], ?_, ⟨d', _, hd', rfl⟩, c, hc, rfl⟩
      simp only [bind_ok, bind_exc, bind_stuck, q_eVar, q_kVar1, q_kVar2, q_eC, q_peek1, q_peek2, q_peek3, q_kPk1, q_kPk2, q_frz1, q_frz2, q_frz3, q_kFz1, q_kFz2, q_peekL0, q_peekL1, q_kpl1, q_kfl1, q_kpl2, q_frzL0, q_frzL1, q_ans1, q_ans2, q_ans3, q_k2_eCB, q_k1_eCB, q_eCB, q_k2_e1, q_k1_e1, q_e1, q_k4_e2, q_k3_e2, q_k2_e2, q_k1_e2, q_e2, q_kch1, q_kch2, q_kch3, q_kch4, q_k4_e3c, q_k3_e3c, q_k2_e3c, q_k1_e3c, q_e3c, q_eIf, q_kIfE1, q_kIfE2, q_eAnd, q_kAnd1, q_kAnd2, q_eOr, q_kOr1, q_kOr2, q_eNot, q_kNot, q_eTup, q_eLst, q_kTup1, q_kLst1, q_kTupN0, q_kLstN0, q_kTupN1, q_kLstN1, q_kTupN2, q_kLstN2, q_kTupN3, q_kLstN3, q_kTupN4, q_kLstN4, q_kTupN5, q_kLstN5, q_kTupN6, q_kLstN6, q_kTupN7, q_kLstN7, q_kTupN8, q_kLstN8, q_kTupN9, q_kLstN9, q_pNo, q_pSo, q_kSo, q_k4_eSl, q_k3_eSl, q_k2_eSl, q_k1_eSl, q_eSl, q_eJoin, q_kJ0, q_kJ1, q_kJ2, q_k1_eCall, q_eCall, q_aNil, q_k2_aCons, q_k1_aCons, q_aCons, q_k2_eFz, q_k1_eFz, q_eFz, q_tB1, q_kB1, q_tTru, q_kTr0, q_kTr1, q_kTrb, q_truthB, q_kTr2, q_tAnd, q_tOr, q_tNot, q_kTA1, q_kTA2, q_kTO1, q_kTO2, q_kTN, q_tTrue, q_bNil, q_bCons, q_kBC1, q_kBC2, q_kBC3, q_kBC4, q_sPass, q_sBreak, q_sCont, q_sRetN, q_sExpr, q_kEx, q_sRet, q_kRt, q_sIf, q_kIf1, q_kIf2, q_kU, q_sSet, q_kSet, q_set1, q_set2, q_set3, q_kSl1, q_kSl2, q_gNm, q_gNms0, q_gNms1, q_kGs, q_gTp, q_gSq1, q_gSq2, q_sAsg, q_kAs0, q_kAs1, q_sAug, q_kAug, q_kAug1, q_kAug2, q_kAug3, q_eIter, q_kIt0, q_kIt1, q_kIt2, q_iRng, q_kRg0, q_kRg1, q_iZip, q_kZp1, q_kZp2, q_iEnum, q_kEn1, q_kEn2, q_sFor, q_kFor, q_sWhile, q_sPar, q_kPr0, q_kPr1, q_kPr2, q_kPr3, q_noPk1, q_noPk2, q_sPar3, q_kPt0, q_kPt1, q_kPt2, q_kPt3, q_kPt4, q_eMt, q_kMt0, q_kMt1, q_kMt1b, q_kMt2, q_kMt3, q_rdA1, q_rdA2, q_sPut, q_kPu0, q_kPu1, q_kPu2, q_kPu2b, q_kPu3, q_kPu4, q_stepL, q_kStw, q_kStx1, q_kStx2, q_kSty, q_kStz, startD_c, startD_n, startD_0, wipeD, backD, List.map_cons, List.map_nil, List.append_nil, List.nil_append, List.cons_append, List.getElem?_cons_zero, List.getElem?_cons_succ, List.set_cons_zero, List.set_cons_succ, List.length_cons, List.length_nil, Nat.reduceAdd, Nat.reduceLT, Nat.reduceLeDiff, Nat.zero_lt_succ, Nat.zero_lt_one, Bool.not_true, Bool.not_false, Bool.and_self, Bool.and_true, Bool.true_and, Bool.or_false, Bool.false_or, Bool.false_and, Bool.and_false, Bool.or_true, Bool.true_or, rets_ok, retsO_ok, retsN_ok, rets0_ok, true_and, and_true, and_self, y_kIfE, y_kTA, y_kTO, y_kAnd, y_kOr, y_kStx, y_if, y_fz, y_and, y_or, y_andD, y_orD, if_true, if_false, Bool.false_eq_true, Bool.true_eq_false, reduceIte, rb, ri, rs, Option.map_some, Option.bind_some, itemsOf, itemsZ, e])
  obtain ⟨cs, c1, c2, c3⟩ := qs_enc cD isSg qs k2
  have hl : cs.length = n := by
    rw [c3, ← List.length_map (f := fun q : D × Option D => q.1) (as := qs), k1]
    simp
  rw [c1] at k3
  have dj : dJoin [] (.lst (cs.map cD)) = some (.val (.str cs)) := by
    have := dJoin_signs id cs (by omega)
    rw [List.map_id] at this
    exact this
  refine ⟨cs, d', ⟨c2, by omega⟩, hl, hd', fun rest => call_l (as := [.int (n : Nat)]) (by decide) rfl rfl (by decide) ?_⟩
  exact drawn_row_run _ _ _ _ _ v k3 dj
theorem qs_sub : ∀ (is : List Nat) (qs : List (D × Option D)), qs.map (·.1) = is.map (fun (i : Nat) => D.int (i : Int)) → (∀ q ∈ qs, q.2 = none ∨ q.2 = some q.1) → ∃ th : List Nat, qs.filterMap (·.2) = th.map (fun (i : Nat) => D.int (i : Int)) ∧ th.Sublist is
  | [], [], _, _ => ⟨[], rfl, List.Sublist.slnil⟩
  | [], q :: qs, h, _ => by simp at h
  | i :: is, [], h, _ => by simp at h
  | i :: is, q :: qs, h, h2 => by
    rw [List.map_cons, List.map_cons] at h
    injection h with h3 h4
    obtain ⟨th, k1, k2⟩ := qs_sub is qs h4 fun x hx => h2 x (List.mem_cons_of_mem _ hx)
    rcases h2 q List.mem_cons_self with e | e
    · exact ⟨th, by rw [List.filterMap_cons, e, k1], k2.cons _⟩
    · exact ⟨i :: th, by rw [List.filterMap_cons, e, h3, k1, List.map_cons], k2.cons₂ _⟩
theorem drawn_things_run (d d' n : D) (l : List D) (v : Option Sl) (k3 : eLc (iRng rng1 (aCons (eVar 1) aNil)) (gNm 2) (tB1 (DL.e2 dEq (eCall 2 2 5 m__law_roll [] (aCons (eVar 0) (aCons (eC (.int 2)) aNil))) (eC (.int 0)))) (eVar 2) [2] [some (.ow d), some (.fz n), none] = .ok (.ow (.lst l)) (backD [some (.ow d), some (.fz n), none] [some (.ow d'), some (.fz n), v] [2])) : Rets0 (m__law_drawn_things (startD 3 [.ow d, .fz n])) (.tup l) d' := by
  simp only [m__law_drawn_things, bind_ok, bind_exc, bind_stuck, q_eVar, q_kVar1, q_kVar2, q_eC, q_peek1, q_peek2, q_peek3, q_kPk1, q_kPk2, q_frz1, q_frz2, q_frz3, q_kFz1, q_kFz2, q_peekL0, q_peekL1, q_kpl1, q_kfl1, q_kpl2, q_frzL0, q_frzL1, q_ans1, q_ans2, q_ans3, q_k2_eCB, q_k1_eCB, q_eCB, q_k2_e1, q_k1_e1, q_e1, q_k4_e2, q_k3_e2, q_k2_e2, q_k1_e2, q_e2, q_kch1, q_kch2, q_kch3, q_kch4, q_k4_e3c, q_k3_e3c, q_k2_e3c, q_k1_e3c, q_e3c, q_eIf, q_kIfE1, q_kIfE2, q_eAnd, q_kAnd1, q_kAnd2, q_eOr, q_kOr1, q_kOr2, q_eNot, q_kNot, q_eTup, q_eLst, q_kTup1, q_kLst1, q_kTupN0, q_kLstN0, q_kTupN1, q_kLstN1, q_kTupN2, q_kLstN2, q_kTupN3, q_kLstN3, q_kTupN4, q_kLstN4, q_kTupN5, q_kLstN5, q_kTupN6, q_kLstN6, q_kTupN7, q_kLstN7, q_kTupN8, q_kLstN8, q_kTupN9, q_kLstN9, q_pNo, q_pSo, q_kSo, q_k4_eSl, q_k3_eSl, q_k2_eSl, q_k1_eSl, q_eSl, q_eJoin, q_kJ0, q_kJ1, q_kJ2, q_k1_eCall, q_eCall, q_aNil, q_k2_aCons, q_k1_aCons, q_aCons, q_k2_eFz, q_k1_eFz, q_eFz, q_tB1, q_kB1, q_tTru, q_kTr0, q_kTr1, q_kTrb, q_truthB, q_kTr2, q_tAnd, q_tOr, q_tNot, q_kTA1, q_kTA2, q_kTO1, q_kTO2, q_kTN, q_tTrue, q_bNil, q_bCons, q_kBC1, q_kBC2, q_kBC3, q_kBC4, q_sPass, q_sBreak, q_sCont, q_sRetN, q_sExpr, q_kEx, q_sRet, q_kRt, q_sIf, q_kIf1, q_kIf2, q_kU, q_sSet, q_kSet, q_set1, q_set2, q_set3, q_kSl1, q_kSl2, q_gNm, q_gNms0, q_gNms1, q_kGs, q_gTp, q_gSq1, q_gSq2, q_sAsg, q_kAs0, q_kAs1, q_sAug, q_kAug, q_kAug1, q_kAug2, q_kAug3, q_eIter, q_kIt0, q_kIt1, q_kIt2, q_iRng, q_kRg0, q_kRg1, q_iZip, q_kZp1, q_kZp2, q_iEnum, q_kEn1, q_kEn2, q_sFor, q_kFor, q_sWhile, q_sPar, q_kPr0, q_kPr1, q_kPr2, q_kPr3, q_noPk1, q_noPk2, q_sPar3, q_kPt0, q_kPt1, q_kPt2, q_kPt3, q_kPt4, q_eMt, q_kMt0, q_kMt1, q_kMt1b, q_kMt2, q_kMt3, q_rdA1, q_rdA2, q_sPut, q_kPu0, q_kPu1, q_kPu2, q_kPu2b, q_kPu3, q_kPu4, q_stepL, q_kStw, q_kStx1, q_kStx2, q_kSty, q_kStz, startD_c, startD_n, startD_0, wipeD, backD, List.map_cons, List.map_nil, List.append_nil, List.nil_append, List.cons_append, List.getElem?_cons_zero, List.getElem?_cons_succ, List.set_cons_zero, List.set_cons_succ, List.length_cons, List.length_nil, Nat.reduceAdd, Nat.reduceLT, Nat.reduceLeDiff, Nat.zero_lt_succ, Nat.zero_lt_one, Bool.not_true, Bool.not_false, Bool.and_self, Bool.and_true, Bool.true_and, Bool.or_false, Bool.false_or, Bool.false_and, Bool.and_false, Bool.or_true, Bool.true_or, rets_ok, retsO_ok, retsN_ok, rets0_ok, true_and, and_true, and_self, k3, dTuple]
theorem c_drawn_things {d : D} (h : Dc d) {n : Nat} (hn : n ≤ 9) : ∃ (th : List Nat) (d' : D), IsThings th n ∧ Dc d' ∧ ∀ rest : SD, callD 2 2 3 m__law_drawn_things [] [.pk 0, .fz (.int (n : Nat))] (some (.ow d) :: rest) = .ok (.fz (tD th)) (some (.ow d') :: rest) := by
  obtain ⟨qs, σ', k1, k2, k3, d', v, hd', rfl⟩ := eLc_run (it := iRng rng1 (aCons (eVar 1) aNil)) (g := gNm 2) (t := tB1 (DL.e2 dEq (eCall 2 2 5 m__law_roll [] (aCons (eVar 0) (aCons (eC (.int 2)) aNil))) (eC (.int 0)))) (elt := eVar 2) (vs := [2])
    (σ := [some (.ow d), some (.fz (.int (n : Nat))), none]) (fun σ => ∃ (d : D) (v : Option Sl), Dc d ∧ σ = [some (.ow d), some (.fz (.int (n : Nat))), v]) (fun x r => r = none ∨ r = some x)
    (iRng_n _ 1 rfl hn) rfl (by simp; omega) ⟨d, none, h, rfl⟩ (fun σ ⟨d, v, hd, e⟩ => ⟨d, none, hd, by subst e; rfl⟩) (fun x hx σ ⟨d, v, hd, e⟩ => by
      subst e
      obtain ⟨i, _, rfl⟩ := List.mem_map.mp hx
      obtain ⟨r, d', hc, hd', e⟩ := c_roll hd 2 (by decide) (by decide)
      have e' : ∀ rest : SD, callD 2 2 5 m__law_roll [] [.pk 0, .fz (.int 2)] (some (.ow d) :: rest) = .ok (.fz (.int (r : Nat))) (some (.ow d') :: rest) := e
      have q : dEq (.int (r : Nat)) (.int 0) = some (.val (.bl (deq (.int (r : Nat)) (.int 0)))) := dEq_of rfl rfl
      generalize deq (.int (r : Nat)) (.int 0) = b at q
      refine ⟨if b then some (.int (i : Nat)) else none, [some (.ow d'), some (.fz (.int (n : Nat))), some (.fz (.int (i : Nat)))], ?_, ⟨d', _, hd', rfl⟩, ?_⟩
      · simp only [bind_ok, bind_exc, bind_stuck, q_eVar, q_kVar1, q_kVar2, q_eC, q_peek1, q_peek2, q_peek3, q_kPk1, q_kPk2, q_frz1, q_frz2, q_frz3, q_kFz1, q_kFz2, q_peekL0, q_peekL1, q_kpl1, q_kfl1, q_kpl2, q_frzL0, q_frzL1, q_ans1, q_ans2, q_ans3, q_k2_eCB, q_k1_eCB, q_eCB, q_k2_e1, q_k1_e1, q_e1, q_k4_e2, q_k3_e2, q_k2_e2, q_k1_e2, q_e2, q_kch1, q_kch2, q_kch3, q_kch4, q_k4_e3c, q_k3_e3c, q_k2_e3c, q_k1_e3c, q_e3c, q_eIf, q_kIfE1, q_kIfE2, q_eAnd, q_kAnd1, q_kAnd2, q_eOr, q_kOr1, q_kOr2, q_eNot, q_kNot, q_eTup, q_eLst, q_kTup1, q_kLst1, q_kTupN0, q_kLstN0, q_kTupN1, q_kLstN1, q_kTupN2, q_kLstN2, q_kTupN3, q_kLstN3, q_kTupN4, q_kLstN4, q_kTupN5, q_kLstN5, q_kTupN6, q_kLstN6, q_kTupN7, q_kLstN7, q_kTupN8, q_kLstN8, q_kTupN9, q_kLstN9, q_pNo, q_pSo, q_kSo, q_k4_eSl, q_k3_eSl, q_k2_eSl, q_k1_eSl, q_eSl, q_eJoin, q_kJ0, q_kJ1, q_kJ2, q_k1_eCall, q_eCall, q_aNil, q_k2_aCons, q_k1_aCons, q_aCons, q_k2_eFz, q_k1_eFz, q_eFz, q_tB1, q_kB1, q_tTru, q_kTr0, q_kTr1, q_kTrb, q_truthB, q_kTr2, q_tAnd, q_tOr, q_tNot, q_kTA1, q_kTA2, q_kTO1, q_kTO2, q_kTN, q_tTrue, q_bNil, q_bCons, q_kBC1, q_kBC2, q_kBC3, q_kBC4, q_sPass, q_sBreak, q_sCont, q_sRetN, q_sExpr, q_kEx, q_sRet, q_kRt, q_sIf, q_kIf1, q_kIf2, q_kU, q_sSet, q_kSet, q_set1, q_set2, q_set3, q_kSl1, q_kSl2, q_gNm, q_gNms0, q_gNms1, q_kGs, q_gTp, q_gSq1, q_gSq2, q_sAsg, q_kAs0, q_kAs1, q_sAug, q_kAug, q_kAug1, q_kAug2, q_kAug3, q_eIter, q_kIt0, q_kIt1, q_kIt2, q_iRng, q_kRg0, q_kRg1, q_iZip, q_kZp1, q_kZp2, q_iEnum, q_kEn1, q_kEn2, q_sFor, q_kFor, q_sWhile, q_sPar, q_kPr0, q_kPr1, q_kPr2, q_kPr3, q_noPk1, q_noPk2, q_sPar3, q_kPt0, q_kPt1, q_kPt2, q_kPt3, q_kPt4, q_eMt, q_kMt0, q_kMt1, q_kMt1b, q_kMt2, q_kMt3, q_rdA1, q_rdA2, q_sPut, q_kPu0, q_kPu1, q_kPu2, q_kPu2b, q_kPu3, q_kPu4, q_stepL, q_kStw, q_kStx1, q_kStx2, q_kSty, q_kStz, startD_c, startD_n, startD_0, wipeD, backD, List.map_cons, List.map_nil, List.append_nil, List.nil_append, List.cons_append, List.getElem?_cons_zero, List.getElem?_cons_succ, List.set_cons_zero, List.set_cons_succ, List.length_cons, List.length_nil, Nat.reduceAdd, Nat.reduceLT, Nat.reduceLeDiff, Nat.zero_lt_succ, Nat.zero_lt_one, Bool.not_true, Bool.not_false, Bool.and_self, Bool.and_true, Bool.true_and, Bool.or_false, Bool.false_or, Bool.false_and, Bool.and_false, Bool.or_true, Bool.true_or, rets_ok, retsO_ok, retsN_ok, rets0_ok, true_and, and_true, and_self, y_kIfE, y_kTA, y_kTO, y_kAnd, y_kOr, y_kStx, y_if, y_fz, y_and, y_or, y_andD, y_orD, if_true, if_false, Bool.false_eq_true, Bool.true_eq_false, reduceIte, rb, ri, rs, Option.map_some, Option.bind_some, itemsOf, itemsZ, e', q]
      · cases b
        · exact .inl rfl
        · exact .inr rfl)
  obtain ⟨th, t1, t2⟩ := qs_sub _ qs k1 k2
  rw [t1] at k3
  refine ⟨th, d', ⟨List.pairwise_lt_range.sublist t2, fun i hi => List.mem_range.mp (t2.subset hi), Nat.le_trans t2.length_le (by simpa using hn), hn⟩, hd', fun rest => call_l (as := [.int (n : Nat)]) (by decide) rfl rfl (by decide) ?_⟩
  exact drawn_things_run _ _ _ _ v k3
end W_k00

namespace W_k00
open PySem L2 DL PN
theorem deq_str (a b : List Nat) : deq (.str a) (.str b) = decide (a = b) := by
  rw [show deq (.str a) (.str b) = (a == b) by simp only [deq]]
  by_cases h : a = b
  · rw [decide_eq_true h, h, beq_self_eq_true]
  · rw [decide_eq_false h]
    exact beq_eq_false_iff_ne.mpr h
theorem dueN_sg {s th : List Nat} {m : Nat} (h : ∀ c ∈ s, isSg c) : ∀ c ∈ dueN s th m, isSg c := by
  intro c hc
  unfold dueN at hc
  have g : ∀ i, isSg (s.getD i 48) := fun i => by
    rw [List.getD_eq_getElem?_getD]
    rcases Nat.lt_or_ge i s.length with q | q
    · rw [List.getElem?_eq_getElem q]
      exact h _ (List.getElem_mem q)
    · rw [List.getElem?_eq_none q]
      exact sg48
  rcases List.mem_append.mp hc with hc | hc
  · obtain ⟨i, _, rfl⟩ := List.mem_map.mp hc
    by_cases q : i ∈ th
    · rw [if_pos q]
      exact g i
    · rw [if_neg q]
      exact sg48
  · rw [List.eq_of_mem_replicate hc]
    exact sg48
theorem dNe_row {s : List Nat} (h : IsRow s) : dNe (.str s) (.str s) = some (.val (.bl false)) := dNe_same h.ok
theorem dNe_th (th : List Nat) : dNe (tD th) (tD th) = some (.val (.bl false)) := dNe_same (good_th th)
theorem dEq_row {s : List Nat} (h : IsRow s) : dEq (.str s) (.str s) = some (.val (.bl true)) := dEq_same h.ok
theorem things_nil {m : Nat} (h : m ≤ 9) : IsThings [] m := ⟨List.Pairwise.nil, fun _ h => by simp at h, Nat.zero_le _, h⟩
theorem row_right_run (d d1 d2 s th n r m part due hs zs ts ta x0 : D) (zl pl dl zr : List D) (dl' : D)
  (e3 : dLen [s] = some (.val n))
  (e1 : ∀ rest : SD, callD 2 2 3 m__law_drawn_things [] [.pk 0, .fz n] (some (.ow d) :: rest) = .ok (.fz th) (some (.ow d1) :: rest))
  (e4 : ∀ σ, callD 1 1 1 m_things_of [] [.fz s] σ = .ok (.fz hs) σ)
  (e5 : ∀ σ, callD 1 1 3 m__law_held [] [.fz s] σ = .ok (.fz hs) σ)
  (e6 : dNe hs hs = some (.val (.bl false)))
  (e7 : ∀ σ, callD 1 1 3 m_zeros_of [] [.fz s] σ = .ok (.fz zs) σ)
  (k1 : ∀ (a c d e f g : Option Sl), eLc (iRng rng1 (aCons (eVar 2) aNil)) (gNm 7) (tB1 (DL.e2 dEq (DL.e2 dIx (eVar 1) (eVar 7)) (eC (.str [48])))) (eVar 7) [7] [a, some (.fz s), some (.fz n), c, d, e, f, none, g] = .ok (.ow (.lst zl)) [a, some (.fz s), some (.fz n), c, d, e, f, none, g])
  (tz : dTuple [.lst zl] = some (.newT zl))
  (e8 : dNe zs (.tup zl) = some (.val (.bl false)))
  (e9 : ∀ σ, callD 2 2 2 m_turned [.non] [.fz s] σ = .ok (.fz ts) σ)
  (e10 : ∀ σ, callD 1 1 2 m__law_turn [] [.fz s] σ = .ok (.fz ts) σ)
  (e11 : dNe ts ts = some (.val (.bl false)))
  (e12 : ∀ σ, callD 2 2 2 m_turned [] [.fz s, .fz th] σ = .ok (.fz ta) σ)
  (e13 : ∀ σ, callD 2 2 4 m__law_turn_at [] [.fz s, .fz th] σ = .ok (.fz ta) σ)
  (e14 : dNe ta ta = some (.val (.bl false)))
  (e15 : ∀ σ, callD 2 2 2 m_turned [] [.fz s, .fz (.tup [])] σ = .ok (.fz s) σ)
  (e16 : dNe s s = some (.val (.bl false)))
  (e17 : ∀ σ, callD 2 2 3 m_signs_at [] [.fz s, .fz th] σ = .ok (.fz part) σ)
  (k2 : ∀ (a b d e f g : Option Sl), eLc (eIter (eVar 3)) (gNm 8) tTrue (DL.e2 dIx (eVar 1) (eVar 8)) [8] [a, some (.fz s), b, some (.fz th), d, e, f, g, none] = .ok (.ow (.lst pl)) [a, some (.fz s), b, some (.fz th), d, e, f, g, none])
  (j2 : dJoin [] (.lst pl) = some (.val part))
  (e19 : dNe part part = some (.val (.bl false)))
  (e18 : ∀ σ, callD 2 2 2 m_laid_over [] [.fz s, .fz s] σ = .ok (.fz s) σ)
  (e23 : dSub (.int 10) n = some (.val x0))
  (e2 : ∀ rest : SD, callD 2 2 5 m__law_roll [] [.pk 0, .fz x0] (some (.ow d1) :: rest) = .ok (.fz r) (some (.ow d2) :: rest))
  (e24 : dAdd n r = some (.val m))
  (k3 : ∀ (a d e f g : Option Sl), eLc (iRng rng1 (aCons (eVar 2) aNil)) (gNm 8) tTrue (eIf (tB1 (DL.e2 dIn (eVar 8) (eVar 3))) (DL.e2 dIx (eVar 1) (eVar 8)) (eC (.str [48]))) [8] [a, some (.fz s), some (.fz n), some (.fz th), d, e, f, g, none] = .ok (.ow (.lst dl)) [a, some (.fz s), some (.fz n), some (.fz th), d, e, f, g, none])
  (j3 : dJoin [] (.lst dl) = some (.val dl'))
  (e25 : dSub m n = some (.val r)) (zz : D)
  (e26 : dMul (.str [48]) r = some (.val zz))
  (e27 : dAdd dl' zz = some (.val due))
  (e20 : ∀ σ, callD 3 3 6 m_spread [] [.fz part, .fz th, .fz m] σ = .ok (.fz due) σ)
  (e28 : dEq due due = some (.val (.bl true)))
  (e21 : ∀ σ, callD 2 2 2 m_turned [] [.fz ta, .fz th] σ = .ok (.fz s) σ)
  (e22 : dEq s s = some (.val (.bl true))) :
  Rets0 (m__law_is_row_right (startD 9 [.ow d, .fz s])) (.bl true) d2 := by
  simp only [m__law_is_row_right, bind_ok, bind_exc, bind_stuck, q_eVar, q_kVar1, q_kVar2, q_eC, q_peek1, q_peek2, q_peek3, q_kPk1, q_kPk2, q_frz1, q_frz2, q_frz3, q_kFz1, q_kFz2, q_peekL0, q_peekL1, q_kpl1, q_kfl1, q_kpl2, q_frzL0, q_frzL1, q_ans1, q_ans2, q_ans3, q_k2_eCB, q_k1_eCB, q_eCB, q_k2_e1, q_k1_e1, q_e1, q_k4_e2, q_k3_e2, q_k2_e2, q_k1_e2, q_e2, q_kch1, q_kch2, q_kch3, q_kch4, q_k4_e3c, q_k3_e3c, q_k2_e3c, q_k1_e3c, q_e3c, q_eIf, q_kIfE1, q_kIfE2, q_eAnd, q_kAnd1, q_kAnd2, q_eOr, q_kOr1, q_kOr2, q_eNot, q_kNot, q_eTup, q_eLst, q_kTup1, q_kLst1, q_kTupN0, q_kLstN0, q_kTupN1, q_kLstN1, q_kTupN2, q_kLstN2, q_kTupN3, q_kLstN3, q_kTupN4, q_kLstN4, q_kTupN5, q_kLstN5, q_kTupN6, q_kLstN6, q_kTupN7, q_kLstN7, q_kTupN8, q_kLstN8, q_kTupN9, q_kLstN9, q_pNo, q_pSo, q_kSo, q_k4_eSl, q_k3_eSl, q_k2_eSl, q_k1_eSl, q_eSl, q_eJoin, q_kJ0, q_kJ1, q_kJ2, q_k1_eCall, q_eCall, q_aNil, q_k2_aCons, q_k1_aCons, q_aCons, q_k2_eFz, q_k1_eFz, q_eFz, q_tB1, q_kB1, q_tTru, q_kTr0, q_kTr1, q_kTrb, q_truthB, q_kTr2, q_tAnd, q_tOr, q_tNot, q_kTA1, q_kTA2, q_kTO1, q_kTO2, q_kTN, q_tTrue, q_bNil, q_bCons, q_kBC1, q_kBC2, q_kBC3, q_kBC4, q_sPass, q_sBreak, q_sCont, q_sRetN, q_sExpr, q_kEx, q_sRet, q_kRt, q_sIf, q_kIf1, q_kIf2, q_kU, q_sSet, q_kSet, q_set1, q_set2, q_set3, q_kSl1, q_kSl2, q_gNm, q_gNms0, q_gNms1, q_kGs, q_gTp, q_gSq1, q_gSq2, q_sAsg, q_kAs0, q_kAs1, q_sAug, q_kAug, q_kAug1, q_kAug2, q_kAug3, q_eIter, q_kIt0, q_kIt1, q_kIt2, q_iRng, q_kRg0, q_kRg1, q_iZip, q_kZp1, q_kZp2, q_iEnum, q_kEn1, q_kEn2, q_sFor, q_kFor, q_sWhile, q_sPar, q_kPr0, q_kPr1, q_kPr2, q_kPr3, q_noPk1, q_noPk2, q_sPar3, q_kPt0, q_kPt1, q_kPt2, q_kPt3, q_kPt4, q_eMt, q_kMt0, q_kMt1, q_kMt1b, q_kMt2, q_kMt3, q_rdA1, q_rdA2, q_sPut, q_kPu0, q_kPu1, q_kPu2, q_kPu2b, q_kPu3, q_kPu4, q_stepL, q_kStw, q_kStx1, q_kStx2, q_kSty, q_kStz, startD_c, startD_n, startD_0, wipeD, backD, List.map_cons, List.map_nil, List.append_nil, List.nil_append, List.cons_append, List.getElem?_cons_zero, List.getElem?_cons_succ, List.set_cons_zero, List.set_cons_succ, List.length_cons, List.length_nil, Nat.reduceAdd, Nat.reduceLT, Nat.reduceLeDiff, Nat.zero_lt_succ, Nat.zero_lt_one, Bool.not_true, Bool.not_false, Bool.and_self, Bool.and_true, Bool.true_and, Bool.or_false, Bool.false_or, Bool.false_and, Bool.and_false, Bool.or_true, Bool.true_or, rets_ok, retsO_ok, retsN_ok, rets0_ok, true_and, and_true, and_self, e3, e1, e4, e5, e6, e7, k1, tz, e8, e9, e10, e11, e12, e13, e14, e15, e16, e17, k2, j2, e18, e19, e23, e2, e24, k3, j3, e25, e26, e27, e20, e28, e21, e22]
theorem c_row_right {d : D} (h : Dc d) {s : List Nat} (hs : IsRow s) : ∃ d' : D, Dc d' ∧ ∀ rest : SD, callD 2 2 9 m__law_is_row_right [] [.pk 0, .fz (.str s)] (some (.ow d) :: rest) = .ok (.fz (.bl true)) (some (.ow d') :: rest) := by
  obtain ⟨th, d1, ht, h1, e1⟩ := c_drawn_things h hs.len
  obtain ⟨r, d2, hr, h2, e2⟩ := c_roll h1 (10 - s.length) (by have := hs.len; omega) (by
    have : 10 < 2 ^ 62 := by decide
    omega)
  have hm : s.length + r ≤ 9 := by omega
  have e3 := dLen_row hs
  have e4 := c_things_of hs
  have e5 := c_lheld hs
  have e6 := dNe_th (heldN s)
  have e7 := c_zeros_of hs
  have e8 := dNe_th (zerosN s)
  have e9 := c_turned0 hs
  have e10 := c_lturn hs
  have e11 := dNe_row hs.map_flip
  have e12 := c_turned hs ht
  have e13 := c_lturn_at (th := th) hs
  have e14 := dNe_row (hs.tA th)
  have e15 : ∀ σ, callD 2 2 2 m_turned [] [.fz (.str s), .fz (.tup [])] σ = .ok (.fz (.str s)) σ := fun σ => by
    have := c_turned hs (things_nil hs.len) σ
    rw [tA_nil] at this
    exact this
  have e16 := dNe_row hs
  have e17 := c_signs_at hs ht
  have e18 := c_laid_over hs hs rfl
  rw [laidN_self] at e18
  have e19 := dNe_row (sgN_row hs ht)
  have e20 := c_spread hs ht (m := s.length + r) (by omega) hm
  have e21 : ∀ σ, callD 2 2 2 m_turned [] [.fz (.str (tA th 0 s)), .fz (tD th)] σ = .ok (.fz (.str s)) σ := fun σ => by
    have := c_turned (hs.tA th) (th := th) (by rw [tA_len]; exact ht) σ
    rw [tA_tA th 0 s hs.sg] at this
    exact this
  have e22 := dEq_row hs
  have e23 : dSub (.int 10) (.int (s.length : Nat)) = some (.val (.int ((10 - s.length : Nat) : Int))) := by
    have := hs.len
    simp only [dSub, ri]
    congr 3
    omega
  have e24 : dAdd (.int (s.length : Nat)) (.int (r : Nat)) = some (.val (.int ((s.length + r : Nat) : Int))) := by
    simp only [dAdd, ri]
    congr 3
  have e25 : dSub (.int ((s.length + r : Nat) : Int)) (.int (s.length : Nat)) = some (.val (.int (r : Nat))) := by
    simp only [dSub, ri]
    congr 3
    omega
  have e26 : dMul (.str [48]) (.int (r : Nat)) = some (.val (.str (List.replicate r 48))) := match r, (show r ≤ 9 by omega) with
    | 0, _ => rfl
    | 1, _ => rfl
    | 2, _ => rfl
    | 3, _ => rfl
    | 4, _ => rfl
    | 5, _ => rfl
    | 6, _ => rfl
    | 7, _ => rfl
    | 8, _ => rfl
    | 9, _ => rfl
    | n + 10, h => absurd h (by omega)
  have e27 : dAdd (.str ((List.range s.length).map fun i => if i ∈ th then s.getD i 48 else 48)) (.str (List.replicate r 48)) = some (.val (.str (dueN s th (s.length + r)))) := by
    unfold dueN
    rw [show s.length + r - s.length = r by omega]
    have : small (((List.range s.length).map fun i => if i ∈ th then s.getD i 48 else 48).length + (List.replicate r 48).length) := by
      unfold small
      simp
      omega
    simp only [dAdd, if_pos this, rs]
  have e28 : dEq (.str (dueN s th (s.length + r))) (.str (dueN s th (s.length + r))) = some (.val (.bl true)) := dEq_same (dGood_str (by
    unfold sOk
    rw [List.all_eq_true]
    intro c hc
    rcases dueN_sg hs.sg c hc with rfl | rfl | rfl <;> rfl))
  -- comprehensions
  have k1 : ∀ (a c d e f g : Option Sl), eLc (iRng rng1 (aCons (eVar 2) aNil)) (gNm 7) (tB1 (DL.e2 dEq (DL.e2 dIx (eVar 1) (eVar 7)) (eC (.str [48])))) (eVar 7) [7] [a, some (.fz (.str s)), some (.fz (.int (s.length : Nat))), c, d, e, f, none, g] = .ok (.ow (.lst ((zerosN s).map fun (i : Nat) => D.int (i : Int)))) [a, some (.fz (.str s)), some (.fz (.int (s.length : Nat))), c, d, e, f, none, g] := by
    intro a c d e f g
    rw [eLc_if (fun (i : Nat) => D.int (i : Int)) (List.range s.length) (fun i => decide (s[i]? = some 48)) (fun (i : Nat) => .int (i : Nat)) (iRng_n _ 2 rfl hs.len) rfl (by rw [List.length_range]; exact hs.sm) (fun i hi => ?_)]
    · unfold zerosN
      rw [zeros_range s s 0 rfl, List.range_eq_range']
    · have hi := List.mem_range.mp hi
      have q1 := dIx_at hs hi
      have q2 : s[i]? = some (s.getD i 48) := by
        rw [List.getD_eq_getElem?_getD, List.getElem?_eq_getElem hi]
        rfl
      have q3 := dEq_cc (s.getD i 48) 48 (by
        rw [List.getD_eq_getElem?_getD, List.getElem?_eq_getElem hi]
        exact hs.sg _ (List.getElem_mem hi)) sg48
      rw [q2]
      simp only [bind_ok, bind_exc, bind_stuck, q_eVar, q_kVar1, q_kVar2, q_eC, q_peek1, q_peek2, q_peek3, q_kPk1, q_kPk2, q_frz1, q_frz2, q_frz3, q_kFz1, q_kFz2, q_peekL0, q_peekL1, q_kpl1, q_kfl1, q_kpl2, q_frzL0, q_frzL1, q_ans1, q_ans2, q_ans3, q_k2_eCB, q_k1_eCB, q_eCB, q_k2_e1, q_k1_e1, q_e1, q_k4_e2, q_k3_e2, q_k2_e2, q_k1_e2, q_e2, q_kch1, q_kch2, q_kch3, q_kch4, q_k4_e3c, q_k3_e3c, q_k2_e3c, q_k1_e3c, q_e3c, q_eIf, q_kIfE1, q_kIfE2, q_eAnd, q_kAnd1, q_kAnd2, q_eOr, q_kOr1, q_kOr2, q_eNot, q_kNot, q_eTup, q_eLst, q_kTup1, q_kLst1, q_kTupN0, q_kLstN0, q_kTupN1, q_kLstN1, q_kTupN2, q_kLstN2, q_kTupN3, q_kLstN3, q_kTupN4, q_kLstN4, q_kTupN5, q_kLstN5, q_kTupN6, q_kLstN6, q_kTupN7, q_kLstN7, q_kTupN8, q_kLstN8, q_kTupN9, q_kLstN9, q_pNo, q_pSo, q_kSo, q_k4_eSl, q_k3_eSl, q_k2_eSl, q_k1_eSl, q_eSl, q_eJoin, q_kJ0, q_kJ1, q_kJ2, q_k1_eCall, q_eCall, q_aNil, q_k2_aCons, q_k1_aCons, q_aCons, q_k2_eFz, q_k1_eFz, q_eFz, q_tB1, q_kB1, q_tTru, q_kTr0, q_kTr1, q_kTrb, q_truthB, q_kTr2, q_tAnd, q_tOr, q_tNot, q_kTA1, q_kTA2, q_kTO1, q_kTO2, q_kTN, q_tTrue, q_bNil, q_bCons, q_kBC1, q_kBC2, q_kBC3, q_kBC4, q_sPass, q_sBreak, q_sCont, q_sRetN, q_sExpr, q_kEx, q_sRet, q_kRt, q_sIf, q_kIf1, q_kIf2, q_kU, q_sSet, q_kSet, q_set1, q_set2, q_set3, q_kSl1, q_kSl2, q_gNm, q_gNms0, q_gNms1, q_kGs, q_gTp, q_gSq1, q_gSq2, q_sAsg, q_kAs0, q_kAs1, q_sAug, q_kAug, q_kAug1, q_kAug2, q_kAug3, q_eIter, q_kIt0, q_kIt1, q_kIt2, q_iRng, q_kRg0, q_kRg1, q_iZip, q_kZp1, q_kZp2, q_iEnum, q_kEn1, q_kEn2, q_sFor, q_kFor, q_sWhile, q_sPar, q_kPr0, q_kPr1, q_kPr2, q_kPr3, q_noPk1, q_noPk2, q_sPar3, q_kPt0, q_kPt1, q_kPt2, q_kPt3, q_kPt4, q_eMt, q_kMt0, q_kMt1, q_kMt1b, q_kMt2, q_kMt3, q_rdA1, q_rdA2, q_sPut, q_kPu0, q_kPu1, q_kPu2, q_kPu2b, q_kPu3, q_kPu4, q_stepL, q_kStw, q_kStx1, q_kStx2, q_kSty, q_kStz, startD_c, startD_n, startD_0, wipeD, backD, List.map_cons, List.map_nil, List.append_nil, List.nil_append, List.cons_append, List.getElem?_cons_zero, List.getElem?_cons_succ, List.set_cons_zero, List.set_cons_succ, List.length_cons, List.length_nil, Nat.reduceAdd, Nat.reduceLT, Nat.reduceLeDiff, Nat.zero_lt_succ, Nat.zero_lt_one, Bool.not_true, Bool.not_false, Bool.and_self, Bool.and_true, Bool.true_and, Bool.or_false, Bool.false_or, Bool.false_and, Bool.and_false, Bool.or_true, Bool.true_or, rets_ok, retsO_ok, retsN_ok, rets0_ok, true_and, and_true, and_self, y_kIfE, y_kTA, y_kTO, y_kAnd, y_kOr, y_kStx, y_if, y_fz, y_and, y_or, y_andD, y_orD, if_true, if_false, Bool.false_eq_true, Bool.true_eq_false, reduceIte, rb, ri, rs, Option.map_some, Option.bind_some, itemsOf, itemsZ, turn_ok, q1, q3, Option.some.injEq]
  have k2 : ∀ (a b d e f g : Option Sl), eLc (eIter (eVar 3)) (gNm 8) tTrue (DL.e2 dIx (eVar 1) (eVar 8)) [8] [a, some (.fz (.str s)), b, some (.fz (tD th)), d, e, f, g, none] = .ok (.ow (.lst (th.map fun t => cD (s.getD t 48)))) [a, some (.fz (.str s)), b, some (.fz (tD th)), d, e, f, g, none] := by
    intro a b d e f g
    refine eLc_all (fun (i : Nat) => D.int (i : Int)) th _ (eIter_th _ _ rfl) rfl ht.sm (fun i hi => ?_)
    simp only [bind_ok, bind_exc, bind_stuck, q_eVar, q_kVar1, q_kVar2, q_eC, q_peek1, q_peek2, q_peek3, q_kPk1, q_kPk2, q_frz1, q_frz2, q_frz3, q_kFz1, q_kFz2, q_peekL0, q_peekL1, q_kpl1, q_kfl1, q_kpl2, q_frzL0, q_frzL1, q_ans1, q_ans2, q_ans3, q_k2_eCB, q_k1_eCB, q_eCB, q_k2_e1, q_k1_e1, q_e1, q_k4_e2, q_k3_e2, q_k2_e2, q_k1_e2, q_e2, q_kch1, q_kch2, q_kch3, q_kch4, q_k4_e3c, q_k3_e3c, q_k2_e3c, q_k1_e3c, q_e3c, q_eIf, q_kIfE1, q_kIfE2, q_eAnd, q_kAnd1, q_kAnd2, q_eOr, q_kOr1, q_kOr2, q_eNot, q_kNot, q_eTup, q_eLst, q_kTup1, q_kLst1, q_kTupN0, q_kLstN0, q_kTupN1, q_kLstN1, q_kTupN2, q_kLstN2, q_kTupN3, q_kLstN3, q_kTupN4, q_kLstN4, q_kTupN5, q_kLstN5, q_kTupN6, q_kLstN6, q_kTupN7, q_kLstN7, q_kTupN8, q_kLstN8, q_kTupN9, q_kLstN9, q_pNo, q_pSo, q_kSo, q_k4_eSl, q_k3_eSl, q_k2_eSl, q_k1_eSl, q_eSl, q_eJoin, q_kJ0, q_kJ1, q_kJ2, q_k1_eCall, q_eCall, q_aNil, q_k2_aCons, q_k1_aCons, q_aCons, q_k2_eFz, q_k1_eFz, q_eFz, q_tB1, q_kB1, q_tTru, q_kTr0, q_kTr1, q_kTrb, q_truthB, q_kTr2, q_tAnd, q_tOr, q_tNot, q_kTA1, q_kTA2, q_kTO1, q_kTO2, q_kTN, q_tTrue, q_bNil, q_bCons, q_kBC1, q_kBC2, q_kBC3, q_kBC4, q_sPass, q_sBreak, q_sCont, q_sRetN, q_sExpr, q_kEx, q_sRet, q_kRt, q_sIf, q_kIf1, q_kIf2, q_kU, q_sSet, q_kSet, q_set1, q_set2, q_set3, q_kSl1, q_kSl2, q_gNm, q_gNms0, q_gNms1, q_kGs, q_gTp, q_gSq1, q_gSq2, q_sAsg, q_kAs0, q_kAs1, q_sAug, q_kAug, q_kAug1, q_kAug2, q_kAug3, q_eIter, q_kIt0, q_kIt1, q_kIt2, q_iRng, q_kRg0, q_kRg1, q_iZip, q_kZp1, q_kZp2, q_iEnum, q_kEn1, q_kEn2, q_sFor, q_kFor, q_sWhile, q_sPar, q_kPr0, q_kPr1, q_kPr2, q_kPr3, q_noPk1, q_noPk2, q_sPar3, q_kPt0, q_kPt1, q_kPt2, q_kPt3, q_kPt4, q_eMt, q_kMt0, q_kMt1, q_kMt1b, q_kMt2, q_kMt3, q_rdA1, q_rdA2, q_sPut, q_kPu0, q_kPu1, q_kPu2, q_kPu2b, q_kPu3, q_kPu4, q_stepL, q_kStw, q_kStx1, q_kStx2, q_kSty, q_kStz, startD_c, startD_n, startD_0, wipeD, backD, List.map_cons, List.map_nil, List.append_nil, List.nil_append, List.cons_append, List.getElem?_cons_zero, List.getElem?_cons_succ, List.set_cons_zero, List.set_cons_succ, List.length_cons, List.length_nil, Nat.reduceAdd, Nat.reduceLT, Nat.reduceLeDiff, Nat.zero_lt_succ, Nat.zero_lt_one, Bool.not_true, Bool.not_false, Bool.and_self, Bool.and_true, Bool.true_and, Bool.or_false, Bool.false_or, Bool.false_and, Bool.and_false, Bool.or_true, Bool.true_or, rets_ok, retsO_ok, retsN_ok, rets0_ok, true_and, and_true, and_self, y_kIfE, y_kTA, y_kTO, y_kAnd, y_kOr, y_kStx, y_if, y_fz, y_and, y_or, y_andD, y_orD, if_true, if_false, Bool.false_eq_true, Bool.true_eq_false, reduceIte, rb, ri, rs, Option.map_some, Option.bind_some, itemsOf, itemsZ, turn_ok, dIx_at hs (ht.lt i hi)]
  have k3 : ∀ (a d e f g : Option Sl), eLc (iRng rng1 (aCons (eVar 2) aNil)) (gNm 8) tTrue (eIf (tB1 (DL.e2 dIn (eVar 8) (eVar 3))) (DL.e2 dIx (eVar 1) (eVar 8)) (eC (.str [48]))) [8] [a, some (.fz (.str s)), some (.fz (.int (s.length : Nat))), some (.fz (tD th)), d, e, f, g, none] = .ok (.ow (.lst ((List.range s.length).map fun i => cD (if i ∈ th then s.getD i 48 else 48)))) [a, some (.fz (.str s)), some (.fz (.int (s.length : Nat))), some (.fz (tD th)), d, e, f, g, none] := by
    intro a d e f g
    refine eLc_all (fun (i : Nat) => D.int (i : Int)) (List.range s.length) _ (iRng_n _ 2 rfl hs.len) rfl (by rw [List.length_range]; exact hs.sm) (fun i hi => ?_)
    have hi := List.mem_range.mp hi
    simp only [bind_ok, bind_exc, bind_stuck, q_eVar, q_kVar1, q_kVar2, q_eC, q_peek1, q_peek2, q_peek3, q_kPk1, q_kPk2, q_frz1, q_frz2, q_frz3, q_kFz1, q_kFz2, q_peekL0, q_peekL1, q_kpl1, q_kfl1, q_kpl2, q_frzL0, q_frzL1, q_ans1, q_ans2, q_ans3, q_k2_eCB, q_k1_eCB, q_eCB, q_k2_e1, q_k1_e1, q_e1, q_k4_e2, q_k3_e2, q_k2_e2, q_k1_e2, q_e2, q_kch1, q_kch2, q_kch3, q_kch4, q_k4_e3c, q_k3_e3c, q_k2_e3c, q_k1_e3c, q_e3c, q_eIf, q_kIfE1, q_kIfE2, q_eAnd, q_kAnd1, q_kAnd2, q_eOr, q_kOr1, q_kOr2, q_eNot, q_kNot, q_eTup, q_eLst, q_kTup1, q_kLst1, q_kTupN0, q_kLstN0, q_kTupN1, q_kLstN1, q_kTupN2, q_kLstN2, q_kTupN3, q_kLstN3, q_kTupN4, q_kLstN4, q_kTupN5, q_kLstN5, q_kTupN6, q_kLstN6, q_kTupN7, q_kLstN7, q_kTupN8, q_kLstN8, q_kTupN9, q_kLstN9, q_pNo, q_pSo, q_kSo, q_k4_eSl, q_k3_eSl, q_k2_eSl, q_k1_eSl, q_eSl, q_eJoin, q_kJ0, q_kJ1, q_kJ2, q_k1_eCall, q_eCall, q_aNil, q_k2_aCons, q_k1_aCons, q_aCons, q_k2_eFz, q_k1_eFz, q_eFz, q_tB1, q_kB1, q_tTru, q_kTr0, q_kTr1, q_kTrb, q_truthB, q_kTr2, q_tAnd, q_tOr, q_tNot, q_kTA1, q_kTA2, q_kTO1, q_kTO2, q_kTN, q_tTrue, q_bNil, q_bCons, q_kBC1, q_kBC2, q_kBC3, q_kBC4, q_sPass, q_sBreak, q_sCont, q_sRetN, q_sExpr, q_kEx, q_sRet, q_kRt, q_sIf, q_kIf1, q_kIf2, q_kU, q_sSet, q_kSet, q_set1, q_set2, q_set3, q_kSl1, q_kSl2, q_gNm, q_gNms0, q_gNms1, q_kGs, q_gTp, q_gSq1, q_gSq2, q_sAsg, q_kAs0, q_kAs1, q_sAug, q_kAug, q_kAug1, q_kAug2, q_kAug3, q_eIter, q_kIt0, q_kIt1, q_kIt2, q_iRng, q_kRg0, q_kRg1, q_iZip, q_kZp1, q_kZp2, q_iEnum, q_kEn1, q_kEn2, q_sFor, q_kFor, q_sWhile, q_sPar, q_kPr0, q_kPr1, q_kPr2, q_kPr3, q_noPk1, q_noPk2, q_sPar3, q_kPt0, q_kPt1, q_kPt2, q_kPt3, q_kPt4, q_eMt, q_kMt0, q_kMt1, q_kMt1b, q_kMt2, q_kMt3, q_rdA1, q_rdA2, q_sPut, q_kPu0, q_kPu1, q_kPu2, q_kPu2b, q_kPu3, q_kPu4, q_stepL, q_kStw, q_kStx1, q_kStx2, q_kSty, q_kStz, startD_c, startD_n, startD_0, wipeD, backD, List.map_cons, List.map_nil, List.append_nil, List.nil_append, List.cons_append, List.getElem?_cons_zero, List.getElem?_cons_succ, List.set_cons_zero, List.set_cons_succ, List.length_cons, List.length_nil, Nat.reduceAdd, Nat.reduceLT, Nat.reduceLeDiff, Nat.zero_lt_succ, Nat.zero_lt_one, Bool.not_true, Bool.not_false, Bool.and_self, Bool.and_true, Bool.true_and, Bool.or_false, Bool.false_or, Bool.false_and, Bool.and_false, Bool.or_true, Bool.true_or, rets_ok, retsO_ok, retsN_ok, rets0_ok, true_and, and_true, and_self, y_kIfE, y_kTA, y_kTO, y_kAnd, y_kOr, y_kStx, y_if, y_fz, y_and, y_or, y_andD, y_orD, if_true, if_false, Bool.false_eq_true, Bool.true_eq_false, reduceIte, rb, ri, rs, Option.map_some, Option.bind_some, itemsOf, itemsZ, turn_ok, dIx_at hs hi, dIn_th]
    by_cases hm : i ∈ th <;> simp [hm]
  have j2 := dJoin_signs (fun t => s.getD t 48) th ht.sm
  have j3 := dJoin_signs (fun i => if i ∈ th then s.getD i 48 else 48) (List.range s.length) (by rw [List.length_range]; exact hs.sm)
  refine ⟨d2, h2, fun rest => call_l (as := [.str s]) (by decide) rfl rfl (by decide) ?_⟩
  exact row_right_run d d1 d2 (.str s) (tD th) _ _ _ _ _ _ _ _ _ _ _ _ _ [] _ e3 e1 e4 e5 e6 e7 k1 rfl e8 e9 e10 e11 e12 e13 e14 e15 e16 e17 k2 j2 e19 e18 e23 e2 e24 k3 j3 e25 _ e26 e27 e20 e28 e21 e22
theorem two_right_run (d d1 s t n th ap la lb ta tb rp up : D) (al : List D) (b1 : Bool)
  (e3 : dLen [s] = some (.val n))
  (e1 : ∀ rest : SD, callD 2 2 3 m__law_drawn_things [] [.pk 0, .fz n] (some (.ow d) :: rest) = .ok (.fz th) (some (.ow d1) :: rest))
  (e4 : ∀ σ, callD 2 2 2 m_apart [] [.fz s, .fz t] σ = .ok (.fz ap) σ)
  (e5 : ∀ σ, callD 2 2 4 m__law_apart [] [.fz s, .fz t] σ = .ok (.ow (.lst al)) σ)
  (tz : dTuple [.lst al] = some (.newT al))
  (e6 : dNe ap (.tup al) = some (.val (.bl false)))
  (e7 : ∀ σ, callD 2 2 2 m_laid_over [] [.fz s, .fz t] σ = .ok (.fz la) σ)
  (e8 : ∀ σ, callD 2 2 4 m__law_laid [] [.fz s, .fz t] σ = .ok (.fz la) σ)
  (e9 : dNe la la = some (.val (.bl false)))
  (e10 : ∀ σ, callD 2 2 2 m_is_upright [] [.fz s, .fz t] σ = .ok (.fz up) σ)
  (e11 : ∀ σ, callD 2 2 6 m__law_upright [] [.fz s, .fz t] σ = .ok (.fz up) σ)
  (x1 : dRepr [up] = some (.val rp)) (x2 : dNe rp rp = some (.val (.bl false)))
  (e12 : ∀ σ, callD 2 2 2 m_is_upright [] [.fz t, .fz s] σ = .ok (.fz up) σ)
  (e13 : dNe up up = some (.val (.bl false)))
  (e15 : ∀ σ, callD 2 2 2 m_laid_over [] [.fz t, .fz s] σ = .ok (.fz lb) σ)
  (e16 : dEq la lb = some (.val (.bl b1)))
  (e17 : dEq ap (.tup []) = some (.val (.bl b1)))
  (e18 : dNe (.bl b1) (.bl b1) = some (.val (.bl false)))
  (e19 : ∀ σ, callD 2 2 2 m_turned [] [.fz s, .fz th] σ = .ok (.fz ta) σ)
  (e20 : ∀ σ, callD 2 2 2 m_turned [] [.fz t, .fz th] σ = .ok (.fz tb) σ)
  (e21 : ∀ σ, callD 2 2 2 m_is_upright [] [.fz ta, .fz tb] σ = .ok (.fz up) σ)
  (e22 : ∀ σ, callD 2 2 2 m_apart [] [.fz ta, .fz tb] σ = .ok (.fz ap) σ)
  (e23 : dEq up up = some (.val (.bl true)))
  (e24 : dEq ap ap = some (.val (.bl true))) :
  Rets0 (m__law_are_two_right (startD 6 [.ow d, .fz s, .fz t])) (.bl true) d1 := by
  simp only [m__law_are_two_right, bind_ok, bind_exc, bind_stuck, q_eVar, q_kVar1, q_kVar2, q_eC, q_peek1, q_peek2, q_peek3, q_kPk1, q_kPk2, q_frz1, q_frz2, q_frz3, q_kFz1, q_kFz2, q_peekL0, q_peekL1, q_kpl1, q_kfl1, q_kpl2, q_frzL0, q_frzL1, q_ans1, q_ans2, q_ans3, q_k2_eCB, q_k1_eCB, q_eCB, q_k2_e1, q_k1_e1, q_e1, q_k4_e2, q_k3_e2, q_k2_e2, q_k1_e2, q_e2, q_kch1, q_kch2, q_kch3, q_kch4, q_k4_e3c, q_k3_e3c, q_k2_e3c, q_k1_e3c, q_e3c, q_eIf, q_kIfE1, q_kIfE2, q_eAnd, q_kAnd1, q_kAnd2, q_eOr, q_kOr1, q_kOr2, q_eNot, q_kNot, q_eTup, q_eLst, q_kTup1, q_kLst1, q_kTupN0, q_kLstN0, q_kTupN1, q_kLstN1, q_kTupN2, q_kLstN2, q_kTupN3, q_kLstN3, q_kTupN4, q_kLstN4, q_kTupN5, q_kLstN5, q_kTupN6, q_kLstN6, q_kTupN7, q_kLstN7, q_kTupN8, q_kLstN8, q_kTupN9, q_kLstN9, q_pNo, q_pSo, q_kSo, q_k4_eSl, q_k3_eSl, q_k2_eSl, q_k1_eSl, q_eSl, q_eJoin, q_kJ0, q_kJ1, q_kJ2, q_k1_eCall, q_eCall, q_aNil, q_k2_aCons, q_k1_aCons, q_aCons, q_k2_eFz, q_k1_eFz, q_eFz, q_tB1, q_kB1, q_tTru, q_kTr0, q_kTr1, q_kTrb, q_truthB, q_kTr2, q_tAnd, q_tOr, q_tNot, q_kTA1, q_kTA2, q_kTO1, q_kTO2, q_kTN, q_tTrue, q_bNil, q_bCons, q_kBC1, q_kBC2, q_kBC3, q_kBC4, q_sPass, q_sBreak, q_sCont, q_sRetN, q_sExpr, q_kEx, q_sRet, q_kRt, q_sIf, q_kIf1, q_kIf2, q_kU, q_sSet, q_kSet, q_set1, q_set2, q_set3, q_kSl1, q_kSl2, q_gNm, q_gNms0, q_gNms1, q_kGs, q_gTp, q_gSq1, q_gSq2, q_sAsg, q_kAs0, q_kAs1, q_sAug, q_kAug, q_kAug1, q_kAug2, q_kAug3, q_eIter, q_kIt0, q_kIt1, q_kIt2, q_iRng, q_kRg0, q_kRg1, q_iZip, q_kZp1, q_kZp2, q_iEnum, q_kEn1, q_kEn2, q_sFor, q_kFor, q_sWhile, q_sPar, q_kPr0, q_kPr1, q_kPr2, q_kPr3, q_noPk1, q_noPk2, q_sPar3, q_kPt0, q_kPt1, q_kPt2, q_kPt3, q_kPt4, q_eMt, q_kMt0, q_kMt1, q_kMt1b, q_kMt2, q_kMt3, q_rdA1, q_rdA2, q_sPut, q_kPu0, q_kPu1, q_kPu2, q_kPu2b, q_kPu3, q_kPu4, q_stepL, q_kStw, q_kStx1, q_kStx2, q_kSty, q_kStz, startD_c, startD_n, startD_0, wipeD, backD, List.map_cons, List.map_nil, List.append_nil, List.nil_append, List.cons_append, List.getElem?_cons_zero, List.getElem?_cons_succ, List.set_cons_zero, List.set_cons_succ, List.length_cons, List.length_nil, Nat.reduceAdd, Nat.reduceLT, Nat.reduceLeDiff, Nat.zero_lt_succ, Nat.zero_lt_one, Bool.not_true, Bool.not_false, Bool.and_self, Bool.and_true, Bool.true_and, Bool.or_false, Bool.false_or, Bool.false_and, Bool.and_false, Bool.or_true, Bool.true_or, rets_ok, retsO_ok, retsN_ok, rets0_ok, true_and, and_true, and_self, e3, e1, e4, e5, tz, e6, e7, e8, e9, e10, e11, x1, x2, e12, e13, e15, e16, e17, e18, e19, e20, e21, e22, e23, e24]
theorem c_two_right {d : D} (h : Dc d) {s t : List Nat} (hs : IsRow s) (ht : IsRow t) (hl : s.length = t.length) : ∃ d' : D, Dc d' ∧ ∀ rest : SD, callD 3 3 6 m__law_are_two_right [] [.pk 0, .fz (.str s), .fz (.str t)] (some (.ow d) :: rest) = .ok (.fz (.bl true)) (some (.ow d') :: rest) := by
  obtain ⟨th, d1, hth, h1, e1⟩ := c_drawn_things h hs.len
  have hth2 : IsThings th t.length := by rw [← hl]; exact hth
  have e3 := dLen_row hs
  have e4 := c_apart hs ht hl
  have e5 := c_lapart hs ht hl
  have tz : D.tup ((apK 0 s t).map fun (i : Nat) => D.int (i : Int)) = tD (apK 0 s t) := rfl
  have e6 := dNe_th (apK 0 s t)
  have e7 := c_laid_over hs ht hl
  have e8 := c_llaid hs ht
  have e9 := dNe_row (hs.laid ht hl)
  have e10 := c_is_upright hs ht hl
  have e11 := c_lupright hs ht hl
  have e12 := c_is_upright ht hs hl.symm
  rw [upN_comm t s] at e12
  have e13 : ∀ b : Bool, dNe (.bl b) (.bl b) = some (.val (.bl false)) := fun b => dNe_same rfl
  have e14 : ∀ b : Bool, ∃ x, dRepr [.bl b] = some (.val x) ∧ dNe x x = some (.val (.bl false)) := fun b => by cases b <;> exact ⟨_, rfl, rfl⟩
  obtain ⟨x, x1, x2⟩ := e14 (upN s t)
  have e15 := c_laid_over ht hs hl.symm
  have e16 : dEq (.str (laidN s t)) (.str (laidN t s)) = some (.val (.bl (decide (laidN s t = laidN t s)))) := by
    rw [dEq_of (hs.laid ht hl).ok (ht.laid hs hl.symm).ok, deq_str]
  have e17 : dEq (tD (apK 0 s t)) (.tup []) = some (.val (.bl (decide (apK 0 s t = [])))) := by
    have := dEq_nilT _ (good_th (apK 0 s t))
    simp only [List.map_eq_nil_iff] at this
    exact this
  have e18 : decide (laidN s t = laidN t s) = decide (apK 0 s t = []) := decide_eq_decide.mpr (laid_comm 0 s t hs.sg ht.sg hl)
  rw [e18] at e16
  have e19 := c_turned hs hth
  have e20 := c_turned ht hth2
  have hl2 : (tA th 0 s).length = (tA th 0 t).length := by rw [tA_len, tA_len, hl]
  have e21 := c_is_upright (hs.tA th) (ht.tA th) hl2
  rw [upN_tA th 0 s t hs.sg ht.sg] at e21
  have e22 := c_apart (hs.tA th) (ht.tA th) hl2
  rw [apK_tA th 0 s t hs.sg ht.sg] at e22
  have e23 : ∀ b : Bool, dEq (.bl b) (.bl b) = some (.val (.bl true)) := fun b => dEq_same rfl
  have e24 : dEq (tD (apK 0 s t)) (tD (apK 0 s t)) = some (.val (.bl true)) := dEq_same (good_th _)
  refine ⟨d1, h1, fun rest => call_l (as := [.str s, .str t]) (by decide) rfl rfl (by decide) ?_⟩
  exact two_right_run d d1 (.str s) (.str t) _ _ _ _ _ _ _ _ _ _ _ e3 e1 e4 e5 rfl e6 e7 e8 e9 e10 e11 x1 x2 e12 (e13 _) e15 e16 e17 (e13 _) e19 e20 e21 e22 (e23 _) e24
end W_k00

namespace W_k00
open PySem L2 DL PN
abbrev rowsC : M Rs := eLc (iRng rng1 (aCons (eC (.int 3)) aNil)) (gNm 7) tTrue (eCall 2 2 3 m__law_drawn_row [] (aCons (eVar 0) (aCons (eVar 1) aNil))) [7]
abbrev oneC : M Rs := eLc (eIter (eTup (aCons (eVar 2) (aCons (eVar 3) (aCons (eVar 5) aNil))))) (gNm 9) tTrue (eCall 2 2 9 m__law_is_row_right [] (aCons (eVar 0) (aCons (eVar 9) aNil))) [9]
abbrev twoC : M Rs := eLc (eIter (eVar 6)) (gNm 8) tTrue (eCall 3 3 6 m__law_are_two_right [] (aCons (eVar 0) (aCons (e2 dIx (eVar 8) (eC (.int 0))) (aCons (e2 dIx (eVar 8) (eC (.int 1))) aNil)))) [8]
theorem right_run (d d1 d2 d3 d4 d5 n s1 s2 s3 sk th ts zz l12 l23 l123 : D) (bs cs : List D) (x1 x2 x3 x4 x5 x6 x7 x8 x9 : Option Sl)
  (e1 : ∀ rest : SD, callD 2 2 5 m__law_roll [] [.pk 0, .fz (.int 10)] (some (.ow d) :: rest) = .ok (.fz n) (some (.ow d1) :: rest))
  (k1 : rowsC [some (.ow d1), some (.fz n), none, none, none, none, none, none, none, none] = .ok (.ow (.lst [s1, s2, s3])) [some (.ow d2), some (.fz n), none, none, none, none, none, none, none, none])
  (e2 : ∀ rest : SD, callD 2 2 3 m__law_drawn_things [] [.pk 0, .fz n] (some (.ow d2) :: rest) = .ok (.fz th) (some (.ow d3) :: rest))
  (e3 : ∀ σ, callD 2 2 4 m__law_turn_at [] [.fz s1, .fz th] σ = .ok (.fz sk) σ)
  (k2 : oneC [some (.ow d3), some (.fz n), some (.fz s1), some (.fz s2), some (.fz s3), some (.fz sk), none, none, none, none] = .ok (.ow (.lst bs)) [some (.ow d4), some (.fz n), some (.fz s1), some (.fz s2), some (.fz s3), some (.fz sk), none, none, none, none])
  (a2 : dAll [.lst bs] = some (.val (.bl true)))
  (e4 : ∀ σ, callD 2 2 2 m_laid_over [] [.fz s1, .fz s2] σ = .ok (.fz l12) σ)
  (e5 : ∀ σ, callD 2 2 2 m_laid_over [] [.fz s2, .fz s3] σ = .ok (.fz l23) σ)
  (e6 : ∀ σ, callD 2 2 2 m_laid_over [] [.fz l12, .fz s3] σ = .ok (.fz l123) σ)
  (e7 : ∀ σ, callD 2 2 2 m_laid_over [] [.fz s1, .fz l23] σ = .ok (.fz l123) σ)
  (e8 : dNe l123 l123 = some (.val (.bl false)))
  (e9 : ∀ σ, callD 1 1 2 m__law_turn [] [.fz s1] σ = .ok (.fz ts) σ)
  (e10 : dMul (.str [48]) n = some (.val zz))
  (k3 : twoC [some (.ow d4), some (.fz n), some (.fz s1), some (.fz s2), some (.fz s3), some (.fz sk), some (.ow (.lst [.tup [s1, s2], .tup [s2, s3], .tup [s1, sk], .tup [s1, ts], .tup [s1, s1], .tup [s1, zz]])), none, none, none] = .ok (.ow (.lst cs)) [x1, x2, x3, x4, x5, x6, x7, x8, x9, none])
  (a3 : dAll [.lst cs] = some (.val (.bl true))) : Rets (m__law_right (startD 10 [.ow d])) (.bl true) := by
  simp only [m__law_right, bind_ok, bind_exc, bind_stuck, q_eVar, q_kVar1, q_kVar2, q_eC, q_peek1, q_peek2, q_peek3, q_kPk1, q_kPk2, q_frz1, q_frz2, q_frz3, q_kFz1, q_kFz2, q_peekL0, q_peekL1, q_kpl1, q_kfl1, q_kpl2, q_frzL0, q_frzL1, q_ans1, q_ans2, q_ans3, q_k2_eCB, q_k1_eCB, q_eCB, q_k2_e1, q_k1_e1, q_e1, q_k4_e2, q_k3_e2, q_k2_e2, q_k1_e2, q_e2, q_kch1, q_kch2, q_kch3, q_kch4, q_k4_e3c, q_k3_e3c, q_k2_e3c, q_k1_e3c, q_e3c, q_eIf, q_kIfE1, q_kIfE2, q_eAnd, q_kAnd1, q_kAnd2, q_eOr, q_kOr1, q_kOr2, q_eNot, q_kNot, q_eTup, q_eLst, q_kTup1, q_kLst1, q_kTupN0, q_kLstN0, q_kTupN1, q_kLstN1, q_kTupN2, q_kLstN2, q_kTupN3, q_kLstN3, q_kTupN4, q_kLstN4, q_kTupN5, q_kLstN5, q_kTupN6, q_kLstN6, q_kTupN7, q_kLstN7, q_kTupN8, q_kLstN8, q_kTupN9, q_kLstN9, q_pNo, q_pSo, q_kSo, q_k4_eSl, q_k3_eSl, q_k2_eSl, q_k1_eSl, q_eSl, q_eJoin, q_kJ0, q_kJ1, q_kJ2, q_k1_eCall, q_eCall, q_aNil, q_k2_aCons, q_k1_aCons, q_aCons, q_k2_eFz, q_k1_eFz, q_eFz, q_tB1, q_kB1, q_tTru, q_kTr0, q_kTr1, q_kTrb, q_truthB, q_kTr2, q_tAnd, q_tOr, q_tNot, q_kTA1, q_kTA2, q_kTO1, q_kTO2, q_kTN, q_tTrue, q_bNil, q_bCons, q_kBC1, q_kBC2, q_kBC3, q_kBC4, q_sPass, q_sBreak, q_sCont, q_sRetN, q_sExpr, q_kEx, q_sRet, q_kRt, q_sIf, q_kIf1, q_kIf2, q_kU, q_sSet, q_kSet, q_set1, q_set2, q_set3, q_kSl1, q_kSl2, q_gNm, q_gNms0, q_gNms1, q_kGs, q_gTp, q_gSq1, q_gSq2, q_sAsg, q_kAs0, q_kAs1, q_sAug, q_kAug, q_kAug1, q_kAug2, q_kAug3, q_eIter, q_kIt0, q_kIt1, q_kIt2, q_iRng, q_kRg0, q_kRg1, q_iZip, q_kZp1, q_kZp2, q_iEnum, q_kEn1, q_kEn2, q_sFor, q_kFor, q_sWhile, q_sPar, q_kPr0, q_kPr1, q_kPr2, q_kPr3, q_noPk1, q_noPk2, q_sPar3, q_kPt0, q_kPt1, q_kPt2, q_kPt3, q_kPt4, q_eMt, q_kMt0, q_kMt1, q_kMt1b, q_kMt2, q_kMt3, q_rdA1, q_rdA2, q_sPut, q_kPu0, q_kPu1, q_kPu2, q_kPu2b, q_kPu3, q_kPu4, q_stepL, q_kStw, q_kStx1, q_kStx2, q_kSty, q_kStz, startD_c, startD_n, startD_0, wipeD, backD, List.map_cons, List.map_nil, List.append_nil, List.nil_append, List.cons_append, List.getElem?_cons_zero, List.getElem?_cons_succ, List.set_cons_zero, List.set_cons_succ, List.length_cons, List.length_nil, Nat.reduceAdd, Nat.reduceLT, Nat.reduceLeDiff, Nat.zero_lt_succ, Nat.zero_lt_one, Bool.not_true, Bool.not_false, Bool.and_self, Bool.and_true, Bool.true_and, Bool.or_false, Bool.false_or, Bool.false_and, Bool.and_false, Bool.or_true, Bool.true_or, rets_ok, retsO_ok, retsN_ok, rets0_ok, true_and, and_true, and_self, e1, k1, e2, e3, k2, a2, e4, e5, e6, e7, e8, e9, e10, k3, a3]
/-- a list of True -/
theorem qs_true (qs : List (D × Option D)) (h : ∀ q ∈ qs, q.2 = some (.bl true)) : dAll [.lst (qs.filterMap (·.2))] = some (.val (.bl true)) := dAll_true (fun d hd => by
  obtain ⟨q, hq, e⟩ := mem_filterMap hd
  rw [h q hq] at e
  exact (Option.some.inj e).symm)
theorem rows_run (n : D) (it0 : iRng rng1 (aCons (eC (.int 3)) aNil) = fun σ => .ok [.int 0, .int 1, .int 2] σ) {d1 : D} (h1 : Dc d1) (dr : ∀ d, Dc d → ∃ (s : List Nat) (d' : D), (IsRow s ∧ n = .int (s.length : Nat)) ∧ Dc d' ∧ ∀ rest : SD, callD 2 2 3 m__law_drawn_row [] [.pk 0, .fz n] (some (.ow d) :: rest) = .ok (.fz (.str s)) (some (.ow d') :: rest)) :
    ∃ (s1 s2 s3 : List Nat) (d2 : D), (IsRow s1 ∧ n = .int (s1.length : Nat)) ∧ (IsRow s2 ∧ n = .int (s2.length : Nat)) ∧ (IsRow s3 ∧ n = .int (s3.length : Nat)) ∧ Dc d2 ∧ rowsC [some (.ow d1), some (.fz n), none, none, none, none, none, none, none, none] = .ok (.ow (.lst [.str s1, .str s2, .str s3])) [some (.ow d2), some (.fz n), none, none, none, none, none, none, none, none] := by
  obtain ⟨qs, σ', k1, k2, k3, d', v, hd', rfl⟩ := eLc_run (it := iRng rng1 (aCons (eC (.int 3)) aNil)) (g := gNm 7) (t := tTrue) (elt := eCall 2 2 3 m__law_drawn_row [] (aCons (eVar 0) (aCons (eVar 1) aNil))) (vs := [7])
    (σ := [some (.ow d1), some (.fz n), none, none, none, none, none, none, none, none]) (fun σ => ∃ (d : D) (v : Option Sl), Dc d ∧ σ = [some (.ow d), some (.fz n), none, none, none, none, none, v, none, none]) (fun _ r => ∃ s : List Nat, (IsRow s ∧ n = .int (s.length : Nat)) ∧ r = some (.str s))
    (by rw [it0]) rfl (by decide) ⟨d1, none, h1, rfl⟩ (fun σ ⟨d, v, hd, e⟩ => ⟨d, none, hd, by subst e; rfl⟩) (fun x hx σ ⟨d, v, hd, e⟩ => by
      subst e
      obtain ⟨s, d', hs, hd', e⟩ := dr d hd
      refine ⟨some (.str s), [some (.ow d'), some (.fz n), none, none, none, none, none, some (.fz x), none, none], ?_, ⟨d', _, hd', rfl⟩, s, hs, rfl⟩
      simp only [bind_ok, bind_exc, bind_stuck, q_eVar, q_kVar1, q_kVar2, q_eC, q_peek1, q_peek2, q_peek3, q_kPk1, q_kPk2, q_frz1, q_frz2, q_frz3, q_kFz1, q_kFz2, q_peekL0, q_peekL1, q_kpl1, q_kfl1, q_kpl2, q_frzL0, q_frzL1, q_ans1, q_ans2, q_ans3, q_k2_eCB, q_k1_eCB, q_eCB, q_k2_e1, q_k1_e1, q_e1, q_k4_e2, q_k3_e2, q_k2_e2, q_k1_e2, q_e2, q_kch1, q_kch2, q_kch3, q_kch4, q_k4_e3c, q_k3_e3c, q_k2_e3c, q_k1_e3c, q_e3c, q_eIf, q_kIfE1, q_kIfE2, q_eAnd, q_kAnd1, q_kAnd2, q_eOr, q_kOr1, q_kOr2, q_eNot, q_kNot, q_eTup, q_eLst, q_kTup1, q_kLst1, q_kTupN0, q_kLstN0, q_kTupN1, q_kLstN1, q_kTupN2, q_kLstN2, q_kTupN3, q_kLstN3, q_kTupN4, q_kLstN4, q_kTupN5, q_kLstN5, q_kTupN6, q_kLstN6, q_kTupN7, q_kLstN7, q_kTupN8, q_kLstN8, q_kTupN9, q_kLstN9, q_pNo, q_pSo, q_kSo, q_k4_eSl, q_k3_eSl, q_k2_eSl, q_k1_eSl, q_eSl, q_eJoin, q_kJ0, q_kJ1, q_kJ2, q_k1_eCall, q_eCall, q_aNil, q_k2_aCons, q_k1_aCons, q_aCons, q_k2_eFz, q_k1_eFz, q_eFz, q_tB1, q_kB1, q_tTru, q_kTr0, q_kTr1, q_kTrb, q_truthB, q_kTr2, q_tAnd, q_tOr, q_tNot, q_kTA1, q_kTA2, q_kTO1, q_kTO2, q_kTN, q_tTrue, q_bNil, q_bCons, q_kBC1, q_kBC2, q_kBC3, q_kBC4, q_sPass, q_sBreak, q_sCont, q_sRetN, q_sExpr, q_kEx, q_sRet, q_kRt, q_sIf, q_kIf1, q_kIf2, q_kU, q_sSet, q_kSet, q_set1, q_set2, q_set3, q_kSl1, q_kSl2, q_gNm, q_gNms0, q_gNms1, q_kGs, q_gTp, q_gSq1, q_gSq2, q_sAsg, q_kAs0, q_kAs1, q_sAug, q_kAug, q_kAug1, q_kAug2, q_kAug3, q_eIter, q_kIt0, q_kIt1, q_kIt2, q_iRng, q_kRg0, q_kRg1, q_iZip, q_kZp1, q_kZp2, q_iEnum, q_kEn1, q_kEn2, q_sFor, q_kFor, q_sWhile, q_sPar, q_kPr0, q_kPr1, q_kPr2, q_kPr3, q_noPk1, q_noPk2, q_sPar3, q_kPt0, q_kPt1, q_kPt2, q_kPt3, q_kPt4, q_eMt, q_kMt0, q_kMt1, q_kMt1b, q_kMt2, q_kMt3, q_rdA1, q_rdA2, q_sPut, q_kPu0, q_kPu1, q_kPu2, q_kPu2b, q_kPu3, q_kPu4, q_stepL, q_kStw, q_kStx1, q_kStx2, q_kSty, q_kStz, startD_c, startD_n, startD_0, wipeD, backD, List.map_cons, List.map_nil, List.append_nil, List.nil_append, List.cons_append, List.getElem?_cons_zero, List.getElem?_cons_succ, List.set_cons_zero, List.set_cons_succ, List.length_cons, List.length_nil, Nat.reduceAdd, Nat.reduceLT, Nat.reduceLeDiff, Nat.zero_lt_succ, Nat.zero_lt_one, Bool.not_true, Bool.not_false, Bool.and_self, Bool.and_true, Bool.true_and, Bool.or_false, Bool.false_or, Bool.false_and, Bool.and_false, Bool.or_true, Bool.true_or, rets_ok, retsO_ok, retsN_ok, rets0_ok, true_and, and_true, and_self, e])
  obtain ⟨cs, c1, c2, c3⟩ := qs_enc D.str (fun s => IsRow s ∧ n = .int (s.length : Nat)) qs k2
  have hl : cs.length = 3 := by
    rw [c3, ← List.length_map (f := fun q : D × Option D => q.1) (as := qs), k1]
    rfl
  rw [c1] at k3
  match cs, hl, c2, k3 with
  | [s1, s2, s3], _, c2, k3 => exact ⟨s1, s2, s3, d', c2 s1 (by simp), c2 s2 (by simp), c2 s3 (by simp), hd', k3⟩
theorem one_run (n s1 s2 s3 sk : D) {d3 : D} (h : Dc d3) (rr : ∀ x ∈ [s1, s2, sk], ∀ d, Dc d → ∃ d' : D, Dc d' ∧ ∀ rest : SD, callD 2 2 9 m__law_is_row_right [] [.pk 0, .fz x] (some (.ow d) :: rest) = .ok (.fz (.bl true)) (some (.ow d') :: rest)) :
    ∃ (bs : List D) (d4 : D), Dc d4 ∧ dAll [.lst bs] = some (.val (.bl true)) ∧ oneC [some (.ow d3), some (.fz n), some (.fz s1), some (.fz s2), some (.fz s3), some (.fz sk), none, none, none, none] = .ok (.ow (.lst bs)) [some (.ow d4), some (.fz n), some (.fz s1), some (.fz s2), some (.fz s3), some (.fz sk), none, none, none, none] := by
  obtain ⟨qs, σ', k1, k2, k3, d', v, hd', rfl⟩ := eLc_run (it := eIter (eTup (aCons (eVar 2) (aCons (eVar 3) (aCons (eVar 5) aNil))))) (g := gNm 9) (t := tTrue) (elt := eCall 2 2 9 m__law_is_row_right [] (aCons (eVar 0) (aCons (eVar 9) aNil))) (vs := [9])
    (σ := [some (.ow d3), some (.fz n), some (.fz s1), some (.fz s2), some (.fz s3), some (.fz sk), none, none, none, none]) (ds := [s1, s2, sk]) (fun σ => ∃ (d : D) (v : Option Sl), Dc d ∧ σ = [some (.ow d), some (.fz n), some (.fz s1), some (.fz s2), some (.fz s3), some (.fz sk), none, none, none, v]) (fun _ r => r = some (.bl true))
    (by simp only [bind_ok, bind_exc, bind_stuck, q_eVar, q_kVar1, q_kVar2, q_eC, q_peek1, q_peek2, q_peek3, q_kPk1, q_kPk2, q_frz1, q_frz2, q_frz3, q_kFz1, q_kFz2, q_peekL0, q_peekL1, q_kpl1, q_kfl1, q_kpl2, q_frzL0, q_frzL1, q_ans1, q_ans2, q_ans3, q_k2_eCB, q_k1_eCB, q_eCB, q_k2_e1, q_k1_e1, q_e1, q_k4_e2, q_k3_e2, q_k2_e2, q_k1_e2, q_e2, q_kch1, q_kch2, q_kch3, q_kch4, q_k4_e3c, q_k3_e3c, q_k2_e3c, q_k1_e3c, q_e3c, q_eIf, q_kIfE1, q_kIfE2, q_eAnd, q_kAnd1, q_kAnd2, q_eOr, q_kOr1, q_kOr2, q_eNot, q_kNot, q_eTup, q_eLst, q_kTup1, q_kLst1, q_kTupN0, q_kLstN0, q_kTupN1, q_kLstN1, q_kTupN2, q_kLstN2, q_kTupN3, q_kLstN3, q_kTupN4, q_kLstN4, q_kTupN5, q_kLstN5, q_kTupN6, q_kLstN6, q_kTupN7, q_kLstN7, q_kTupN8, q_kLstN8, q_kTupN9, q_kLstN9, q_pNo, q_pSo, q_kSo, q_k4_eSl, q_k3_eSl, q_k2_eSl, q_k1_eSl, q_eSl, q_eJoin, q_kJ0, q_kJ1, q_kJ2, q_k1_eCall, q_eCall, q_aNil, q_k2_aCons, q_k1_aCons, q_aCons, q_k2_eFz, q_k1_eFz, q_eFz, q_tB1, q_kB1, q_tTru, q_kTr0, q_kTr1, q_kTrb, q_truthB, q_kTr2, q_tAnd, q_tOr, q_tNot, q_kTA1, q_kTA2, q_kTO1, q_kTO2, q_kTN, q_tTrue, q_bNil, q_bCons, q_kBC1, q_kBC2, q_kBC3, q_kBC4, q_sPass, q_sBreak, q_sCont, q_sRetN, q_sExpr, q_kEx, q_sRet, q_kRt, q_sIf, q_kIf1, q_kIf2, q_kU, q_sSet, q_kSet, q_set1, q_set2, q_set3, q_kSl1, q_kSl2, q_gNm, q_gNms0, q_gNms1, q_kGs, q_gTp, q_gSq1, q_gSq2, q_sAsg, q_kAs0, q_kAs1, q_sAug, q_kAug, q_kAug1, q_kAug2, q_kAug3, q_eIter, q_kIt0, q_kIt1, q_kIt2, q_iRng, q_kRg0, q_kRg1, q_iZip, q_kZp1, q_kZp2, q_iEnum, q_kEn1, q_kEn2, q_sFor, q_kFor, q_sWhile, q_sPar, q_kPr0, q_kPr1, q_kPr2, q_kPr3, q_noPk1, q_noPk2, q_sPar3, q_kPt0, q_kPt1, q_kPt2, q_kPt3, q_kPt4, q_eMt, q_kMt0, q_kMt1, q_kMt1b, q_kMt2, q_kMt3, q_rdA1, q_rdA2, q_sPut, q_kPu0, q_kPu1, q_kPu2, q_kPu2b, q_kPu3, q_kPu4, q_stepL, q_kStw, q_kStx1, q_kStx2, q_kSty, q_kStz, startD_c, startD_n, startD_0, wipeD, backD, List.map_cons, List.map_nil, List.append_nil, List.nil_append, List.cons_append, List.getElem?_cons_zero, List.getElem?_cons_succ, List.set_cons_zero, List.set_cons_succ, List.length_cons, List.length_nil, Nat.reduceAdd, Nat.reduceLT, Nat.reduceLeDiff, Nat.zero_lt_succ, Nat.zero_lt_one, Bool.not_true, Bool.not_false, Bool.and_self, Bool.and_true, Bool.true_and, Bool.or_false, Bool.false_or, Bool.false_and, Bool.and_false, Bool.or_true, Bool.true_or, rets_ok, retsO_ok, retsN_ok, rets0_ok, true_and, and_true, and_self, itemsOf]) rfl (show 3 ≤ 16777216 by decide) ⟨d3, none, h, rfl⟩ (fun σ ⟨d, v, hd, e⟩ => ⟨d, none, hd, by subst e; rfl⟩) (fun x hx σ ⟨d, v, hd, e⟩ => by
      subst e
      obtain ⟨d', hd', e⟩ := rr x hx d hd
      refine ⟨some (.bl true), [some (.ow d'), some (.fz n), some (.fz s1), some (.fz s2), some (.fz s3), some (.fz sk), none, none, none, some (.fz x)], ?_, ⟨d', _, hd', rfl⟩, rfl⟩
      simp only [bind_ok, bind_exc, bind_stuck, q_eVar, q_kVar1, q_kVar2, q_eC, q_peek1, q_peek2, q_peek3, q_kPk1, q_kPk2, q_frz1, q_frz2, q_frz3, q_kFz1, q_kFz2, q_peekL0, q_peekL1, q_kpl1, q_kfl1, q_kpl2, q_frzL0, q_frzL1, q_ans1, q_ans2, q_ans3, q_k2_eCB, q_k1_eCB, q_eCB, q_k2_e1, q_k1_e1, q_e1, q_k4_e2, q_k3_e2, q_k2_e2, q_k1_e2, q_e2, q_kch1, q_kch2, q_kch3, q_kch4, q_k4_e3c, q_k3_e3c, q_k2_e3c, q_k1_e3c, q_e3c, q_eIf, q_kIfE1, q_kIfE2, q_eAnd, q_kAnd1, q_kAnd2, q_eOr, q_kOr1, q_kOr2, q_eNot, q_kNot, q_eTup, q_eLst, q_kTup1, q_kLst1, q_kTupN0, q_kLstN0, q_kTupN1, q_kLstN1, q_kTupN2, q_kLstN2, q_kTupN3, q_kLstN3, q_kTupN4, q_kLstN4, q_kTupN5, q_kLstN5, q_kTupN6, q_kLstN6, q_kTupN7, q_kLstN7, q_kTupN8, q_kLstN8, q_kTupN9, q_kLstN9, q_pNo, q_pSo, q_kSo, q_k4_eSl, q_k3_eSl, q_k2_eSl, q_k1_eSl, q_eSl, q_eJoin, q_kJ0, q_kJ1, q_kJ2, q_k1_eCall, q_eCall, q_aNil, q_k2_aCons, q_k1_aCons, q_aCons, q_k2_eFz, q_k1_eFz, q_eFz, q_tB1, q_kB1, q_tTru, q_kTr0, q_kTr1, q_kTrb, q_truthB, q_kTr2, q_tAnd, q_tOr, q_tNot, q_kTA1, q_kTA2, q_kTO1, q_kTO2, q_kTN, q_tTrue, q_bNil, q_bCons, q_kBC1, q_kBC2, q_kBC3, q_kBC4, q_sPass, q_sBreak, q_sCont, q_sRetN, q_sExpr, q_kEx, q_sRet, q_kRt, q_sIf, q_kIf1, q_kIf2, q_kU, q_sSet, q_kSet, q_set1, q_set2, q_set3, q_kSl1, q_kSl2, q_gNm, q_gNms0, q_gNms1, q_kGs, q_gTp, q_gSq1, q_gSq2, q_sAsg, q_kAs0, q_kAs1, q_sAug, q_kAug, q_kAug1, q_kAug2, q_kAug3, q_eIter, q_kIt0, q_kIt1, q_kIt2, q_iRng, q_kRg0, q_kRg1, q_iZip, q_kZp1, q_kZp2, q_iEnum, q_kEn1, q_kEn2, q_sFor, q_kFor, q_sWhile, q_sPar, q_kPr0, q_kPr1, q_kPr2, q_kPr3, q_noPk1, q_noPk2, q_sPar3, q_kPt0, q_kPt1, q_kPt2, q_kPt3, q_kPt4, q_eMt, q_kMt0, q_kMt1, q_kMt1b, q_kMt2, q_kMt3, q_rdA1, q_rdA2, q_sPut, q_kPu0, q_kPu1, q_kPu2, q_kPu2b, q_kPu3, q_kPu4, q_stepL, q_kStw, q_kStx1, q_kStx2, q_kSty, q_kStz, startD_c, startD_n, startD_0, wipeD, backD, List.map_cons, List.map_nil, List.append_nil, List.nil_append, List.cons_append, List.getElem?_cons_zero, List.getElem?_cons_succ, List.set_cons_zero, List.set_cons_succ, List.length_cons, List.length_nil, Nat.reduceAdd, Nat.reduceLT, Nat.reduceLeDiff, Nat.zero_lt_succ, Nat.zero_lt_one, Bool.not_true, Bool.not_false, Bool.and_self, Bool.and_true, Bool.true_and, Bool.or_false, Bool.false_or, Bool.false_and, Bool.and_false, Bool.or_true, Bool.true_or, rets_ok, retsO_ok, retsN_ok, rets0_ok, true_and, and_true, and_self, e])
  exact ⟨_, d', hd', qs_true qs k2, k3⟩
theorem two_run (n s1 s2 s3 sk : D) (ps : List (D × D)) {d3 : D} (h : Dc d3) (hn : ps.length ≤ 16777216) (rr : ∀ p ∈ ps, ∀ d, Dc d → ∃ d' : D, Dc d' ∧ ∀ rest : SD, callD 3 3 6 m__law_are_two_right [] [.pk 0, .fz p.1, .fz p.2] (some (.ow d) :: rest) = .ok (.fz (.bl true)) (some (.ow d') :: rest)) :
    ∃ (bs : List D) (d4 : D) (x7 : Option Sl), Dc d4 ∧ dAll [.lst bs] = some (.val (.bl true)) ∧ twoC [some (.ow d3), some (.fz n), some (.fz s1), some (.fz s2), some (.fz s3), some (.fz sk), some (.ow (.lst (ps.map fun p => .tup [p.1, p.2]))), none, none, none] = .ok (.ow (.lst bs)) [some (.ow d4), some (.fz n), some (.fz s1), some (.fz s2), some (.fz s3), some (.fz sk), x7, none, none, none] := by
  have ix0 : ∀ a b : D, dIx (.tup [a, b]) (.int 0) = some (.val a) := fun _ _ => rfl
  have ix1 : ∀ a b : D, dIx (.tup [a, b]) (.int 1) = some (.val b) := fun _ _ => rfl
  obtain ⟨qs, σ', k1, k2, k3, d', v, hd', rfl⟩ := eLc_run (it := eIter (eVar 6)) (g := gNm 8) (t := tTrue) (elt := eCall 3 3 6 m__law_are_two_right [] (aCons (eVar 0) (aCons (DL.e2 dIx (eVar 8) (eC (.int 0))) (aCons (DL.e2 dIx (eVar 8) (eC (.int 1))) aNil)))) (vs := [8])
    (σ := [some (.ow d3), some (.fz n), some (.fz s1), some (.fz s2), some (.fz s3), some (.fz sk), some (.ow (.lst (ps.map fun p => .tup [p.1, p.2]))), none, none, none]) (σ1 := [some (.ow d3), some (.fz n), some (.fz s1), some (.fz s2), some (.fz s3), some (.fz sk), some (.fz (.lst (ps.map fun p => .tup [p.1, p.2]))), none, none, none]) (ds := ps.map fun p => .tup [p.1, p.2])
    (fun σ => ∃ (d : D) (v : Option Sl), Dc d ∧ σ = [some (.ow d), some (.fz n), some (.fz s1), some (.fz s2), some (.fz s3), some (.fz sk), some (.fz (.lst (ps.map fun p => .tup [p.1, p.2]))), none, v, none]) (fun _ r => r = some (.bl true))
    (by simp only [bind_ok, bind_exc, bind_stuck, q_eVar, q_kVar1, q_kVar2, q_eC, q_peek1, q_peek2, q_peek3, q_kPk1, q_kPk2, q_frz1, q_frz2, q_frz3, q_kFz1, q_kFz2, q_peekL0, q_peekL1, q_kpl1, q_kfl1, q_kpl2, q_frzL0, q_frzL1, q_ans1, q_ans2, q_ans3, q_k2_eCB, q_k1_eCB, q_eCB, q_k2_e1, q_k1_e1, q_e1, q_k4_e2, q_k3_e2, q_k2_e2, q_k1_e2, q_e2, q_kch1, q_kch2, q_kch3, q_kch4, q_k4_e3c, q_k3_e3c, q_k2_e3c, q_k1_e3c, q_e3c, q_eIf, q_kIfE1, q_kIfE2, q_eAnd, q_kAnd1, q_kAnd2, q_eOr, q_kOr1, q_kOr2, q_eNot, q_kNot, q_eTup, q_eLst, q_kTup1, q_kLst1, q_kTupN0, q_kLstN0, q_kTupN1, q_kLstN1, q_kTupN2, q_kLstN2, q_kTupN3, q_kLstN3, q_kTupN4, q_kLstN4, q_kTupN5, q_kLstN5, q_kTupN6, q_kLstN6, q_kTupN7, q_kLstN7, q_kTupN8, q_kLstN8, q_kTupN9, q_kLstN9, q_pNo, q_pSo, q_kSo, q_k4_eSl, q_k3_eSl, q_k2_eSl, q_k1_eSl, q_eSl, q_eJoin, q_kJ0, q_kJ1, q_kJ2, q_k1_eCall, q_eCall, q_aNil, q_k2_aCons, q_k1_aCons, q_aCons, q_k2_eFz, q_k1_eFz, q_eFz, q_tB1, q_kB1, q_tTru, q_kTr0, q_kTr1, q_kTrb, q_truthB, q_kTr2, q_tAnd, q_tOr, q_tNot, q_kTA1, q_kTA2, q_kTO1, q_kTO2, q_kTN, q_tTrue, q_bNil, q_bCons, q_kBC1, q_kBC2, q_kBC3, q_kBC4, q_sPass, q_sBreak, q_sCont, q_sRetN, q_sExpr, q_kEx, q_sRet, q_kRt, q_sIf, q_kIf1, q_kIf2, q_kU, q_sSet, q_kSet, q_set1, q_set2, q_set3, q_kSl1, q_kSl2, q_gNm, q_gNms0, q_gNms1, q_kGs, q_gTp, q_gSq1, q_gSq2, q_sAsg, q_kAs0, q_kAs1, q_sAug, q_kAug, q_kAug1, q_kAug2, q_kAug3, q_eIter, q_kIt0, q_kIt1, q_kIt2, q_iRng, q_kRg0, q_kRg1, q_iZip, q_kZp1, q_kZp2, q_iEnum, q_kEn1, q_kEn2, q_sFor, q_kFor, q_sWhile, q_sPar, q_kPr0, q_kPr1, q_kPr2, q_kPr3, q_noPk1, q_noPk2, q_sPar3, q_kPt0, q_kPt1, q_kPt2, q_kPt3, q_kPt4, q_eMt, q_kMt0, q_kMt1, q_kMt1b, q_kMt2, q_kMt3, q_rdA1, q_rdA2, q_sPut, q_kPu0, q_kPu1, q_kPu2, q_kPu2b, q_kPu3, q_kPu4, q_stepL, q_kStw, q_kStx1, q_kStx2, q_kSty, q_kStz, startD_c, startD_n, startD_0, wipeD, backD, List.map_cons, List.map_nil, List.append_nil, List.nil_append, List.cons_append, List.getElem?_cons_zero, List.getElem?_cons_succ, List.set_cons_zero, List.set_cons_succ, List.length_cons, List.length_nil, Nat.reduceAdd, Nat.reduceLT, Nat.reduceLeDiff, Nat.zero_lt_succ, Nat.zero_lt_one, Bool.not_true, Bool.not_false, Bool.and_self, Bool.and_true, Bool.true_and, Bool.or_false, Bool.false_or, Bool.false_and, Bool.and_false, Bool.or_true, Bool.true_or, rets_ok, retsO_ok, retsN_ok, rets0_ok, true_and, and_true, and_self, itemsOf]) rfl (by rw [List.length_map]; exact hn) ⟨d3, none, h, rfl⟩ (fun σ ⟨d, v, hd, e⟩ => ⟨d, none, hd, by subst e; rfl⟩) (fun x hx σ ⟨d, v, hd, e⟩ => by
      subst e
      obtain ⟨p, hp, rfl⟩ := List.mem_map.mp hx
      obtain ⟨d', hd', e⟩ := rr p hp d hd
      refine ⟨some (.bl true), [some (.ow d'), some (.fz n), some (.fz s1), some (.fz s2), some (.fz s3), some (.fz sk), some (.fz (.lst (ps.map fun p => .tup [p.1, p.2]))), none, some (.fz (.tup [p.1, p.2])), none], ?_, ⟨d', _, hd', rfl⟩, rfl⟩
      simp only [bind_ok, bind_exc, bind_stuck, q_eVar, q_kVar1, q_kVar2, q_eC, q_peek1, q_peek2, q_peek3, q_kPk1, q_kPk2, q_frz1, q_frz2, q_frz3, q_kFz1, q_kFz2, q_peekL0, q_peekL1, q_kpl1, q_kfl1, q_kpl2, q_frzL0, q_frzL1, q_ans1, q_ans2, q_ans3, q_k2_eCB, q_k1_eCB, q_eCB, q_k2_e1, q_k1_e1, q_e1, q_k4_e2, q_k3_e2, q_k2_e2, q_k1_e2, q_e2, q_kch1, q_kch2, q_kch3, q_kch4, q_k4_e3c, q_k3_e3c, q_k2_e3c, q_k1_e3c, q_e3c, q_eIf, q_kIfE1, q_kIfE2, q_eAnd, q_kAnd1, q_kAnd2, q_eOr, q_kOr1, q_kOr2, q_eNot, q_kNot, q_eTup, q_eLst, q_kTup1, q_kLst1, q_kTupN0, q_kLstN0, q_kTupN1, q_kLstN1, q_kTupN2, q_kLstN2, q_kTupN3, q_kLstN3, q_kTupN4, q_kLstN4, q_kTupN5, q_kLstN5, q_kTupN6, q_kLstN6, q_kTupN7, q_kLstN7, q_kTupN8, q_kLstN8, q_kTupN9, q_kLstN9, q_pNo, q_pSo, q_kSo, q_k4_eSl, q_k3_eSl, q_k2_eSl, q_k1_eSl, q_eSl, q_eJoin, q_kJ0, q_kJ1, q_kJ2, q_k1_eCall, q_eCall, q_aNil, q_k2_aCons, q_k1_aCons, q_aCons, q_k2_eFz, q_k1_eFz, q_eFz, q_tB1, q_kB1, q_tTru, q_kTr0, q_kTr1, q_kTrb, q_truthB, q_kTr2, q_tAnd, q_tOr, q_tNot, q_kTA1, q_kTA2, q_kTO1, q_kTO2, q_kTN, q_tTrue, q_bNil, q_bCons, q_kBC1, q_kBC2, q_kBC3, q_kBC4, q_sPass, q_sBreak, q_sCont, q_sRetN, q_sExpr, q_kEx, q_sRet, q_kRt, q_sIf, q_kIf1, q_kIf2, q_kU, q_sSet, q_kSet, q_set1, q_set2, q_set3, q_kSl1, q_kSl2, q_gNm, q_gNms0, q_gNms1, q_kGs, q_gTp, q_gSq1, q_gSq2, q_sAsg, q_kAs0, q_kAs1, q_sAug, q_kAug, q_kAug1, q_kAug2, q_kAug3, q_eIter, q_kIt0, q_kIt1, q_kIt2, q_iRng, q_kRg0, q_kRg1, q_iZip, q_kZp1, q_kZp2, q_iEnum, q_kEn1, q_kEn2, q_sFor, q_kFor, q_sWhile, q_sPar, q_kPr0, q_kPr1, q_kPr2, q_kPr3, q_noPk1, q_noPk2, q_sPar3, q_kPt0, q_kPt1, q_kPt2, q_kPt3, q_kPt4, q_eMt, q_kMt0, q_kMt1, q_kMt1b, q_kMt2, q_kMt3, q_rdA1, q_rdA2, q_sPut, q_kPu0, q_kPu1, q_kPu2, q_kPu2b, q_kPu3, q_kPu4, q_stepL, q_kStw, q_kStx1, q_kStx2, q_kSty, q_kStz, startD_c, startD_n, startD_0, wipeD, backD, List.map_cons, List.map_nil, List.append_nil, List.nil_append, List.cons_append, List.getElem?_cons_zero, List.getElem?_cons_succ, List.set_cons_zero, List.set_cons_succ, List.length_cons, List.length_nil, Nat.reduceAdd, Nat.reduceLT, Nat.reduceLeDiff, Nat.zero_lt_succ, Nat.zero_lt_one, Bool.not_true, Bool.not_false, Bool.and_self, Bool.and_true, Bool.true_and, Bool.or_false, Bool.false_or, Bool.false_and, Bool.and_false, Bool.or_true, Bool.true_or, rets_ok, retsO_ok, retsN_ok, rets0_ok, true_and, and_true, and_self, ix0, ix1, e])
  exact ⟨_, d', _, hd', qs_true qs k2, k3⟩
theorem zeros_n (n : Nat) (h : n ≤ 9) : dMul (.str [48]) (.int (n : Nat)) = some (.val (.str (List.replicate n 48))) := match n, h with
  | 0, _ => rfl
  | 1, _ => rfl
  | 2, _ => rfl
  | 3, _ => rfl
  | 4, _ => rfl
  | 5, _ => rfl
  | 6, _ => rfl
  | 7, _ => rfl
  | 8, _ => rfl
  | 9, _ => rfl
  | n + 10, h => absurd h (by omega)
theorem int_inj {a b : Nat} (h : D.int (a : Nat) = .int (b : Nat)) : a = b := by
  injection h with h
  exact Int.ofNat.inj h
theorem p_right {d : D} (h : Dc d) : Rets (m__law_right (startD 10 [.ow d])) (.bl true) := by
  obtain ⟨n, d1, hn, h1, e1⟩ := c_roll h 10 (by decide) (by decide)
  have hn9 : n ≤ 9 := by omega
  have it0 : iRng rng1 (aCons (eC (.int 3)) aNil) = fun σ => .ok [.int 0, .int 1, .int 2] σ := rfl
  obtain ⟨s1, s2, s3, d2, ⟨r1, l1⟩, ⟨r2, l2⟩, ⟨r3, l3⟩, h2, k1⟩ := rows_run (.int (n : Nat)) it0 h1 (fun d hd => by
    obtain ⟨s, d', hs, hl, hd', e⟩ := c_drawn_row hd hn9
    exact ⟨s, d', ⟨hs, by rw [hl]⟩, hd', e⟩)
  have m1 := int_inj l1
  have m2 := int_inj l2
  have m3 := int_inj l3
  have l12 : s1.length = s2.length := by omega
  have l23 : s2.length = s3.length := by omega
  obtain ⟨th, d3, ht, h3, e2⟩ := c_drawn_things h2 hn9
  rw [m1] at ht
  have rk := r1.tA th
  have lk : (tA th 0 s1).length = s1.length := tA_len th 0 s1
  obtain ⟨bs, d4, h4, a2, k2⟩ := one_run (.int (n : Nat)) (.str s1) (.str s2) (.str s3) (.str (tA th 0 s1)) h3 (fun x hx d hd => by
    simp only [List.mem_cons, List.not_mem_nil, or_false] at hx
    rcases hx with rfl | rfl | rfl
    · exact c_row_right hd r1
    · exact c_row_right hd r2
    · exact c_row_right hd rk)
  have z0 : IsRow (List.replicate n 48) := ⟨fun c hc => by
    rw [List.eq_of_mem_replicate hc]
    exact sg48, by rw [List.length_replicate]; exact hn9⟩
  have hz := zeros_n n hn9
  have zl : s1.length = (List.replicate n 48).length := by rw [List.length_replicate, m1]
  have tl : s1.length = (s1.map flipN).length := by rw [List.length_map]
  obtain ⟨cs, d5, x7, h5, a3, k3⟩ := two_run (.int (n : Nat)) (.str s1) (.str s2) (.str s3) (.str (tA th 0 s1)) [(.str s1, .str s2), (.str s2, .str s3), (.str s1, .str (tA th 0 s1)), (.str s1, .str (s1.map flipN)), (.str s1, .str s1), (.str s1, .str (List.replicate n 48))] h4 (by show 6 ≤ 16777216; decide) (fun p hp d hd => by
    simp only [List.mem_cons, List.not_mem_nil, or_false] at hp
    rcases hp with rfl | rfl | rfl | rfl | rfl | rfl
    · exact c_two_right hd r1 r2 l12
    · exact c_two_right hd r2 r3 l23
    · exact c_two_right hd r1 rk lk.symm
    · exact c_two_right hd r1 r1.map_flip tl
    · exact c_two_right hd r1 r1 rfl
    · exact c_two_right hd r1 z0 zl)
  have q12 := r1.laid r2 l12
  have q23 := r2.laid r3 l23
  have q123 := q12.laid r3 (by rw [laidN_len _ _ l12]; omega)
  refine right_run d d1 d2 d3 d4 d5 _ _ _ _ _ (tD th) _ _ _ _ (.str (laidN (laidN s1 s2) s3)) bs cs _ _ _ _ _ _ x7 none none e1 k1 e2 (c_lturn_at r1) k2 a2 (c_laid_over r1 r2 l12) (c_laid_over r2 r3 l23) (c_laid_over q12 r3 (by rw [laidN_len _ _ l12]; omega)) ?_ (dNe_row q123) (c_lturn r1) hz k3 a3
  intro σ
  have := c_laid_over r1 q23 (by rw [laidN_len _ _ l23]; omega) σ
  rw [← laidN_assoc] at this
  exact this

abbrev bodyL : M Fl := sIf (tNot' (tTru (eCall 1 1 10 m__law_right [] (aCons (eCall 2 2 4 m__law_dice [] (aCons (eVar 0) (aCons (eVar 1) aNil))) aNil)))) (sRet (eC (.bl false))) bNil
abbrev uprC : M Rs := eLc (eIter (eVar 3)) (gTp [4, 5]) tTrue (eCall 2 2 2 m_is_upright [] (aCons (eVar 4) (aCons (eVar 5) aNil))) [4, 5]
theorem c_right (σ : SD) {d : D} (h : Dc d) : callD 1 1 10 m__law_right [] [.ow d] σ = .ok (.fz (.bl true)) σ := call_new (as := []) rfl (by decide) (p_right h)
theorem c_dice (ns : List Int) (i : Nat) : ∃ dd, Dc dd ∧ ∀ σ : SD, callD 2 2 4 m__law_dice [] [.fz (.scr ns), .fz (.int (i : Nat))] σ = .ok (.ow dd) σ := dice_run ns i
theorem body_run (ns i : D) (dd : D) (a b : Option Sl) (e1 : ∀ σ : SD, callD 2 2 4 m__law_dice [] [.fz ns, .fz i] σ = .ok (.ow dd) σ) (e2 : ∀ σ : SD, callD 1 1 10 m__law_right [] [.ow dd] σ = .ok (.fz (.bl true)) σ) (v : Option Sl) (x y z w : Option Sl) :
    ((gNm 1 i [some (.fz ns), v, x, y, z, w]).bind fun _ σ1 => bodyL σ1) = .ok .nx [some (.fz ns), some (.fz i), x, y, z, w] := by
  rw [q_gNm _ _ _ (by show 1 < 6; decide), bind_ok]
  simp only [bind_ok, bind_exc, bind_stuck, q_eVar, q_kVar1, q_kVar2, q_eC, q_peek1, q_peek2, q_peek3, q_kPk1, q_kPk2, q_frz1, q_frz2, q_frz3, q_kFz1, q_kFz2, q_peekL0, q_peekL1, q_kpl1, q_kfl1, q_kpl2, q_frzL0, q_frzL1, q_ans1, q_ans2, q_ans3, q_k2_eCB, q_k1_eCB, q_eCB, q_k2_e1, q_k1_e1, q_e1, q_k4_e2, q_k3_e2, q_k2_e2, q_k1_e2, q_e2, q_kch1, q_kch2, q_kch3, q_kch4, q_k4_e3c, q_k3_e3c, q_k2_e3c, q_k1_e3c, q_e3c, q_eIf, q_kIfE1, q_kIfE2, q_eAnd, q_kAnd1, q_kAnd2, q_eOr, q_kOr1, q_kOr2, q_eNot, q_kNot, q_eTup, q_eLst, q_kTup1, q_kLst1, q_kTupN0, q_kLstN0, q_kTupN1, q_kLstN1, q_kTupN2, q_kLstN2, q_kTupN3, q_kLstN3, q_kTupN4, q_kLstN4, q_kTupN5, q_kLstN5, q_kTupN6, q_kLstN6, q_kTupN7, q_kLstN7, q_kTupN8, q_kLstN8, q_kTupN9, q_kLstN9, q_pNo, q_pSo, q_kSo, q_k4_eSl, q_k3_eSl, q_k2_eSl, q_k1_eSl, q_eSl, q_eJoin, q_kJ0, q_kJ1, q_kJ2, q_k1_eCall, q_eCall, q_aNil, q_k2_aCons, q_k1_aCons, q_aCons, q_k2_eFz, q_k1_eFz, q_eFz, q_tB1, q_kB1, q_tTru, q_kTr0, q_kTr1, q_kTrb, q_truthB, q_kTr2, q_tAnd, q_tOr, q_tNot, q_kTA1, q_kTA2, q_kTO1, q_kTO2, q_kTN, q_tTrue, q_bNil, q_bCons, q_kBC1, q_kBC2, q_kBC3, q_kBC4, q_sPass, q_sBreak, q_sCont, q_sRetN, q_sExpr, q_kEx, q_sRet, q_kRt, q_sIf, q_kIf1, q_kIf2, q_kU, q_sSet, q_kSet, q_set1, q_set2, q_set3, q_kSl1, q_kSl2, q_gNm, q_gNms0, q_gNms1, q_kGs, q_gTp, q_gSq1, q_gSq2, q_sAsg, q_kAs0, q_kAs1, q_sAug, q_kAug, q_kAug1, q_kAug2, q_kAug3, q_eIter, q_kIt0, q_kIt1, q_kIt2, q_iRng, q_kRg0, q_kRg1, q_iZip, q_kZp1, q_kZp2, q_iEnum, q_kEn1, q_kEn2, q_sFor, q_kFor, q_sWhile, q_sPar, q_kPr0, q_kPr1, q_kPr2, q_kPr3, q_noPk1, q_noPk2, q_sPar3, q_kPt0, q_kPt1, q_kPt2, q_kPt3, q_kPt4, q_eMt, q_kMt0, q_kMt1, q_kMt1b, q_kMt2, q_kMt3, q_rdA1, q_rdA2, q_sPut, q_kPu0, q_kPu1, q_kPu2, q_kPu2b, q_kPu3, q_kPu4, q_stepL, q_kStw, q_kStx1, q_kStx2, q_kSty, q_kStz, startD_c, startD_n, startD_0, wipeD, backD, List.map_cons, List.map_nil, List.append_nil, List.nil_append, List.cons_append, List.getElem?_cons_zero, List.getElem?_cons_succ, List.set_cons_zero, List.set_cons_succ, List.length_cons, List.length_nil, Nat.reduceAdd, Nat.reduceLT, Nat.reduceLeDiff, Nat.zero_lt_succ, Nat.zero_lt_one, Bool.not_true, Bool.not_false, Bool.and_self, Bool.and_true, Bool.true_and, Bool.or_false, Bool.false_or, Bool.false_and, Bool.and_false, Bool.or_true, Bool.true_or, rets_ok, retsO_ok, retsN_ok, rets0_ok, true_and, and_true, and_self, e1, e2]
theorem loop_run (ns : List Int) (m : Nat) : ∃ v, forL (gNm 1) bodyL ((List.range m).map fun (i : Nat) => D.int (i : Int)) [some (.fz (.scr ns)), none, none, none, none, none] = .ok .nx [some (.fz (.scr ns)), v, none, none, none, none] := by
  obtain ⟨σ', h1, v, rfl, _⟩ := forL_inv (g := gNm 1) (body := bodyL) (fun ds σ => ∃ v, σ = [some (.fz (.scr ns)), v, none, none, none, none] ∧ ∀ x ∈ ds, ∃ i : Nat, x = .int (i : Int)) (fun d ds σ ⟨v, e, h⟩ => by
    subst e
    obtain ⟨i, rfl⟩ := h d List.mem_cons_self
    obtain ⟨dd, hd, e1⟩ := c_dice ns i
    exact ⟨_, body_run (.scr ns) _ dd none none e1 (fun σ => c_right σ hd) v none none none none, _, rfl, fun x hx => h x (List.mem_cons_of_mem _ hx)⟩) (ds := (List.range m).map fun (i : Nat) => D.int (i : Int)) ⟨none, rfl, fun x hx => by
    obtain ⟨i, _, rfl⟩ := List.mem_map.mp hx
    exact ⟨i, rfl⟩⟩
  exact ⟨v, h1⟩
theorem law_run (ns : D) (n m1 m2 : D) (is : List D) (t1 t2 t3 t4 t5 : D) (ups : List D) (v : Option Sl)
  (e1 : dLen [ns] = some (.val n)) (e2 : dMin2 [.int 5, n] = some (.val m1)) (e3 : dMax2 [.int 1, m1] = some (.val m2)) (e4 : rng1 [m2] = some is)
  (e5 : forL (gNm 1) bodyL is [some (.fz ns), none, none, none, none, none] = .ok .nx [some (.fz ns), v, none, none, none, none])
  (e6 : ∀ σ, callD 2 2 2 m_turned [.non] [.fz (.str [43, 45, 48])] σ = .ok (.fz t1) σ)
  (e7 : ∀ σ, callD 2 2 2 m_turned [] [.fz (.str [43, 45, 48]), .fz (.tup [.int 1, .int 2])] σ = .ok (.fz t2) σ)
  (e8 : ∀ σ, callD 2 2 2 m_laid_over [] [.fz (.str [43, 48, 45, 48]), .fz (.str [45, 45, 43, 48])] σ = .ok (.fz t3) σ)
  (e9 : ∀ σ, callD 2 2 2 m_laid_over [] [.fz (.str []), .fz (.str [])] σ = .ok (.fz t4) σ)
  (e10 : ∀ σ, callD 2 2 2 m_apart [] [.fz (.str [43, 48, 45, 48]), .fz (.str [45, 45, 43, 48])] σ = .ok (.fz t5) σ)
  (e11 : dNe (.lst [t1, t2, t3, t4, t5]) (.lst [.str [45, 43, 48], .str [43, 43, 48], .str [43, 45, 45, 48], .str [], .tup [.int 0, .int 2]]) = some (.val (.bl false)))
  (e12 : ∀ (l : List D), uprC [some (.fz ns), v, some (.ow (.lst l)), some (.fz (.tup [.tup [.str [43, 48], .str [48, 43]], .tup [.str [43, 43, 48], .str [43, 45, 43]], .tup [.str [43, 43], .str [43, 43]], .tup [.str [43, 48], .str [45, 43]], .tup [.str [48, 48], .str [43, 45]], .tup [.str [], .str []]])), none, none] = .ok (.ow (.lst ups)) [some (.fz ns), v, some (.ow (.lst l)), some (.fz (.tup [.tup [.str [43, 48], .str [48, 43]], .tup [.str [43, 43, 48], .str [43, 45, 43]], .tup [.str [43, 43], .str [43, 43]], .tup [.str [43, 48], .str [45, 43]], .tup [.str [48, 48], .str [43, 45]], .tup [.str [], .str []]])), none, none])
  (e13 : dEq (.lst ups) (.lst [.bl true, .bl true, .bl false, .bl false, .bl true, .bl true]) = some (.val (.bl true))) :
  Rets (m_law (startD 6 [.fz ns])) (.bl true) := by
  simp only [m_law, bind_ok, bind_exc, bind_stuck, q_eVar, q_kVar1, q_kVar2, q_eC, q_peek1, q_peek2, q_peek3, q_kPk1, q_kPk2, q_frz1, q_frz2, q_frz3, q_kFz1, q_kFz2, q_peekL0, q_peekL1, q_kpl1, q_kfl1, q_kpl2, q_frzL0, q_frzL1, q_ans1, q_ans2, q_ans3, q_k2_eCB, q_k1_eCB, q_eCB, q_k2_e1, q_k1_e1, q_e1, q_k4_e2, q_k3_e2, q_k2_e2, q_k1_e2, q_e2, q_kch1, q_kch2, q_kch3, q_kch4, q_k4_e3c, q_k3_e3c, q_k2_e3c, q_k1_e3c, q_e3c, q_eIf, q_kIfE1, q_kIfE2, q_eAnd, q_kAnd1, q_kAnd2, q_eOr, q_kOr1, q_kOr2, q_eNot, q_kNot, q_eTup, q_eLst, q_kTup1, q_kLst1, q_kTupN0, q_kLstN0, q_kTupN1, q_kLstN1, q_kTupN2, q_kLstN2, q_kTupN3, q_kLstN3, q_kTupN4, q_kLstN4, q_kTupN5, q_kLstN5, q_kTupN6, q_kLstN6, q_kTupN7, q_kLstN7, q_kTupN8, q_kLstN8, q_kTupN9, q_kLstN9, q_pNo, q_pSo, q_kSo, q_k4_eSl, q_k3_eSl, q_k2_eSl, q_k1_eSl, q_eSl, q_eJoin, q_kJ0, q_kJ1, q_kJ2, q_k1_eCall, q_eCall, q_aNil, q_k2_aCons, q_k1_aCons, q_aCons, q_k2_eFz, q_k1_eFz, q_eFz, q_tB1, q_kB1, q_tTru, q_kTr0, q_kTr1, q_kTrb, q_truthB, q_kTr2, q_tAnd, q_tOr, q_tNot, q_kTA1, q_kTA2, q_kTO1, q_kTO2, q_kTN, q_tTrue, q_bNil, q_bCons, q_kBC1, q_kBC2, q_kBC3, q_kBC4, q_sPass, q_sBreak, q_sCont, q_sRetN, q_sExpr, q_kEx, q_sRet, q_kRt, q_sIf, q_kIf1, q_kIf2, q_kU, q_sSet, q_kSet, q_set1, q_set2, q_set3, q_kSl1, q_kSl2, q_gNm, q_gNms0, q_gNms1, q_kGs, q_gTp, q_gSq1, q_gSq2, q_sAsg, q_kAs0, q_kAs1, q_sAug, q_kAug, q_kAug1, q_kAug2, q_kAug3, q_eIter, q_kIt0, q_kIt1, q_kIt2, q_iRng, q_kRg0, q_kRg1, q_iZip, q_kZp1, q_kZp2, q_iEnum, q_kEn1, q_kEn2, q_sFor, q_kFor, q_sWhile, q_sPar, q_kPr0, q_kPr1, q_kPr2, q_kPr3, q_noPk1, q_noPk2, q_sPar3, q_kPt0, q_kPt1, q_kPt2, q_kPt3, q_kPt4, q_eMt, q_kMt0, q_kMt1, q_kMt1b, q_kMt2, q_kMt3, q_rdA1, q_rdA2, q_sPut, q_kPu0, q_kPu1, q_kPu2, q_kPu2b, q_kPu3, q_kPu4, q_stepL, q_kStw, q_kStx1, q_kStx2, q_kSty, q_kStz, startD_c, startD_n, startD_0, wipeD, backD, List.map_cons, List.map_nil, List.append_nil, List.nil_append, List.cons_append, List.getElem?_cons_zero, List.getElem?_cons_succ, List.set_cons_zero, List.set_cons_succ, List.length_cons, List.length_nil, Nat.reduceAdd, Nat.reduceLT, Nat.reduceLeDiff, Nat.zero_lt_succ, Nat.zero_lt_one, Bool.not_true, Bool.not_false, Bool.and_self, Bool.and_true, Bool.true_and, Bool.or_false, Bool.false_or, Bool.false_and, Bool.and_false, Bool.or_true, Bool.true_or, rets_ok, retsO_ok, retsN_ok, rets0_ok, true_and, and_true, and_self, e1, e2, e3, e4, e5, e6, e7, e8, e9, e10, e11, e12, e13]
theorem row_lit {s : List Nat} (h : s.all (fun c => c == 43 || c == 45 || c == 48) = true) (h2 : s.length ≤ 9) : IsRow s := ⟨fun c hc => by
  have := List.all_eq_true.mp h c hc
  simp only [Bool.or_eq_true, beq_iff_eq] at this
  rcases this with (q | q) | q
  · exact .inl q
  · exact .inr (.inl q)
  · exact .inr (.inr q), h2⟩
theorem rng_max (n : Int) : ∃ m : Nat, dMax2 [.int 1, .int (if n < 5 then n else 5)] = some (.val (.int (m : Nat))) ∧ rng1 [.int (m : Nat)] = some ((List.range m).map fun (i : Nat) => D.int (i : Int)) := by
  have key : ∃ m : Nat, m ≤ 5 ∧ (if (if n < 5 then n else 5) > 1 then (if n < 5 then n else 5) else 1) = (m : Int) := by
    by_cases h : n < 5
    · rw [if_pos h]
      by_cases h2 : n > 1
      · rw [if_pos h2]
        exact ⟨n.toNat, by omega, by omega⟩
      · rw [if_neg h2]
        exact ⟨1, by omega, rfl⟩
    · rw [if_neg h]
      exact ⟨5, by omega, rfl⟩
  obtain ⟨m, hm, e⟩ := key
  refine ⟨m, ?_, ?_⟩
  · show some (Rn.val (.int _)) = _
    rw [e]
  · simp only [rng1, in62_9 m (by omega), if_true]
    rw [Int.toNat_natCast, dInts_0]
theorem plain_law (ns : List Int) : ∃ σ, m_law (startD 6 [.fz (.scr ns)]) = .ok (.rt (.fz (.bl true))) σ := by
  obtain ⟨m, e3, e4⟩ := rng_max (ns.length : Nat)
  obtain ⟨v, e5⟩ := loop_run ns m
  have r1 : IsRow [43, 45, 48] := row_lit rfl (by decide)
  have r2 : IsRow [43, 48, 45, 48] := row_lit rfl (by decide)
  have r3 : IsRow [45, 45, 43, 48] := row_lit rfl (by decide)
  have r4 : IsRow [] := row_lit rfl (by decide)
  have th : IsThings [1, 2] 3 := ⟨by decide, by decide, by decide, by decide⟩
  have ups : ∀ p ∈ [([43, 48], [48, 43]), ([43, 43, 48], [43, 45, 43]), ([43, 43], [43, 43]), ([43, 48], [45, 43]), ([48, 48], [43, 45]), (([] : List Nat), ([] : List Nat))], IsRow p.1 ∧ IsRow p.2 ∧ p.1.length = p.2.length := by
    intro p hp
    simp only [List.mem_cons, List.not_mem_nil, or_false] at hp
    rcases hp with rfl | rfl | rfl | rfl | rfl | rfl <;> exact ⟨row_lit rfl (by decide), row_lit rfl (by decide), rfl⟩
  refine law_run (.scr ns) (.int (ns.length : Nat)) _ _ _ _ _ _ _ _ _ v rfl rfl e3 e4 e5 (c_turned0 r1) (c_turned (th := [1, 2]) r1 th) (c_laid_over r2 r3 rfl) (c_laid_over r4 r4 rfl) (c_apart r2 r3 rfl) rfl (fun l => eLc_all (fun p : List Nat × List Nat => .tup [.str p.1, .str p.2]) [([43, 48], [48, 43]), ([43, 43, 48], [43, 45, 43]), ([43, 43], [43, 43]), ([43, 48], [45, 43]), ([48, 48], [43, 45]), ([], [])] (fun p => .bl (upN p.1 p.2)) ?_ rfl (by decide) (fun p hp => ?_)) rfl
  · simp only [bind_ok, bind_exc, bind_stuck, q_eVar, q_kVar1, q_kVar2, q_eC, q_peek1, q_peek2, q_peek3, q_kPk1, q_kPk2, q_frz1, q_frz2, q_frz3, q_kFz1, q_kFz2, q_peekL0, q_peekL1, q_kpl1, q_kfl1, q_kpl2, q_frzL0, q_frzL1, q_ans1, q_ans2, q_ans3, q_k2_eCB, q_k1_eCB, q_eCB, q_k2_e1, q_k1_e1, q_e1, q_k4_e2, q_k3_e2, q_k2_e2, q_k1_e2, q_e2, q_kch1, q_kch2, q_kch3, q_kch4, q_k4_e3c, q_k3_e3c, q_k2_e3c, q_k1_e3c, q_e3c, q_eIf, q_kIfE1, q_kIfE2, q_eAnd, q_kAnd1, q_kAnd2, q_eOr, q_kOr1, q_kOr2, q_eNot, q_kNot, q_eTup, q_eLst, q_kTup1, q_kLst1, q_kTupN0, q_kLstN0, q_kTupN1, q_kLstN1, q_kTupN2, q_kLstN2, q_kTupN3, q_kLstN3, q_kTupN4, q_kLstN4, q_kTupN5, q_kLstN5, q_kTupN6, q_kLstN6, q_kTupN7, q_kLstN7, q_kTupN8, q_kLstN8, q_kTupN9, q_kLstN9, q_pNo, q_pSo, q_kSo, q_k4_eSl, q_k3_eSl, q_k2_eSl, q_k1_eSl, q_eSl, q_eJoin, q_kJ0, q_kJ1, q_kJ2, q_k1_eCall, q_eCall, q_aNil, q_k2_aCons, q_k1_aCons, q_aCons, q_k2_eFz, q_k1_eFz, q_eFz, q_tB1, q_kB1, q_tTru, q_kTr0, q_kTr1, q_kTrb, q_truthB, q_kTr2, q_tAnd, q_tOr, q_tNot, q_kTA1, q_kTA2, q_kTO1, q_kTO2, q_kTN, q_tTrue, q_bNil, q_bCons, q_kBC1, q_kBC2, q_kBC3, q_kBC4, q_sPass, q_sBreak, q_sCont, q_sRetN, q_sExpr, q_kEx, q_sRet, q_kRt, q_sIf, q_kIf1, q_kIf2, q_kU, q_sSet, q_kSet, q_set1, q_set2, q_set3, q_kSl1, q_kSl2, q_gNm, q_gNms0, q_gNms1, q_kGs, q_gTp, q_gSq1, q_gSq2, q_sAsg, q_kAs0, q_kAs1, q_sAug, q_kAug, q_kAug1, q_kAug2, q_kAug3, q_eIter, q_kIt0, q_kIt1, q_kIt2, q_iRng, q_kRg0, q_kRg1, q_iZip, q_kZp1, q_kZp2, q_iEnum, q_kEn1, q_kEn2, q_sFor, q_kFor, q_sWhile, q_sPar, q_kPr0, q_kPr1, q_kPr2, q_kPr3, q_noPk1, q_noPk2, q_sPar3, q_kPt0, q_kPt1, q_kPt2, q_kPt3, q_kPt4, q_eMt, q_kMt0, q_kMt1, q_kMt1b, q_kMt2, q_kMt3, q_rdA1, q_rdA2, q_sPut, q_kPu0, q_kPu1, q_kPu2, q_kPu2b, q_kPu3, q_kPu4, q_stepL, q_kStw, q_kStx1, q_kStx2, q_kSty, q_kStz, startD_c, startD_n, startD_0, wipeD, backD, List.map_cons, List.map_nil, List.append_nil, List.nil_append, List.cons_append, List.getElem?_cons_zero, List.getElem?_cons_succ, List.set_cons_zero, List.set_cons_succ, List.length_cons, List.length_nil, Nat.reduceAdd, Nat.reduceLT, Nat.reduceLeDiff, Nat.zero_lt_succ, Nat.zero_lt_one, Bool.not_true, Bool.not_false, Bool.and_self, Bool.and_true, Bool.true_and, Bool.or_false, Bool.false_or, Bool.false_and, Bool.and_false, Bool.or_true, Bool.true_or, rets_ok, retsO_ok, retsN_ok, rets0_ok, true_and, and_true, and_self, itemsOf]
  · obtain ⟨h1, h2, h3⟩ := ups p hp
    have e := c_is_upright h1 h2 h3
    simp only [bind_ok, bind_exc, bind_stuck, q_eVar, q_kVar1, q_kVar2, q_eC, q_peek1, q_peek2, q_peek3, q_kPk1, q_kPk2, q_frz1, q_frz2, q_frz3, q_kFz1, q_kFz2, q_peekL0, q_peekL1, q_kpl1, q_kfl1, q_kpl2, q_frzL0, q_frzL1, q_ans1, q_ans2, q_ans3, q_k2_eCB, q_k1_eCB, q_eCB, q_k2_e1, q_k1_e1, q_e1, q_k4_e2, q_k3_e2, q_k2_e2, q_k1_e2, q_e2, q_kch1, q_kch2, q_kch3, q_kch4, q_k4_e3c, q_k3_e3c, q_k2_e3c, q_k1_e3c, q_e3c, q_eIf, q_kIfE1, q_kIfE2, q_eAnd, q_kAnd1, q_kAnd2, q_eOr, q_kOr1, q_kOr2, q_eNot, q_kNot, q_eTup, q_eLst, q_kTup1, q_kLst1, q_kTupN0, q_kLstN0, q_kTupN1, q_kLstN1, q_kTupN2, q_kLstN2, q_kTupN3, q_kLstN3, q_kTupN4, q_kLstN4, q_kTupN5, q_kLstN5, q_kTupN6, q_kLstN6, q_kTupN7, q_kLstN7, q_kTupN8, q_kLstN8, q_kTupN9, q_kLstN9, q_pNo, q_pSo, q_kSo, q_k4_eSl, q_k3_eSl, q_k2_eSl, q_k1_eSl, q_eSl, q_eJoin, q_kJ0, q_kJ1, q_kJ2, q_k1_eCall, q_eCall, q_aNil, q_k2_aCons, q_k1_aCons, q_aCons, q_k2_eFz, q_k1_eFz, q_eFz, q_tB1, q_kB1, q_tTru, q_kTr0, q_kTr1, q_kTrb, q_truthB, q_kTr2, q_tAnd, q_tOr, q_tNot, q_kTA1, q_kTA2, q_kTO1, q_kTO2, q_kTN, q_tTrue, q_bNil, q_bCons, q_kBC1, q_kBC2, q_kBC3, q_kBC4, q_sPass, q_sBreak, q_sCont, q_sRetN, q_sExpr, q_kEx, q_sRet, q_kRt, q_sIf, q_kIf1, q_kIf2, q_kU, q_sSet, q_kSet, q_set1, q_set2, q_set3, q_kSl1, q_kSl2, q_gNm, q_gNms0, q_gNms1, q_kGs, q_gTp, q_gSq1, q_gSq2, q_sAsg, q_kAs0, q_kAs1, q_sAug, q_kAug, q_kAug1, q_kAug2, q_kAug3, q_eIter, q_kIt0, q_kIt1, q_kIt2, q_iRng, q_kRg0, q_kRg1, q_iZip, q_kZp1, q_kZp2, q_iEnum, q_kEn1, q_kEn2, q_sFor, q_kFor, q_sWhile, q_sPar, q_kPr0, q_kPr1, q_kPr2, q_kPr3, q_noPk1, q_noPk2, q_sPar3, q_kPt0, q_kPt1, q_kPt2, q_kPt3, q_kPt4, q_eMt, q_kMt0, q_kMt1, q_kMt1b, q_kMt2, q_kMt3, q_rdA1, q_rdA2, q_sPut, q_kPu0, q_kPu1, q_kPu2, q_kPu2b, q_kPu3, q_kPu4, q_stepL, q_kStw, q_kStx1, q_kStx2, q_kSty, q_kStz, startD_c, startD_n, startD_0, wipeD, backD, List.map_cons, List.map_nil, List.append_nil, List.nil_append, List.cons_append, List.getElem?_cons_zero, List.getElem?_cons_succ, List.set_cons_zero, List.set_cons_succ, List.length_cons, List.length_nil, Nat.reduceAdd, Nat.reduceLT, Nat.reduceLeDiff, Nat.zero_lt_succ, Nat.zero_lt_one, Bool.not_true, Bool.not_false, Bool.and_self, Bool.and_true, Bool.true_and, Bool.or_false, Bool.false_or, Bool.false_and, Bool.and_false, Bool.or_true, Bool.true_or, rets_ok, retsO_ok, retsN_ok, rets0_ok, true_and, and_true, and_self, turn_ok, e]
end W_k00

namespace W_k00
open PySem PySem.Spec PyProof.Rows L2 DL
abbrev R : PySem.W.OpenRow := PySem.W.OpenLaw.row PySem.Challenge.rw_sidesigns_k00_rows_sign_by_sign
def dd__law_dice : He.DefD := ⟨("_law_dice", none), "_law_dice", "_law_dice", defArgs (top 37), defBody (top 37), defScope (top 37), [], []⟩
def dd__law_flip : He.DefD := ⟨("_law_flip", none), "_law_flip", "_law_flip", defArgs (top 40), defBody (top 40), defScope (top 40), [], []⟩
def dd__law_apart : He.DefD := ⟨("_law_apart", none), "_law_apart", "_law_apart", defArgs (top 44), defBody (top 44), defScope (top 44), [], []⟩
def dd__law_roll : He.DefD := ⟨("_law_roll", none), "_law_roll", "_law_roll", defArgs (top 38), defBody (top 38), defScope (top 38), [], []⟩
def dd__law_drawn_things : He.DefD := ⟨("_law_drawn_things", none), "_law_drawn_things", "_law_drawn_things", defArgs (top 48), defBody (top 48), defScope (top 48), [], []⟩
def dd__law_laid : He.DefD := ⟨("_law_laid", none), "_law_laid", "_law_laid", defArgs (top 43), defBody (top 43), defScope (top 43), [], []⟩
def dd__law_upright : He.DefD := ⟨("_law_upright", none), "_law_upright", "_law_upright", defArgs (top 45), defBody (top 45), defScope (top 45), [], []⟩
def dd_apart_at : He.DefD := ⟨("apart_at", none), "apart_at", "apart_at", defArgs (top 25), defBody (top 25), defScope (top 25), [], []⟩
def dd_is_row : He.DefD := ⟨("is_row", none), "is_row", "is_row", defArgs (top 17), defBody (top 17), defScope (top 17), [], []⟩
def dd_is_any_row : He.DefD := ⟨("is_any_row", none), "is_any_row", "is_any_row", defArgs (top 18), defBody (top 18), defScope (top 18), [], []⟩
def dd_require_any_row : He.DefD := ⟨("require_any_row", none), "require_any_row", "require_any_row", defArgs (top 20), defBody (top 20), defScope (top 20), [], []⟩
def dd_require_row : He.DefD := ⟨("require_row", none), "require_row", "require_row", defArgs (top 19), defBody (top 19), defScope (top 19), [], []⟩
def dd_apart : He.DefD := ⟨("apart", none), "apart", "apart", defArgs (top 30), defBody (top 30), defScope (top 30), [], []⟩
def dd_are_upright : He.DefD := ⟨("are_upright", none), "are_upright", "are_upright", defArgs (top 26), defBody (top 26), defScope (top 26), [], []⟩
def dd_is_upright : He.DefD := ⟨("is_upright", none), "is_upright", "is_upright", defArgs (top 31), defBody (top 31), defScope (top 31), [], []⟩
def dd_laid : He.DefD := ⟨("laid", none), "laid", "laid", defArgs (top 24), defBody (top 24), defScope (top 24), [], []⟩
def dd_laid_over : He.DefD := ⟨("laid_over", none), "laid_over", "laid_over", defArgs (top 29), defBody (top 29), defScope (top 29), [], []⟩
def dd_are_ascending : He.DefD := ⟨("are_ascending", none), "are_ascending", "are_ascending", defArgs (top 5), defBody (top 5), defScope (top 5), [], []⟩
def dd_is_integer : He.DefD := ⟨("is_integer", none), "is_integer", "is_integer", defArgs (top 2), defBody (top 2), defScope (top 2), [], []⟩
def dd_is_from : He.DefD := ⟨("is_from", none), "is_from", "is_from", defArgs (top 3), defBody (top 3), defScope (top 3), [], []⟩
def dd_is_thing : He.DefD := ⟨("is_thing", none), "is_thing", "is_thing", defArgs (top 4), defBody (top 4), defScope (top 4), [], []⟩
def dd_is_things : He.DefD := ⟨("is_things", none), "is_things", "is_things", defArgs (top 6), defBody (top 6), defScope (top 6), [], []⟩
def dd_require_things : He.DefD := ⟨("require_things", none), "require_things", "require_things", defArgs (top 21), defBody (top 21), defScope (top 21), [], []⟩
def dd_turned_row : He.DefD := ⟨("turned_row", none), "turned_row", "turned_row", defArgs (top 22), defBody (top 22), defScope (top 22), [], []⟩
def dd_turned_row_at : He.DefD := ⟨("turned_row_at", none), "turned_row_at", "turned_row_at", defArgs (top 23), defBody (top 23), defScope (top 23), [], []⟩
def dd_turned : He.DefD := ⟨("turned", none), "turned", "turned", defArgs (top 28), defBody (top 28), defScope (top 28), [.non], []⟩
def dd__law_are_two_right : He.DefD := ⟨("_law_are_two_right", none), "_law_are_two_right", "_law_are_two_right", defArgs (top 50), defBody (top 50), defScope (top 50), [], []⟩
def dd__law_pick : He.DefD := ⟨("_law_pick", none), "_law_pick", "_law_pick", defArgs (top 39), defBody (top 39), defScope (top 39), [], []⟩
def dd__law_drawn_row : He.DefD := ⟨("_law_drawn_row", none), "_law_drawn_row", "_law_drawn_row", defArgs (top 47), defBody (top 47), defScope (top 47), [], []⟩
def dd__law_held : He.DefD := ⟨("_law_held", none), "_law_held", "_law_held", defArgs (top 46), defBody (top 46), defScope (top 46), [], []⟩
def dd__law_turn : He.DefD := ⟨("_law_turn", none), "_law_turn", "_law_turn", defArgs (top 41), defBody (top 41), defScope (top 41), [], []⟩
def dd__law_turn_at : He.DefD := ⟨("_law_turn_at", none), "_law_turn_at", "_law_turn_at", defArgs (top 42), defBody (top 42), defScope (top 42), [], []⟩
def dd_signs_at : He.DefD := ⟨("signs_at", none), "signs_at", "signs_at", defArgs (top 34), defBody (top 34), defScope (top 34), [], []⟩
def dd_spread : He.DefD := ⟨("spread", none), "spread", "spread", defArgs (top 35), defBody (top 35), defScope (top 35), [], []⟩
def dd_held : He.DefD := ⟨("held", none), "held", "held", defArgs (top 27), defBody (top 27), defScope (top 27), [], []⟩
def dd_things_of : He.DefD := ⟨("things_of", none), "things_of", "things_of", defArgs (top 32), defBody (top 32), defScope (top 32), [], []⟩
def dd_zeros_of : He.DefD := ⟨("zeros_of", none), "zeros_of", "zeros_of", defArgs (top 33), defBody (top 33), defScope (top 33), [], []⟩
def dd__law_is_row_right : He.DefD := ⟨("_law_is_row_right", none), "_law_is_row_right", "_law_is_row_right", defArgs (top 49), defBody (top 49), defScope (top 49), [], []⟩
def dd__law_right : He.DefD := ⟨("_law_right", none), "_law_right", "_law_right", defArgs (top 51), defBody (top 51), defScope (top 51), [], []⟩
def dd_law : He.DefD := ⟨("law", none), "law", "law", defArgs (top 52), defBody (top 52), defScope (top 52), [], []⟩
def fn0 : List He.DefD := [dd__law_dice, dd__law_flip, dd__law_apart, dd__law_roll, dd__law_drawn_things, dd__law_laid, dd__law_upright, dd_apart_at, dd_is_row, dd_is_any_row, dd_require_any_row, dd_require_row, dd_apart, dd_are_upright, dd_is_upright, dd_laid, dd_laid_over, dd_are_ascending, dd_is_integer, dd_is_from]
def fn1 : List He.DefD := [dd_is_thing, dd_is_things, dd_require_things, dd_turned_row, dd_turned_row_at, dd_turned, dd__law_are_two_right, dd__law_pick, dd__law_drawn_row, dd__law_held, dd__law_turn, dd__law_turn_at, dd_signs_at, dd_spread, dd_held, dd_things_of, dd_zeros_of, dd__law_is_row_right, dd__law_right, dd_law]
def fn : List He.DefD := fn0 ++ fn1
def fa0 : List He.Fa := [.glo "_law_dice", .glo "_law_flip", .glo "_law_apart", .glo "_law_roll", .glo "_law_drawn_things", .glo "_law_laid", .glo "_law_upright", .glo "apart_at", .glo "is_row", .glo "is_any_row", .glo "require_any_row", .glo "require_row", .glo "apart", .glo "are_upright", .glo "is_upright", .glo "laid", .glo "laid_over", .glo "are_ascending", .glo "is_integer", .glo "is_from"]
def fa1 : List He.Fa := [.glo "is_thing", .glo "is_things", .glo "require_things", .glo "turned_row", .glo "turned_row_at", .glo "turned", .glo "_law_are_two_right", .glo "_law_pick", .glo "_law_drawn_row", .glo "_law_held", .glo "_law_turn", .glo "_law_turn_at", .glo "signs_at", .glo "spread", .glo "held", .glo "things_of", .glo "zeros_of", .glo "_law_is_row_right", .glo "_law_right", .glo "law"]
def fa2 : List He.Fa := [.free "abs", .free "all", .free "bool", .free "enumerate", .free "int", .free "isinstance", .free "len", .free "max", .free "min", .free "range", .free "repr", .free "str", .free "tuple", .free "zip", .str "ZERO" "0", .glo "TURNED", .int "MAX_THINGS" (9), .str "SIGNS" "+-0", .int "GREATEST" (1000000000000000000000000000000000000000000000000000000000000)]
def fa : List He.Fa := fa0 ++ fa1 ++ fa2
def ts : List He.Tab := [((fun K => He.ga K "TURNED"), ["+", "-", "0"])]
def vl_TURNED : List (Str × He.Dv) := [("+", (.str "-")), ("-", (.str "+")), ("0", (.str "0"))]
def ex (K : PySem.W.Frag) : Bool := true && He.valsB K (He.ga K "TURNED") vl_TURNED
def loose0 : List Str := ["GREATEST", "is_integer", "is_from", "is_thing", "are_ascending", "is_things", "SignsError", "InvalidRow", "InvalidOperation", "InvalidNumber", "MAX_THINGS", "ZERO", "SIGNS", "TURNED", "is_row", "is_any_row", "require_row", "require_any_row", "require_things", "turned_row"]
def loose1 : List Str := ["turned_row_at", "laid", "apart_at", "are_upright", "held", "turned", "laid_over", "apart", "is_upright", "things_of", "zeros_of", "signs_at", "spread", "_law_dice", "_law_roll", "_law_pick", "_law_flip", "_law_turn", "_law_turn_at", "_law_laid"]
def loose2 : List Str := ["_law_apart", "_law_upright", "_law_held", "_law_drawn_row", "_law_drawn_things", "_law_is_row_right", "_law_are_two_right", "_law_right"]
def loose : List Str := loose0 ++ loose1 ++ loose2
abbrev hk : PySem.W.Hook := He.hookX 5 fa fn ts [] ex
def ob (s : PySem.W.SharedT) : He.AlX := He.obsX 5 fa fn ts [] ex (HandSHeadRun.getT s)
theorem ob_eq (s : PySem.W.SharedT) : ob s = hk.obs s.abs := He.obsX_eq (HandSHeadRun.getT_eq s)
theorem run_false (w : World) : HandSHeadRun.RunEq R (PySem.W.view R.prog [52]) hk ob 9000 loose (w.withFollow "special-get-raises" false) := by
  intro os
  kernel_rfl
theorem run_true (w : World) : HandSHeadRun.RunEq R (PySem.W.view R.prog [52]) hk ob 9000 loose (w.withFollow "special-get-raises" true) := by
  intro os
  kernel_rfl
theorem run (w : World) : HandSHeadRun.RunEq R (PySem.W.view R.prog [52]) hk ob 9000 loose w := PySem.W.byRow2 "special-get-raises" (P := fun w => HandSHeadRun.RunEq R (PySem.W.view R.prog [52]) hk ob 9000 loose w) run_false run_true w
theorem gt_TURNED {w : World} {K : PySem.W.Frag} {h : Heap} {mg : Str → Option Value} (X : K.In h) (G : h.Ns mainGlobals mg) (c : He.SaysX fa fn ts [] ex w h K) (hv : He.valsB K (He.ga K "TURNED") vl_TURNED = true) : GlD K w mg "TURNED" d_TURNED := by
  have hg := He.glo_ok X G (c.t.d.fact 55 (f := .glo "TURNED") rfl)
  obtain ⟨es, n, D⟩ := c.t.tab 0 (t := ((fun K => He.ga K "TURNED"), ["+", "-", "0"])) rfl
  obtain ⟨u0, e0, r0⟩ := He.valsB_ok hv (q := ("+", (.str "-"))) (by unfold vl_TURNED; simp)
  obtain ⟨u1, e1, r1⟩ := He.valsB_ok hv (q := ("-", (.str "+"))) (by unfold vl_TURNED; simp)
  obtain ⟨u2, e2, r2⟩ := He.valsB_ok hv (q := ("0", (.str "0"))) (by unfold vl_TURNED; simp)
  exact ⟨.ref (He.ga K "TURNED"), _, hg, rfl, fun F => .dcw D (.str e0 r0 (.str _) (.str e1 r1 (.str _) (.str e2 r2 (.str _) .nil)))⟩
theorem gs {w : World} {K : PySem.W.Frag} {h : Heap} {mg : Str → Option Value} (X : K.In h) (G : h.Ns mainGlobals mg) (c : He.SaysX fa fn ts [] ex w h K) : Gs w K mg := by
  have hm := c.more
  unfold ex at hm
  simp only [Bool.and_eq_true, Bool.true_and] at hm
  exact {
    z_abs := He.free_ok X G (c.t.d.fact 40 (f := .free "abs") rfl),
    z_all := He.free_ok X G (c.t.d.fact 41 (f := .free "all") rfl),
    z_bool := He.free_ok X G (c.t.d.fact 42 (f := .free "bool") rfl),
    z_enumerate := He.free_ok X G (c.t.d.fact 43 (f := .free "enumerate") rfl),
    z_int := He.free_ok X G (c.t.d.fact 44 (f := .free "int") rfl),
    z_isinstance := He.free_ok X G (c.t.d.fact 45 (f := .free "isinstance") rfl),
    z_len := He.free_ok X G (c.t.d.fact 46 (f := .free "len") rfl),
    z_max := He.free_ok X G (c.t.d.fact 47 (f := .free "max") rfl),
    z_min := He.free_ok X G (c.t.d.fact 48 (f := .free "min") rfl),
    z_range := He.free_ok X G (c.t.d.fact 49 (f := .free "range") rfl),
    z_repr := He.free_ok X G (c.t.d.fact 50 (f := .free "repr") rfl),
    z_str := He.free_ok X G (c.t.d.fact 51 (f := .free "str") rfl),
    z_tuple := He.free_ok X G (c.t.d.fact 52 (f := .free "tuple") rfl),
    z_zip := He.free_ok X G (c.t.d.fact 53 (f := .free "zip") rfl),
    c_ZERO := gl_str (He.str_ok X G (c.t.d.fact 54 (f := .str "ZERO" "0") rfl)) rfl,
    c_TURNED := gt_TURNED X G c hm,
    c_MAX_THINGS := gl_int (He.int_ok X G (c.t.d.fact 56 (f := .int "MAX_THINGS" (9)) rfl)),
    c_SIGNS := gl_str (He.str_ok X G (c.t.d.fact 57 (f := .str "SIGNS" "+-0") rfl)) rfl,
    c_GREATEST := gl_int (He.int_ok X G (c.t.d.fact 58 (f := .int "GREATEST" (1000000000000000000000000000000000000000000000000000000000000)) rfl)),
    f__law_dice := ⟨_, _, (c.t.d.def_ 0 (d := dd__law_dice) rfl).choose_spec, He.glo_ok X G (c.t.d.fact 0 (f := .glo "_law_dice") rfl)⟩,
    f__law_flip := ⟨_, _, (c.t.d.def_ 1 (d := dd__law_flip) rfl).choose_spec, He.glo_ok X G (c.t.d.fact 1 (f := .glo "_law_flip") rfl)⟩,
    f__law_apart := ⟨_, _, (c.t.d.def_ 2 (d := dd__law_apart) rfl).choose_spec, He.glo_ok X G (c.t.d.fact 2 (f := .glo "_law_apart") rfl)⟩,
    f__law_roll := ⟨_, _, (c.t.d.def_ 3 (d := dd__law_roll) rfl).choose_spec, He.glo_ok X G (c.t.d.fact 3 (f := .glo "_law_roll") rfl)⟩,
    f__law_drawn_things := ⟨_, _, (c.t.d.def_ 4 (d := dd__law_drawn_things) rfl).choose_spec, He.glo_ok X G (c.t.d.fact 4 (f := .glo "_law_drawn_things") rfl)⟩,
    f__law_laid := ⟨_, _, (c.t.d.def_ 5 (d := dd__law_laid) rfl).choose_spec, He.glo_ok X G (c.t.d.fact 5 (f := .glo "_law_laid") rfl)⟩,
    f__law_upright := ⟨_, _, (c.t.d.def_ 6 (d := dd__law_upright) rfl).choose_spec, He.glo_ok X G (c.t.d.fact 6 (f := .glo "_law_upright") rfl)⟩,
    f_apart_at := ⟨_, _, (c.t.d.def_ 7 (d := dd_apart_at) rfl).choose_spec, He.glo_ok X G (c.t.d.fact 7 (f := .glo "apart_at") rfl)⟩,
    f_is_row := ⟨_, _, (c.t.d.def_ 8 (d := dd_is_row) rfl).choose_spec, He.glo_ok X G (c.t.d.fact 8 (f := .glo "is_row") rfl)⟩,
    f_is_any_row := ⟨_, _, (c.t.d.def_ 9 (d := dd_is_any_row) rfl).choose_spec, He.glo_ok X G (c.t.d.fact 9 (f := .glo "is_any_row") rfl)⟩,
    f_require_any_row := ⟨_, _, (c.t.d.def_ 10 (d := dd_require_any_row) rfl).choose_spec, He.glo_ok X G (c.t.d.fact 10 (f := .glo "require_any_row") rfl)⟩,
    f_require_row := ⟨_, _, (c.t.d.def_ 11 (d := dd_require_row) rfl).choose_spec, He.glo_ok X G (c.t.d.fact 11 (f := .glo "require_row") rfl)⟩,
    f_apart := ⟨_, _, (c.t.d.def_ 12 (d := dd_apart) rfl).choose_spec, He.glo_ok X G (c.t.d.fact 12 (f := .glo "apart") rfl)⟩,
    f_are_upright := ⟨_, _, (c.t.d.def_ 13 (d := dd_are_upright) rfl).choose_spec, He.glo_ok X G (c.t.d.fact 13 (f := .glo "are_upright") rfl)⟩,
    f_is_upright := ⟨_, _, (c.t.d.def_ 14 (d := dd_is_upright) rfl).choose_spec, He.glo_ok X G (c.t.d.fact 14 (f := .glo "is_upright") rfl)⟩,
    f_laid := ⟨_, _, (c.t.d.def_ 15 (d := dd_laid) rfl).choose_spec, He.glo_ok X G (c.t.d.fact 15 (f := .glo "laid") rfl)⟩,
    f_laid_over := ⟨_, _, (c.t.d.def_ 16 (d := dd_laid_over) rfl).choose_spec, He.glo_ok X G (c.t.d.fact 16 (f := .glo "laid_over") rfl)⟩,
    f_are_ascending := ⟨_, _, (c.t.d.def_ 17 (d := dd_are_ascending) rfl).choose_spec, He.glo_ok X G (c.t.d.fact 17 (f := .glo "are_ascending") rfl)⟩,
    f_is_integer := ⟨_, _, (c.t.d.def_ 18 (d := dd_is_integer) rfl).choose_spec, He.glo_ok X G (c.t.d.fact 18 (f := .glo "is_integer") rfl)⟩,
    f_is_from := ⟨_, _, (c.t.d.def_ 19 (d := dd_is_from) rfl).choose_spec, He.glo_ok X G (c.t.d.fact 19 (f := .glo "is_from") rfl)⟩,
    f_is_thing := ⟨_, _, (c.t.d.def_ 20 (d := dd_is_thing) rfl).choose_spec, He.glo_ok X G (c.t.d.fact 20 (f := .glo "is_thing") rfl)⟩,
    f_is_things := ⟨_, _, (c.t.d.def_ 21 (d := dd_is_things) rfl).choose_spec, He.glo_ok X G (c.t.d.fact 21 (f := .glo "is_things") rfl)⟩,
    f_require_things := ⟨_, _, (c.t.d.def_ 22 (d := dd_require_things) rfl).choose_spec, He.glo_ok X G (c.t.d.fact 22 (f := .glo "require_things") rfl)⟩,
    f_turned_row := ⟨_, _, (c.t.d.def_ 23 (d := dd_turned_row) rfl).choose_spec, He.glo_ok X G (c.t.d.fact 23 (f := .glo "turned_row") rfl)⟩,
    f_turned_row_at := ⟨_, _, (c.t.d.def_ 24 (d := dd_turned_row_at) rfl).choose_spec, He.glo_ok X G (c.t.d.fact 24 (f := .glo "turned_row_at") rfl)⟩,
    f_turned := ⟨_, _, (c.t.d.def_ 25 (d := dd_turned) rfl).choose_spec, He.glo_ok X G (c.t.d.fact 25 (f := .glo "turned") rfl)⟩,
    f__law_are_two_right := ⟨_, _, (c.t.d.def_ 26 (d := dd__law_are_two_right) rfl).choose_spec, He.glo_ok X G (c.t.d.fact 26 (f := .glo "_law_are_two_right") rfl)⟩,
    f__law_pick := ⟨_, _, (c.t.d.def_ 27 (d := dd__law_pick) rfl).choose_spec, He.glo_ok X G (c.t.d.fact 27 (f := .glo "_law_pick") rfl)⟩,
    f__law_drawn_row := ⟨_, _, (c.t.d.def_ 28 (d := dd__law_drawn_row) rfl).choose_spec, He.glo_ok X G (c.t.d.fact 28 (f := .glo "_law_drawn_row") rfl)⟩,
    f__law_held := ⟨_, _, (c.t.d.def_ 29 (d := dd__law_held) rfl).choose_spec, He.glo_ok X G (c.t.d.fact 29 (f := .glo "_law_held") rfl)⟩,
    f__law_turn := ⟨_, _, (c.t.d.def_ 30 (d := dd__law_turn) rfl).choose_spec, He.glo_ok X G (c.t.d.fact 30 (f := .glo "_law_turn") rfl)⟩,
    f__law_turn_at := ⟨_, _, (c.t.d.def_ 31 (d := dd__law_turn_at) rfl).choose_spec, He.glo_ok X G (c.t.d.fact 31 (f := .glo "_law_turn_at") rfl)⟩,
    f_signs_at := ⟨_, _, (c.t.d.def_ 32 (d := dd_signs_at) rfl).choose_spec, He.glo_ok X G (c.t.d.fact 32 (f := .glo "signs_at") rfl)⟩,
    f_spread := ⟨_, _, (c.t.d.def_ 33 (d := dd_spread) rfl).choose_spec, He.glo_ok X G (c.t.d.fact 33 (f := .glo "spread") rfl)⟩,
    f_held := ⟨_, _, (c.t.d.def_ 34 (d := dd_held) rfl).choose_spec, He.glo_ok X G (c.t.d.fact 34 (f := .glo "held") rfl)⟩,
    f_things_of := ⟨_, _, (c.t.d.def_ 35 (d := dd_things_of) rfl).choose_spec, He.glo_ok X G (c.t.d.fact 35 (f := .glo "things_of") rfl)⟩,
    f_zeros_of := ⟨_, _, (c.t.d.def_ 36 (d := dd_zeros_of) rfl).choose_spec, He.glo_ok X G (c.t.d.fact 36 (f := .glo "zeros_of") rfl)⟩,
    f__law_is_row_right := ⟨_, _, (c.t.d.def_ 37 (d := dd__law_is_row_right) rfl).choose_spec, He.glo_ok X G (c.t.d.fact 37 (f := .glo "_law_is_row_right") rfl)⟩,
    f__law_right := ⟨_, _, (c.t.d.def_ 38 (d := dd__law_right) rfl).choose_spec, He.glo_ok X G (c.t.d.fact 38 (f := .glo "_law_right") rfl)⟩,
    f_law := ⟨_, _, (c.t.d.def_ 39 (d := dd_law) rfl).choose_spec, He.glo_ok X G (c.t.d.fact 39 (f := .glo "law") rfl)⟩ }
end W_k00
open PySem PySem.W PySem.Calls PyProof.Rows
theorem W_k00.holds (hl : ∀ ns : List Int, ns.length ≤ 63 → ∃ σ, W_k00.m_law (DL.startD 6 [.fz (.scr ns)]) = .ok (.rt (.fz (.bl true))) σ) : PySem.Challenge.rw_sidesigns_k00_rows_sign_by_sign.Holds := by
  w_on; o_law
  refine HandSHeadRun.head_any (r := OpenLaw.row PySem.Challenge.rw_sidesigns_k00_rows_sign_by_sign) (q := view (OpenLaw.row PySem.Challenge.rw_sidesigns_k00_rows_sign_by_sign).prog [52]) (H := W_k00.hk) (ob := W_k00.ob) (M := 9000) (loose := W_k00.loose) (d := HandSHeadRun.topDef (OpenLaw.row PySem.Challenge.rw_sidesigns_k00_rows_sign_by_sign).prog 52) (kwd := []) W_k00.ob_eq
    (by kernel_rfl) (fun s => by kernel_rfl) W_k00.run (by kernel_rfl) (by kernel_rfl) (by kernel_rfl) (by rfl) (by first | assumption | decide +kernel) (by decide +kernel) ⟨rfl, rfl, rfl, rfl, rfl, by decide +kernel⟩ ?hw ?hc
  case hw => w_witness2
  case hc =>
    refine DL.walk_ofW (l := PySem.Challenge.rw_sidesigns_k00_rows_sign_by_sign) (n := 63) (k := 9) (x := "_law_script") rfl (by decide) (by kernel_rfl) ⟨rfl, by decide, by decide⟩ ?F
    intro w mg fa h Y G hmg0
    obtain ⟨K, KX, c⟩ := Y
    have hmg : mg ("law" : PySem.Str) = some (.ref fa) := by
      have e : (HandSHeadRun.topDef (OpenLaw.row PySem.Challenge.rw_sidesigns_k00_rows_sign_by_sign).prog 52).name = ("law" : PySem.Str) := by kernel_rfl
      rw [← e]
      exact hmg0
    have g := W_k00.gs KX G c
    obtain ⟨f, fd, F, hf⟩ := g.f_law
    have e := hmg.symm.trans hf
    cases e
    refine ⟨K, fd, DL.spD K w (["_law_script", "_law_spot", "_law_told", "_law_pairs", "_law_one", "_law_other"] : List PySem.Str) 1 1 W_k00.m_law, KX, fun s v => F.bindsA (ps := ["_law_script"]) (fun _ _ _ _ _ _ us hl => match us, hl with | [_], _ => rfl) s [v] rfl, fun H a ns hlen _ hS => ?_, fun base _ _ => ?_⟩
    · obtain ⟨σ, e⟩ := hl ns hlen
      exact DL.law_sp (N := (["_law_script", "_law_spot", "_law_told", "_law_pairs", "_law_one", "_law_other"] : List PySem.Str)) (by decide) hS e
    · exact DL.okD F W_k00.sc_law (@W_k00.s_law (OpenLaw.prog PySem.Challenge.rw_sidesigns_k00_rows_sign_by_sign) w K mg base g _)

theorem PySem.Challenge.cw_sidesigns_k00_rows_sign_by_sign_holds : PySem.Challenge.rw_sidesigns_k00_rows_sign_by_sign.Holds := by
  exact W_k00.holds fun ns _ => W_k00.plain_law ns
