import PyProof.Rows.All
import Wide.All
import OpenK.AllK
import Wide.FinOn
import KE.KStateDown
import KE.GoesEnum
import HandS.ForMost
import HandS.ForExc
import HandS.More
import HandS.Evl
import HandS.Walk
import HandS.Wide
import HandS.WordsExc
import HandS.Defaults
import HandS.CallSlots
import HandS.TryMany
import HandS.ExcInit
import HandS.ExcField
import HandS.ExcIs
import HandS.IsInst
import HandS.Style
import HandS.Deep
import HandS.Conv
import HandS.Flow
import HandS.Zip
import HandS.Head0
import HandS.Head1
import HandS.Head2
import HandS.HeadEnd
import HandS.HeadHook1
import HandS.HeadHook2
import HandS.MakeKwOnly
import HandS.Iter
import KE.KRevSl
import HandS.SortInts
import HandS.SortRule
import HandS.Strs
import KE.DataMinMax
import KE.SortData
import HandS.Replace
import HandS.SetFor
import HandS.TupSets
import PySem.Challenge.RW_slipmotes_k03_whole_within
set_option Elab.async false
set_option linter.all false
set_option maxRecDepth 100000
set_option maxHeartbeats 0
/-! Pu: plain data over the hand layer. D: a value with all that hangs on it; R: how it lies in the heap; a def's mirror is a function of D. -/
namespace Pu
open PySem PySem.Spec PyProof.Rows L2 Evl

/-- the program's own classes of exceptions; the one field that some of them have -/
def cN : Nat → Str
  | 0 => "SlipError"
  | 1 => "NoAlphabet"
  | 2 => "NoWord"
  | 3 => "NoTexts"
  | 4 => "NoNumber"
  | 5 => "NoPieces"
  | 6 => "NoDeeds"
  | 7 => "NoText"
  | 8 => "Unlike"
  | 9 => "Gone"
  | _ => "NoBack"
def fN : Nat → Str
  | 4 => "which"
  | 8 => "lengths"
  | _ => "number"
/-- the exception that a suite holds: where it lies, its class, its dict -/
abbrev Xa := Option (Addr × Value × Option Addr)
inductive D where
  | non | bl (b : Bool) | int (i : Int) | str (l : List Nat)
  | lst (xs : List D) | tup (xs : List D)
  | frl (xs : List D)
  | tpz (xs : List D)
  | exv (c : Nat)
  | exf (c : Nat) (y : D)
  | obj (c : Str) (fs : List (Str × D))
  | dct (kvs : List ((Int ⊕ List Nat) × D))
  | dco (kvs : List ((Int ⊕ List Nat) × D))
/-- a dict's key: an int or a text -/
abbrev DK := Int ⊕ List Nat

/-- a text by its codes -/
abbrev sOf (l : List Nat) : Str := ⟨l.toArray⟩
theorem sOf_toList (z : Str) : sOf z.cps.toList = z := by
  obtain ⟨a⟩ := z
  rfl
theorem sOf_len (l : List Nat) : (sOf l).length = l.length := by
  show l.toArray.size = l.length
  simp
/-- codes that a text may hold -/
def okS (l : List Nat) : Prop := ∀ c ∈ l, c < 1114112
theorem okS.app {a b : List Nat} (h : okS a) (k : okS b) : okS (a ++ b) := fun c hc => (List.mem_append.mp hc).elim (h c) (k c)
theorem okS.sub {a b : List Nat} (h : okS b) (k : ∀ c ∈ a, c ∈ b) : okS a := fun c hc => h c (k c hc)
theorem okS.nil : okS [] := fun _ h => nomatch h
def okB (l : List Nat) : Bool := l.all fun c => decide (c < 1114112)
theorem okB_ok {l : List Nat} (h : okB l = true) : okS l := fun c hc => of_decide_eq_true (List.all_eq_true.mp h c hc)
theorem sOf_inj {a b : List Nat} (h : sOf a = sOf b) : a = b := by
  have e : (sOf a).cps.toList = (sOf b).cps.toList := by rw [h]
  exact e

def kD : DK → Key
  | .inl i => .inl i
  | .inr l => .inr (sOf l)
def okK : DK → Prop
  | .inl _ => True
  | .inr l => okS l
/-! ### how data lies in the heap -/
section
variable (K : PySem.W.Frag) (xa : Xa) (H : Hp)
mutual
inductive R : V → D → Prop
  | non : R .non .non
  | bl (b : Bool) : R (.bl b) (.bl b)
  | int (i : Int) : R (.int i) (.int i)
  | str {l : List Nat} : okS l → R (.str (sOf l)) (.str l)
  | lst {a : Addr} {xs : List V} {ds : List D} : H a = some (.lst xs) → RL xs ds → R (.ref a) (.lst ds)
  | tup {a : Addr} {xs : List V} {ds : List D} : H a = some (.tup xs) → RL xs ds → R (.ref a) (.tup ds)
  | frl {a : Addr} {xs : List V} {ds : List D} : SqL K H a xs → RL xs ds → R (.ref a) (.frl ds)
  | tpz {a : Addr} {o : Obj} {xs : List V} {ds : List D} : H a = some (.frz o (.tup xs)) → o.dict = none → o.cls = .type "tuple" → RL xs ds → R (.ref a) (.tpz ds)
  | exv {a : Addr} {c : Nat} : xa = some (a, .ref (He.ga K (cN c)), none) → R (.ref a) (.exv c)
  | exf {a dd : Addr} {c : Nat} {u : V} {y : D} : xa = some (a, .ref (He.ga K (cN c)), some dd) → H dd = some (.xd [(fN c, u)]) → R u y → R (.ref a) (.exf c y)
  | obj {a dx : Addr} {c : Str} {vs : List (Str × V)} {fs : List (Str × D)} : H a = some (.ins (He.ga K c) dx vs) → RF vs fs → R (.ref a) (.obj c fs)
  | dct {a : Addr} {o : Obj} {vs : List (Key × V)} {kvs : List (DK × D)} : H a = some (.frz o (.dK vs)) → RK vs kvs → R (.ref a) (.dct kvs)
  | dco {a : Addr} {vs : List (Key × V)} {kvs : List (DK × D)} : H a = some (.dK vs) → RK vs kvs → R (.ref a) (.dco kvs)
inductive RK : List (Key × V) → List (DK × D) → Prop
  | nil : RK [] []
  | cons {k : DK} {v : V} {vs : List (Key × V)} {d : D} {ds : List (DK × D)} : okK k → R v d → RK vs ds → RK ((kD k, v) :: vs) ((k, d) :: ds)
inductive RL : List V → List D → Prop
  | nil : RL [] []
  | cons {v : V} {vs : List V} {d : D} {ds : List D} : R v d → RL vs ds → RL (v :: vs) (d :: ds)
inductive RF : List (Str × V) → List (Str × D) → Prop
  | nil : RF [] []
  | cons {f : Str} {v : V} {vs : List (Str × V)} {d : D} {ds : List (Str × D)} : R v d → RF vs ds → RF ((f, v) :: vs) ((f, d) :: ds)
end
end

section
variable {K : PySem.W.Frag} {xa : Xa} {H H' : Hp}
mutual
theorem R.mono (e : Ex H H') : ∀ {v : V} {d : D}, R K xa H v d → R K xa H' v d
  | _, _, .non => .non
  | _, _, .bl b => .bl b
  | _, _, .int i => .int i
  | _, _, .str h => .str h
  | _, _, .lst h r => .lst (e _ _ h) (RL.mono e r)
  | _, _, .tup h r => .tup (e _ _ h) (RL.mono e r)
  | _, _, .frl h r => .frl (ex_l e h) (RL.mono e r)
  | _, _, .tpz h a b r => .tpz (e _ _ h) a b (RL.mono e r)
  | _, _, .exv h => .exv h
  | _, _, .exf h k r => .exf h (e _ _ k) (R.mono e r)
  | _, _, .obj h r => .obj (e _ _ h) (RF.mono e r)
  | _, _, .dct h r => .dct (e _ _ h) (RK.mono e r)
  | _, _, .dco h r => .dco (e _ _ h) (RK.mono e r)
theorem RK.mono (e : Ex H H') : ∀ {vs : List (Key × V)} {ds : List (DK × D)}, RK K xa H vs ds → RK K xa H' vs ds
  | _, _, .nil => .nil
  | _, _, .cons o h r => .cons o (R.mono e h) (RK.mono e r)
theorem RL.mono (e : Ex H H') : ∀ {vs : List V} {ds : List D}, RL K xa H vs ds → RL K xa H' vs ds
  | _, _, .nil => .nil
  | _, _, .cons h r => .cons (R.mono e h) (RL.mono e r)
theorem RF.mono (e : Ex H H') : ∀ {vs : List (Str × V)} {ds : List (Str × D)}, RF K xa H vs ds → RF K xa H' vs ds
  | _, _, .nil => .nil
  | _, _, .cons h r => .cons (R.mono e h) (RF.mono e r)
end
theorem RL.length : ∀ {vs : List V} {ds : List D}, RL K xa H vs ds → vs.length = ds.length
  | _, _, .nil => rfl
  | _, _, .cons _ r => by rw [List.length_cons, List.length_cons, RL.length r]
theorem RL.get : ∀ {vs : List V} {ds : List D} {i : Nat} {d : D}, RL K xa H vs ds → ds[i]? = some d → ∃ v, vs[i]? = some v ∧ R K xa H v d
  | _, _, _, _, .nil, h => by simp at h
  | _, _, 0, _, .cons h _, e => by
    simp at e
    subst e
    exact ⟨_, rfl, h⟩
  | _, _, i + 1, d, .cons _ r, e => by
    obtain ⟨v, e1, q⟩ := RL.get (i := i) (d := d) r (by simpa using e)
    exact ⟨v, by simpa using e1, q⟩
theorem RL.app : ∀ {vs ws : List V} {ds es : List D}, RL K xa H vs ds → RL K xa H ws es → RL K xa H (vs ++ ws) (ds ++ es)
  | _, _, _, _, .nil, s => s
  | _, _, _, _, .cons h r, s => .cons h (RL.app r s)
theorem RL.take : ∀ {vs : List V} {ds : List D} (n : Nat), RL K xa H vs ds → RL K xa H (vs.take n) (ds.take n)
  | _, _, 0, _ => .nil
  | _, _, _ + 1, .nil => .nil
  | _, _, n + 1, .cons h r => .cons h (RL.take n r)
theorem RL.drop : ∀ {vs : List V} {ds : List D} (n : Nat), RL K xa H vs ds → RL K xa H (vs.drop n) (ds.drop n)
  | _, _, 0, r => r
  | _, _, _ + 1, .nil => .nil
  | _, _, n + 1, .cons _ r => RL.drop n r
theorem RL.one {vs : List V} {d : D} (h : RL K xa H vs [d]) : ∃ v, vs = [v] ∧ R K xa H v d := by
  cases h with
  | cons a b =>
    cases b
    exact ⟨_, rfl, a⟩
theorem RL.two {vs : List V} {d e : D} (h : RL K xa H vs [d, e]) : ∃ v w, vs = [v, w] ∧ R K xa H v d ∧ R K xa H w e := by
  cases h with
  | cons a b =>
    obtain ⟨w, rfl, q⟩ := b.one
    exact ⟨_, w, rfl, a, q⟩
end

/-! ### exceptions, results -/
/-- an exception: its class (by its name), its fields -/
structure Xc where
  c : Nat
  a : Option D
inductive Res (α : Type) where
  | ok (a : α) | ex (x : Xc) | st
def Res.bind {α β : Type} : Res α → (α → Res β) → Res β
  | .ok a, k => k a
  | .ex x, _ => .ex x
  | .st, _ => .st
@[simp] theorem Res.bind_ok {α β : Type} (a : α) (k : α → Res β) : (Res.ok a).bind k = k a := rfl
@[simp] theorem Res.bind_ex {α β : Type} (x : Xc) (k : α → Res β) : (Res.ex x).bind k = .ex x := rfl
@[simp] theorem Res.bind_st {α β : Type} (k : α → Res β) : (Res.st).bind k = .st := rfl
/-- what raises is stuck -/
def Res.pur {α : Type} : Res α → Res α
  | .ok a => .ok a
  | _ => .st
@[simp] theorem Res.pur_ok {α : Type} (a : α) : (Res.ok a).pur = .ok a := rfl
@[simp] theorem Res.pur_ex {α : Type} (x : Xc) : (Res.ex x : Res α).pur = .st := rfl
@[simp] theorem Res.pur_st {α : Type} : (Res.st : Res α).pur = .st := rfl
def ofO {α : Type} : Option α → Res α
  | some a => .ok a
  | none => .st
@[simp] theorem ofO_some {α : Type} (a : α) : ofO (some a) = .ok a := rfl
@[simp] theorem ofO_none {α : Type} : ofO (none : Option α) = .st := rfl

/-! ### the base grows -/
structure Gw (Hb H Hb' H' : Hp) : Prop where
  up : Ex H H'
  bup : Ex Hb Hb'
  le : Ex Hb' H'
  old : ∀ a o, H a = some o → Hb' a = Hb a
theorem Gw.refl {Hb H : Hp} (h : Ex Hb H) : Gw Hb H Hb H := ⟨Ex.refl _, Ex.refl _, h, fun _ _ _ => rfl⟩
theorem Gw.trans {Hb H B1 H1 B2 H2 : Hp} (a : Gw Hb H B1 H1) (b : Gw B1 H1 B2 H2) : Gw Hb H B2 H2 :=
  ⟨a.up.trans b.up, a.bup.trans b.bup, b.le, fun c o h => (b.old c o (a.up c o h)).trans (a.old c o h)⟩
theorem Gw.new {Hb H : Hp} {p : Addr} {o : HO} (h : Ex Hb H) (n : H p = none) : Gw Hb H (upd Hb p o) (upd H p o) := by
  have nb : Hb p = none := fresh_back h n
  refine ⟨Ex.new n, Ex.new nb, fun a u e => ?_, fun a u e => ?_⟩
  · by_cases ha : a = p
    · subst ha
      rw [upd_same] at e ⊢
      exact e
    · rw [upd_ne ha] at e ⊢
      exact h _ _ e
  · rw [upd_ne (ne_of_none e n)]

/-! ### the slots -/
abbrev Env := List (Option D)
structure RE (K : PySem.W.Frag) (xa : Xa) (Hb : Hp) (σ : L2.St) (ρ : Env) : Prop where
  len : ρ.length ≤ σ.length
  at_ : ∀ (i : Nat) (d : D), ρ[i]? = some (some d) → ∃ v, σ[i]? = some (some v) ∧ R K xa Hb v d
theorem RE.mono {K : PySem.W.Frag} {xa : Xa} {Hb Hb' : Hp} {σ : L2.St} {ρ : Env} (e : Ex Hb Hb') (h : RE K xa Hb σ ρ) : RE K xa Hb' σ ρ := ⟨h.len, fun i d q => by
  obtain ⟨v, e1, r⟩ := h.at_ i d q
  exact ⟨v, e1, r.mono e⟩⟩
theorem RE.set {K : PySem.W.Frag} {xa : Xa} {Hb : Hp} {σ : L2.St} {ρ : Env} {v : V} {d : D} (h : RE K xa Hb σ ρ) (r : R K xa Hb v d) (i : Nat) : RE K xa Hb (σ.set i (some v)) (ρ.set i (some d)) := by
  refine ⟨by rw [List.length_set, List.length_set]; exact h.len, fun j e q => ?_⟩
  by_cases hj : i = j
  · subst hj
    have hi : i < ρ.length := by
      by_cases hi : i < ρ.length
      · exact hi
      · rw [List.getElem?_eq_none (by rw [List.length_set]; omega)] at q
        cases q
    rw [List.getElem?_set_self hi] at q
    cases q
    exact ⟨v, List.getElem?_set_self (Nat.lt_of_lt_of_le hi h.len), r⟩
  · rw [List.getElem?_set_ne hj] at q
    obtain ⟨w, e1, r1⟩ := h.at_ j e q
    exact ⟨w, by rw [List.getElem?_set_ne hj]; exact e1, r1⟩
/-- a slot is forgotten -/
theorem RE.lose {K : PySem.W.Frag} {xa : Xa} {Hb : Hp} {σ : L2.St} {ρ : Env} (h : RE K xa Hb σ ρ) (o : Option V) (i : Nat) : RE K xa Hb (σ.set i o) (ρ.set i none) := by
  refine ⟨by rw [List.length_set, List.length_set]; exact h.len, fun j e q => ?_⟩
  by_cases hj : i = j
  · subst hj
    have hi : i < ρ.length := by
      by_cases hi : i < ρ.length
      · exact hi
      · rw [List.getElem?_eq_none (by rw [List.length_set]; omega)] at q
        cases q
    rw [List.getElem?_set_self hi] at q
    cases q
  · rw [List.getElem?_set_ne hj] at q
    obtain ⟨w, e1, r1⟩ := h.at_ j e q
    exact ⟨w, by rw [List.getElem?_set_ne hj]; exact e1, r1⟩

/-! ### what is wanted of a result -/
/-- the exception's class and its dict -/
def XR (K : PySem.W.Frag) (Hb : Hp) (cls : Value) (d : Option Addr) (x : Xc) : Prop :=
  cls = .ref (He.ga K (cN x.c)) ∧ ((x.a = none ∧ d = none) ∨ ∃ a u y, d = some a ∧ Hb a = some (.xd [(fN x.c, u)]) ∧ x.a = some y ∧ R K none Hb u y)
theorem XR.mono {K : PySem.W.Frag} {Hb Hb' : Hp} {cls : Value} {d : Option Addr} {x : Xc} (e : Ex Hb Hb') (h : XR K Hb cls d x) : XR K Hb' cls d x := by
  refine ⟨h.1, ?_⟩
  rcases h.2 with h | ⟨a, u, y, e1, e2, n, r⟩
  · exact .inl h
  · exact .inr ⟨a, u, y, e1, e _ _ e2, n, r.mono e⟩
section
variable (K : PySem.W.Frag) (xa : Xa)
/-- α told by β in a heap -/
def post {α β : Type} (Rel : Hp → β → α → Prop) (E : XK) (Hb H : Hp) (Q : β → Hp → Prop) : Res α → Prop
  | .ok d => ∀ v Hb' H', Gw Hb H Hb' H' → Rel Hb' v d → Q v H'
  | .ex x => ∀ c dx Hb' H', Gw Hb H Hb' H' → XR K Hb' c dx x → E c dx H'
  | .st => False
abbrev RelT : Hp → Bool → Bool → Prop := fun _ b c => b = c
def tPx {α β : Type} (Rel : Hp → β → α → Prop) (W : WX) (f : Env → Res α) : L2.St → Hp → (β → Hp → Prop) → Prop := fun σ H Q =>
  ∃ Hb ρ, Ex Hb H ∧ RE K xa Hb σ ρ ∧ post K Rel (WE W σ) Hb H Q (f ρ)
abbrev tP (W : WX) (f : Env → Res D) : TE := tPx K xa (R K xa) W f
abbrev tPT (W : WX) (f : Env → Res Bool) : TT := tPx K xa RelT W f
abbrev tPA (W : WX) (f : Env → Res (List D)) : TA := tPx K xa (RL K xa) W f
end
section
variable {K : PySem.W.Frag} {xa : Xa} {W : WX}
/-- a first part, then a second one -/
theorem post_bind {α β γ δ : Type} {Rel : Hp → β → α → Prop} {Rel2 : Hp → δ → γ → Prop} {E : XK} {Hb H : Hp} {Q : δ → Hp → Prop} {r : Res α} {k : α → Res γ} {Q1 : β → Hp → Prop} (le : Ex Hb H)
    (h : post K Rel2 E Hb H Q (r.bind k))
    (hk : ∀ d v Hb1 H1, r = .ok d → Gw Hb H Hb1 H1 → Rel Hb1 v d → post K Rel2 E Hb1 H1 Q (k d) → Q1 v H1) : post K Rel E Hb H Q1 r := by
  cases r with
  | ok d =>
    intro v Hb1 H1 g r1
    refine hk d v Hb1 H1 rfl g r1 ?_
    have h : post K Rel2 E Hb H Q (k d) := h
    cases e : k d with
    | ok d2 =>
      rw [e] at h
      exact fun v2 Hb2 H2 g2 r2 => h v2 Hb2 H2 (g.trans g2) r2
    | ex x =>
      rw [e] at h
      exact fun c dx Hb2 H2 g2 r2 => h c dx Hb2 H2 (g.trans g2) r2
    | st =>
      rw [e] at h
      exact h
  | ex x => exact h
  | st => exact h
theorem post_here {α β : Type} {Rel : Hp → β → α → Prop} {E : XK} {Hb H : Hp} {Q : β → Hp → Prop} {d : α} {v : β} (le : Ex Hb H) (h : post K Rel E Hb H Q (.ok d)) (r : Rel Hb v d) : Q v H := h v Hb H (Gw.refl le) r
theorem post_new {α : Type} {Rel : Hp → V → α → Prop} {E : XK} {Hb H : Hp} {Q : VK} {d : α} {p : Addr} {o : HO} (le : Ex Hb H) (h : post K Rel E Hb H Q (.ok d)) (n : H p = none) (r : Rel (upd Hb p o) (.ref p) d) : Q (.ref p) (upd H p o) :=
  h _ _ _ (Gw.new le n) r
end

/-! ### weakening -/
theorem PE.imp {X : Cx} {e : Expr} {t t' : TE} (h : PE X e t) (k : ∀ σ H Q, t' σ H Q → t σ H Q) : PE X e t' := ⟨fun pins s σ H Q I q => h.run pins s σ H Q I (k σ H Q q)⟩
theorem PT.imp {X : Cx} {e : Expr} {t t' : TT} (h : PT X e t) (k : ∀ σ H Q, t' σ H Q → t σ H Q) : PT X e t' := ⟨fun pins s σ H Q I q => h.run pins s σ H Q I (k σ H Q q)⟩
theorem PW.imp {X : Cx} {e : Expr} {t t' : TT} (h : PW X e t) (k : ∀ σ H Q, t' σ H Q → t σ H Q) : PW X e t' := ⟨fun wh pins s σ H Q I q => h.run wh pins s σ H Q I (k σ H Q q)⟩
theorem PA.imp {X : Cx} {e : List Expr} {t t' : TA} (h : PA X e t) (k : ∀ σ H Q, t' σ H Q → t σ H Q) : PA X e t' := ⟨fun pos pins s σ H Q I q => h.run pos pins s σ H Q I (k σ H Q q)⟩
theorem PS.imp {X : Cx} {e : Stmt} {t t' : TS} (h : PS X e t) (k : ∀ D σ H, t' D σ H → t D σ H) : PS X e t' := ⟨fun pins s σ H D I q => h.run pins s σ H D I (k D σ H q)⟩
theorem PSs.imp {X : Cx} {e : List Stmt} {t t' : TS} (h : PSs X e t) (k : ∀ D σ H, t' D σ H → t D σ H) : PSs X e t' := ⟨fun pins s σ H D I q => h.run pins s σ H D I (k D σ H q)⟩
theorem PI.imp {X : Cx} {tg e : Expr} {t t' : TI} (h : PI X tg e t) (k : ∀ σ H Q, t' σ H Q → t σ H Q) : PI X tg e t' := ⟨fun pins s σ H Q I q => h.run pins s σ H Q I (k σ H Q q)⟩

/-! ### the mirror's words: expressions -/
abbrev F := Env → Res D
abbrev T := Env → Res Bool
abbrev Fs := Env → Res (List D)
def vr (i : Nat) : F := fun ρ => match ρ[i]? with
  | some (some d) => .ok d
  | _ => .st
def cst (d : D) : F := fun _ => .ok d
def op1 (g : D → Option D) (f : F) : F := fun ρ => (f ρ).bind fun x => ofO (g x)
def op2 (g : D → D → Option D) (f h : F) : F := fun ρ => (f ρ).bind fun x => (h ρ).bind fun y => ofO (g x y)
def opN (g : List D → Option D) (as : Fs) : F := fun ρ => (as ρ).bind fun xs => ofO (g xs)
def argN : Fs := fun _ => .ok []
def argC (f : F) (r : Fs) : Fs := fun ρ => (f ρ).bind fun x => (r ρ).bind fun xs => .ok (x :: xs)
def calF (m : List D → Res D) (as : Fs) : F := fun ρ => (as ρ).bind m
def lstF (as : Fs) : F := fun ρ => (as ρ).bind fun xs => if xs.length ≤ 1000 then .ok (.lst xs) else .st
def tupF (as : Fs) : F := fun ρ => (as ρ).bind fun xs => if xs.length ≤ 1000 then .ok (.tup xs) else .st
def toB : D → Option Bool
  | .bl b => some b
  | _ => none
def tst (f : F) : T := fun ρ => (f ρ).bind fun x => ofO (toB x)
def anT (a b : T) : T := fun ρ => (a ρ).bind fun x => if x = true then b ρ else .ok false
def orT (a b : T) : T := fun ρ => (a ρ).bind fun x => if x = true then .ok true else b ρ
def noT (a : T) : T := fun ρ => (a ρ).bind fun x => .ok (!x)
def anF (a b : F) : F := fun ρ => (a ρ).bind fun x => (ofO (toB x)).bind fun c => if c = true then b ρ else .ok (.bl false)
def orF (a b : F) : F := fun ρ => (a ρ).bind fun x => (ofO (toB x)).bind fun c => if c = true then .ok (.bl true) else b ρ
def noF (a : F) : F := fun ρ => (a ρ).bind fun x => (ofO (toB x)).bind fun c => .ok (.bl (!c))
def ifF (c : T) (a b : F) : F := fun ρ => (c ρ).bind fun x => if x = true then a ρ else b ρ
/-- a op b op c -/
def chF (g g' : D → D → Option D) (a b c : F) : F := fun ρ => (a ρ).bind fun x => (b ρ).bind fun y => (ofO (g x y)).bind fun z => (ofO (toB z)).bind fun k => if k = true then (c ρ).bind fun u => ofO (g' y u) else .ok (.bl false)

/-! ### the judgements -/
section
variable (X : Cx) (xa : Xa) (W : WX)
abbrev Pe (e : Expr) (f : F) : Prop := PE X e (tP X.K xa W f)
abbrev Pt (e : Expr) (f : T) : Prop := PT X e (tPT X.K xa W f)
abbrev Pw (e : Expr) (f : T) : Prop := PW X e (tPT X.K xa W f)
abbrev Pa (es : List Expr) (f : Fs) : Prop := PA X es (tPA X.K xa W f)
end

section
variable {X : Cx} {xa : Xa} {W : WX} {pos : Pos} {a b c e : Expr} {es : List Expr} {f h k : F} {fs : Fs}
theorem p_var (i : Nat) {x : Str} (hN : X.N[i]? = some x := by rfl) (hv : Vis X.env.scope x := by first | exact Or.inl rfl | exact Or.inr (Or.inl rfl) | exact Or.inr (Or.inr rfl)) (hd : (x == ("__debug__" : Str)) = false := by decide)
    (hcd : (x == ("__classdict__" : Str)) = false := by decide) : Pe X xa W (.Name x pos) (vr i) := by
  refine PE.imp (pe_var hN hv hd hcd) fun σ H Q hq => ?_
  obtain ⟨Hb, ρ, le, re, p⟩ := hq
  unfold vr at p
  cases q : ρ[i]? with
  | none =>
    rw [q] at p
    exact p.elim
  | some o =>
    cases o with
    | none =>
      rw [q] at p
      exact p.elim
    | some d =>
      rw [q] at p
      obtain ⟨v, e1, r⟩ := re.at_ i d q
      exact ⟨v, e1, post_here le p r⟩
/-- what is the same in every state: a constant -/
theorem p_cst {v : V} {d : D} (h : PE X e (tC v)) (r : ∀ H, R X.K xa H v d) : Pe X xa W e (cst d) := by
  refine PE.imp h fun σ H Q hq => ?_
  obtain ⟨Hb, ρ, le, re, p⟩ := hq
  exact post_here le p (r _)
theorem p_int {i : Int} {j : Nat} : Pe X xa W (.Constant (.int i) j pos) (cst (.int i)) := p_cst pe_int fun _ => .int i
theorem p_bl {b : Bool} {j : Nat} : Pe X xa W (.Constant (.bool b) j pos) (cst (.bl b)) := p_cst pe_bl fun _ => .bl b
theorem p_non {j : Nat} : Pe X xa W (.Constant .none j pos) (cst .non) := p_cst pe_non fun _ => .non
theorem p_str {x : Str} {j : Nat} {l : List Nat} (hx : x = sOf l := by rfl) (hl : okB l = true := by decide) : Pe X xa W (.Constant (.str x) j pos) (cst (.str l)) := by
  subst hx
  exact p_cst pe_str fun _ => .str (okB_ok hl)
theorem p_gint {x : Str} {i : Int} (hg : Gl X x) (hm : ∃ t, X.mg x = some (.int i t)) (hd : (x == ("__debug__" : Str)) = false := by decide) : Pe X xa W (.Name x pos) (cst (.int i)) := by
  obtain ⟨t, hm⟩ := hm
  exact p_cst (v := .int i) (pe_glob hg hm ⟨t, rfl⟩ hd) fun _ => .int i
theorem p_gstr {x : Str} {z : Str} {l : List Nat} (hg : Gl X x) (hm : ∃ t, X.mg x = some (.str z t)) (hz : z = sOf l := by rfl) (hl : okB l = true := by decide) (hd : (x == ("__debug__" : Str)) = false := by decide) : Pe X xa W (.Name x pos) (cst (.str l)) := by
  obtain ⟨t, hm⟩ := hm
  subst hz
  exact p_cst (v := .str (sOf l)) (pe_glob hg hm ⟨t, rfl⟩ hd) fun _ => .str (okB_ok hl)

/-! operations on data -/
def rD (K : PySem.W.Frag) (xa : Xa) (g : D → D → Option D) : R2 := fun x y H Q => ∃ Hb d e z, Ex Hb H ∧ R K xa Hb x d ∧ R K xa Hb y e ∧ g d e = some z ∧ ∀ v Hb' H', Gw Hb H Hb' H' → R K xa Hb' v z → Q v H'
def rD1 (K : PySem.W.Frag) (xa : Xa) (g : D → Option D) : V → Hp → VK → Prop := fun x H Q => ∃ Hb d z, Ex Hb H ∧ R K xa Hb x d ∧ g d = some z ∧ ∀ v Hb' H', Gw Hb H Hb' H' → R K xa Hb' v z → Q v H'
def rDN (K : PySem.W.Frag) (xa : Xa) (g : List D → Option D) : List V → Hp → VK → Prop := fun xs H Q => ∃ Hb ds z, Ex Hb H ∧ RL K xa Hb xs ds ∧ g ds = some z ∧ ∀ v Hb' H', Gw Hb H Hb' H' → R K xa Hb' v z → Q v H'
abbrev Op2 (X : Cx) (xa : Xa) (f : Value → Value → Sem Value) (g : D → D → Option D) : Prop := OpR X f (rD X.K xa g)
abbrev Op1 (X : Cx) (xa : Xa) (f : Value → Sem Value) (g : D → Option D) : Prop := UnR X f (rD1 X.K xa g)
abbrev OpC (X : Cx) (xa : Xa) (f : Value) (g : List D → Option D) : Prop := CallR X f (rDN X.K xa g)
theorem rD_of {g : D → D → Option D} {x y : V} {d e : D} {Hb B1 B2 H H1 H2 : Hp} {E : XK} {Q : VK} (g1 : Gw Hb H B1 H1) (r1 : R X.K xa B1 x d) (g2 : Gw B1 H1 B2 H2) (r2 : R X.K xa B2 y e) (p : post X.K (R X.K xa) E B2 H2 Q (ofO (g d e))) : rD X.K xa g x y H2 Q := by
  cases q : g d e with
  | none =>
    rw [q] at p
    exact p.elim
  | some z =>
    rw [q] at p
    exact ⟨B2, d, e, z, g2.le, r1.mono g2.bup, r2, q, p⟩
theorem t_op2 {g : D → D → Option D} {σ : L2.St} {H : Hp} {Q : VK} (hq : tP X.K xa W (op2 g f h) σ H Q) : tOp (rD X.K xa g) (tP X.K xa W f) (tP X.K xa W h) σ H Q := by
  obtain ⟨Hb, ρ, le, re, p⟩ := hq
  refine ⟨Hb, ρ, le, re, post_bind le p fun d v B1 H1 e1 g1 r1 p1 => ?_⟩
  refine ⟨B1, ρ, g1.le, re.mono g1.bup, post_bind g1.le p1 fun d2 v2 B2 H2 e2 g2 r2 p2 => ?_⟩
  exact rD_of g1 r1 g2 r2 p2
theorem p_op {op : Operator} {g : D → D → Option D} (ho : Op2 X xa (binaryOp op) g) (ha : Pe X xa W a f) (hb : Pe X xa W b h) : Pe X xa W (.BinOp a op b pos) (op2 g f h) := PE.imp (pe_op ho ha hb) fun _ _ _ hq => t_op2 hq
theorem p_cmp {op : CmpOp} {g : D → D → Option D} (ho : Op2 X xa (compareOp op) g) (ha : Pe X xa W a f) (hb : Pe X xa W b h) (hm : behindInMarks op b = false := by first | exact nomark _ | rfl) : Pe X xa W (.Compare a [op] [b] pos) (op2 g f h) := PE.imp (pe_cmpR ho ha hb hm) fun _ _ _ hq => t_op2 hq
theorem p_ix {g : D → D → Option D} (ho : IxR X (rD X.K xa g)) (ha : Pe X xa W a f) (hb : Pe X xa W b h) (hs : PlainIx b := by exact fun _ _ => rfl) : Pe X xa W (.Subscript a b pos) (op2 g f h) := PE.imp (pe_ix ho ha hb hs) fun _ _ _ hq => t_op2 hq
theorem p_un {op : UnaryOp} {g : D → Option D} (ho : Op1 X xa (unaryOp op) g) (ha : Pe X xa W a f) : Pe X xa W (.UnaryOp op a pos) (op1 g f) := by
  refine PE.imp (pe_un ho ha) fun σ H Q hq => ?_
  obtain ⟨Hb, ρ, le, re, p⟩ := hq
  refine ⟨Hb, ρ, le, re, post_bind le p fun d v B1 H1 e1 g1 r1 p1 => ?_⟩
  cases q : g d with
  | none =>
    rw [q] at p1
    exact p1.elim
  | some z =>
    rw [q] at p1
    exact ⟨B1, d, z, g1.le, r1, q, p1⟩

/-! arguments, displays, calls of what is built in -/
theorem p_nil : Pa X xa W [] argN := by
  refine PA.imp pa_nil fun σ H Q hq => ?_
  obtain ⟨Hb, ρ, le, re, p⟩ := hq
  exact post_here le p .nil
theorem p_cons (ha : Pe X xa W e f) (hr : Pa X xa W es fs) (hs : starEach (e :: es) X.env = (false, eval e X.env) :: starEach es X.env := by rfl) : Pa X xa W (e :: es) (argC f fs) := by
  refine PA.imp (pa_cons ha hr hs) fun σ H Q hq => ?_
  obtain ⟨Hb, ρ, le, re, p⟩ := hq
  refine ⟨Hb, ρ, le, re, post_bind le p fun d v B1 H1 e1 g1 r1 p1 => ?_⟩
  refine ⟨B1, ρ, g1.le, re.mono g1.bup, post_bind g1.le p1 fun ds vs B2 H2 e2 g2 r2 p2 => ?_⟩
  exact p2 _ B2 H2 (Gw.refl g2.le) (.cons (r1.mono g2.bup) r2)
theorem le1000 {n : Nat} (h : n ≤ 1000) : n ≤ sizeLine := Nat.le_trans h (by decide)
theorem p_lst (h : Pa X xa W es fs) : Pe X xa W (.List es pos) (lstF fs) := by
  refine PE.imp (pe_lst h) fun σ H Q hq => ?_
  obtain ⟨Hb, ρ, le, re, p⟩ := hq
  refine ⟨Hb, ρ, le, re, post_bind le p fun ds vs B1 H1 e1 g1 r1 p1 => ?_⟩
  by_cases hl : ds.length ≤ 1000
  · rw [if_pos hl] at p1
    refine ⟨by rw [r1.length]; exact le1000 hl, fun q hn => post_new g1.le p1 hn ?_⟩
    exact .lst upd_same (r1.mono (Ex.new (fresh_back g1.le hn)))
  · rw [if_neg hl] at p1
    exact p1.elim
theorem p_tup {x1 : Nat} (h : Pa X xa W es fs) : Pe X xa W (.Tuple es x1 pos) (tupF fs) := by
  refine PE.imp (pe_tup h) fun σ H Q hq => ?_
  obtain ⟨Hb, ρ, le, re, p⟩ := hq
  refine ⟨Hb, ρ, le, re, post_bind le p fun ds vs B1 H1 e1 g1 r1 p1 => ?_⟩
  by_cases hl : ds.length ≤ 1000
  · rw [if_pos hl] at p1
    refine ⟨by rw [r1.length]; exact le1000 hl, fun q hn => post_new g1.le p1 hn ?_⟩
    exact .tup upd_same (r1.mono (Ex.new (fresh_back g1.le hn)))
  · rw [if_neg hl] at p1
    exact p1.elim
theorem t_opN {g : List D → Option D} {σ : L2.St} {H : Hp} {Q : VK} (hq : tP X.K xa W (opN g fs) σ H Q) : tCB (rDN X.K xa g) (tPA X.K xa W fs) σ H Q := by
  obtain ⟨Hb, ρ, le, re, p⟩ := hq
  refine ⟨Hb, ρ, le, re, post_bind le p fun ds vs B1 H1 e1 g1 r1 p1 => ?_⟩
  cases q : g ds with
  | none =>
    rw [q] at p1
    exact p1.elim
  | some z =>
    rw [q] at p1
    exact ⟨B1, ds, z, g1.le, r1, q, p1⟩
theorem p_callB {x : Str} {id : String} {g : List D → Option D} {p : Pos} (hc : OpC X xa (.builtin id) g) (hg : Gl X x) (hm : X.mg x = none) (hv : bootBuiltins x = some (.builtin id)) (ha : Pa X xa W (e :: es) fs) (hn : x ≠ "__name__" := by decide) (hdb : (x == ("__debug__" : Str)) = false := by decide)
    (he : starEach (e :: es) X.env = (false, eval e X.env) :: starEach es X.env := by rfl) (hpl : (backTo pos (starEach es X.env)).any (·.1) = false := by rfl) : Pe X xa W (.Call (.Name x p) (e :: es) [] pos) (opN g fs) :=
  PE.imp (pe_callB hc hg hm hv ha hn hdb he hpl) fun _ _ _ hq => t_opN hq
theorem p_callTy {x : Str} {id : String} {g : List D → Option D} {p : Pos} (hc : OpC X xa (.type id) g) (hg : Gl X x) (hm : X.mg x = none) (hv : bootBuiltins x = some (.type id)) (ha : Pa X xa W (e :: es) fs) (hn : x ≠ "__name__" := by decide) (hdb : (x == ("__debug__" : Str)) = false := by decide)
    (he : starEach (e :: es) X.env = (false, eval e X.env) :: starEach es X.env := by rfl) (hpl : (backTo pos (starEach es X.env)).any (·.1) = false := by rfl) : Pe X xa W (.Call (.Name x p) (e :: es) [] pos) (opN g fs) :=
  PE.imp (pe_callTy hc hg hm hv ha hn hdb he hpl) fun _ _ _ hq => t_opN hq
end
end Pu

namespace Pu
open PySem PySem.Spec PyProof.Rows L2 Evl
theorem szl : sizeLine = 16777216 := sizeLine_eq

/-! ### == -/
mutual
def py : D → PyData
  | .non => .none
  | .bl b => .bool b
  | .int i => .int i
  | .str l => .str (sOf l)
  | .lst xs => .list (pyL xs)
  | .tup xs => .tuple (pyL xs)
  | .frl xs => .list (pyL xs)
  | .tpz xs => .tuple (pyL xs)
  | .exv _ => .none
  | .exf _ _ => .none
  | .obj _ _ => .none
  | .dct _ => .none
  | .dco _ => .none
def pyL : List D → List PyData
  | [] => []
  | x :: xs => py x :: pyL xs
end
mutual
def dep : D → Nat
  | .lst xs => depL xs + 1
  | .tup xs => depL xs + 1
  | .frl xs => depL xs + 1
  | .tpz xs => depL xs + 1
  | .exv _ => 1000
  | .exf _ _ => 1000
  | .obj _ _ => 1000
  | .dct _ => 1000
  | .dco _ => 1000
  | .non => 0
  | .bl _ => 0
  | .int _ => 0
  | .str _ => 0
def depL : List D → Nat
  | [] => 0
  | x :: xs => max (dep x) (depL xs)
end
section
variable {K : PySem.W.Frag} {xa : Xa} {H : Hp}
mutual
theorem R.dp : ∀ {v : V} {d : D}, R K xa H v d → dep d ≤ 60 → Dp K H v (py d) ∧ (py d).canLay0 = true ∧ (py d).depth ≤ dep d
  | _, _, .non, _ => ⟨.non, rfl, Nat.le_refl _⟩
  | _, _, .bl b, _ => ⟨.bl b, rfl, Nat.le_refl _⟩
  | _, _, .int i, _ => ⟨.int i, rfl, Nat.le_refl _⟩
  | _, _, .str h, _ => ⟨.str _, by
      show PyData.strOk _ = true
      unfold PyData.strOk
      rw [Array.all_eq_true']
      intro c hc
      exact decide_eq_true (h c (by simpa using hc)), Nat.le_refl _⟩
  | _, _, .lst h r, q => by
    have q : depL _ + 1 ≤ 60 := q
    obtain ⟨a, b, c⟩ := RL.dp r (by omega)
    exact ⟨.lst (SqL.of h) a, b, Nat.succ_le_succ c⟩
  | _, _, .tup h r, q => by
    have q : depL _ + 1 ≤ 60 := q
    obtain ⟨a, b, c⟩ := RL.dp r (by omega)
    exact ⟨.tup (SqT.of h) a, b, Nat.succ_le_succ c⟩
  | _, _, .frl h r, q => by
    have q : depL _ + 1 ≤ 60 := q
    obtain ⟨a, b, c⟩ := RL.dp r (by omega)
    exact ⟨.lst h a, b, Nat.succ_le_succ c⟩
  | _, _, .tpz h _ _ r, q => by
    have q : depL _ + 1 ≤ 60 := q
    obtain ⟨a, b, c⟩ := RL.dp r (by omega)
    exact ⟨.tup (.inl (.inr ⟨_, h⟩)) a, b, Nat.succ_le_succ c⟩
  | _, _, .exv _, q => absurd q (by show ¬ 1000 ≤ 60; omega)
  | _, _, .exf _ _ _, q => absurd q (by show ¬ 1000 ≤ 60; omega)
  | _, _, .obj _ _, q => absurd q (by show ¬ 1000 ≤ 60; omega)
  | _, _, .dct _ _, q => absurd q (by show ¬ 1000 ≤ 60; omega)
  | _, _, .dco _ _, q => absurd q (by show ¬ 1000 ≤ 60; omega)
theorem RL.dp : ∀ {vs : List V} {ds : List D}, RL K xa H vs ds → depL ds ≤ 60 → DpAll K H vs (pyL ds) ∧ PyData.canLayAll0 (pyL ds) = true ∧ PyData.depthAll (pyL ds) ≤ depL ds
  | _, _, .nil, _ => ⟨.nil, rfl, Nat.le_refl _⟩
  | _, _, .cons h r, q => by
    have q : max (dep _) (depL _) ≤ 60 := q
    obtain ⟨a, b, c⟩ := R.dp h (by omega)
    obtain ⟨a', b', c'⟩ := RL.dp r (by omega)
    refine ⟨.cons a a', ?_, ?_⟩
    · show (PyData.canLay0 _ && PyData.canLayAll0 _) = true
      rw [b, b'] <;> rfl
    · show max (PyData.depth _) (PyData.depthAll _) ≤ max (dep _) (depL _)
      omega
end
theorem R.shp {v : V} {d : D} (r : R K xa H v d) (h : dep d ≤ 60) : Dp K H v (py d) ∧ SeqAt.shaped (py d) = true := by
  obtain ⟨a, b, c⟩ := r.dp h
  refine ⟨a, ?_⟩
  unfold SeqAt.shaped
  rw [b, decide_eq_true (show (py d).depth ≤ 64 by omega)] <;> rfl
end
def eqd (d e : D) : Bool := PyData.eqv (py d) (py e)
def eqdL (d e : List D) : Bool := PyData.eqvAll (pyL d) (pyL e)
def dEq (d e : D) : Option D := if dep d ≤ 60 ∧ dep e ≤ 60 then some (.bl (eqd d e)) else none
def dNe (d e : D) : Option D := if dep d ≤ 60 ∧ dep e ≤ 60 then some (.bl (!eqd d e)) else none
section
variable {X : Cx} {xa : Xa} {W : WX}
theorem o_eq (hu : X.A.units + 64 < cLine) : Op2 X xa (compareOp .Eq) dEq := by
  intro pins s σ H x y v u Q I rx ry h
  obtain ⟨Hb, d, e, z, le, r1, r2, hz, q⟩ := h
  unfold dEq at hz
  by_cases c : dep d ≤ 60 ∧ dep e ≤ 60
  · rw [if_pos c] at hz
    cases hz
    obtain ⟨a1, b1⟩ := (r1.mono le).shp c.1
    obtain ⟨a2, b2⟩ := (r2.mono le).shp c.2
    exact op_eqD hu pins s σ H x y v u Q I rx ry ⟨_, _, a1, a2, b1, b2, q _ Hb H (Gw.refl le) (.bl _)⟩
  · rw [if_neg c] at hz
    cases hz
theorem o_ne (hu : X.A.units + 64 < cLine) : Op2 X xa (compareOp .NotEq) dNe := by
  intro pins s σ H x y v u Q I rx ry h
  obtain ⟨Hb, d, e, z, le, r1, r2, hz, q⟩ := h
  unfold dNe at hz
  by_cases c : dep d ≤ 60 ∧ dep e ≤ 60
  · rw [if_pos c] at hz
    cases hz
    obtain ⟨a1, b1⟩ := (r1.mono le).shp c.1
    obtain ⟨a2, b2⟩ := (r2.mono le).shp c.2
    exact op_neD hu pins s σ H x y v u Q I rx ry ⟨_, _, a1, a2, b1, b2, q _ Hb H (Gw.refl le) (.bl _)⟩
  · rw [if_neg c] at hz
    cases hz

/-! ### arithmetic -/
theorem sOf_app (a b : List Nat) : sOf a ++ sOf b = sOf (a ++ b) := by
  show (⟨a.toArray ++ b.toArray⟩ : Str) = ⟨(a ++ b).toArray⟩
  rw [List.append_toArray]
def dAdd : D → D → Option D
  | .int i, .int j => some (.int (i + j))
  | .str a, .str b => if a.length + b.length ≤ 16777216 then some (.str (a ++ b)) else none
  | .lst a, .lst b => if a.length + b.length ≤ 16777216 then some (.lst (a ++ b)) else none
  | .tup a, .tup b => if 0 < a.length ∧ a.length + b.length ≤ 16777216 then some (.tup (a ++ b)) else none
  | _, _ => none
theorem o_add : Op2 X xa (binaryOp .Add) dAdd := by
  intro pins s σ H x y v u Q I rx ry h
  obtain ⟨Hb, d, e, z, le, r1, r2, hz, q⟩ := h
  cases r1 with
  | int i =>
    cases r2 with
    | int j =>
      cases hz
      exact op_add pins s σ H _ _ v u Q I rx ry ⟨i, j, rfl, rfl, q _ Hb H (Gw.refl le) (.int _)⟩
    | _ => cases hz
  | @str a h1 =>
    cases r2 with
    | @str b h2 =>
      have hz : (if a.length + b.length ≤ 16777216 then some (D.str (a ++ b)) else none) = some z := hz
      by_cases c : a.length + b.length ≤ 16777216
      · rw [if_pos c] at hz
        cases hz
        refine op_add_str pins s σ H _ _ v u Q I rx ry ⟨_, _, rfl, rfl, by rw [sOf_len, sOf_len, szl]; exact c, ?_⟩
        rw [sOf_app]
        exact q _ Hb H (Gw.refl le) (.str (h1.app h2))
      · rw [if_neg c] at hz
        cases hz
    | _ => cases hz
  | @lst a xs as h1 q1 =>
    cases r2 with
    | @lst b ys bs h2 q2 =>
      have hz : (if as.length + bs.length ≤ 16777216 then some (D.lst (as ++ bs)) else none) = some z := hz
      by_cases c : as.length + bs.length ≤ 16777216
      · rw [if_pos c] at hz
        cases hz
        refine op_cat pins s σ H _ _ v u Q I rx ry ⟨_, _, xs, ys, rfl, rfl, le _ _ h1, le _ _ h2, by rw [q1.length, q2.length, szl]; exact c, fun p hp => ?_⟩
        exact q _ _ _ (Gw.new le hp) (.lst upd_same ((q1.app q2).mono (Ex.new (fresh_back le hp))))
      · rw [if_neg c] at hz
        cases hz
    | _ => cases hz
  | @tup a xs as h1 q1 =>
    cases r2 with
    | @tup b ys bs h2 q2 =>
      have hz : (if 0 < as.length ∧ as.length + bs.length ≤ 16777216 then some (D.tup (as ++ bs)) else none) = some z := hz
      by_cases c : 0 < as.length ∧ as.length + bs.length ≤ 16777216
      · rw [if_pos c] at hz
        cases hz
        have l1 := q1.length
        have l2 := q2.length
        refine op_catT pins s σ H _ _ v u Q I rx ry ⟨_, _, xs, ys, rfl, rfl, ex_t le (SqT.of h1), ex_t le (SqT.of h2), ?_, by rw [szl]; omega, fun e => ?_, fun e p hp => ?_⟩
        · intro e0
          subst e0
          simp at l1
          omega
        · subst e
          have : bs = [] := by
            cases bs with
            | nil => rfl
            | cons _ _ => simp at l2
          subst this
          rw [List.append_nil] at q
          exact q _ Hb H (Gw.refl le) (.tup h1 q1)
        · exact q _ _ _ (Gw.new le hp) (.tup upd_same ((q1.app q2).mono (Ex.new (fresh_back le hp))))
      · rw [if_neg c] at hz
        cases hz
    | _ => cases hz
  | _ => cases hz
def dSub : D → D → Option D
  | .int i, .int j => some (.int (i - j))
  | _, _ => none
theorem o_sub : Op2 X xa (binaryOp .Sub) dSub := by
  intro pins s σ H x y v u Q I rx ry h
  obtain ⟨Hb, d, e, z, le, r1, r2, hz, q⟩ := h
  cases r1 with
  | int i =>
    cases r2 with
    | int j =>
      cases hz
      exact op_sub pins s σ H _ _ v u Q I rx ry ⟨i, j, rfl, rfl, q _ Hb H (Gw.refl le) (.int _)⟩
    | _ => cases hz
  | _ => cases hz
def dFdiv : D → D → Option D
  | .int i, .int j => if 0 < j ∧ j < 2 ^ 4000 then some (.int (i / j)) else none
  | _, _ => none
theorem o_fdiv : Op2 X xa (binaryOp .FloorDiv) dFdiv := by
  intro pins s σ H x y v u Q I rx ry h
  obtain ⟨Hb, d, e, z, le, r1, r2, hz, q⟩ := h
  cases r1 with
  | int i =>
    cases r2 with
    | int j =>
      have hz : (if 0 < j ∧ j < 2 ^ 4000 then some (D.int (i / j)) else none) = some z := hz
      by_cases c : 0 < j ∧ j < 2 ^ 4000
      · rw [if_pos c] at hz
        cases hz
        refine op_fdivW pins s σ H _ _ v u Q I rx ry ⟨i, j, rfl, rfl, wide_div (b := 4000) c.1 ?_ (by decide) (by decide), q _ Hb H (Gw.refl le) (.int _)⟩
        have h1 := c.1
        have h2 := c.2
        have e1 : (j.natAbs : Int) = j := by omega
        have e2 : (j.natAbs : Int) < ((2 ^ 4000 : Nat) : Int) := by
          rw [e1, Int.natCast_pow]
          exact h2
        exact Int.ofNat_lt.mp e2
      · rw [if_neg c] at hz
        cases hz
    | _ => cases hz
  | _ => cases hz
def dMod : D → D → Option D
  | .int i, .int j => if 0 < j then some (.int (i % j)) else none
  | _, _ => none
theorem o_mod : Op2 X xa (binaryOp .Mod) dMod := by
  intro pins s σ H x y v u Q I rx ry h
  obtain ⟨Hb, d, e, z, le, r1, r2, hz, q⟩ := h
  cases r1 with
  | int i =>
    cases r2 with
    | int j =>
      have hz : (if 0 < j then some (D.int (i % j)) else none) = some z := hz
      by_cases c : 0 < j
      · rw [if_pos c] at hz
        cases hz
        exact op_mod pins s σ H _ _ v u Q I rx ry ⟨i, j, rfl, rfl, c, q _ Hb H (Gw.refl le) (.int _)⟩
      · rw [if_neg c] at hz
        cases hz
    | _ => cases hz
  | _ => cases hz
def dPow : D → D → Option D
  | .int i, .int j => if 0 ≤ j ∧ j ≤ 1000 ∧ i.natAbs < 2 ^ 64 then some (.int (i ^ j.toNat)) else none
  | _, _ => none
theorem o_pow : Op2 X xa (binaryOp .Pow) dPow := by
  intro pins s σ H x y v u Q I rx ry h
  obtain ⟨Hb, d, e, z, le, r1, r2, hz, q⟩ := h
  cases r1 with
  | int i =>
    cases r2 with
    | int j =>
      have hz : (if 0 ≤ j ∧ j ≤ 1000 ∧ i.natAbs < 2 ^ 64 then some (D.int (i ^ j.toNat)) else none) = some z := hz
      by_cases c : 0 ≤ j ∧ j ≤ 1000 ∧ i.natAbs < 2 ^ 64
      · rw [if_pos c] at hz
        cases hz
        exact op_pow pins s σ H _ _ v u Q I rx ry ⟨i, j, rfl, rfl, ⟨c.1, by omega, c.2.2⟩, q _ Hb H (Gw.refl le) (.int _)⟩
      · rw [if_neg c] at hz
        cases hz
    | _ => cases hz
  | _ => cases hz
end
end Pu

namespace Pu
open PySem PySem.Spec PyProof.Rows L2 Evl
/-- a size that products and powers keep below -/
def big : Nat := 2 ^ 4000
theorem lt_big {n : Nat} (h : n < 2 ^ 64) : n < big := Nat.lt_of_lt_of_le h (Nat.pow_le_pow_right (by decide) (by decide))
section
variable {K : PySem.W.Frag} {xa : Xa} {H : Hp}
theorem RL.at {vs : List V} {ds : List D} {i : Int} {d : D} (r : RL K xa H vs ds) (h : atI ds i = some d) : ∃ v, atI vs i = some v ∧ R K xa H v d := by
  unfold atI at h ⊢
  rw [r.length]
  cases e : ixN ds.length i with
  | none =>
    rw [e] at h
    cases h
  | some j =>
    rw [e] at h
    exact r.get h
theorem RL.rep {vs : List V} {ds : List D} (r : RL K xa H vs ds) : ∀ n : Nat, RL K xa H (List.replicate n vs).flatten (List.replicate n ds).flatten
  | 0 => .nil
  | n + 1 => by
    rw [List.replicate_succ, List.replicate_succ, List.flatten_cons, List.flatten_cons]
    exact r.app (RL.rep r n)
theorem RL.rev : ∀ {vs : List V} {ds : List D}, RL K xa H vs ds → RL K xa H vs.reverse ds.reverse
  | _, _, .nil => .nil
  | _, _, .cons h r => by
    rw [List.reverse_cons, List.reverse_cons]
    exact (RL.rev r).app (.cons h .nil)
end
section
variable {X : Cx} {xa : Xa} {W : WX} {pos : Pos} {a b c e : Expr} {es : List Expr} {f h k : F} {fs : Fs}

/-! ### * -/
def dMul : D → D → Option D
  | .int i, .int j => if i.natAbs < big ∧ j.natAbs < big then some (.int (i * j)) else none
  | .str a, .int j => if 0 ≤ j ∧ a.length * j.toNat ≤ 1000 ∧ j ≤ 1000 then some (.str (List.replicate j.toNat a).flatten) else none
  | .lst a, .int j => if 0 ≤ j ∧ a.length * j.toNat ≤ 1000 ∧ j ≤ 1000 then some (.lst (List.replicate j.toNat a).flatten) else none
  | _, _ => none
theorem foldl_app : ∀ (l : List (List Nat)) (a : List Nat), (l.map List.toArray).foldl (· ++ ·) a.toArray = (a ++ l.flatten).toArray
  | [], a => by simp
  | x :: l, a => by
    rw [List.map_cons, List.foldl_cons, List.append_toArray, foldl_app l (a ++ x), List.flatten_cons, List.append_assoc]
theorem mul_text {a : List Nat} {j : Int} (h0 : 0 ≤ j) : Txt.mul (sOf a) j = sOf (List.replicate j.toNat a).flatten := by
  unfold Txt.mul
  by_cases h1 : j < 1
  · have e : j = 0 := by omega
    subst e
    rfl
  · rw [if_neg h1]
    by_cases h2 : (j == 1 || (sOf a).length == 0) = true
    · rw [if_pos h2]
      rcases Bool.or_eq_true_iff.mp h2 with h3 | h3
      · have e : j = 1 := eq_of_beq h3
        subst e
        show sOf a = sOf (a ++ [])
        rw [List.append_nil]
      · have e : a.length = 0 := by
          have := eq_of_beq h3
          rw [sOf_len] at this
          exact this
        have e2 : a = [] := List.length_eq_zero_iff.mp e
        subst e2
        have : (List.replicate j.toNat ([] : List Nat)).flatten = [] := by simp
        rw [this]
    · rw [if_neg h2]
      have e := foldl_app (List.replicate j.toNat a) []
      rw [List.map_replicate] at e
      show (⟨(List.replicate j.toNat a.toArray).foldl (· ++ ·) #[]⟩ : Str) = _
      rw [show (#[] : Array Nat) = ([] : List Nat).toArray from rfl, e, List.nil_append]
theorem flat_len {α : Type} (n : Nat) (a : List α) : (List.replicate n a).flatten.length = a.length * n := by
  induction n with
  | zero => rfl
  | succ n ih => rw [List.replicate_succ, List.flatten_cons, List.length_append, ih, Nat.mul_succ, Nat.add_comm]
theorem o_mul : Op2 X xa (binaryOp .Mult) dMul := by
  intro pins s σ H x y v u Q I rx ry h
  obtain ⟨Hb, d, e, z, le, r1, r2, hz, q⟩ := h
  cases r1 with
  | int i =>
    cases r2 with
    | int j =>
      have hz : (if i.natAbs < big ∧ j.natAbs < big then some (D.int (i * j)) else none) = some z := hz
      by_cases c : i.natAbs < big ∧ j.natAbs < big
      · rw [if_pos c] at hz
        cases hz
        exact op_mulW pins s σ H _ _ v u Q I rx ry ⟨i, j, rfl, rfl, wide_mul (a := 4000) (b := 4000) c.1 c.2 (by decide) (by decide) (by decide), q _ Hb H (Gw.refl le) (.int _)⟩
      · rw [if_neg c] at hz
        cases hz
    | _ => cases hz
  | @str a h1 =>
    cases r2 with
    | int j =>
      have hz : (if 0 ≤ j ∧ a.length * j.toNat ≤ 1000 ∧ j ≤ 1000 then some (D.str (List.replicate j.toNat a).flatten) else none) = some z := hz
      by_cases c : 0 ≤ j ∧ a.length * j.toNat ≤ 1000 ∧ j ≤ 1000
      · rw [if_pos c] at hz
        cases hz
        obtain ⟨t, rfl⟩ := (show ∃ t, v = Value.str (sOf a) t from rx)
        obtain ⟨t', rfl⟩ := (show ∃ t, u = Value.int j t from ry)
        obtain ⟨c1, c2, c3⟩ := c
        refine SB.mul ⟨?_, fun n1 n2 => ?_, fun n1 n2 => ?_⟩ fun t' k => ⟨.str (Txt.mul (sOf a) j), H, I.tok _, ⟨_, rfl⟩, ?_⟩
        · rw [decide_eq_false (show ¬ j < -(2 ^ 63 : Int) by omega), decide_eq_false (show ¬ j ≥ 2 ^ 63 by omega)] <;> rfl
        · rw [sOf_len]
          have h3 : a.length ≤ 1000 := by
            have h4 : 1 ≤ j.toNat := by omega
            have h5 : a.length * 1 ≤ a.length * j.toNat := Nat.mul_le_mul_left _ h4
            omega
          have h4 : (2 ^ 63 - 1 : Int) / 1000 ≤ (2 ^ 63 - 1) / j := by
            refine Int.le_ediv_of_mul_le (by omega) ?_
            have : (2 ^ 63 - 1 : Int) / 1000 * j ≤ (2 ^ 63 - 1 : Int) / 1000 * 1000 := Int.mul_le_mul_of_nonneg_left c3 (by decide)
            exact Int.le_trans this (by decide)
          have h5 : ((1000 : Nat) : Int) ≤ (2 ^ 63 - 1 : Int) / 1000 := by decide
          omega
        · rw [sOf_len]
          show decide (_ > sizeLine) = false
          rw [szl]
          exact decide_eq_false (by omega)
        · rw [mul_text c1]
          refine q _ Hb H (Gw.refl le) (.str (h1.sub fun x hx => ?_))
          obtain ⟨l, hl, hxl⟩ := List.mem_flatten.mp hx
          rw [(List.mem_replicate.mp hl).2] at hxl
          exact hxl
      · rw [if_neg c] at hz
        cases hz
    | _ => cases hz
  | @lst a xs as h1 q1 =>
    cases r2 with
    | int j =>
      have hz : (if 0 ≤ j ∧ as.length * j.toNat ≤ 1000 ∧ j ≤ 1000 then some (D.lst (List.replicate j.toNat as).flatten) else none) = some z := hz
      by_cases c : 0 ≤ j ∧ as.length * j.toNat ≤ 1000 ∧ j ≤ 1000
      · rw [if_pos c] at hz
        cases hz
        refine op_rep pins s σ H _ _ v u Q I rx ry ⟨_, j, xs, rfl, rfl, le _ _ h1, by omega, by omega, by rw [q1.length, szl]; omega, fun p hp => ?_⟩
        exact q _ _ _ (Gw.new le hp) (.lst upd_same ((q1.rep _).mono (Ex.new (fresh_back le hp))))
      · rw [if_neg c] at hz
        cases hz
    | _ => cases hz
  | _ => cases hz

/-! ### order -/
def dLt : D → D → Option D
  | .int i, .int j => some (.bl (decide (i < j)))
  | .str a, .str b => some (.bl (decide (a < b)))
  | _, _ => none
def dLe : D → D → Option D
  | .int i, .int j => some (.bl (decide (i ≤ j)))
  | _, _ => none
def dGt : D → D → Option D
  | .int i, .int j => some (.bl (decide (j < i)))
  | _, _ => none
def dGe : D → D → Option D
  | .int i, .int j => some (.bl (decide (j ≤ i)))
  | _, _ => none
theorem o_lt : Op2 X xa (compareOp .Lt) dLt := by
  intro pins s σ H x y v u Q I rx ry h
  obtain ⟨Hb, d, e, z, le, r1, r2, hz, q⟩ := h
  cases r1 with
  | int i =>
    cases r2 with
    | int j =>
      cases hz
      exact op_lt pins s σ H _ _ v u Q I rx ry ⟨i, j, rfl, rfl, q _ Hb H (Gw.refl le) (.bl _)⟩
    | _ => cases hz
  | @str a h1 =>
    cases r2 with
    | @str b h2 =>
      cases hz
      exact op_lt_str pins s σ H _ _ v u Q I rx ry ⟨_, _, rfl, rfl, q _ Hb H (Gw.refl le) (.bl _)⟩
    | _ => cases hz
  | _ => cases hz
theorem o_le : Op2 X xa (compareOp .LtE) dLe := by
  intro pins s σ H x y v u Q I rx ry h
  obtain ⟨Hb, d, e, z, le, r1, r2, hz, q⟩ := h
  cases r1 with
  | int i =>
    cases r2 with
    | int j =>
      cases hz
      exact op_le pins s σ H _ _ v u Q I rx ry ⟨i, j, rfl, rfl, q _ Hb H (Gw.refl le) (.bl _)⟩
    | _ => cases hz
  | _ => cases hz
theorem o_gt : Op2 X xa (compareOp .Gt) dGt := by
  intro pins s σ H x y v u Q I rx ry h
  obtain ⟨Hb, d, e, z, le, r1, r2, hz, q⟩ := h
  cases r1 with
  | int i =>
    cases r2 with
    | int j =>
      cases hz
      exact op_gt pins s σ H _ _ v u Q I rx ry ⟨i, j, rfl, rfl, q _ Hb H (Gw.refl le) (.bl _)⟩
    | _ => cases hz
  | _ => cases hz
theorem o_ge : Op2 X xa (compareOp .GtE) dGe := by
  intro pins s σ H x y v u Q I rx ry h
  obtain ⟨Hb, d, e, z, le, r1, r2, hz, q⟩ := h
  cases r1 with
  | int i =>
    cases r2 with
    | int j =>
      cases hz
      exact op_ge pins s σ H _ _ v u Q I rx ry ⟨i, j, rfl, rfl, q _ Hb H (Gw.refl le) (.bl _)⟩
    | _ => cases hz
  | _ => cases hz
def dNeg : D → Option D
  | .int i => some (.int (-i))
  | _ => none
theorem o_neg : Op1 X xa (unaryOp .USub) dNeg := by
  intro pins s σ H x v Q I rx h
  obtain ⟨Hb, d, z, le, r1, hz, q⟩ := h
  cases r1 with
  | int i =>
    cases hz
    exact un_neg pins s σ H _ v Q I rx ⟨i, rfl, q _ Hb H (Gw.refl le) (.int _)⟩
  | _ => cases hz

/-! ### in, is -/
def mem1 (d : D) (ds : List D) : Bool := ds.any fun z => eqd z d
/-- in a text: a single sign alone -/
def dIn : D → D → Option D
  | .str [c], .str z => some (.bl (decide (c ∈ z)))
  | d, .lst ds => if dep d ≤ 50 ∧ depL ds ≤ 50 then some (.bl (mem1 d ds)) else none
  | d, .tup ds => if dep d = 0 ∧ depL ds = 0 then some (.bl (mem1 d ds)) else none
  | _, _ => none
def dNotIn : D → D → Option D
  | .str [c], .str z => some (.bl (!decide (c ∈ z)))
  | d, .lst ds => if dep d ≤ 50 ∧ depL ds ≤ 50 then some (.bl (!mem1 d ds)) else none
  | d, .tup ds => if dep d = 0 ∧ depL ds = 0 then some (.bl (!mem1 d ds)) else none
  | _, _ => none

theorem any_py (g : PyData → Bool) : ∀ ds : List D, (pyL ds).any g = ds.any fun z => g (py z)
  | [] => rfl
  | x :: xs => by
    show (g (py x) || (pyL xs).any g) = (g (py x) || xs.any fun z => g (py z))
    rw [any_py g xs]
theorem R.flat {K : PySem.W.Frag} {H : Hp} {v : V} {d : D} (r : R K xa H v d) (h : dep d = 0) : flatV v = true := by
  cases r with
  | lst _ _ => exact absurd h (Nat.succ_ne_zero _)
  | tup _ _ => exact absurd h (Nat.succ_ne_zero _)
  | frl _ _ => exact absurd h (Nat.succ_ne_zero _)
  | tpz _ _ _ _ => exact absurd h (Nat.succ_ne_zero _)
  | exv _ => exact absurd h (by intro z; cases z)
  | exf _ _ _ => exact absurd h (by intro z; cases z)
  | obj _ _ => exact absurd h (by show ¬ 1000 = 0; omega)
  | dct _ _ => exact absurd h (by show ¬ 1000 = 0; omega)
  | dco _ _ => exact absurd h (by show ¬ 1000 = 0; omega)
  | _ => rfl
theorem R.eqV {K : PySem.W.Frag} {H : Hp} {v w : V} {d e : D} (r : R K xa H v d) (q : R K xa H w e) (h : dep d = 0) (h' : dep e = 0) : L2.eqV v w = eqd d e := by
  cases r with
  | lst _ _ => exact absurd h (Nat.succ_ne_zero _)
  | tup _ _ => exact absurd h (Nat.succ_ne_zero _)
  | frl _ _ => exact absurd h (Nat.succ_ne_zero _)
  | tpz _ _ _ _ => exact absurd h (Nat.succ_ne_zero _)
  | exv _ => exact absurd h (by intro z; cases z)
  | exf _ _ _ => exact absurd h (by intro z; cases z)
  | obj _ _ => exact absurd h (by show ¬ 1000 = 0; omega)
  | dct _ _ => exact absurd h (by show ¬ 1000 = 0; omega)
  | dco _ _ => exact absurd h (by show ¬ 1000 = 0; omega)
  | _ =>
    cases q with
    | lst _ _ => exact absurd h' (Nat.succ_ne_zero _)
    | tup _ _ => exact absurd h' (Nat.succ_ne_zero _)
    | frl _ _ => exact absurd h' (Nat.succ_ne_zero _)
    | tpz _ _ _ _ => exact absurd h' (Nat.succ_ne_zero _)
    | exv _ => exact absurd h' (by intro z; cases z)
    | exf _ _ _ => exact absurd h' (by intro z; cases z)
    | obj _ _ => exact absurd h' (by show ¬ 1000 = 0; omega)
    | dct _ _ => exact absurd h' (by show ¬ 1000 = 0; omega)
    | dco _ _ => exact absurd h' (by show ¬ 1000 = 0; omega)
    | _ => rfl
theorem RL.flat {K : PySem.W.Frag} {H : Hp} {w : V} {e : D} (q : R K xa H w e) (h' : dep e = 0) : ∀ {vs : List V} {ds : List D}, RL K xa H vs ds → depL ds = 0 → vs.all flatV = true ∧ inV w vs = mem1 e ds
  | _, _, .nil, _ => ⟨rfl, rfl⟩
  | _, _, .cons (v := v) (vs := vs) (d := d) (ds := ds) r t, h => by
    have h : max (dep d) (depL ds) = 0 := h
    obtain ⟨a, b⟩ := RL.flat q h' t (by omega)
    refine ⟨?_, ?_⟩
    · rw [List.all_cons, a, r.flat (by omega)] <;> rfl
    · show (L2.eqV v w || inV w vs) = (eqd d e || mem1 e ds)
      rw [b, r.eqV q (by omega) h']
theorem room_of {A : Around} (hu : A.units + 65 < cLine) : A.units + 64 < cLine := by omega
theorem o_in (hu : X.A.units + 65 < cLine) : Op2 X xa (compareOp .In) dIn := by
  intro pins s σ H x y v u Q I rx ry h
  obtain ⟨Hb, d, e, z, le, r1, r2, hz, q⟩ := h
  have lists : ∀ {a : Addr} {xs : List V} {ds : List D}, e = .lst ds → R X.K xa Hb y (.lst ds) → dIn d (.lst ds) = some z → wpAny (model X.prog X.w) X.A (compareOp .In v u) (EP X pins σ Q) X.xe s := by
    intro a xs ds _ r3 hz
    have hz : (if dep d ≤ 50 ∧ depL ds ≤ 50 then some (D.bl (mem1 d ds)) else none) = some z := by
      cases d with
      | str l => cases l with
        | nil => exact hz
        | cons c l => cases l <;> exact hz
      | _ => exact hz
    by_cases c : dep d ≤ 50 ∧ depL ds ≤ 50
    · rw [if_pos c] at hz
      cases hz
      obtain ⟨a1, b1⟩ := (r1.mono le).shp (by omega)
      obtain ⟨a2, b2⟩ := (r3.mono le).shp (show depL ds + 1 ≤ 60 by omega)
      refine op_inD hu pins s σ H x y v u Q I rx ry ⟨_, _, a1, a2, b1, b2, ?_⟩
      rw [any_py]
      exact q _ Hb H (Gw.refl le) (.bl _)
    · rw [if_neg c] at hz
      cases hz
  have tups : ∀ {a : Addr} {xs : List V} {ds : List D}, y = .ref a → SqT X.K Hb a xs → RL X.K xa Hb xs ds → dIn d (.tup ds) = some z → wpAny (model X.prog X.w) X.A (compareOp .In v u) (EP X pins σ Q) X.xe s := by
    intro a xs ds ey sq rl hz
    have hz : (if dep d = 0 ∧ depL ds = 0 then some (D.bl (mem1 d ds)) else none) = some z := by
      cases d with
      | str l => cases l with
        | nil => exact hz
        | cons c l => cases l <;> exact hz
      | _ => exact hz
    by_cases c : dep d = 0 ∧ depL ds = 0
    · rw [if_pos c] at hz
      cases hz
      obtain ⟨fl, ei⟩ := RL.flat r1 c.1 rl c.2
      refine op_in_seq pins s σ H x y v u Q I rx ry ⟨a, xs, ey, .inr (ex_t le sq), r1.flat c.1, fl, ?_⟩
      show Q (.bl (inV x xs)) H
      rw [ei]
      exact q _ Hb H (Gw.refl le) (.bl _)
    · rw [if_neg c] at hz
      cases hz
  cases r2 with
  | lst h2 q2 => exact lists (a := 0) (xs := []) rfl (.lst h2 q2) hz
  | tup h2 q2 => exact tups rfl (SqT.of h2) q2 hz
  | @str l h2 =>
    cases r1 with
    | @str l1 h1 =>
      match l1, h1, hz, rx with
      | [], _, hz, _ => cases hz
      | [c], h1, hz, rx =>
        cases hz
        exact op_in_sign pins s σ H _ _ v u Q I rx ry ⟨c, _, rfl, rfl, q _ Hb H (Gw.refl le) (.bl _)⟩
      | _ :: _ :: _, _, hz, _ => cases hz
    | _ => cases hz
  | _ =>
    cases d with
    | str l => cases l with
      | nil => cases hz
      | cons c l => cases l <;> cases hz
    | _ => cases hz
theorem o_notIn (hu : X.A.units + 65 < cLine) : Op2 X xa (compareOp .NotIn) dNotIn := by
  intro pins s σ H x y v u Q I rx ry h
  obtain ⟨Hb, d, e, z, le, r1, r2, hz, q⟩ := h
  have lists : ∀ {a : Addr} {xs : List V} {ds : List D}, e = .lst ds → R X.K xa Hb y (.lst ds) → dNotIn d (.lst ds) = some z → wpAny (model X.prog X.w) X.A (compareOp .NotIn v u) (EP X pins σ Q) X.xe s := by
    intro a xs ds _ r3 hz
    have hz : (if dep d ≤ 50 ∧ depL ds ≤ 50 then some (D.bl (!mem1 d ds)) else none) = some z := by
      cases d with
      | str l => cases l with
        | nil => exact hz
        | cons c l => cases l <;> exact hz
      | _ => exact hz
    by_cases c : dep d ≤ 50 ∧ depL ds ≤ 50
    · rw [if_pos c] at hz
      cases hz
      obtain ⟨a1, b1⟩ := (r1.mono le).shp (by omega)
      obtain ⟨a2, b2⟩ := (r3.mono le).shp (show depL ds + 1 ≤ 60 by omega)
      refine op_notInD hu pins s σ H x y v u Q I rx ry ⟨_, _, a1, a2, b1, b2, ?_⟩
      rw [any_py]
      exact q _ Hb H (Gw.refl le) (.bl _)
    · rw [if_neg c] at hz
      cases hz
  have tups : ∀ {a : Addr} {xs : List V} {ds : List D}, y = .ref a → SqT X.K Hb a xs → RL X.K xa Hb xs ds → dNotIn d (.tup ds) = some z → wpAny (model X.prog X.w) X.A (compareOp .NotIn v u) (EP X pins σ Q) X.xe s := by
    intro a xs ds ey sq rl hz
    have hz : (if dep d = 0 ∧ depL ds = 0 then some (D.bl (!mem1 d ds)) else none) = some z := by
      cases d with
      | str l => cases l with
        | nil => exact hz
        | cons c l => cases l <;> exact hz
      | _ => exact hz
    by_cases c : dep d = 0 ∧ depL ds = 0
    · rw [if_pos c] at hz
      cases hz
      obtain ⟨fl, ei⟩ := RL.flat r1 c.1 rl c.2
      refine op_notIn_seq pins s σ H x y v u Q I rx ry ⟨a, xs, ey, .inr (ex_t le sq), r1.flat c.1, fl, ?_⟩
      show Q (.bl (!inV x xs)) H
      rw [ei]
      exact q _ Hb H (Gw.refl le) (.bl _)
    · rw [if_neg c] at hz
      cases hz
  cases r2 with
  | lst h2 q2 => exact lists (a := 0) (xs := []) rfl (.lst h2 q2) hz
  | tup h2 q2 => exact tups rfl (SqT.of h2) q2 hz
  | @str l h2 =>
    cases r1 with
    | @str l1 h1 =>
      match l1, h1, hz, rx with
      | [], _, hz, _ => cases hz
      | [c], h1, hz, rx =>
        cases hz
        exact op_notIn_sign pins s σ H _ _ v u Q I rx ry ⟨c, _, rfl, rfl, q _ Hb H (Gw.refl le) (.bl _)⟩
      | _ :: _ :: _, _, hz, _ => cases hz
    | _ => cases hz
  | _ =>
    cases d with
    | str l => cases l with
      | nil => cases hz
      | cons c l => cases l <;> cases hz
    | _ => cases hz
def isN : D → Bool
  | .non => true
  | _ => false
theorem R.isN {K : PySem.W.Frag} {H : Hp} {v : V} {d : D} (r : R K xa H v d) : decide (v = .non) = Pu.isN d := by
  cases r <;> first | rfl | exact decide_eq_false (fun z => nomatch z)
def dIs : D → D → Option D
  | .bl a, .bl b => some (.bl (decide (a = b)))
  | d, .non => some (.bl (isN d))
  | _, _ => none
def dIsNot : D → D → Option D
  | .bl a, .bl b => some (.bl (!decide (a = b)))
  | d, .non => some (.bl (!isN d))
  | _, _ => none
theorem o_is : Op2 X xa (compareOp .Is) dIs := by
  intro pins s σ H x y v u Q I rx ry h
  obtain ⟨Hb, d, e, z, le, r1, r2, hz, q⟩ := h
  cases r2 with
  | non =>
    have hz : some (D.bl (Pu.isN d)) = some z := by
      cases d <;> exact hz
    cases hz
    refine op_isN pins s σ H _ _ v u Q I rx ry ⟨rfl, ?_⟩
    rw [r1.isN]
    exact q _ Hb H (Gw.refl le) (.bl _)
  | bl b =>
    cases r1 with
    | bl a =>
      cases hz
      exact op_isBl pins s σ H _ _ v u Q I rx ry ⟨a, b, rfl, rfl, q _ Hb H (Gw.refl le) (.bl _)⟩
    | _ => cases hz
  | _ => cases d <;> cases hz
theorem o_isNot : Op2 X xa (compareOp .IsNot) dIsNot := by
  intro pins s σ H x y v u Q I rx ry h
  obtain ⟨Hb, d, e, z, le, r1, r2, hz, q⟩ := h
  cases r2 with
  | non =>
    have hz : some (D.bl (!Pu.isN d)) = some z := by
      cases d <;> exact hz
    cases hz
    refine op_notN pins s σ H _ _ v u Q I rx ry ⟨rfl, ?_⟩
    rw [r1.isN]
    exact q _ Hb H (Gw.refl le) (.bl _)
  | bl b =>
    cases r1 with
    | bl a =>
      cases hz
      exact op_notBl pins s σ H _ _ v u Q I rx ry ⟨a, b, rfl, rfl, q _ Hb H (Gw.refl le) (.bl _)⟩
    | _ => cases hz
  | _ => cases d <;> cases hz

/-! ### items, slices -/
def dIx : D → D → Option D
  | .lst ds, .int i => atI ds i
  | .tup ds, .int i => atI ds i
  | .frl ds, .int i => atI ds i
  | .str l, .int i => if l.length ≤ 16777216 then (atI l i).map fun c => .str [c] else none
  | _, _ => none
theorem atI_mem {α : Type} {l : List α} {i : Int} {c : α} (h : atI l i = some c) : c ∈ l := by
  obtain ⟨j, _, e, _⟩ := atI_get h
  exact List.mem_of_getElem? e
theorem o_ix : IxR X (rD X.K xa dIx) := by
  intro value slice pins s σ H x y v u Q I rx ry h hsub
  obtain ⟨Hb, d, e, z, le, r1, r2, hz, q⟩ := h
  cases r2 with
  | int i =>
    cases r1 with
    | lst h1 q1 =>
      obtain ⟨w, e1, r⟩ := q1.at (show atI _ i = some z from hz)
      exact ix_list value slice pins s σ H _ _ v u Q I rx ry ⟨_, _, i, w, rfl, rfl, ex_l le (SqL.of h1), e1, q _ Hb H (Gw.refl le) r⟩ hsub
    | frl h1 q1 =>
      obtain ⟨w, e1, r⟩ := q1.at (show atI _ i = some z from hz)
      exact ix_list value slice pins s σ H _ _ v u Q I rx ry ⟨_, _, i, w, rfl, rfl, ex_l le h1, e1, q _ Hb H (Gw.refl le) r⟩ hsub
    | tup h1 q1 =>
      obtain ⟨w, e1, r⟩ := q1.at (show atI _ i = some z from hz)
      exact ix_tup value slice pins s σ H _ _ v u Q I rx ry ⟨_, _, i, w, rfl, rfl, ex_t le (SqT.of h1), e1, q _ Hb H (Gw.refl le) r⟩ hsub
    | @str l h1 =>
      have hz : (if l.length ≤ 16777216 then (atI l i).map fun c => D.str [c] else none) = some z := hz
      by_cases c : l.length ≤ 16777216
      · rw [if_pos c] at hz
        obtain ⟨ch, e1, e2⟩ := Option.map_eq_some_iff.mp hz
        subst e2
        refine ix_str value slice pins s σ H _ _ v u Q I rx ry ⟨_, i, ch, rfl, rfl, by rw [sOf_len, szl]; exact c, e1, ?_⟩ hsub
        refine q (.str (sOf [ch])) Hb H (Gw.refl le) (.str fun c' hc => ?_)
        rw [List.mem_singleton.mp hc]
        exact h1 _ (atI_mem e1)
      · rw [if_neg c] at hz
        cases hz
    | _ => cases hz
  | _ => cases d <;> cases hz
/-- the items from lo to hi -/
def cut {α : Type} (xs : List α) (lo hi : Option Int) : List α := (xs.drop (HT.sIx xs.length 0 lo)).take (HT.sIx xs.length xs.length hi - HT.sIx xs.length 0 lo)
theorem cut_mem {α : Type} {xs : List α} {lo hi : Option Int} {c : α} (h : c ∈ cut xs lo hi) : c ∈ xs := List.mem_of_mem_drop (List.mem_of_mem_take h)
def dSl : D → Option Int → Option Int → Option D
  | .lst ds, lo, hi => some (.lst (cut ds lo hi))
  | .str l, lo, hi => if l.length ≤ 16777216 then some (.str (cut l lo hi)) else none
  | _, _, _ => none
def rDS (K : PySem.W.Frag) (xa : Xa) (g : D → Option Int → Option Int → Option D) : V → Option Int → Option Int → Hp → VK → Prop := fun x lo hi H Q => ∃ Hb d z, Ex Hb H ∧ R K xa Hb x d ∧ g d lo hi = some z ∧ ∀ v Hb' H', Gw Hb H Hb' H' → R K xa Hb' v z → Q v H'
theorem RL.cut {K : PySem.W.Frag} {H : Hp} {vs : List V} {ds : List D} (r : RL K xa H vs ds) (lo hi : Option Int) : RL K xa H (cutV vs lo hi) (Pu.cut ds lo hi) := by
  unfold cutV Pu.cut
  rw [r.length]
  exact (r.drop _).take _
theorem o_sl : SlR X (rDS X.K xa dSl) := by
  intro pins s σ H x v vl vu lo hi sl Q I rx hs pl pu h
  obtain ⟨Hb, d, z, le, r1, hz, q⟩ := h
  cases r1 with
  | lst h1 q1 =>
    cases hz
    exact sl_list pins s σ H _ v vl vu lo hi sl Q I rx hs pl pu ⟨_, _, rfl, ex_l le (SqL.of h1), fun p hp => q _ _ _ (Gw.new le hp) (.lst upd_same ((q1.cut lo hi).mono (Ex.new (fresh_back le hp))))⟩
  | @str l h1 =>
    have hz : (if l.length ≤ 16777216 then some (D.str (Pu.cut l lo hi)) else none) = some z := hz
    by_cases c : l.length ≤ 16777216
    · rw [if_pos c] at hz
      cases hz
      refine sl_str pins s σ H _ v vl vu lo hi sl Q I rx hs pl pu ⟨_, rfl, by rw [sOf_len, szl]; exact c, ?_⟩
      have e : cutS (sOf l) lo hi = sOf (Pu.cut l lo hi) := by
        unfold cutS Pu.cut
        rw [sOf_len]
      rw [e]
      exact q _ Hb H (Gw.refl le) (.str (h1.sub fun _ hc => cut_mem hc))
    · rw [if_neg c] at hz
      cases hz
  | _ => cases hz
/-- a part of a slice -/
abbrev Po (X : Cx) (xa : Xa) (W : WX) (e : Option Expr) (f : Env → Res (Option Int)) : Prop := PO X e (tPx X.K xa (fun _ b c => b = c) W f)
def noP : Env → Res (Option Int) := fun _ => .ok none
def toI : D → Option Int
  | .int i => some i
  | _ => none
def soP (f : F) : Env → Res (Option Int) := fun ρ => (f ρ).bind fun x => (ofO (toI x)).bind fun i => .ok (some i)
theorem PO.imp {e : Option Expr} {t t' : TO} (h : PO X e t) (k : ∀ σ H Q, t' σ H Q → t σ H Q) : PO X e t' := ⟨fun pins s σ H Q I q => h.run pins s σ H Q I (k σ H Q q)⟩
theorem p_noP : Po X xa W none noP := PO.imp po_none fun σ H Q hq => by
  obtain ⟨Hb, ρ, le, re, p⟩ := hq
  exact post_here le p rfl
theorem p_soP (ha : Pe X xa W e f) : Po X xa W (some e) (soP f) := PO.imp (po_some ha) fun σ H Q hq => by
  obtain ⟨Hb, ρ, le, re, p⟩ := hq
  refine ⟨Hb, ρ, le, re, post_bind le p fun d v B1 H1 e1 g1 r1 p1 => ?_⟩
  cases r1 with
  | int i => exact ⟨i, rfl, post_here g1.le p1 rfl⟩
  | _ => exact (show False from p1).elim
def slF (a : F) (lo hi : Env → Res (Option Int)) : F := fun ρ => (a ρ).bind fun x => (lo ρ).bind fun l => (hi ρ).bind fun u => ofO (dSl x l u)
theorem p_sl {lo hi : Option Expr} {fl fh : Env → Res (Option Int)} {p2 : Pos} (ha : Pe X xa W e f) (hl : Po X xa W lo fl) (hh : Po X xa W hi fh) : Pe X xa W (.Subscript e (.Slice lo hi none p2) pos) (slF f fl fh) := by
  refine PE.imp (pe_slice (o_sl (xa := xa)) ha hl hh) fun σ H Q hq => ?_
  obtain ⟨Hb, ρ, le, re, p⟩ := hq
  refine ⟨Hb, ρ, le, re, post_bind le p fun d v B1 H1 e1 g1 r1 p1 => ?_⟩
  refine ⟨B1, ρ, g1.le, re.mono g1.bup, post_bind g1.le p1 fun l1 l2 B2 H2 e2 g2 r2 p2 => ?_⟩
  refine ⟨B2, ρ, g2.le, re.mono (g1.bup.trans g2.bup), post_bind g2.le p2 fun u1 u2 B3 H3 e3 g3 r3 p3 => ?_⟩
  subst r2 r3
  cases q : dSl d l2 u2 with
  | none =>
    rw [q] at p3
    exact p3.elim
  | some z =>
    rw [q] at p3
    exact ⟨B3, d, z, g3.le, r1.mono (g2.bup.trans g3.bup), q, p3⟩
end
end Pu

namespace Pu
open PySem PySem.Spec PyProof.Rows L2 Evl
section
variable {X : Cx} {xa : Xa} {W : WX} {pos : Pos} {a b c e : Expr} {es rest : List Expr} {f h k : F} {fs : Fs} {t u : T}

/-! ### tests -/
theorem post_toB {E : XK} {Hb H : Hp} {Q : Bool → Hp → Prop} {v : V} {d : D} {B : Hp} (le : Ex Hb H) (r : R X.K xa B v d) (p : post X.K RelT E Hb H Q (ofO (toB d))) : ∃ k, v = .bl k ∧ Q k H := by
  cases r with
  | bl b => exact ⟨b, rfl, post_here le p rfl⟩
  | _ => exact (show False from p).elim
theorem t_tst {σ : L2.St} {H : Hp} {Q : Bool → Hp → Prop} (hq : tPT X.K xa W (tst f) σ H Q) : tTest (tP X.K xa W f) σ H Q := by
  obtain ⟨Hb, ρ, le, re, p⟩ := hq
  exact ⟨Hb, ρ, le, re, post_bind le p fun d v B1 H1 e1 g1 r1 p1 => post_toB g1.le r1 p1⟩
/-- a value that is True or False, as a test -/
theorem p_val (ha : Pe X xa W e f) (he : ∀ whole, isTrue e X.env whole = (do let v ← whole; standAt e.pos; holding [v] (truthy v)) := by intro _; rfl) : Pt X xa W e (tst f) :=
  PT.imp (pt_val ha he) fun _ _ _ hq => t_tst hq
theorem p_tcmp {op : CmpOp} {g : D → D → Option D} (ho : Op2 X xa (compareOp op) g) (ha : Pe X xa W a f) (hb : Pe X xa W b h) (hm : behindInMarks op b = false := by first | exact nomark _ | rfl) : Pt X xa W (.Compare a [op] [b] pos) (tst (op2 g f h)) := by
  refine PT.imp (pt_cmpR ho ha hb hm) fun σ H Q hq => ?_
  obtain ⟨Hb, ρ, le, re, p⟩ := hq
  refine t_op2 (Q := fun x H' => ∃ k, x = V.bl k ∧ Q k H') ⟨Hb, ρ, le, re, ?_⟩
  exact post_bind le p fun d v B1 H1 e1 g1 r1 p1 => post_toB g1.le r1 p1
theorem t_ch {g g' : D → D → Option D} {σ : L2.St} {H : Hp} {Q : VK} (hq : tP X.K xa W (chF g g' f h k) σ H Q) : tChain (rD X.K xa g) (rD X.K xa g') (tP X.K xa W f) (tP X.K xa W h) (tP X.K xa W k) σ H Q := by
  obtain ⟨Hb, ρ, le, re, p⟩ := hq
  refine ⟨Hb, ρ, le, re, post_bind le p fun d v B1 H1 e1 g1 r1 p1 => ?_⟩
  refine ⟨B1, ρ, g1.le, re.mono g1.bup, post_bind g1.le p1 fun d2 v2 B2 H2 e2 g2 r2 p2 => ?_⟩
  cases q : g d d2 with
  | none =>
    rw [q] at p2
    exact (show False from p2).elim
  | some z =>
    rw [q] at p2
    refine ⟨B2, d, d2, z, g2.le, r1.mono g2.bup, r2, q, fun v3 B3 H3 g3 r3 => ?_⟩
    have p3 := post_bind (Rel := fun _ (_ : Unit) (_ : D) => True) (r := Res.ok z) (Q1 := fun _ H1 => True) g2.le p2 fun _ _ _ _ _ _ _ _ => trivial
    cases r3 with
    | bl kb =>
      refine ⟨kb, rfl, ?_⟩
      have p2 : post X.K (R X.K xa) (WE W σ) B2 H2 Q (if kb = true then (k ρ).bind fun u => ofO (g' d2 u) else .ok (.bl false)) := p2
      cases kb with
      | false => exact p2 (.bl false) B3 H3 g3 (.bl false)
      | true =>
        have p2 : post X.K (R X.K xa) (WE W σ) B2 H2 Q ((k ρ).bind fun u => ofO (g' d2 u)) := p2
        refine ⟨B3, ρ, g3.le, re.mono ((g1.bup.trans g2.bup).trans g3.bup), ?_⟩
        have p4 : post X.K (R X.K xa) (WE W σ) B3 H3 Q ((k ρ).bind fun u => ofO (g' d2 u)) := by
          cases e : ((k ρ).bind fun u => ofO (g' d2 u)) with
          | ok d5 =>
            rw [e] at p2
            exact fun v5 B5 H5 g5 r5 => p2 v5 B5 H5 (g3.trans g5) r5
          | ex x5 =>
            rw [e] at p2
            exact fun c5 dx5 B5 H5 g5 r5 => p2 c5 dx5 B5 H5 (g3.trans g5) r5
          | st =>
            rw [e] at p2
            exact p2
        exact post_bind g3.le p4 fun d4 v4 B4 H4 e4 g4 r4 p5 => rD_of (g1 := g3) (r2.mono g3.bup) g4 r4 p5
    | _ => exact (show False from p2).elim
theorem p_ch {op op' : CmpOp} {g g' : D → D → Option D} (ho : Op2 X xa (compareOp op) g) (ho' : Op2 X xa (compareOp op') g') (ha : Pe X xa W a f) (hb : Pe X xa W b h) (hc : Pe X xa W c k)
    (hm : lastMarks [op, op'] [b, c] = false := by with_unfolding_all rfl) : Pe X xa W (.Compare a [op, op'] [b, c] pos) (chF g g' f h k) := PE.imp (pe_chain ho ho' ha hb hc hm) fun _ _ _ hq => t_ch hq
theorem p_tch {op op' : CmpOp} {g g' : D → D → Option D} (ho : Op2 X xa (compareOp op) g) (ho' : Op2 X xa (compareOp op') g') (ha : Pe X xa W a f) (hb : Pe X xa W b h) (hc : Pe X xa W c k)
    (hm : lastMarks [op, op'] [b, c] = false := by with_unfolding_all rfl) : Pt X xa W (.Compare a [op, op'] [b, c] pos) (tst (chF g g' f h k)) := by
  refine PT.imp (pt_chain ho ho' ha hb hc hm) fun σ H Q hq => ?_
  obtain ⟨Hb, ρ, le, re, p⟩ := hq
  refine t_ch (Q := fun x H' => ∃ k, x = V.bl k ∧ Q k H') ⟨Hb, ρ, le, re, ?_⟩
  exact post_bind le p fun d v B1 H1 e1 g1 r1 p1 => post_toB g1.le r1 p1
theorem p_an1 (ha : Pt X xa W a t) : Pw X xa W (.BoolOp .And [a] pos) t := pw_and1 ha
theorem p_or1 (ha : Pt X xa W a t) : Pw X xa W (.BoolOp .Or [a] pos) t := pw_or1 ha
theorem p_an (ha : Pt X xa W a t) (hb : Pw X xa W (.BoolOp .And (b :: rest) pos) u) : Pw X xa W (.BoolOp .And (a :: b :: rest) pos) (anT t u) := by
  refine PW.imp (pw_and ha hb) fun σ H Q hq => ?_
  obtain ⟨Hb, ρ, le, re, p⟩ := hq
  refine ⟨Hb, ρ, le, re, post_bind le p fun d v B1 H1 e1 g1 r1 p1 => ?_⟩
  subst r1
  cases v with
  | true => exact ⟨B1, ρ, g1.le, re.mono g1.bup, p1⟩
  | false => exact post_here g1.le p1 rfl
theorem p_or (ha : Pt X xa W a t) (hb : Pw X xa W (.BoolOp .Or (b :: rest) pos) u) : Pw X xa W (.BoolOp .Or (a :: b :: rest) pos) (orT t u) := by
  refine PW.imp (pw_or ha hb) fun σ H Q hq => ?_
  obtain ⟨Hb, ρ, le, re, p⟩ := hq
  refine ⟨Hb, ρ, le, re, post_bind le p fun d v B1 H1 e1 g1 r1 p1 => ?_⟩
  subst r1
  cases v with
  | true => exact post_here g1.le p1 rfl
  | false => exact ⟨B1, ρ, g1.le, re.mono g1.bup, p1⟩
theorem p_not (ha : Pt X xa W a t) : Pt X xa W (.UnaryOp .Not a pos) (noT t) := by
  refine PT.imp (pt_not ha) fun σ H Q hq => ?_
  obtain ⟨Hb, ρ, le, re, p⟩ := hq
  refine ⟨Hb, ρ, le, re, post_bind le p fun d v B1 H1 e1 g1 r1 p1 => ?_⟩
  subst r1
  exact post_here g1.le p1 rfl
theorem p_if (hc : Pt X xa W c t) (ha : Pe X xa W a f) (hb : Pe X xa W b h) : Pe X xa W (.IfExp c a b pos) (ifF t f h) := by
  refine PE.imp (pe_ifExp hc ha hb) fun σ H Q hq => ?_
  obtain ⟨Hb, ρ, le, re, p⟩ := hq
  refine ⟨Hb, ρ, le, re, post_bind le p fun d v B1 H1 e1 g1 r1 p1 => ?_⟩
  subst r1
  cases v with
  | true => exact ⟨B1, ρ, g1.le, re.mono g1.bup, p1⟩
  | false => exact ⟨B1, ρ, g1.le, re.mono g1.bup, p1⟩
/-- and, or, not as values -/
theorem p_anV (ha : Pe X xa W a f) (hb : PE X (.BoolOp .And (b :: rest) pos) (tP X.K xa W h)) : Pe X xa W (.BoolOp .And (a :: b :: rest) pos) (anF f h) := by
  refine PE.imp (pe_and ha hb) fun σ H Q hq => ?_
  obtain ⟨Hb, ρ, le, re, p⟩ := hq
  refine ⟨Hb, ρ, le, re, post_bind le p fun d v B1 H1 e1 g1 r1 p1 => ?_⟩
  cases r1 with
  | bl kb =>
    refine ⟨kb, rfl, ?_⟩
    cases kb with
    | true => exact ⟨B1, ρ, g1.le, re.mono g1.bup, p1⟩
    | false => exact post_here (d := D.bl false) g1.le p1 (.bl false)
  | _ => exact (show False from p1).elim
theorem p_orV (ha : Pe X xa W a f) (hb : PE X (.BoolOp .Or (b :: rest) pos) (tP X.K xa W h)) : Pe X xa W (.BoolOp .Or (a :: b :: rest) pos) (orF f h) := by
  refine PE.imp (pe_or ha hb) fun σ H Q hq => ?_
  obtain ⟨Hb, ρ, le, re, p⟩ := hq
  refine ⟨Hb, ρ, le, re, post_bind le p fun d v B1 H1 e1 g1 r1 p1 => ?_⟩
  cases r1 with
  | bl kb =>
    refine ⟨kb, rfl, ?_⟩
    cases kb with
    | true => exact post_here (d := D.bl true) g1.le p1 (.bl true)
    | false => exact ⟨B1, ρ, g1.le, re.mono g1.bup, p1⟩
  | _ => exact (show False from p1).elim
theorem p_oneA (ha : Pe X xa W a f) : Pe X xa W (.BoolOp .And [a] pos) f := pe_one ha
theorem p_oneO (ha : Pe X xa W a f) : Pe X xa W (.BoolOp .Or [a] pos) f := pe_one ha
theorem p_notV (ha : Pe X xa W a f) : Pe X xa W (.UnaryOp .Not a pos) (noF f) := by
  refine PE.imp (pe_not ha) fun σ H Q hq => ?_
  obtain ⟨Hb, ρ, le, re, p⟩ := hq
  refine ⟨Hb, ρ, le, re, post_bind le p fun d v B1 H1 e1 g1 r1 p1 => ?_⟩
  cases r1 with
  | bl kb => exact ⟨kb, rfl, post_here (d := D.bl (!kb)) g1.le p1 (.bl _)⟩
  | _ => exact (show False from p1).elim
end
end Pu

namespace Pu
open PySem PySem.Spec PyProof.Rows L2 Evl
/-! ### lists of one kind -/
def intsOf : List D → Option (List Int)
  | [] => some []
  | .int i :: r => (intsOf r).map (i :: ·)
  | _ => none
def blsOf : List D → Option (List Bool)
  | [] => some []
  | .bl i :: r => (blsOf r).map (i :: ·)
  | _ => none
def strsOf : List D → Option (List (List Nat))
  | [] => some []
  | .str i :: r => (strsOf r).map (i :: ·)
  | _ => none
@[simp] theorem intsOf_map : ∀ ns : List Int, intsOf (ns.map D.int) = some ns
  | [] => rfl
  | n :: ns => by
    show (intsOf (ns.map D.int)).map (n :: ·) = _
    rw [intsOf_map ns] <;> rfl
@[simp] theorem blsOf_map : ∀ ns : List Bool, blsOf (ns.map D.bl) = some ns
  | [] => rfl
  | n :: ns => by
    show (blsOf (ns.map D.bl)).map (n :: ·) = _
    rw [blsOf_map ns] <;> rfl
@[simp] theorem strsOf_map : ∀ ns : List (List Nat), strsOf (ns.map D.str) = some ns
  | [] => rfl
  | n :: ns => by
    show (strsOf (ns.map D.str)).map (n :: ·) = _
    rw [strsOf_map ns] <;> rfl
section
variable {K : PySem.W.Frag} {xa : Xa} {H : Hp}
theorem RL.ints : ∀ {vs : List V} {ds : List D} {ns : List Int}, RL K xa H vs ds → intsOf ds = some ns → vs = ns.map V.int
  | _, _, _, .nil, h => by cases h; rfl
  | _, _, ns, .cons (d := d) (ds := ds) r t, h => by
    cases r with
    | int i =>
      obtain ⟨ms, e1, e2⟩ := Option.map_eq_some_iff.mp (show (intsOf ds).map (i :: ·) = some ns from h)
      subst e2
      rw [RL.ints t e1] <;> rfl
    | _ => cases h
theorem RL.bls : ∀ {vs : List V} {ds : List D} {ns : List Bool}, RL K xa H vs ds → blsOf ds = some ns → vs = ns.map V.bl
  | _, _, _, .nil, h => by cases h; rfl
  | _, _, ns, .cons (d := d) (ds := ds) r t, h => by
    cases r with
    | bl i =>
      obtain ⟨ms, e1, e2⟩ := Option.map_eq_some_iff.mp (show (blsOf ds).map (i :: ·) = some ns from h)
      subst e2
      rw [RL.bls t e1] <;> rfl
    | _ => cases h
theorem RL.strs : ∀ {vs : List V} {ds : List D} {ns : List (List Nat)}, RL K xa H vs ds → strsOf ds = some ns → vs = (ns.map sOf).map V.str ∧ ∀ l ∈ ns, okS l
  | _, _, _, .nil, h => by cases h; exact ⟨rfl, fun _ q => nomatch q⟩
  | _, _, ns, .cons (d := d) (ds := ds) r t, h => by
    cases r with
    | @str i hi =>
      obtain ⟨ms, e1, e2⟩ := Option.map_eq_some_iff.mp (show (strsOf ds).map (i :: ·) = some ns from h)
      subst e2
      obtain ⟨a, b⟩ := RL.strs t e1
      refine ⟨by rw [a] <;> rfl, fun l hl => ?_⟩
      rcases List.mem_cons.mp hl with e | hl
      · rw [e]
        exact hi
      · exact b l hl
    | _ => cases h
end
/-- the least, the greatest of some ints -/
def lmin : List Int → Option Int
  | [] => none
  | x :: r => match lmin r with
    | none => some x
    | some m => some (if x ≤ m then x else m)
def lmax : List Int → Option Int
  | [] => none
  | x :: r => match lmax r with
    | none => some x
    | some m => some (if m ≤ x then x else m)
theorem lmin_spec : ∀ {l : List Int} {m : Int}, lmin l = some m → m ∈ l ∧ ∀ y ∈ l, m ≤ y
  | [], _, h => by cases h
  | x :: r, m, h => by
    unfold lmin at h
    cases e : lmin r with
    | none =>
      rw [e] at h
      cases h
      have : r = [] := by
        cases r with
        | nil => rfl
        | cons a r =>
          unfold lmin at e
          cases q : lmin r <;> rw [q] at e <;> cases e
      subst this
      exact ⟨List.mem_cons_self, fun y hy => by rw [List.mem_singleton.mp hy]; exact Int.le_refl _⟩
    | some k =>
      rw [e] at h
      obtain ⟨h1, h2⟩ := lmin_spec e
      have h : some (if x ≤ k then x else k) = some m := h
      have h := Option.some.inj h
      by_cases c : x ≤ k
      · rw [if_pos c] at h
        subst h
        exact ⟨List.mem_cons_self, fun y hy => (List.mem_cons.mp hy).elim (fun e => by rw [e]; exact Int.le_refl _) fun q => Int.le_trans c (h2 y q)⟩
      · rw [if_neg c] at h
        subst h
        exact ⟨List.mem_cons_of_mem _ h1, fun y hy => (List.mem_cons.mp hy).elim (fun e => by omega) fun q => h2 y q⟩
theorem lmax_spec : ∀ {l : List Int} {m : Int}, lmax l = some m → m ∈ l ∧ ∀ y ∈ l, y ≤ m
  | [], _, h => by cases h
  | x :: r, m, h => by
    unfold lmax at h
    cases e : lmax r with
    | none =>
      rw [e] at h
      cases h
      have : r = [] := by
        cases r with
        | nil => rfl
        | cons a r =>
          unfold lmax at e
          cases q : lmax r <;> rw [q] at e <;> cases e
      subst this
      exact ⟨List.mem_cons_self, fun y hy => by rw [List.mem_singleton.mp hy]; exact Int.le_refl _⟩
    | some k =>
      rw [e] at h
      obtain ⟨h1, h2⟩ := lmax_spec e
      have h : some (if k ≤ x then x else k) = some m := h
      have h := Option.some.inj h
      by_cases c : k ≤ x
      · rw [if_pos c] at h
        subst h
        exact ⟨List.mem_cons_self, fun y hy => (List.mem_cons.mp hy).elim (fun e => by rw [e]; exact Int.le_refl _) fun q => Int.le_trans (h2 y q) c⟩
      · rw [if_neg c] at h
        subst h
        exact ⟨List.mem_cons_of_mem _ h1, fun y hy => (List.mem_cons.mp hy).elim (fun e => by omega) fun q => h2 y q⟩
theorem lmin_some : ∀ {l : List Int}, l ≠ [] → ∃ m, lmin l = some m
  | [], h => absurd rfl h
  | x :: r, _ => by
    unfold lmin
    cases lmin r with
    | none => exact ⟨_, rfl⟩
    | some m => exact ⟨_, rfl⟩
theorem lmax_some : ∀ {l : List Int}, l ≠ [] → ∃ m, lmax l = some m
  | [], h => absurd rfl h
  | x :: r, _ => by
    unfold lmax
    cases lmax r with
    | none => exact ⟨_, rfl⟩
    | some m => exact ⟨_, rfl⟩

section
variable {X : Cx} {xa : Xa} {W : WX} {pos : Pos} {a b c e : Expr} {es rest : List Expr} {f h k : F} {fs : Fs} {t u : T}
/-! ### len, sum, all, any, min, max, int, abs -/
def cLen : List D → Option D
  | [.lst ds] => some (.int ds.length)
  | [.tup ds] => some (.int ds.length)
  | [.frl ds] => some (.int ds.length)
  | [.str l] => if l.length ≤ 16777216 then some (.int l.length) else none
  | _ => none
theorem one_of {vs : List V} {us : List Value} {ds : List D} {Hb : Hp} (r : RL X.K xa Hb vs ds) : (∃ d, ds = [d] ∧ ∃ v, vs = [v] ∧ R X.K xa Hb v d) ∨ ds = [] ∨ ∃ a b r, ds = a :: b :: r := by
  cases r with
  | nil => exact .inr (.inl rfl)
  | cons h t =>
    cases t with
    | nil => exact .inl ⟨_, rfl, _, rfl, h⟩
    | cons h2 t2 => exact .inr (.inr ⟨_, _, _, rfl⟩)
theorem c_len : OpC X xa (.builtin "len") cLen := by
  intro pins s σ H vs us Q I r h
  obtain ⟨Hb, ds, z, le, rl, hz, q⟩ := h
  match ds, rl, hz with
  | [], _, hz => cases hz
  | a0 :: b0 :: r0, _, hz => cases a0 <;> cases hz
  | [d], rl, hz =>
    obtain ⟨v, rfl, r1⟩ := rl.one
    cases r1 with
    | lst h1 q1 =>
      cases hz
      refine call_len_seq pins s σ H _ us Q I r ⟨_, _, rfl, .inl (ex_l le (SqL.of h1)), ?_⟩
      rw [q1.length]
      exact q _ Hb H (Gw.refl le) (.int _)
    | frl h1 q1 =>
      cases hz
      refine call_len_seq pins s σ H _ us Q I r ⟨_, _, rfl, .inl (ex_l le h1), ?_⟩
      rw [q1.length]
      exact q _ Hb H (Gw.refl le) (.int _)
    | tup h1 q1 =>
      cases hz
      refine call_len_seq pins s σ H _ us Q I r ⟨_, _, rfl, .inr (ex_t le (SqT.of h1)), ?_⟩
      rw [q1.length]
      exact q _ Hb H (Gw.refl le) (.int _)
    | @str l h1 =>
      have hz : (if l.length ≤ 16777216 then some (D.int l.length) else none) = some z := hz
      by_cases c : l.length ≤ 16777216
      · rw [if_pos c] at hz
        cases hz
        refine call_len_str pins s σ H _ us Q I r ⟨_, rfl, by rw [sOf_len, szl]; exact c, ?_⟩
        rw [sOf_len]
        exact q _ Hb H (Gw.refl le) (.int _)
      · rw [if_neg c] at hz
        cases hz
    | _ => cases hz
def cSum : List D → Option D
  | [.lst ds] => (intsOf ds).map fun ns => .int ns.sum
  | _ => none
theorem c_sum (hc : X.calm = true) : OpC X xa (.builtin "sum") cSum := by
  intro pins s σ H vs us Q I r h
  obtain ⟨Hb, ds, z, le, rl, hz, q⟩ := h
  match ds, rl, hz with
  | [], _, hz => cases hz
  | a0 :: b0 :: r0, _, hz => cases a0 <;> cases hz
  | [d], rl, hz =>
    obtain ⟨v, rfl, r1⟩ := rl.one
    cases r1 with
    | lst h1 q1 =>
      obtain ⟨ns, e1, e2⟩ := Option.map_eq_some_iff.mp (show (intsOf _).map _ = some z from hz)
      subst e2
      have e3 := q1.ints e1
      subst e3
      exact cr_sum hc pins s σ H _ us Q I r ⟨_, ns, rfl, ex_l le (SqL.of h1), q _ Hb H (Gw.refl le) (.int _)⟩
    | _ => cases hz
def cAll : List D → Option D
  | [.lst ds] => (blsOf ds).map fun ns => .bl (ns.all id)
  | _ => none
theorem c_all (hc : X.calm = true) : OpC X xa (.builtin "all") cAll := by
  intro pins s σ H vs us Q I r h
  obtain ⟨Hb, ds, z, le, rl, hz, q⟩ := h
  match ds, rl, hz with
  | [], _, hz => cases hz
  | a0 :: b0 :: r0, _, hz => cases a0 <;> cases hz
  | [d], rl, hz =>
    obtain ⟨v, rfl, r1⟩ := rl.one
    cases r1 with
    | lst h1 q1 =>
      obtain ⟨ns, e1, e2⟩ := Option.map_eq_some_iff.mp (show (blsOf _).map _ = some z from hz)
      subst e2
      have e3 := q1.bls e1
      subst e3
      exact cr_all hc pins s σ H _ us Q I r ⟨_, ns, rfl, ex_l le (SqL.of h1), q _ Hb H (Gw.refl le) (.bl _)⟩
    | _ => cases hz
def cAny : List D → Option D
  | [.lst ds] => (blsOf ds).map fun ns => .bl (ns.any id)
  | _ => none
theorem c_any (hc : X.calm = true) : OpC X xa (.builtin "any") cAny := by
  intro pins s σ H vs us Q I r h
  obtain ⟨Hb, ds, z, le, rl, hz, q⟩ := h
  match ds, rl, hz with
  | [], _, hz => cases hz
  | a0 :: b0 :: r0, _, hz => cases a0 <;> cases hz
  | [d], rl, hz =>
    obtain ⟨v, rfl, r1⟩ := rl.one
    cases r1 with
    | lst h1 q1 =>
      obtain ⟨ns, e1, e2⟩ := Option.map_eq_some_iff.mp (show (blsOf _).map _ = some z from hz)
      subst e2
      have e3 := q1.bls e1
      subst e3
      exact cr_any hc pins s σ H _ us Q I r ⟨_, ns, rfl, ex_l le (SqL.of h1), q _ Hb H (Gw.refl le) (.bl _)⟩
    | _ => cases hz
def cMin : List D → Option D
  | [.lst ds] => (intsOf ds).bind fun ns => (lmin ns).map D.int
  | [.int i, .int j] => some (.int (if j < i then j else i))
  | [.int i, .int j, .int k] => (lmin [i, j, k]).map D.int
  | _ => none
theorem lmin3 (i j k : Int) : (lmin [i, j, k]).map D.int = some (.int (if (if j < i then j else i) ≤ k then (if j < i then j else i) else k)) := by
  show some (D.int (if i ≤ (if j ≤ k then j else k) then i else (if j ≤ k then j else k))) = _
  congr 2
  split <;> split <;> split <;> (try split) <;> omega
theorem c_min (hc : X.calm = true) : OpC X xa (.builtin "min") cMin := by
  intro pins s σ H vs us Q I r h
  obtain ⟨Hb, ds, z, le, rl, hz, q⟩ := h
  cases rl with
  | nil => cases hz
  | cons r1 t1 =>
    cases t1 with
    | nil =>
      cases r1 with
      | lst h1 q1 =>
        obtain ⟨ns, e1, e2⟩ := Option.bind_eq_some_iff.mp (show (intsOf _).bind _ = some z from hz)
        obtain ⟨m, e4, e5⟩ := Option.map_eq_some_iff.mp e2
        subst e5
        have e3 := q1.ints e1
        subst e3
        obtain ⟨m1, m2⟩ := lmin_spec e4
        refine cr_min hc pins s σ H _ us Q I r ⟨_, ns, rfl, ex_l le (SqL.of h1), List.length_pos_of_mem m1, fun m' a b => ?_⟩
        have e : m' = m := Int.le_antisymm (b m m1) (m2 m' a)
        subst e
        exact q _ Hb H (Gw.refl le) (.int _)
      | _ => cases hz
    | cons r2 t2 =>
      cases t2 with
      | nil =>
        cases r1 with
        | int i =>
          cases r2 with
          | int j =>
            cases hz
            exact call_min2 hc pins s σ H _ us Q I r ⟨i, j, rfl, q _ Hb H (Gw.refl le) (.int _)⟩
          | _ => cases hz
        | _ => cases hz
      | cons r3 t3 =>
        cases t3 with
        | nil =>
          cases r1 with
          | int i =>
            cases r2 with
            | int j =>
              cases r3 with
              | int k =>
                rw [show cMin [.int i, .int j, .int k] = _ from lmin3 i j k] at hz
                cases hz
                cases r with
                | cons a1 b1 =>
                  cases b1 with
                  | cons a2 b2 =>
                    cases b2 with
                    | cons a3 b3 =>
                      cases b3
                      obtain ⟨t1, rfl⟩ := a1
                      obtain ⟨t2, rfl⟩ := a2
                      obtain ⟨t3, rfl⟩ := a3
                      refine min_three_ints (I.ok.hd hc) fun h' tk hk => ⟨_, H, I.kept hk, ?_, q _ Hb H (Gw.refl le) (.int _)⟩
                      repeat' split
                      all_goals first
                        | exact ⟨_, rfl⟩
                        | (exfalso; omega)
              | _ => cases hz
            | _ => cases hz
          | _ => cases hz
        | cons r4 t4 =>
          cases r1 with
          | int _ => cases r2 with
            | int _ => cases r3 <;> cases hz
            | _ => cases hz
          | _ => cases hz
def cMax : List D → Option D
  | [.lst ds] => (intsOf ds).bind fun ns => (lmax ns).map D.int
  | [.int i, .int j] => some (.int (if j > i then j else i))
  | _ => none
theorem c_max (hc : X.calm = true) : OpC X xa (.builtin "max") cMax := by
  intro pins s σ H vs us Q I r h
  obtain ⟨Hb, ds, z, le, rl, hz, q⟩ := h
  cases rl with
  | nil => cases hz
  | cons r1 t1 =>
    cases t1 with
    | nil =>
      cases r1 with
      | lst h1 q1 =>
        obtain ⟨ns, e1, e2⟩ := Option.bind_eq_some_iff.mp (show (intsOf _).bind _ = some z from hz)
        obtain ⟨m, e4, e5⟩ := Option.map_eq_some_iff.mp e2
        subst e5
        have e3 := q1.ints e1
        subst e3
        obtain ⟨m1, m2⟩ := lmax_spec e4
        refine cr_max hc pins s σ H _ us Q I r ⟨_, ns, rfl, ex_l le (SqL.of h1), List.length_pos_of_mem m1, fun m' a b => ?_⟩
        have e : m' = m := Int.le_antisymm (m2 m' a) (b m m1)
        subst e
        exact q _ Hb H (Gw.refl le) (.int _)
      | _ => cases hz
    | cons r2 t2 =>
      cases t2 with
      | nil =>
        cases r1 with
        | int i =>
          cases r2 with
          | int j =>
            cases hz
            exact call_max2 hc pins s σ H _ us Q I r ⟨i, j, rfl, q _ Hb H (Gw.refl le) (.int _)⟩
          | _ => cases hz
        | _ => cases hz
      | cons r3 t3 =>
        cases r1 with
        | int _ => cases r2 <;> cases hz
        | _ => cases hz
def cInt : List D → Option D
  | [.int i] => some (.int i)
  | [.bl b] => some (.int (if b then 1 else 0))
  | _ => none
theorem c_int : OpC X xa (.type "int") cInt := by
  intro pins s σ H vs us Q I r h
  obtain ⟨Hb, ds, z, le, rl, hz, q⟩ := h
  match ds, rl, hz with
  | [], _, hz => cases hz
  | a0 :: b0 :: r0, _, hz => cases a0 <;> cases hz
  | [d], rl, hz =>
    obtain ⟨v, rfl, r1⟩ := rl.one
    cases r1 with
    | int i =>
      cases hz
      exact call_int1 pins s σ H _ us Q I r (.inl ⟨i, rfl, q _ Hb H (Gw.refl le) (.int _)⟩)
    | bl b =>
      cases hz
      exact call_int1 pins s σ H _ us Q I r (.inr ⟨b, rfl, q _ Hb H (Gw.refl le) (.int _)⟩)
    | _ => cases hz
def cAbs : List D → Option D
  | [.int i] => some (.int (if i < 0 then -i else i))
  | _ => none
theorem c_abs : OpC X xa (.builtin "abs") cAbs := by
  intro pins s σ H vs us Q I r h
  obtain ⟨Hb, ds, z, le, rl, hz, q⟩ := h
  match ds, rl, hz with
  | [], _, hz => cases hz
  | a0 :: b0 :: r0, _, hz => cases a0 <;> cases hz
  | [d], rl, hz =>
    obtain ⟨v, rfl, r1⟩ := rl.one
    cases r1 with
    | int i =>
      cases hz
      exact call_abs pins s σ H _ us Q I r ⟨i, rfl, q _ Hb H (Gw.refl le) (.int _)⟩
    | _ => cases hz
/-- list(x), tuple(x) of a list, a tuple -/
def cList : List D → Option D
  | [.lst ds] => some (.lst ds)
  | [.tup ds] => some (.lst ds)
  | _ => none
theorem c_list : OpC X xa (.type "list") cList := by
  intro pins s σ H vs us Q I r h
  obtain ⟨Hb, ds, z, le, rl, hz, q⟩ := h
  match ds, rl, hz with
  | [], _, hz => cases hz
  | a0 :: b0 :: r0, _, hz => cases a0 <;> cases hz
  | [d], rl, hz =>
    obtain ⟨v, rfl, r1⟩ := rl.one
    cases r1 with
    | lst h1 q1 =>
      cases hz
      exact call_list_of pins s σ H _ us Q I r ⟨_, _, rfl, .inl (ex_l le (SqL.of h1)), fun p hp => q _ _ _ (Gw.new le hp) (.lst upd_same (q1.mono (Ex.new (fresh_back le hp))))⟩
    | tup h1 q1 =>
      cases hz
      exact call_list_of pins s σ H _ us Q I r ⟨_, _, rfl, .inr (ex_t le (SqT.of h1)), fun p hp => q _ _ _ (Gw.new le hp) (.lst upd_same (q1.mono (Ex.new (fresh_back le hp))))⟩
    | _ => cases hz
def cTuple : List D → Option D
  | [.lst ds] => some (.tup ds)
  | _ => none
theorem c_tuple : OpC X xa (.type "tuple") cTuple := by
  intro pins s σ H vs us Q I r h
  obtain ⟨Hb, ds, z, le, rl, hz, q⟩ := h
  match ds, rl, hz with
  | [], _, hz => cases hz
  | a0 :: b0 :: r0, _, hz => cases a0 <;> cases hz
  | [d], rl, hz =>
    obtain ⟨v, rfl, r1⟩ := rl.one
    cases r1 with
    | lst h1 q1 =>
      cases hz
      exact call_tuple_of pins s σ H _ us Q I r ⟨_, _, rfl, .inl ⟨ex_l le (SqL.of h1), fun p hp => q _ _ _ (Gw.new le hp) (.tup upd_same (q1.mono (Ex.new (fresh_back le hp))))⟩⟩
    | _ => cases hz
/-- list(range(n)), list(range(a, b)) -/
def rgD (a b : Int) : List D := (List.range (b - a).toNat).map fun i => D.int (a + (i : Nat))
theorem rg_rl {K : PySem.W.Frag} {H : Hp} (a b : Int) : RL K xa H (rgV a b) (rgD a b) := by
  unfold rgV rgD
  generalize (List.range (b - a).toNat) = l
  induction l with
  | nil => exact .nil
  | cons i r ih => exact .cons (.int _) ih
def lrF (f : F) : F := fun ρ => (f ρ).bind fun x => (ofO (toI x)).bind fun n => if -16777216 ≤ n ∧ n ≤ 16777216 then .ok (.lst (rgD 0 n)) else .st
theorem p_listRange {p p2 pos2 : Pos} (hc : X.calm = true) (hg : Gl X "list") (hm : X.mg "list" = none) (hg2 : Gl X "range") (hm2 : X.mg "range" = none) (ha : Pe X xa W a f)
    (na : starEach [.Call (.Name "range" p2) [a] [] pos2] X.env = (false, eval (.Call (.Name "range" p2) [a] [] pos2) X.env) :: starEach [] X.env := by rfl) (nb : starEach [a] X.env = (false, eval a X.env) :: starEach [] X.env := by rfl) :
    Pe X xa W (.Call (.Name "list" p) [.Call (.Name "range" p2) [a] [] pos2] [] pos) (lrF f) := by
  refine PE.imp (pe_listRg hc hg hm (prg_1 hg2 hm2 ha nb) na) fun σ H Q hq => ?_
  obtain ⟨Hb, ρ, le, re, p⟩ := hq
  refine ⟨Hb, ρ, le, re, post_bind le p fun d v B1 H1 e1 g1 r1 p1 => ?_⟩
  cases r1 with
  | int n =>
    have p1 : post X.K (R X.K xa) (WE W σ) B1 H1 Q (if -16777216 ≤ n ∧ n ≤ 16777216 then .ok (.lst (rgD 0 n)) else .st) := p1
    by_cases c : -16777216 ≤ n ∧ n ≤ 16777216
    · rw [if_pos c] at p1
      refine ⟨n, rfl, ⟨by omega, by omega, by omega, by omega, by omega⟩, fun q hn => post_new g1.le p1 hn ?_⟩
      exact .lst upd_same (rg_rl 0 n)
    · rw [if_neg c] at p1
      exact p1.elim
  | _ => exact (show False from p1).elim

/-! ### isinstance of what is built in -/
def tyD : D → Option String
  | .non => some "NoneType"
  | .bl _ => some "bool"
  | .int _ => some "int"
  | .str _ => some "str"
  | .lst _ => some "list"
  | .tup _ => some "tuple"
  | .tpz _ => some "tuple"
  | _ => none
/-- whether data is of the built-in class T: str, int, bool, list, tuple -/
def isiD (T : String) (d : D) : Option D := (tyD d).bind fun n => (kitB n T).map D.bl
theorem SqT.ty {K : PySem.W.Frag} {H : Hp} {a : Addr} {xs : List V} (h : SqT K H a xs) : TyX K H (.ref a) (.type "tuple") := by
  rcases h with (h | ⟨o, h⟩) | ⟨o, its, n, h1, h2, _⟩
  · exact .base (.tup h)
  · exact .fTuple h
  · exact .kTuple h1 h2
theorem R.ty {K : PySem.W.Frag} {H : Hp} {v : V} {d : D} {n : String} (r : R K xa H v d) (h : tyD d = some n) : TyX K H v (.type n) := by
  cases r with
  | non => cases h; exact .base .non
  | bl b => cases h; exact .base (.bl b)
  | int b => cases h; exact .base (.int b)
  | str b => cases h; exact .base (.str _)
  | lst h1 _ => cases h; exact .base (.lst h1)
  | tup h1 _ => cases h; exact .base (.tup h1)
  | tpz h1 _ _ _ => cases h; exact SqT.ty (.inl (.inr ⟨_, h1⟩))
  | _ => cases h
theorem p_isi {p p2 : Pos} {x T : String} (hg : Gl X "isinstance") (hm : X.mg "isinstance" = none) (hg2 : Gl X (Str.ofString x)) (hm2 : X.mg (Str.ofString x) = none) (hb : bootBuiltins (Str.ofString x) = some (.type T)) (ha : Pe X xa W a f)
    (hv : bootBuiltins "isinstance" = some (.builtin "isinstance") := by decide +kernel) (n1 : (Str.ofString x) ≠ "__name__" := by decide) (n2 : ((Str.ofString x) == ("__debug__" : Str)) = false := by decide)
    (he : starEach [a, .Name (Str.ofString x) p2] X.env = (false, eval a X.env) :: starEach [.Name (Str.ofString x) p2] X.env := by rfl) (he2 : starEach [.Name (Str.ofString x) p2] X.env = (false, eval (.Name (Str.ofString x) p2) X.env) :: starEach [] X.env := by rfl)
    (hpl : (backTo pos (starEach [.Name (Str.ofString x) p2] X.env)).any (·.1) = false := by rfl) :
    Pe X xa W (.Call (.Name "isinstance" p) [a, .Name (Str.ofString x) p2] [] pos) (op1 (isiD T) f) := by
  have hT : PE X (.Name (Str.ofString x) p2) (tC (.ty T)) := pe_bltn hg2 hm2 hb rfl n1 n2
  refine PE.imp (pe_callB call_isi hg hm hv (pa_cons ha (pa_cons hT pa_nil he2) he) (by decide) (by decide) he hpl) fun σ H Q hq => ?_
  obtain ⟨Hb, ρ, le, re, p⟩ := hq
  refine ⟨Hb, ρ, le, re, post_bind le p fun d v B1 H1 e1 g1 r1 p1 => ?_⟩
  cases q : isiD T d with
  | none =>
    rw [q] at p1
    exact p1.elim
  | some z =>
    rw [q] at p1
    obtain ⟨n, e2, e3⟩ := Option.bind_eq_some_iff.mp q
    obtain ⟨kb, e4, e5⟩ := Option.map_eq_some_iff.mp e3
    subst e5
    exact ⟨v, .ty T, _, _, kb, rfl, .ty T, (r1.mono g1.le).ty e2, kit_ty e4, post_here g1.le p1 (.bl _)⟩
end
end Pu

namespace Pu
open PySem PySem.Spec PyProof.Rows L2 Evl
/-! ### what is drawn: a list, a tuple, a text -/
inductive SV where
  | l (a : Addr) (xs : List V) | t (a : Addr) (xs : List V) | s (z : Str)
def SV.v : SV → V
  | .l a _ => .ref a
  | .t a _ => .ref a
  | .s z => .str z
def chV (z : Str) : List V := z.cps.toList.map fun c => V.str ⟨#[c]⟩
def SV.its : SV → List V
  | .l _ xs => xs
  | .t _ xs => xs
  | .s z => chV z
def SV.G (H : Hp) : SV → Prop
  | .l a xs => H a = some (.lst xs)
  | .t a xs => H a = some (.tup xs)
  | .s _ => True
/-- its iterator at it, behind i items -/
def SV.st (u : Value) (it : Addr) (i : Nat) (h : Heap) : SV → Prop
  | .l a _ => h.IsListIter it a i
  | .t a _ => h.IsTupleIter it a i
  | .s z => ∃ t, u = .str z t ∧ h.IsStrIter it (strIterType z) z t i
def SV.ob (u : Value) : SV → Obj
  | .l a _ => { cls := .type "list_iterator", data := .fields #[.ref a, .int 0 0] }
  | .t a _ => { cls := .type "tuple_iterator", data := .fields #[.ref a, .int 0 0] }
  | .s z => { cls := .type (strIterType z), data := .fields #[u, .int 0 0] }
theorem SV.st_cell {u : Value} {it : Addr} {i : Nat} {h : Heap} : ∀ {q : SV}, q.st u it i h → ∃ o, h.get? it = some o ∧ ∀ v, o.data ≠ .cell v
  | .l _ _, ⟨o, e, _, d⟩ => ⟨o, e, fun v z => by rw [d] at z; cases z⟩
  | .t _ _, ⟨o, e, _, d⟩ => ⟨o, e, fun v z => by rw [d] at z; cases z⟩
  | .s _, ⟨_, _, o, e, _, d⟩ => ⟨o, e, fun v z => by rw [d] at z; cases z⟩
theorem SV.st_keep {u : Value} {it : Addr} {i : Nat} {h h' : Heap} (k : ∀ o, h.get? it = some o → h'.get? it = some o) : ∀ {q : SV}, q.st u it i h → q.st u it i h'
  | .l _ _, st => Heap.IsListIter.at st k
  | .t _ _, st => by
    obtain ⟨o, e, c, d⟩ := st
    exact ⟨o, k _ e, c, d⟩
  | .s _, st => by
    obtain ⟨t, eu, o, e, c, d⟩ := st
    exact ⟨t, eu, o, k _ e, c, d⟩
theorem SV.st0 {u : Value} {it : Addr} {h : Heap} (q : SV) (r : RelV q.v u) (e : h.get? it = some (q.ob u)) : q.st u it 0 h := by
  cases q with
  | l a xs => exact ⟨_, e, rfl, rfl⟩
  | t a xs => exact ⟨_, e, rfl, rfl⟩
  | s z =>
    obtain ⟨t, rfl⟩ := r
    exact ⟨t, rfl, _, e, rfl, rfl⟩
section
variable {X : Cx} {pins : List (Addr × Obj)} {σ : L2.St} {H : Hp} {s : Shared}
theorem chV_len (z : Str) : (chV z).length = z.cps.size := by
  unfold chV
  rw [List.length_map, Array.length_toList]
/-- what the source draws, while its object stands -/
theorem SV.draws (hc : X.calm = true) (I : Inv X pins σ H s) {u : Value} {it : Addr} {i : Nat} (q : SV) (r : RelV q.v u) (g : q.G H) (hn : H it = none) (st : q.st u it i s.heap) :
    ∃ (fp : List Addr) (P : Nat → Value → Prop) (St : Nat → Heap → Prop), Draws X.prog X.w X.A.in1 it fp q.its.length P St ∧ St i s.heap ∧ (∀ b ∈ fp, b = it ∨ ∃ o, H b = some o) ∧ it ∈ fp ∧
      (∀ j x, P j x → ∃ y, q.its[j]? = some y ∧ RelV y x) ∧ ∀ j h, St j h → q.st u it j h := by
  have hh : X.A.in1.handled = none := I.ok.hd hc
  cases q with
  | l a xs =>
    have ea : u = .ref a := r
    subst ea
    obtain ⟨its, rv, p, hz⟩ := I.list (SqL.of (K := X.K) (show H a = some (.lst xs) from g))
    have hne : a ≠ it := ne_of_none (show H a = some (.lst xs) from g) hn
    have hl := rv.length
    have D := Draws.list (prog := X.prog) (w := X.w) hh it a hne its.toArray
    rw [List.size_toArray, ← hl] at D
    refine ⟨_, _, _, D, ⟨st, p.isList⟩, fun b hb => ?_, by simp, fun j x hx => ?_, fun j h z => z.1⟩
    · rcases List.mem_cons.mp hb with e | hb
      · exact .inl e
      · rw [List.mem_singleton.mp hb]
        exact .inr ⟨_, g⟩
    · have hx : its.toArray[j]? = some x := hx
      have hj : its[j]? = some x := by simpa using hx
      have hjl : j < xs.length := by
        rw [hl]
        exact (List.getElem?_eq_some_iff.mp hj).1
      obtain ⟨x', e1, e2⟩ := rv.get (List.getElem?_eq_getElem hjl)
      rw [hj] at e1
      cases e1
      exact ⟨_, List.getElem?_eq_getElem hjl, e2⟩
  | t a xs =>
    have ea : u = .ref a := r
    subst ea
    obtain ⟨its, rv, p, hz⟩ := I.tuple (SqT.of (K := X.K) (show H a = some (.tup xs) from g))
    have hne : a ≠ it := ne_of_none (show H a = some (.tup xs) from g) hn
    have hl := rv.length
    have D := Draws.tuple (prog := X.prog) (w := X.w) hh it a hne its.toArray
    rw [List.size_toArray, ← hl] at D
    refine ⟨_, _, _, D, ⟨st, p⟩, fun b hb => ?_, by simp, fun j x hx => ?_, fun j h z => z.1⟩
    · rcases List.mem_cons.mp hb with e | hb
      · exact .inl e
      · rw [List.mem_singleton.mp hb]
        exact .inr ⟨_, g⟩
    · have hx : its.toArray[j]? = some x := hx
      have hj : its[j]? = some x := by simpa using hx
      have hjl : j < xs.length := by
        rw [hl]
        exact (List.getElem?_eq_some_iff.mp hj).1
      obtain ⟨x', e1, e2⟩ := rv.get (List.getElem?_eq_getElem hjl)
      rw [hj] at e1
      cases e1
      exact ⟨_, List.getElem?_eq_getElem hjl, e2⟩
  | s z =>
    obtain ⟨t, eu, st⟩ := st
    have D := Draws.text (prog := X.prog) (w := X.w) hh it z t
    rw [← chV_len] at D
    refine ⟨_, _, _, D, st, fun b hb => .inl (List.mem_singleton.mp hb), by simp, fun j x hx => ?_, fun j h q => ⟨t, eu, q⟩⟩
    obtain ⟨c, w, e1, rfl⟩ := hx
    refine ⟨.str ⟨#[c]⟩, ?_, w, rfl⟩
    show (chV z)[j]? = _
    unfold chV
    rw [List.getElem?_map, Array.getElem?_toList, e1] <;> rfl
theorem SV.begins (I : Inv X pins σ H s) {u : Value} (q : SV) (r : RelV q.v u) (g : q.G H) : ∃ Hp' : Heap → Prop, Begins u (q.ob u) Hp' ∧ Hp' s.heap := by
  cases q with
  | l a xs =>
    have ea : u = .ref a := r
    subst ea
    obtain ⟨its, rv, p, hz⟩ := I.list (SqL.of (K := X.K) (show H a = some (.lst xs) from g))
    exact ⟨_, begins_list a its.toArray, p.isList⟩
  | t a xs =>
    have ea : u = .ref a := r
    subst ea
    obtain ⟨its, rv, p, hz⟩ := I.tuple (SqT.of (K := X.K) (show H a = some (.tup xs) from g))
    exact ⟨_, begins_tuple a its.toArray, p⟩
  | s z =>
    obtain ⟨t, rfl⟩ := (show ∃ t, u = Value.str z t from r)
    exact ⟨_, begins_text z t, trivial⟩
end
/-! ### enumerate -/
def ItE (q : SV) : It := ⟨fun i H => q.G H ∧ i < q.its.length, fun i H v H' => ∃ T x, v = .ref T ∧ H T = none ∧ H' = upd H T (.tup [.int (i : Nat), x]) ∧ q.its[i]? = some x, fun i H => q.G H ∧ i = q.its.length⟩
theorem turn_en {P : Program} {w : World} {K : PySem.W.Frag} {elts : List Expr} {kk : Nat} {tpos : Pos} (q : SV) (u : Value) (e it : Addr) (r : RelV q.v u) (hne : e ≠ it) :
    Turn P w K (.Tuple elts kk tpos) (ItE q) [e, it] e (fun i h => (∃ old, IsEnum h e it ((i : Nat) : Int) old) ∧ q.st u it i h) where
  mem := by simp
  obj := fun i h st b hb => by
    obtain ⟨⟨old, he⟩, st⟩ := st
    rcases List.mem_cons.mp hb with rfl | hb
    · exact ⟨_, he, fun v z => nomatch z⟩
    · rw [List.mem_singleton.mp hb]
      exact SV.st_cell st
  keep := fun i h h' st k => by
    obtain ⟨⟨old, he⟩, st⟩ := st
    exact ⟨⟨old, k e (by simp) _ he⟩, SV.st_keep (fun o z => k it (by simp) o z) st⟩
  item := by
    intro X hP hw hK hc i pins s σ H E I hf st hg
    subst hP hw hK
    obtain ⟨⟨old, he⟩, st⟩ := st
    obtain ⟨g, hi⟩ := hg
    obtain ⟨fp, Pq, Sq, Dr, s0, hfp, hmem, hP, hS⟩ := q.draws hc I r g (hf it (by simp)).1 st
    have hef : e ∉ fp := fun z => by
      rcases hfp e z with z1 | ⟨o, z1⟩
      · exact hne z1
      · rw [(hf e (by simp)).1] at z1
        cases z1
    have hel : e < s.heap.objs.size := Heap.lt_size he
    have hil : it < s.heap.objs.size := by
      obtain ⟨o, z, _⟩ := SV.st_cell st
      exact Heap.lt_size z
    refine wpAny_pyNext_enum_itemC Dr he s0 hi hne hef fun x h' tk px ho s1 hT hsz hk => ?_
    obtain ⟨y, hy, ry⟩ := hP i x px
    refine ⟨_, rfl, wpAny_letOwnedTupleGo_enum (s := { s with heap := h', toks := tk + 1 }) ho fun h2 he2 sb => ?_⟩
    have hT2 : h2.get? s.heap.objs.size = some { cls := .type "tuple", data := .seq #[.int i tk, x] } := (sb.2 _ (Nat.ne_of_gt hel)).trans hT
    have new : ObjOk X.prog X.w (upd H s.heap.objs.size (.tup [.int (i : Nat), y])) h2 s.heap.objs.size (.tup [.int (i : Nat), y]) := ⟨by show 2 ≤ sizeLine; decide, [.int i tk, x], .cons ⟨_, rfl⟩ (.cons ry .nil), ⟨_, hT2, rfl, _, rfl⟩⟩
    have I1 : Inv X pins σ (upd H s.heap.objs.size (.tup [.int (i : Nat), y])) { s with heap := h2, toks := tk + 1 } :=
      I.turnedNew (ch := [e, it]) (fun b ob hb z => by
        have n1 : b ≠ e := fun q => hb (by simp [q])
        have n2 : b ≠ it := fun q => hb (by simp [q])
        exact (sb.2 b n1).trans (hk b ob n1 n2 z)) hf (Nat.le_refl _) new
    refine ⟨.ref s.heap.objs.size, _, I1, rfl, ⟨_, y, rfl, I.hok.fresh (Nat.le_refl _), rfl, hy⟩, ⟨⟨x, ?_⟩, SV.st_keep (fun o z => (sb.2 it (Ne.symm hne)).trans z) (hS _ _ s1)⟩, fun b hb => ?_⟩
    · have e1 : ((i + 1 : Nat) : Int) = (i : Int) + 1 := by omega
      rw [e1]
      exact he2
    · have hb' : b < s.heap.objs.size := by
        rcases List.mem_cons.mp hb with z | hb
        · rw [z]
          exact hel
        · rw [List.mem_singleton.mp hb]
          exact hil
      rw [upd_ne (Nat.ne_of_lt hb')]
      exact (hf b hb).1
  done := by
    intro X hP hw hK hc i pins s σ H E I hf st hg
    subst hP hw hK
    obtain ⟨⟨old, he⟩, st⟩ := st
    obtain ⟨g, hi⟩ := hg
    obtain ⟨fp, Pq, Sq, Dr, s0, hfp, hmem, hP, hS⟩ := q.draws hc I r g (hf it (by simp)).1 st
    obtain ⟨f0, f1, f2, f3, f4, f5⟩ := hf it (by simp)
    rw [hi] at s0
    exact wpAny_pyNext_enum_endD Dr he s0 fun h' eb => ⟨rfl, I.turned (t' := s.toks) (fun b o hb z => eb b o hb z) f0 f1 f3 f4 f5⟩
  self := fun A i s Q E st h => by
    obtain ⟨⟨_, he⟩, _⟩ := st
    exact wpAny_pyIter_enum he h
/-! ### zip -/
def ItZ (q1 q2 : SV) : It := ⟨fun i H => q1.G H ∧ q2.G H ∧ i < q1.its.length ∧ i < q2.its.length, fun i H v H' => ∃ T x y, v = .ref T ∧ H T = none ∧ H' = upd H T (.tup [x, y]) ∧ q1.its[i]? = some x ∧ q2.its[i]? = some y,
  fun i H => q1.G H ∧ q2.G H ∧ i = min q1.its.length q2.its.length⟩
structure Apart5 (z a b c d : Addr) : Prop where
  az : a ≠ z
  bz : b ≠ z
  cz : c ≠ z
  dz : d ≠ z
  ab : a ≠ b
  ac : a ≠ c
  ad : a ≠ d
  bc : b ≠ c
  bd : b ≠ d
  cd : c ≠ d
theorem turn_zi {P : Program} {w : World} {K : PySem.W.Frag} {elts : List Expr} {kk : Nat} {tpos : Pos} (q1 q2 : SV) (u1 u2 : Value) (z TI TO i1 i2 : Addr) (r1 : RelV q1.v u1) (r2 : RelV q2.v u2) (ap : Apart5 z TI TO i1 i2) :
    Turn P w K (.Tuple elts kk tpos) (ItZ q1 q2) [z, TI, TO, i1, i2] z (fun i h => IsZip h z TI TO .none ∧ IsTupOf2 h TI (.ref i1) (.ref i2) ∧ (∃ x y, IsTupOf2 h TO x y) ∧ q1.st u1 i1 i h ∧ q2.st u2 i2 i h) where
  mem := by simp
  obj := fun i h st b hb => by
    obtain ⟨hz, hTI, ⟨x, y, hTO⟩, s1, s2⟩ := st
    have e' : b = z ∨ b = TI ∨ b = TO ∨ b = i1 ∨ b = i2 := by simpa using hb
    rcases e' with rfl | rfl | rfl | rfl | rfl
    · exact ⟨_, hz, fun v q => nomatch q⟩
    · exact ⟨_, hTI, fun v q => nomatch q⟩
    · exact ⟨_, hTO, fun v q => nomatch q⟩
    · exact SV.st_cell s1
    · exact SV.st_cell s2
  keep := fun i h h' st k => by
    obtain ⟨hz, hTI, ⟨x, y, hTO⟩, s1, s2⟩ := st
    exact ⟨k z (by simp) _ hz, k TI (by simp) _ hTI, ⟨x, y, k TO (by simp) _ hTO⟩, SV.st_keep (fun o z => k i1 (by simp) o z) s1, SV.st_keep (fun o z => k i2 (by simp) o z) s2⟩
  item := by
    intro X hP hw hK hc i pins s σ H E I hf st hg
    subst hP hw hK
    obtain ⟨hz, hTI, ⟨x0, y0, hTO⟩, st1, st2⟩ := st
    obtain ⟨g1, g2, hi1, hi2⟩ := hg
    obtain ⟨fp1, P1, S1, D1, s1, hfp1, m1, hP1, hS1⟩ := q1.draws hc I r1 g1 (hf i1 (by simp)).1 st1
    obtain ⟨fp2, P2, S2, D2, s2, hfp2, m2, hP2, hS2⟩ := q2.draws hc I r2 g2 (hf i2 (by simp)).1 st2
    have out1 : ∀ b, b ∈ [z, TI, TO, i1, i2] → b ≠ i1 → b ∉ fp1 := fun b hb n m => by
      rcases hfp1 b m with q | ⟨o, q⟩
      · exact n q
      · rw [(hf b hb).1] at q
        cases q
    have out2 : ∀ b, b ∈ [z, TI, TO, i1, i2] → b ≠ i2 → b ∉ fp2 := fun b hb n m => by
      rcases hfp2 b m with q | ⟨o, q⟩
      · exact n q
      · rw [(hf b hb).1] at q
        cases q
    have sep : ZipSep2 z TI TO i1 i2 fp1 fp2 := ⟨ap.az, ap.bz, ap.ab, ap.ac, m1, out1 z (by simp) (Ne.symm ap.cz), out1 TO (by simp) ap.bc, ap.ad, m2, out2 z (by simp) (Ne.symm ap.dz), out2 TO (by simp) ap.bd, out2 i1 (by simp) ap.cd, out1 i2 (by simp) (Ne.symm ap.cd)⟩
    have hzl : z < s.heap.objs.size := Heap.lt_size hz
    refine wpAny_pyNext_zipD2_item sep D1 D2 hz hTI hTO s1 s2 hi1 hi2 fun x1 x2 h' tk p1 p2 hz' hTO' s1' s2' hT hsz hk => ?_
    obtain ⟨y1, hy1, ry1⟩ := hP1 i x1 p1
    obtain ⟨y2, hy2, ry2⟩ := hP2 i x2 p2
    refine ⟨_, rfl, wpAny_letOwnedTupleGo_zip (s := { s with heap := h', toks := tk }) hz' fun h2 hz2 sb => ?_⟩
    have hT2 : h2.get? s.heap.objs.size = some { cls := .type "tuple", data := .seq #[x1, x2] } := (sb.2 _ (Nat.ne_of_gt hzl)).trans hT
    have new : ObjOk X.prog X.w (upd H s.heap.objs.size (.tup [y1, y2])) h2 s.heap.objs.size (.tup [y1, y2]) := ⟨by show 2 ≤ sizeLine; decide, [x1, x2], .cons ry1 (.cons ry2 .nil), ⟨_, hT2, rfl, _, rfl⟩⟩
    have I1 : Inv X pins σ (upd H s.heap.objs.size (.tup [y1, y2])) { s with heap := h2, toks := tk } :=
      I.turnedNew (ch := [z, TI, TO, i1, i2]) (fun b ob hb q => by
        have nz : b ≠ z := fun q => hb (by simp [q])
        exact (sb.2 b nz).trans (hk b ob nz (fun q => hb (by simp [q])) (fun q => hb (by simp [q])) (fun q => hb (by simp [q])) q)) hf (Nat.le_refl _) new
    refine ⟨.ref s.heap.objs.size, _, I1, rfl, ⟨_, y1, y2, rfl, I.hok.fresh (Nat.le_refl _), rfl, hy1, hy2⟩, ⟨hz2, ?_, ⟨x1, x2, ?_⟩, ?_, ?_⟩, fun b hb => ?_⟩
    · exact (sb.2 _ ap.az).trans (hk _ _ ap.az ap.ab ap.ac ap.ad hTI)
    · exact (sb.2 _ ap.bz).trans hTO'
    · exact SV.st_keep (fun o q => (sb.2 _ ap.cz).trans q) (hS1 _ _ s1')
    · exact SV.st_keep (fun o q => (sb.2 _ ap.dz).trans q) (hS2 _ _ s2')
    · have hlt : b < s.heap.objs.size := by
        have e' : b = z ∨ b = TI ∨ b = TO ∨ b = i1 ∨ b = i2 := by simpa using hb
        rcases e' with rfl | rfl | rfl | rfl | rfl
        · exact hzl
        · exact Heap.lt_size hTI
        · exact Heap.lt_size hTO
        · obtain ⟨o, q, _⟩ := SV.st_cell st1
          exact Heap.lt_size q
        · obtain ⟨o, q, _⟩ := SV.st_cell st2
          exact Heap.lt_size q
      rw [upd_ne (Nat.ne_of_lt hlt)]
      exact (hf b hb).1
  done := by
    intro X hP hw hK hc i pins s σ H E I hf st hg
    subst hP hw hK
    obtain ⟨hz, hTI, ⟨x0, y0, hTO⟩, st1, st2⟩ := st
    obtain ⟨g1, g2, hi⟩ := hg
    obtain ⟨fp1, P1, S1, D1, s1, hfp1, m1, hP1, hS1⟩ := q1.draws hc I r1 g1 (hf i1 (by simp)).1 st1
    obtain ⟨fp2, P2, S2, D2, s2, hfp2, m2, hP2, hS2⟩ := q2.draws hc I r2 g2 (hf i2 (by simp)).1 st2
    have out1 : ∀ b, b ∈ [z, TI, TO, i1, i2] → b ≠ i1 → b ∉ fp1 := fun b hb n m => by
      rcases hfp1 b m with q | ⟨o, q⟩
      · exact n q
      · rw [(hf b hb).1] at q
        cases q
    have out2 : ∀ b, b ∈ [z, TI, TO, i1, i2] → b ≠ i2 → b ∉ fp2 := fun b hb n m => by
      rcases hfp2 b m with q | ⟨o, q⟩
      · exact n q
      · rw [(hf b hb).1] at q
        cases q
    have sep : ZipSep2 z TI TO i1 i2 fp1 fp2 := ⟨ap.az, ap.bz, ap.ab, ap.ac, m1, out1 z (by simp) (Ne.symm ap.cz), out1 TO (by simp) ap.bc, ap.ad, m2, out2 z (by simp) (Ne.symm ap.dz), out2 TO (by simp) ap.bd, out2 i1 (by simp) ap.cd, out1 i2 (by simp) (Ne.symm ap.cd)⟩
    refine wpAny_pyNext_zipD2_end sep D1 D2 hz hTI hTO s1 s2 (by omega) (by omega) (by omega) fun h' tk hk => ⟨rfl, I.turnedL (t' := tk) (ch := [z, TI, TO, i1, i2]) (fun b o hb q => ?_) hf⟩
    exact hk b o (fun q => hb (by simp [q])) (fun q => hb (by simp [q])) (fun q => hb (by simp [q])) (fun q => hb (by simp [q])) q
  self := fun A i s Q E st h => wpAny_pyIter_zip st.1 h
end Pu

namespace Pu
open PySem PySem.Spec PyProof.Rows L2 Evl
/-! ### what a loop walks, as data -/
structure Wk (K : PySem.W.Frag) (xa : Xa) (B : Hp) (J : It) (ds : List D) : Prop where
  go : ∀ i B1 H1, Ex B B1 → Ex B1 H1 → i < ds.length → J.go i H1
  stop : ∀ B1 H1, Ex B B1 → Ex B1 H1 → J.stop ds.length H1
  yld : ∀ i B1 H1 x H2 d, Ex B B1 → Ex B1 H1 → ds[i]? = some d → J.yld i H1 x H2 → ∃ B2, Gw B1 H1 B2 H2 ∧ R K xa B2 x d
abbrev Pi (X : Cx) (xa : Xa) (W : WX) (tg e : Expr) (f : Fs) : Prop := PI X tg e (tPx X.K xa (Wk X.K xa) W f)
def itD : D → Option (List D)
  | .lst ds => some ds
  | .tup ds => some ds
  | .str l => some (l.map fun c => .str [c])
  | _ => none
def itF (f : F) : Fs := fun ρ => (f ρ).bind fun x => ofO (itD x)
section
variable {K : PySem.W.Frag} {xa : Xa} {B H : Hp}
theorem wk_list {a : Addr} {xs : List V} {ds : List D} (h : B a = some (.lst xs)) (r : RL K xa B xs ds) : Wk K xa B (Itl K a) ds where
  go := fun i B1 H1 e1 e2 hi => ⟨xs, xs[i]'(by rw [r.length]; exact hi), SqL.of (e2 _ _ (e1 _ _ h)), by simp⟩
  stop := fun B1 H1 e1 e2 => ⟨xs, SqL.of (e2 _ _ (e1 _ _ h)), by rw [r.length]; exact Nat.le_refl _⟩
  yld := fun i B1 H1 x H2 d e1 e2 hd hy => by
    obtain ⟨rfl, hy⟩ := hy
    obtain ⟨v, e3, r3⟩ := r.get hd
    have e4 := hy xs (SqL.of (e2 _ _ (e1 _ _ h)))
    rw [e3] at e4
    cases e4
    exact ⟨B1, Gw.refl e2, r3.mono e1⟩
theorem wk_tup {a : Addr} {xs : List V} {ds : List D} (h : B a = some (.tup xs)) (r : RL K xa B xs ds) : Wk K xa B (Itt K a) ds where
  go := fun i B1 H1 e1 e2 hi => ⟨xs, xs[i]'(by rw [r.length]; exact hi), SqT.of (e2 _ _ (e1 _ _ h)), by simp⟩
  stop := fun B1 H1 e1 e2 => ⟨xs, SqT.of (e2 _ _ (e1 _ _ h)), by rw [r.length]; exact Nat.le_refl _⟩
  yld := fun i B1 H1 x H2 d e1 e2 hd hy => by
    obtain ⟨rfl, hy⟩ := hy
    obtain ⟨v, e3, r3⟩ := r.get hd
    have e4 := hy xs (SqT.of (e2 _ _ (e1 _ _ h)))
    rw [e3] at e4
    cases e4
    exact ⟨B1, Gw.refl e2, r3.mono e1⟩
theorem wk_str {l : List Nat} (h : okS l) : Wk K xa B (Its (sOf l)) (l.map fun c => .str [c]) where
  go := fun i B1 H1 e1 e2 hi => by
    show i < l.toArray.size
    rw [List.length_map] at hi
    simpa using hi
  stop := fun B1 H1 e1 e2 => by
    show l.toArray.size ≤ (l.map _).length
    simp
  yld := fun i B1 H1 x H2 d e1 e2 hd hy => by
    obtain ⟨rfl, c, hc, rfl⟩ := hy
    have hc : l[i]? = some c := by simpa using hc
    rw [List.getElem?_map, hc] at hd
    cases hd
    exact ⟨B1, Gw.refl e2, .str (l := [c]) fun x hx => by rw [List.mem_singleton.mp hx]; exact h _ (List.mem_of_getElem? hc)⟩
theorem wk_range (lo : Int) (n : Nat) : Wk K xa B (Itr lo n) ((List.range n).map fun i => D.int (lo + (i : Nat))) where
  go := fun i B1 H1 e1 e2 hi => by
    rw [List.length_map, List.length_range] at hi
    exact hi
  stop := fun B1 H1 e1 e2 => by
    show n ≤ _
    rw [List.length_map, List.length_range]
    exact Nat.le_refl _
  yld := fun i B1 H1 x H2 d e1 e2 hd hy => by
    obtain ⟨rfl, rfl⟩ := hy
    rw [List.getElem?_map] at hd
    obtain ⟨j, e3, e4⟩ := Option.map_eq_some_iff.mp hd
    have : j = i := by
      have := (List.getElem?_eq_some_iff.mp e3)
      obtain ⟨h1, h2⟩ := this
      simp at h2
      exact h2.symm
    subst this e4
    exact ⟨B1, Gw.refl e2, .int _⟩
end
section
variable {X : Cx} {xa : Xa} {W : WX} {pos : Pos} {a b c e tg : Expr} {es rest : List Expr} {f h k : F} {fs : Fs} {t u : T}
theorem i_data (ha : Pe X xa W e f) : Pi X xa W tg e (itF f) := by
  refine ⟨fun pins s σ H R0 I hq => ?_⟩
  obtain ⟨Hb, ρ, le, re, p⟩ := hq
  unfold itF at p
  have go : ∀ {Q1 : VK}, (∀ d v B1 H1, f ρ = .ok d → Gw Hb H B1 H1 → R X.K xa B1 v d → post X.K (Wk X.K xa) (WE W σ) B1 H1 R0 (ofO (itD d)) → Q1 v H1) → tP X.K xa W f σ H Q1 := fun hk => ⟨Hb, ρ, le, re, post_bind le p fun d v B1 H1 e1 g1 r1 p1 => hk d v B1 H1 e1 g1 r1 p1⟩
  cases hf : f ρ with
  | st =>
    rw [hf] at p
    exact p.elim
  | ex x =>
    exact (pi_list ha).run pins s σ H R0 I (go fun d v B1 H1 e1 g1 r1 p1 => by rw [hf] at e1; cases e1)
  | ok d =>
    cases d with
    | lst ds =>
      refine (pi_list ha).run pins s σ H R0 I (go fun d v B1 H1 e1 g1 r1 p1 => ?_)
      rw [hf] at e1
      cases e1
      cases r1 with
      | lst h1 q1 => exact ⟨_, rfl, ⟨_, SqL.of (g1.le _ _ h1)⟩, post_here g1.le p1 (wk_list h1 q1)⟩
    | tup ds =>
      refine (pi_tup ha).run pins s σ H R0 I (go fun d v B1 H1 e1 g1 r1 p1 => ?_)
      rw [hf] at e1
      cases e1
      cases r1 with
      | tup h1 q1 => exact ⟨_, rfl, ⟨_, SqT.of (g1.le _ _ h1)⟩, post_here g1.le p1 (wk_tup h1 q1)⟩
    | str l =>
      refine (pi_str ha).run pins s σ H R0 I (go fun d v B1 H1 e1 g1 r1 p1 => ?_)
      rw [hf] at e1
      cases e1
      cases r1 with
      | str h1 => exact ⟨_, rfl, post_here g1.le p1 (wk_str h1)⟩
    | _ =>
      rw [hf] at p
      exact (show False from p).elim
def rgF (f : F) : Fs := fun ρ => (f ρ).bind fun x => (ofO (toI x)).bind fun n => if -(2 ^ 62) ≤ n ∧ n < 2 ^ 62 then .ok (rgD 0 n) else .st
def rg2F (f h : F) : Fs := fun ρ => (f ρ).bind fun x => (h ρ).bind fun y => (ofO (toI x)).bind fun m => (ofO (toI y)).bind fun n => if (-(2 ^ 62) ≤ m ∧ m < 2 ^ 62) ∧ (-(2 ^ 62) ≤ n ∧ n < 2 ^ 62) then .ok (rgD m n) else .st
theorem i_range {p : Pos} (hg : Gl X "range") (hm : X.mg "range" = none) (ha : Pe X xa W a f) (hs : starEach [a] X.env = [(false, eval a X.env)] := by rfl) : Pi X xa W tg (.Call (.Name "range" p) [a] [] pos) (rgF f) := by
  refine PI.imp (pi_range1 hg hm (pa_cons ha pa_nil hs) hs) fun σ H R0 hq => ?_
  obtain ⟨Hb, ρ, le, re, p⟩ := hq
  refine ⟨Hb, ρ, le, re, post_bind le p fun d v B1 H1 e1 g1 r1 p1 => ?_⟩
  cases r1 with
  | int n =>
    have p1 : post X.K (Wk X.K xa) (WE W σ) B1 H1 R0 (if -(2 ^ 62) ≤ n ∧ n < 2 ^ 62 then .ok (rgD 0 n) else .st) := p1
    by_cases c : -(2 ^ 62) ≤ n ∧ n < 2 ^ 62
    · rw [if_pos c] at p1
      refine ⟨n, rfl, c.1, c.2, post_here g1.le p1 ?_⟩
      have e : rgD 0 n = (List.range n.toNat).map fun i => D.int (0 + (i : Nat)) := by
        unfold rgD
        rw [Int.sub_zero]
      rw [e]
      exact wk_range 0 n.toNat
    · rw [if_neg c] at p1
      exact p1.elim
  | _ => exact (show False from p1).elim
theorem i_range2 {p : Pos} (hg : Gl X "range") (hm : X.mg "range" = none) (ha : Pe X xa W a f) (hb : Pe X xa W b h) (hs : starEach [a, b] X.env = [(false, eval a X.env), (false, eval b X.env)] := by rfl) (hs2 : starEach [b] X.env = [(false, eval b X.env)] := by rfl)
    (hs3 : starEach [a, b] X.env = (false, eval a X.env) :: starEach [b] X.env := by rfl) : Pi X xa W tg (.Call (.Name "range" p) [a, b] [] pos) (rg2F f h) := by
  refine PI.imp (pi_range2 hg hm (pa_cons ha (pa_cons hb pa_nil hs2) hs3) hs hs2) fun σ H R0 hq => ?_
  obtain ⟨Hb, ρ, le, re, p⟩ := hq
  refine ⟨Hb, ρ, le, re, post_bind le p fun d v B1 H1 e1 g1 r1 p1 => ?_⟩
  refine ⟨B1, ρ, g1.le, re.mono g1.bup, post_bind g1.le p1 fun d2 v2 B2 H2 e2 g2 r2 p2 => ?_⟩
  cases r1 with
  | int m =>
    cases r2 with
    | int n =>
      have p2 : post X.K (Wk X.K xa) (WE W σ) B2 H2 R0 (if (-(2 ^ 62) ≤ m ∧ m < 2 ^ 62) ∧ (-(2 ^ 62) ≤ n ∧ n < 2 ^ 62) then .ok (rgD m n) else .st) := p2
      by_cases c : (-(2 ^ 62) ≤ m ∧ m < 2 ^ 62) ∧ (-(2 ^ 62) ≤ n ∧ n < 2 ^ 62)
      · rw [if_pos c] at p2
        exact ⟨m, n, rfl, ⟨c.1.1, c.1.2, c.2.1, c.2.2⟩, post_here g2.le p2 (wk_range m (n - m).toNat)⟩
      · rw [if_neg c] at p2
        exact p2.elim
    | _ => exact (show False from p2).elim
  | _ => exact (show False from p2).elim
/-- data as what is drawn -/
theorem R.sv {K : PySem.W.Frag} {B : Hp} {v : V} {d : D} {ds : List D} (r : R K xa B v d) (h : itD d = some ds) : ∃ q : SV, q.v = v ∧ (∀ H, Ex B H → q.G H) ∧ RL K xa B q.its ds := by
  cases r with
  | lst h1 q1 =>
    cases h
    exact ⟨.l _ _, rfl, fun H e => e _ _ h1, q1⟩
  | tup h1 q1 =>
    cases h
    exact ⟨.t _ _, rfl, fun H e => e _ _ h1, q1⟩
  | @str l h1 =>
    cases h
    refine ⟨.s (sOf l), rfl, fun H e => trivial, ?_⟩
    show RL K xa B (l.map fun c => V.str ⟨#[c]⟩) (l.map fun c => D.str [c])
    have key : ∀ m : List Nat, okS m → RL K xa B (m.map fun c => V.str ⟨#[c]⟩) (m.map fun c => D.str [c]) := by
      intro m
      induction m with
      | nil => exact fun _ => .nil
      | cons c m ih => exact fun hm => .cons (.str (l := [c]) fun x hx => by rw [List.mem_singleton.mp hx]; exact hm _ List.mem_cons_self) (ih fun x hx => hm x (List.mem_cons_of_mem _ hx))
    exact key l h1
  | _ => cases h
def enD (ds : List D) : List D := ds.mapIdx fun i d => .tup [.int (i : Nat), d]
def itE : D → Option (List D)
  | .lst ds => some ds
  | .str l => some (l.map fun c => .str [c])
  | _ => none
def enF (f : F) : Fs := fun ρ => (f ρ).bind fun x => (ofO (itE x)).bind fun ds => .ok (enD ds)
theorem wk_en {K : PySem.W.Frag} {B : Hp} {q : SV} {ds : List D} (g : ∀ H, Ex B H → q.G H) (r : RL K xa B q.its ds) : Wk K xa B (ItE q) (enD ds) where
  go := fun i B1 H1 e1 e2 hi => ⟨g _ (e1.trans e2), by rw [r.length]; unfold enD at hi; rw [List.length_mapIdx] at hi; exact hi⟩
  stop := fun B1 H1 e1 e2 => ⟨g _ (e1.trans e2), by rw [r.length]; unfold enD; rw [List.length_mapIdx]⟩
  yld := fun i B1 H1 x H2 d e1 e2 hd hy => by
    obtain ⟨Tt, y, rfl, hn, rfl, hyi⟩ := hy
    unfold enD at hd
    rw [List.getElem?_mapIdx] at hd
    obtain ⟨d0, e3, e4⟩ := Option.map_eq_some_iff.mp hd
    subst e4
    obtain ⟨v, e5, r5⟩ := r.get e3
    rw [hyi] at e5
    cases e5
    refine ⟨_, Gw.new e2 hn, .tup upd_same (.cons (.int _) (.cons ((r5.mono e1).mono (Ex.new (fresh_back e2 hn))) .nil))⟩
theorem i_enum {p tpos : Pos} {elts : List Expr} {kk : Nat} (hg : Gl X "enumerate") (hm : X.mg "enumerate" = none) (ha : Pe X xa W e f) (hs : starEach [e] X.env = [(false, eval e X.env)] := by rfl) : Pi X xa W (.Tuple elts kk tpos) (.Call (.Name "enumerate" p) [e] [] pos) (enF f) := by
  refine ⟨fun pins s σ H R0 I hq => ?_⟩
  obtain ⟨Hb, ρ, le, re, p⟩ := hq
  have hA : PA X [e] (tCons (tP X.K xa W f) tNil) := pa_cons ha pa_nil hs
  refine Call_ (ld_blt I hg hm boot_enumerate (PyProof.Rows.callWith_type1 (thn (hA.run pos pins s σ H (fun vs H1 => ∃ v d ds B1, vs = [v] ∧ itE d = some ds ∧ Ex B1 H1 ∧ R X.K xa B1 v d ∧ post X.K (Wk X.K xa) (WE W σ) B1 H1 R0 (.ok (enD ds))) I ⟨Hb, ρ, le, re, post_bind le p fun d v B1 H1 e1 g1 r1 p1 => ?_⟩) fun us s1 hu => ?_) hs rfl))
  · cases q : itE d with
    | none =>
      rw [q] at p1
      exact (show False from p1).elim
    | some ds =>
      rw [q] at p1
      exact ⟨v, d, ds, B1, rfl, q, g1.le, r1, p1⟩
  · obtain ⟨vs, H1, I1, rv, v, d, ds, B1, rfl, hd, e1, r1, p1⟩ := hu
    obtain ⟨w, rfl, rw'⟩ := vals1 rv
    have fp : ∀ b ∈ [s1.heap.objs.size + 1, s1.heap.objs.size], FpOk X pins H1 b := fun b hb => by
      have hle : s1.heap.objs.size ≤ b := by
        rcases List.mem_cons.mp hb with z | hb
        · rw [z]
          exact Nat.le_succ _
        · rw [List.mem_singleton.mp hb]
          exact Nat.le_refl _
      exact I1.fpOk hle (I1.hok.fresh hle)
    cases r1 with
    | @lst a xs ds' h1 q1 =>
      cases hd
      have ew : w = .ref a := rw'
      subst ew
      obtain ⟨its, rv2, p2, hz⟩ := I1.list (SqL.of (K := X.K) (show H1 a = some (.lst xs) from e1 _ _ h1))
      refine call_enumerate_list p2.isList fun h' he hi hsz hk => wpAny_pyIter_enum he ?_
      have I2 : Inv X pins σ H1 { s1 with heap := h' } := I1.kept (t' := s1.toks) hk
      exact ⟨s1.heap.objs.size + 1, [s1.heap.objs.size + 1, s1.heap.objs.size], _, ItE (.l a xs), H1, rfl, I2, turn_en (.l a xs) (.ref a) _ _ rfl (Nat.succ_ne_self _), ⟨⟨.none, he⟩, hi⟩, fp, post_here e1 p1 (wk_en (q := .l a xs) (fun H e => e _ _ h1) q1)⟩
    | @str l h1 =>
      cases hd
      obtain ⟨tk, rfl⟩ := (show ∃ t, w = Value.str (sOf l) t from rw')
      refine call_enumerate_str fun h' he hi hsz hk => wpAny_pyIter_enum he ?_
      have I2 : Inv X pins σ H1 { s1 with heap := h' } := I1.kept (t' := s1.toks) hk
      obtain ⟨q, eq, g, rq⟩ := (R.str (K := X.K) (xa := xa) (H := B1) h1).sv (ds := l.map fun c => .str [c]) rfl
      have hq : RL X.K xa B1 (SV.s (sOf l)).its (l.map fun c => .str [c]) := by
        have key : ∀ m : List Nat, okS m → RL X.K xa B1 (m.map fun c => V.str ⟨#[c]⟩) (m.map fun c => D.str [c]) := by
          intro m
          induction m with
          | nil => exact fun _ => .nil
          | cons c m ih => exact fun hm => .cons (.str (l := [c]) fun x hx => by rw [List.mem_singleton.mp hx]; exact hm _ List.mem_cons_self) (ih fun x hx => hm x (List.mem_cons_of_mem _ hx))
        exact key l h1
      exact ⟨s1.heap.objs.size + 1, [s1.heap.objs.size + 1, s1.heap.objs.size], _, ItE (.s (sOf l)), H1, rfl, I2, turn_en (.s (sOf l)) (.str (sOf l) tk) _ _ ⟨tk, rfl⟩ (Nat.succ_ne_self _), ⟨⟨.none, he⟩, ⟨tk, rfl, hi⟩⟩, fp, post_here e1 p1 (wk_en (q := .s (sOf l)) (fun H e => trivial) hq)⟩
    | _ => cases hd
def ziD (ds es : List D) : List D := List.zipWith (fun d e => .tup [d, e]) ds es
def ziF (f h : F) : Fs := fun ρ => (f ρ).bind fun x => (h ρ).bind fun y => (ofO (itD x)).bind fun ds => (ofO (itD y)).bind fun es => .ok (ziD ds es)
theorem wk_zi {K : PySem.W.Frag} {B : Hp} {q1 q2 : SV} {ds es : List D} (g1 : ∀ H, Ex B H → q1.G H) (g2 : ∀ H, Ex B H → q2.G H) (r1 : RL K xa B q1.its ds) (r2 : RL K xa B q2.its es) : Wk K xa B (ItZ q1 q2) (ziD ds es) where
  go := fun i B1 H1 e1 e2 hi => by
    unfold ziD at hi
    rw [List.length_zipWith] at hi
    exact ⟨g1 _ (e1.trans e2), g2 _ (e1.trans e2), by rw [r1.length]; omega, by rw [r2.length]; omega⟩
  stop := fun B1 H1 e1 e2 => by
    refine ⟨g1 _ (e1.trans e2), g2 _ (e1.trans e2), ?_⟩
    unfold ziD
    rw [List.length_zipWith, r1.length, r2.length]
  yld := fun i B1 H1 x H2 d e1 e2 hd hy => by
    obtain ⟨Tt, y, y', rfl, hn, rfl, hy1, hy2⟩ := hy
    unfold ziD at hd
    rw [List.getElem?_zipWith] at hd
    cases q1' : ds[i]? with
    | none =>
      rw [q1'] at hd
      cases hd
    | some d1 =>
      cases q2' : es[i]? with
      | none =>
        rw [q1', q2'] at hd
        cases hd
      | some d2 =>
        rw [q1', q2'] at hd
        cases hd
        obtain ⟨v1, e5, r5⟩ := r1.get q1'
        obtain ⟨v2, e6, r6⟩ := r2.get q2'
        rw [hy1] at e5
        rw [hy2] at e6
        cases e5
        cases e6
        exact ⟨_, Gw.new e2 hn, .tup upd_same (.cons ((r5.mono e1).mono (Ex.new (fresh_back e2 hn))) (.cons ((r6.mono e1).mono (Ex.new (fresh_back e2 hn))) .nil))⟩
theorem i_zip {p tpos : Pos} {elts : List Expr} {kk : Nat} (hg : Gl X "zip") (hm : X.mg "zip" = none) (ha : Pe X xa W a f) (hb : Pe X xa W b h) (hs : starEach [a, b] X.env = (false, eval a X.env) :: starEach [b] X.env := by rfl) (hs2 : starEach [b] X.env = (false, eval b X.env) :: starEach [] X.env := by rfl)
    (hpl : (backTo pos (starEach [b] X.env)).any (·.1) = false := by rfl) : Pi X xa W (.Tuple elts kk tpos) (.Call (.Name "zip" p) [a, b] [] pos) (ziF f h) := by
  refine ⟨fun pins s σ H R0 I hq => ?_⟩
  obtain ⟨Hb, ρ, le, re, p⟩ := hq
  have hA : PA X [a, b] (tCons (tP X.K xa W f) (tCons (tP X.K xa W h) tNil)) := pa_cons ha (pa_cons hb pa_nil hs2) hs
  refine Call_ (ld_blt I hg hm PyProof.Rows.boot_zip (PyProof.Rows.callWith_type1 (thn (hA.run pos pins s σ H (fun vs H1 => ∃ v1 v2 d1 d2 ds es B1, vs = [v1, v2] ∧ itD d1 = some ds ∧ itD d2 = some es ∧ Ex B1 H1 ∧ R X.K xa B1 v1 d1 ∧ R X.K xa B1 v2 d2 ∧ post X.K (Wk X.K xa) (WE W σ) B1 H1 R0 (.ok (ziD ds es))) I
    ⟨Hb, ρ, le, re, post_bind le p fun d v B1 H1 e1 g1 r1 p1 => ⟨B1, ρ, g1.le, re.mono g1.bup, post_bind g1.le p1 fun d2 v2 B2 H2 e2 g2 r2 p2 => ?_⟩⟩) fun us s1 hu => ?_) hs hpl))
  · cases q : itD d with
    | none =>
      rw [q] at p2
      exact (show False from p2).elim
    | some ds =>
      cases q2 : itD d2 with
      | none =>
        rw [q, q2] at p2
        exact (show False from p2).elim
      | some es =>
        rw [q, q2] at p2
        exact ⟨v, v2, d, d2, ds, es, B2, rfl, q, q2, g2.le, r1.mono g2.bup, r2, p2⟩
  · obtain ⟨vs, H1, I1, rv, v1, v2, d1, d2, ds, es, B1, rfl, hd1, hd2, e1, r1, r2, p1⟩ := hu
    obtain ⟨w1, w2, rfl, rw1, rw2⟩ := vals2 rv
    obtain ⟨q1, rfl, g1, rq1⟩ := r1.sv hd1
    obtain ⟨q2, rfl, g2, rq2⟩ := r2.sv hd2
    obtain ⟨Hp1, bg1, hb1⟩ := SV.begins I1 q1 rw1 (g1 _ e1)
    obtain ⟨Hp2, bg2, hb2⟩ := SV.begins I1 q2 rw2 (g2 _ e1)
    refine zip_begins2 bg1 bg2 hb1 hb2 fun h' hz hTI hTO hi1 hi2 hsz hk => wpAny_pyIter_zip hz ?_
    have I2 : Inv X pins σ H1 { s1 with heap := h' } := I1.kept (t' := s1.toks) hk
    have ne : ∀ {i j : Nat}, i ≠ j → s1.heap.objs.size + i ≠ s1.heap.objs.size + j := fun hn z => hn (Nat.add_left_cancel z)
    refine ⟨s1.heap.objs.size + 4, [s1.heap.objs.size + 4, s1.heap.objs.size + 2, s1.heap.objs.size + 3, s1.heap.objs.size, s1.heap.objs.size + 1], _, ItZ q1 q2, H1, rfl, I2,
      turn_zi q1 q2 w1 w2 _ _ _ _ _ rw1 rw2 ⟨ne (by decide), ne (by decide), ne (i := 0) (by decide), ne (by decide), ne (by decide), ne (j := 0) (by decide), ne (by decide), ne (j := 0) (by decide), ne (by decide), ne (i := 0) (by decide)⟩,
      ⟨hz, hTI, ⟨_, _, hTO⟩, q1.st0 rw1 hi1, q2.st0 rw2 hi2⟩, fun b hb => ?_, post_here e1 p1 (wk_zi g1 g2 rq1 rq2)⟩
    have hle : s1.heap.objs.size ≤ b := by
      have e' : b = s1.heap.objs.size + 4 ∨ b = s1.heap.objs.size + 2 ∨ b = s1.heap.objs.size + 3 ∨ b = s1.heap.objs.size ∨ b = s1.heap.objs.size + 1 := by simpa using hb
      rcases e' with z | z | z | z | z <;> rw [z] <;> first | exact Nat.le_add_right _ _ | exact Nat.le_refl _
    exact I1.fpOk hle (I1.hok.fresh hle)
end
end Pu

namespace Pu
open PySem PySem.Spec PyProof.Rows L2 Evl
/-! ### targets -/
inductive Tg where
  | nm (i : Nat) | tp (is : List Nat)
def setsV (σ : L2.St) : List (Nat × V) → L2.St
  | [] => σ
  | (i, v) :: r => setsV (σ.set i (some v)) r
def setsE (ρ : Env) : List (Nat × D) → Env
  | [] => ρ
  | (i, d) :: r => setsE (ρ.set i (some d)) r
/-- what a target's slots get -/
def bnd : Tg → D → Option (List (Nat × D))
  | .nm i, d => some [(i, d)]
  | .tp is, .tup ds => if is.length = ds.length then some (is.zip ds) else none
  | .tp is, .lst ds => if is.length = ds.length then some (is.zip ds) else none
  | _, _ => none
def Tg.ix : Tg → List Nat
  | .nm i => [i]
  | .tp is => is
def gD : Tg → TG
  | .nm i => fun v σ H Q => Q (σ.set i (some v)) H
  | .tp is => fun v σ H Q => ∃ a xs, v = .ref a ∧ (H a = some (.tup xs) ∨ H a = some (.lst xs)) ∧ xs.length = is.length ∧ Q (setsV σ (is.zip xs)) H
abbrev Pg (X : Cx) (tg : Expr) (t : Tg) : Prop := PG X tg (gD t)
section
variable {X : Cx} {xa : Xa} {W : WX} {pos : Pos} {e : Expr} {es : List Expr}
theorem g_nm (i : Nat) {x : Str} (hN : X.N.Nodup) (hi : X.N[i]? = some x := by rfl) (hx : Loc X.env.scope x := by first | exact Or.inl rfl | exact Or.inr rfl) (hf : X.fn x = true ∨ X.env.scope.names.lookup x = some .local := by first | exact .inl rfl | exact .inr rfl | assumption) : Pg X (.Name x pos) (.nm i) := pg_name hN hi hx hf
/-- several names -/
def gNames (is : List Nat) : TGs := fun vs σ H Q => vs.length = is.length ∧ Q (setsV σ (is.zip vs)) H
theorem gn_nil : PGs X [] (gNames []) := ⟨fun pins s σ H vs us Q I r h => pgs_nil.run pins s σ H vs us Q I r ⟨List.length_eq_zero_iff.mp h.1, by
  have := h.2
  have e : vs = [] := List.length_eq_zero_iff.mp h.1
  subst e
  exact this⟩⟩
theorem gn_cons {i : Nat} {is : List Nat} (h1 : Pg X e (.nm i)) (h2 : PGs X es (gNames is)) (hs : (assignEach (e :: es) X.env).map (·.2) = assign e X.env :: (assignEach es X.env).map (·.2) := by rfl) : PGs X (e :: es) (gNames (i :: is)) :=
  ⟨fun pins s σ H vs us Q I r h => (pgs_cons h1 h2 hs).run pins s σ H vs us Q I r (by
    obtain ⟨hl, h⟩ := h
    cases vs with
    | nil => cases hl
    | cons v vs => exact ⟨v, vs, rfl, Nat.succ.inj hl, h⟩)⟩
theorem g_tp {is : List Nat} {k : Nat} (hc : X.calm = true) (h : PGs X es (gNames is)) (hn : (assignEach es X.env).length = is.length := by rfl) (hst : (assignEach es X.env).findIdx? (·.1) = none := by rfl) : Pg X (.Tuple es k pos) (.tp is) := by
  refine ⟨fun pins s σ H v u Q I r hw => ?_⟩
  obtain ⟨a, xs, ev, hx, hl, hq⟩ := hw
  rcases hx with hx | hx
  · exact (pg_tup hc h hn hst).run pins s σ H v u Q I r ⟨a, xs, ev, SqT.of hx, hl, hl, hq⟩
  · exact (pg_lst hc h hn hst).run pins s σ H v u Q I r ⟨a, xs, ev, SqL.of hx, hl, hl, hq⟩
end
section
variable {K : PySem.W.Frag} {xa : Xa} {B H : Hp} {σ : L2.St} {ρ : Env}
theorem RE.sets : ∀ (xs : List V) (ds : List D) (is : List Nat) (σ : L2.St) (ρ : Env), RE K xa B σ ρ → RL K xa B xs ds → RE K xa B (setsV σ (is.zip xs)) (setsE ρ (is.zip ds))
  | _, _, [], _, _, re, _ => re
  | _, _, _ :: _, _, _, re, .nil => re
  | _ :: xs, _ :: ds, i :: is, _, _, re, .cons r t => by
    have h := RE.sets xs ds is _ _ (re.set r i) t
    exact h
theorem wipe_len (σ : L2.St) : ∀ vs : List Nat, (wipe σ vs).length = σ.length := wipe_length σ
theorem wipe_set (i : Nat) (x : Option V) : ∀ {vs : List Nat} {σ : L2.St}, i ∈ vs → wipe (σ.set i x) vs = wipe σ vs
  | [], _, h => nomatch h
  | v :: vs, σ, h => by
    show (wipe (σ.set i x) vs).set v none = (wipe σ vs).set v none
    by_cases hv : i ∈ vs
    · rw [wipe_set i x hv]
    · have e : v = i := by
        rcases List.mem_cons.mp h with e | e
        · exact e.symm
        · exact absurd e hv
      subst e
      have key : ∀ (ws : List Nat) (σ : L2.St), v ∉ ws → wipe (σ.set v x) ws = (wipe σ ws).set v x := by
        intro ws
        induction ws with
        | nil => intro σ _; rfl
        | cons w ws ih =>
          intro σ hw
          have h1 : v ≠ w := fun e => hw (by rw [e]; exact List.mem_cons_self)
          have h2 : v ∉ ws := fun m => hw (List.mem_cons_of_mem _ m)
          show (wipe (σ.set v x) ws).set w none = ((wipe σ ws).set w none).set v x
          rw [ih σ h2, List.set_comm _ _ h1]
      rw [key vs σ hv, List.set_set]
theorem wipe_sets {vs : List Nat} : ∀ {ps : List (Nat × V)} {σ : L2.St}, (∀ p ∈ ps, p.1 ∈ vs) → wipe (setsV σ ps) vs = wipe σ vs
  | [], _, _ => rfl
  | (i, v) :: r, σ, h => by
    show wipe (setsV (σ.set i (some v)) r) vs = _
    rw [wipe_sets fun p hp => h p (List.mem_cons_of_mem _ hp), wipe_set i _ (h _ List.mem_cons_self)]
theorem wipe_wipe {vs : List Nat} : ∀ {ws : List Nat} {σ : L2.St}, (∀ i ∈ ws, i ∈ vs) → wipe (wipe σ ws) vs = wipe σ vs
  | [], _, _ => rfl
  | w :: ws, σ, h => by
    show wipe ((wipe σ ws).set w none) vs = _
    rw [wipe_set w _ (h _ List.mem_cons_self), wipe_wipe fun i hi => h i (List.mem_cons_of_mem _ hi)]
def wipeE (ρ : Env) : List Nat → Env
  | [] => ρ
  | v :: vs => (wipeE ρ vs).set v none
theorem RE.wipe (re : RE K xa B σ ρ) : ∀ vs : List Nat, RE K xa B (L2.wipe σ vs) (wipeE ρ vs)
  | [] => re
  | v :: vs => (RE.wipe re vs).lose none v
/-- a target meets its data -/
theorem tg_meet {t : Tg} {v : V} {d : D} {ps : List (Nat × D)} {Q : L2.St → Hp → Prop} (le : Ex B H) (re : RE K xa B σ ρ) (r : R K xa B v d) (h : bnd t d = some ps)
    (k : ∀ qs : List (Nat × V), (∀ p ∈ qs, p.1 ∈ t.ix) → RE K xa B (setsV σ qs) (setsE ρ ps) → Q (setsV σ qs) H) : gD t v σ H Q := by
  cases t with
  | nm i =>
    cases h
    exact k [(i, v)] (fun p hp => by rw [List.mem_singleton.mp hp]; exact List.mem_cons_self) (re.set r i)
  | tp is =>
    cases r with
    | @tup a xs ds h1 q1 =>
      have h : (if is.length = ds.length then some (is.zip ds) else none) = some ps := h
      by_cases c : is.length = ds.length
      · rw [if_pos c] at h
        cases h
        exact ⟨a, xs, rfl, .inl (le _ _ h1), by rw [q1.length, c], k _ (fun p hp => (List.of_mem_zip (b := p.2) hp).1) (RE.sets _ _ is _ _ re q1)⟩
      · rw [if_neg c] at h
        cases h
    | @lst a xs ds h1 q1 =>
      have h : (if is.length = ds.length then some (is.zip ds) else none) = some ps := h
      by_cases c : is.length = ds.length
      · rw [if_pos c] at h
        cases h
        exact ⟨a, xs, rfl, .inr (le _ _ h1), by rw [q1.length, c], k _ (fun p hp => (List.of_mem_zip (b := p.2) hp).1) (RE.sets _ _ is _ _ re q1)⟩
      · rw [if_neg c] at h
        cases h
    | _ => cases h
end
/-! ### list comprehensions -/
def lcGo (ρ : Env) (t : Tg) (c : T) (f : F) : List D → Res (List D)
  | [] => .ok []
  | d :: ds => (ofO (bnd t d)).bind fun ps => ((c (setsE ρ ps)).pur).bind fun b =>
    if b = true then ((f (setsE ρ ps)).pur).bind fun y => (lcGo ρ t c f ds).bind fun ys => .ok (y :: ys) else lcGo ρ t c f ds
def lcO (it : Fs) (vs : List Nat) (t : Tg) (c : T) (f : F) : Fs := fun ρ => (it ρ).bind fun ds => if ds.length ≤ 16777216 then lcGo (wipeE ρ vs) t c f ds else .st
/-- a list just made, as a value -/
def ofL (g : Fs) : F := fun ρ => (g ρ).bind fun ys => .ok (.lst ys)
/-- a list that nothing else holds -/
def postO (K : PySem.W.Frag) (xa : Xa) (E : XK) (Hb H : Hp) (Q : VK) : Res (List D) → Prop
  | .ok ds => ∀ p xs Hb' H', Gw Hb H Hb' H' → Hb' p = none → H p = none → H' p = some (.lst xs) → RL K xa Hb' xs ds → Q (.ref p) H'
  | .ex x => ∀ c dx Hb' H', Gw Hb H Hb' H' → XR K Hb' c dx x → E c dx H'
  | .st => False
theorem postO_of {K : PySem.W.Frag} {xa : Xa} {E : XK} {Hb H : Hp} {Q : VK} {r : Res (List D)} (h : post K (R K xa) E Hb H Q (r.bind fun ys => .ok (.lst ys))) : postO K xa E Hb H Q r := by
  cases r with
  | ok ds =>
    intro p xs B1 H1 g n1 n2 hp rl
    refine h (.ref p) (upd B1 p (.lst xs)) H1 ⟨g.up, g.bup.trans (Ex.new n1), fun a o e => ?_, fun a o e => ?_⟩ (.lst upd_same (rl.mono (Ex.new n1)))
    · by_cases ha : a = p
      · subst ha
        rw [upd_same] at e
        rw [hp]
        exact e
      · rw [upd_ne ha] at e
        exact g.le _ _ e
    · rw [upd_ne (ne_of_none e n2)]
      exact g.old a o e
  | ex x => exact h
  | st => exact h
theorem postO_bind {α β : Type} {K : PySem.W.Frag} {xa : Xa} {Rel : Hp → β → α → Prop} {E : XK} {Hb H : Hp} {Q : VK} {r : Res α} {k : α → Res (List D)} {Q1 : β → Hp → Prop}
    (h : postO K xa E Hb H Q (r.bind k)) (hk : ∀ d v Hb1 H1, r = .ok d → Gw Hb H Hb1 H1 → Rel Hb1 v d → postO K xa E Hb1 H1 Q (k d) → Q1 v H1) : post K Rel E Hb H Q1 r := by
  cases r with
  | ok d =>
    intro v Hb1 H1 g r1
    refine hk d v Hb1 H1 rfl g r1 ?_
    have h : postO K xa E Hb H Q (k d) := h
    cases e : k d with
    | ok d2 =>
      rw [e] at h
      exact fun p xs Hb2 H2 g2 n1 n2 hp rl => h p xs Hb2 H2 (g.trans g2) n1 (by
        cases z : H p with
        | none => rfl
        | some o =>
          rw [g.up _ _ z] at n2
          cases n2) hp rl
    | ex x =>
      rw [e] at h
      exact fun c dx Hb2 H2 g2 r2 => h c dx Hb2 H2 (g.trans g2) r2
    | st =>
      rw [e] at h
      exact h
  | ex x => exact h
  | st => exact h
def tO (K : PySem.W.Frag) (xa : Xa) (W : WX) (f : Fs) : TE := fun σ H Q => ∃ Hb ρ, Ex Hb H ∧ RE K xa Hb σ ρ ∧ postO K xa (WE W σ) Hb H Q (f ρ)
theorem tO_of {K : PySem.W.Frag} {xa : Xa} {W : WX} {f : Fs} {σ : L2.St} {H : Hp} {Q : VK} (h : tP K xa W (ofL f) σ H Q) : tO K xa W f σ H Q := by
  obtain ⟨Hb, ρ, le, re, p⟩ := h
  exact ⟨Hb, ρ, le, re, postO_of p⟩
abbrev lcF (it : Fs) (vs : List Nat) (t : Tg) (c : T) (f : F) : F := ofL (lcO it vs t c f)
def yesT : T := fun _ => .ok true
abbrev WF : WX := fun _ _ _ _ => False
abbrev Pts (X : Cx) (xa : Xa) (W : WX) (es : List Expr) (c : T) : Prop := PTs X es (tPT X.K xa W c)
section
variable {X : Cx} {xa : Xa} {W : WX} {pos : Pos} {e tg iter elt : Expr} {ifs : List Expr}
theorem t_no : Pts X xa W [] yesT := ⟨fun pins s σ H Q I h => pts_nil.run pins s σ H Q I (by
  obtain ⟨Hb, ρ, le, re, p⟩ := h
  exact post_here le p rfl)⟩
theorem t_one {c : T} (h : Pt X xa W e c) : Pts X xa W [e] c := pts_one h
/-- what must be known at a turn: the list so far at Dl, the rest still to come -/
structure LcI (K : PySem.W.Frag) (xa : Xa) (B1 H1 : Hp) (Dl : Addr) (ρ0 : Env) (t : Tg) (c : T) (f : F) (ds zs : List D) (i : Nat) (H : Hp) : Prop where
  ex : ∃ B acc ys zr, Gw B1 H1 B H ∧ B Dl = none ∧ H Dl = some (.lst acc) ∧ RL K xa B acc ys ∧ lcGo ρ0 t c f (ds.drop i) = .ok zr ∧ ys ++ zr = zs ∧ ys.length ≤ i
theorem drop_at {α : Type} {l : List α} {i : Nat} (h : i < l.length) : l.drop i = l[i] :: l.drop (i + 1) := List.drop_eq_getElem_cons h
theorem t_lc {it : Fs} {t : Tg} {c : T} {f : F} {vs : List Nat} {K : PySem.W.Frag} {σ : L2.St} {H : Hp} {Q : VK} (hx : ∀ i ∈ t.ix, i ∈ vs) (hq : tO K xa W (lcO it vs t c f) σ H Q) :
    tLc (tPx K xa (Wk K xa) W it) (gD t) (tPT K xa WF c) (tP K xa WF f) vs σ H Q := by
  obtain ⟨Hb, ρ, le, re, p⟩ := hq
  refine ⟨Hb, ρ, le, re, postO_bind p fun ds J B1 H1 e1 g1 wk p1 => ?_⟩
  intro Dl hD
  by_cases hz : ds.length ≤ 16777216
  · rw [if_pos hz] at p1
    cases hgo : lcGo (wipeE ρ vs) t c f ds with
    | st =>
      rw [hgo] at p1
      exact p1.elim
    | ex x =>
      exfalso
      have noex : ∀ l x, lcGo (wipeE ρ vs) t c f l ≠ .ex x := by
        intro l
        induction l with
        | nil => intro x z; cases z
        | cons d l ih =>
          intro x z
          unfold lcGo at z
          cases h1 : bnd t d with
          | none => rw [h1] at z; cases z
          | some ps =>
            rw [h1] at z
            simp only [ofO_some, Res.bind_ok] at z
            cases h2 : c (setsE (wipeE ρ vs) ps) with
            | st => rw [h2] at z; cases z
            | ex y => rw [h2] at z; cases z
            | ok b =>
              rw [h2] at z
              simp only [Res.pur_ok, Res.bind_ok] at z
              cases b with
              | false => exact ih x z
              | true =>
                rw [if_pos rfl] at z
                cases h3 : f (setsE (wipeE ρ vs) ps) with
                | st => rw [h3] at z; cases z
                | ex y => rw [h3] at z; cases z
                | ok y =>
                  rw [h3] at z
                  simp only [Res.pur_ok, Res.bind_ok] at z
                  cases h4 : lcGo (wipeE ρ vs) t c f l with
                  | st => rw [h4] at z; cases z
                  | ok ys => rw [h4] at z; cases z
                  | ex y2 => exact ih y2 h4
      exact noex ds x hgo
    | ok zs =>
      rw [hgo] at p1
      have nB : B1 Dl = none := fresh_back g1.le hD
      refine ⟨fun i m H => m = ds.length - i ∧ i ≤ ds.length ∧ LcI K xa B1 H1 Dl (wipeE ρ vs) t c f ds zs i H, ⟨ds.length, rfl, Nat.zero_le _, ⟨B1, [], [], zs, ?_, nB, upd_same, .nil, hgo, rfl, Nat.le_refl _⟩⟩, ?_⟩
      · exact ⟨Ex.new hD, Ex.refl _, (g1.le).trans (Ex.new hD), fun _ _ _ => rfl⟩
      · rintro i m H2 ⟨rfl, hi, ⟨B2, acc, ys, zr, g2, n2, hacc, rl, hgo2, hys, hyl⟩⟩
        by_cases hlt : i < ds.length
        · refine .inr ⟨wk.go i B2 H2 g2.bup g2.le hlt, fun H' => LcI K xa B1 H1 Dl (wipeE ρ vs) t c f ds zs (i + 1) H', fun H' h' => ⟨ds.length - (i + 1), by omega, rfl, hlt, h'⟩, fun x H3 hy => ?_⟩
          obtain ⟨B3, g3, r3⟩ := wk.yld i B2 H2 x H3 ds[i] g2.bup g2.le (List.getElem?_eq_getElem hlt) hy
          have n3 : B3 Dl = none := (g3.old _ _ hacc).trans n2
          rw [drop_at hlt] at hgo2
          unfold lcGo at hgo2
          cases h1 : bnd t ds[i] with
          | none => rw [h1] at hgo2; cases hgo2
          | some ps =>
            rw [h1] at hgo2
            simp only [ofO_some, Res.bind_ok] at hgo2
            refine tg_meet g3.le ((re.mono ((g1.bup.trans g2.bup).trans g3.bup)).wipe vs) r3 h1 fun qs hqs re4 => ⟨?_, ?_⟩
            · rw [wipe_sets fun p hp => hx _ (hqs p hp), wipe_wipe fun i hi => hi]
            · cases h2 : c (setsE (wipeE ρ vs) ps) with
              | st => rw [h2] at hgo2; cases hgo2
              | ex y => rw [h2] at hgo2; cases hgo2
              | ok b =>
                rw [h2] at hgo2
                simp only [Res.pur_ok, Res.bind_ok] at hgo2
                refine ⟨B3, _, g3.le, re4, ?_⟩
                rw [h2]
                intro b' B4 H4 g4 rb
                have rb : b' = b := rb
                subst rb
                have a4 : H4 Dl = some (.lst acc) := g4.up _ _ (g3.up _ _ hacc)
                have n4 : B4 Dl = none := (g4.old _ _ (g3.up _ _ hacc)).trans n3
                cases b' with
                | false =>
                  exact ⟨B4, acc, ys, zr, (g2.trans g3).trans g4, n4, a4, rl.mono (g3.bup.trans g4.bup), hgo2, hys, by omega⟩
                | true =>
                  rw [if_pos rfl] at hgo2
                  cases h3 : f (setsE (wipeE ρ vs) ps) with
                  | st => rw [h3] at hgo2; cases hgo2
                  | ex y => rw [h3] at hgo2; cases hgo2
                  | ok y =>
                    rw [h3] at hgo2
                    simp only [Res.pur_ok, Res.bind_ok] at hgo2
                    cases h4 : lcGo (wipeE ρ vs) t c f (ds.drop (i + 1)) with
                    | st => rw [h4] at hgo2; cases hgo2
                    | ex y2 => rw [h4] at hgo2; cases hgo2
                    | ok ys2 =>
                      rw [h4] at hgo2
                      cases hgo2
                      refine ⟨B4, _, g4.le, re4.mono g4.bup, ?_⟩
                      rw [h3]
                      intro v B5 H5 g5 r5
                      have a5 : H5 Dl = some (.lst acc) := g5.up _ _ a4
                      have n5 : B5 Dl = none := (g5.old _ _ a4).trans n4
                      have gg := ((g2.trans g3).trans g4).trans g5
                      refine ⟨acc, a5, by rw [rl.length, szl]; omega, ⟨B5, acc ++ [v], ys ++ [y], ys2, ⟨Ex.mut gg.up hD, gg.bup, Ex.mut gg.le n5, gg.old⟩, n5, upd_same, (rl.mono ((g3.bup.trans g4.bup).trans g5.bup)).app (.cons r5 .nil), h4, by rw [List.append_assoc]; exact hys, by rw [List.length_append]; show ys.length + 1 ≤ i + 1; omega⟩⟩
        · have ei : i = ds.length := by omega
          subst ei
          refine .inl ⟨wk.stop B2 H2 g2.bup g2.le, ?_⟩
          rw [List.drop_length] at hgo2
          cases hgo2
          rw [List.append_nil] at hys
          subst hys
          exact p1 Dl acc B2 H2 g2 n2 hD hacc rl
  · rw [if_neg hz] at p1
    exact p1.elim
theorem p_lc {scope : Scope} {own : List (Str × Nat)} {it : Fs} {t : Tg} {c : T} {f : F} (hc : X.calm = true) (hN : X.N.Nodup) (hi : Pi X xa W tg iter it) (ok : BlkOk X.N X.env.scope scope own)
    (hg : ∀ (s : Shared) (H : Hp) (C : Addr) (cl : List (Str × Addr)) (fp : List Addr), Pg (X.blk s H scope (compEnvC scope cl C X.env) fp) tg t)
    (ht : ∀ (s : Shared) (H : Hp) (C : Addr) (cl : List (Str × Addr)) (fp : List Addr), Pts (X.blk s H scope (compEnvC scope cl C X.env) fp) xa WF ifs c)
    (he : ∀ (s : Shared) (H : Hp) (C : Addr) (cl : List (Str × Addr)) (fp : List Addr), Pe (X.blk s H scope (compEnvC scope cl C X.env) fp) xa WF elt f)
    (hx : ∀ i ∈ t.ix, i ∈ own.map (·.2) := by decide) (hs : ∀ x, foldedSetIterable iter X.env x = pure x := by intro _; rfl) :
    Pe X xa W (.ListComp elt [⟨tg, iter, ifs, 0⟩] scope pos) (lcF it (own.map (·.2)) t c f) := by
  exact PE.imp (pe_lc (tt := tPT X.K xa WF c) (te := tP X.K xa WF f) hc hN hi ok hg ht he hs) fun σ H Q hq => t_lc hx (tO_of hq)
end
end Pu

namespace Pu
open PySem PySem.Spec PyProof.Rows L2 Evl
/-! ### the slots of a def's body: ow is a list that only this slot holds -/
/-- what a slot alone holds: a list, a dict -/
inductive Ob where
  | L (ds : List D) | T (kvs : List (DK × D))
inductive Sl where
  | no | sh (d : D) | own (o : Ob)
abbrev Sl.ow (ds : List D) : Sl := .own (.L ds)
abbrev Sl.od (kvs : List (DK × D)) : Sl := .own (.T kvs)
def Ob.d : Ob → D
  | .L ds => .lst ds
  | .T kvs => .dco kvs
inductive RO (K : PySem.W.Frag) (xa : Xa) (B : Hp) : HO → Ob → Prop
  | L {vs : List V} {ds : List D} : RL K xa B vs ds → RO K xa B (.lst vs) (.L ds)
  | T {vs : List (Key × V)} {kvs : List (DK × D)} : RK K xa B vs kvs → RO K xa B (.dK vs) (.T kvs)
theorem RO.mono {K : PySem.W.Frag} {xa : Xa} {B B' : Hp} {u : HO} {o : Ob} (e : Ex B B') (h : RO K xa B u o) : RO K xa B' u o := by
  cases h with
  | L r => exact .L (r.mono e)
  | T r => exact .T (r.mono e)
theorem RO.r {K : PySem.W.Frag} {xa : Xa} {B : Hp} {u : HO} {o : Ob} {a : Addr} (h : RO K xa B u o) (e : B a = some u) : R K xa B (.ref a) o.d := by
  cases h with
  | L r => exact .lst e r
  | T r => exact .dco e r
abbrev SEnv := List Sl
def Sl.see : Sl → Option D
  | .sh d => some d
  | _ => none
def Sl.pk : Sl → Option D
  | .sh d => some d
  | .own o => some o.d
  | .no => none
def Sl.frz : Sl → Sl
  | .own o => .sh o.d
  | s => s
def shv (ρ : SEnv) : Env := ρ.map Sl.see
def pkv (ρ : SEnv) : Env := ρ.map Sl.pk
def frA (ρ : SEnv) : SEnv := ρ.map Sl.frz
theorem shv_frA (ρ : SEnv) : shv (frA ρ) = pkv ρ := by
  unfold shv frA pkv
  rw [List.map_map]
  refine List.map_congr_left fun s _ => ?_
  cases s <;> rfl
/-- some slots give their lists away -/
def frI (ρ : SEnv) (i : Nat) : SEnv := match ρ[i]? with
  | some s => ρ.set i s.frz
  | none => ρ
def frz (is : List Nat) (ρ : SEnv) : SEnv := is.foldl frI ρ
structure RS (K : PySem.W.Frag) (xa : Xa) (B0 H0 B H : Hp) (σ : L2.St) (ρ : SEnv) : Prop where
  gw : Gw B0 H0 B H
  len : ρ.length = σ.length
  sh : ∀ (i : Nat) (d : D), ρ[i]? = some (.sh d) → ∃ v, σ[i]? = some (some v) ∧ R K xa B v d
  own : ∀ (i : Nat) (ds : Ob), ρ[i]? = some (.own ds) → ∃ a vs, σ[i]? = some (some (.ref a)) ∧ H a = some vs ∧ B a = none ∧ H0 a = none ∧ RO K xa B vs ds
  ap : ∀ (i j : Nat) (ds es : Ob) (a : Addr), ρ[i]? = some (.own ds) → ρ[j]? = some (.own es) → σ[i]? = some (some (.ref a)) → σ[j]? = some (some (.ref a)) → i = j
section
variable {K : PySem.W.Frag} {xa : Xa} {B0 H0 B H B' H' : Hp} {σ : L2.St} {ρ : SEnv}
theorem RS.re (r : RS K xa B0 H0 B H σ ρ) : RE K xa B σ (shv ρ) := by
  refine ⟨by unfold shv; rw [List.length_map, r.len]; exact Nat.le_refl _, fun i d h => ?_⟩
  unfold shv at h
  rw [List.getElem?_map] at h
  cases e : ρ[i]? with
  | none => rw [e] at h; cases h
  | some s =>
    rw [e] at h
    cases s with
    | no => cases h
    | own ds => cases h
    | sh d' =>
      cases h
      exact r.sh i d e
theorem RS.grow (r : RS K xa B0 H0 B H σ ρ) (g : Gw B H B' H') : RS K xa B0 H0 B' H' σ ρ := by
  refine ⟨r.gw.trans g, r.len, fun i d h => ?_, fun i ds h => ?_, r.ap⟩
  · obtain ⟨v, e, q⟩ := r.sh i d h
    exact ⟨v, e, q.mono g.bup⟩
  · obtain ⟨a, vs, e1, e2, e3, e4, q⟩ := r.own i ds h
    exact ⟨a, vs, e1, g.up _ _ e2, (g.old _ _ e2).trans e3, e4, q.mono g.bup⟩
/-- behind a look: the base stays as it was -/
theorem RS.keep (r : RS K xa B0 H0 B H σ ρ) (up : Ex H H') : RS K xa B0 H0 B H' σ ρ := by
  refine ⟨⟨r.gw.up.trans up, r.gw.bup, r.gw.le.trans up, r.gw.old⟩, r.len, r.sh, fun i ds h => ?_, r.ap⟩
  obtain ⟨a, vs, e1, e2, e3, e4, q⟩ := r.own i ds h
  exact ⟨a, vs, e1, up _ _ e2, e3, e4, q⟩
open Classical in
theorem RS.frA (r : RS K xa B0 H0 B H σ ρ) : ∃ B', Ex B B' ∧ RS K xa B0 H0 B' H σ (frA ρ) := by
  let own : Addr → Prop := fun a => ∃ (i : Nat) (ds : Ob), ρ[i]? = some (Sl.own ds) ∧ σ[i]? = some (some (V.ref a))
  have ownB : ∀ a, own a → (∃ vs, H a = some vs) ∧ B a = none ∧ H0 a = none := by
    rintro a ⟨i, ds, h1, h2⟩
    obtain ⟨b, vs, e1, e2, e3, e4, q⟩ := r.own i ds h1
    rw [e1] at h2
    cases h2
    exact ⟨⟨vs, e2⟩, e3, e4⟩
  have bb : Ex B (fun a => if own a then H a else B a) := fun a o e => by
    by_cases c : own a
    · rw [(ownB a c).2.1] at e
      cases e
    · show (if own a then H a else B a) = some o
      rw [if_neg c]
      exact e
  refine ⟨fun a => if own a then H a else B a, bb, ⟨⟨r.gw.up, r.gw.bup.trans bb, fun a o e => ?_, fun a o e => ?_⟩, ?_, fun i d h => ?_, fun i ds h => ?_, fun i j ds es a h1 h2 h3 h4 => ?_⟩⟩
  · by_cases c : own a
    · have e : (if own a then H a else B a) = some o := e
      rw [if_pos c] at e
      exact e
    · have e : (if own a then H a else B a) = some o := e
      rw [if_neg c] at e
      exact r.gw.le _ _ e
  · show (if own a then H a else B a) = B0 a
    by_cases c : own a
    · rw [(ownB a c).2.2] at e
      cases e
    · rw [if_neg c]
      exact r.gw.old a o e
  · unfold Pu.frA
    rw [List.length_map, r.len]
  · unfold Pu.frA at h
    rw [List.getElem?_map] at h
    cases e : ρ[i]? with
    | none => rw [e] at h; cases h
    | some s =>
      rw [e] at h
      cases s with
      | no => cases h
      | sh d' =>
        cases h
        obtain ⟨v, e1, q⟩ := r.sh i d e
        exact ⟨v, e1, q.mono bb⟩
      | own ds =>
        cases h
        obtain ⟨a, vs, e1, e2, e3, e4, q⟩ := r.own i ds e
        refine ⟨.ref a, e1, (q.mono bb).r ?_⟩
        show (if own a then H a else B a) = _
        rw [if_pos ⟨i, ds, e, e1⟩]
        exact e2
  · unfold Pu.frA at h
    rw [List.getElem?_map] at h
    cases e : ρ[i]? with
    | none => rw [e] at h; cases h
    | some s =>
      rw [e] at h
      cases s <;> cases h
  · unfold Pu.frA at h1
    rw [List.getElem?_map] at h1
    cases e : ρ[i]? with
    | none => rw [e] at h1; cases h1
    | some s =>
      rw [e] at h1
      cases s <;> cases h1
theorem getset {α : Type} {l : List α} {i j : Nat} {x y : α} (h : (l.set i x)[j]? = some y) : (i = j ∧ x = y ∧ j < l.length) ∨ (i ≠ j ∧ l[j]? = some y) := by
  by_cases e : i = j
  · subst e
    have hi : i < l.length := by
      by_cases hi : i < l.length
      · exact hi
      · rw [List.getElem?_eq_none (by rw [List.length_set]; omega)] at h
        cases h
    rw [List.getElem?_set_self hi] at h
    exact .inl ⟨rfl, Option.some.inj h, hi⟩
  · rw [List.getElem?_set_ne e] at h
    exact .inr ⟨e, h⟩
theorem RS.frI (r : RS K xa B0 H0 B H σ ρ) (i : Nat) : ∃ B', Ex B B' ∧ RS K xa B0 H0 B' H σ (frI ρ i) := by
  unfold Pu.frI
  cases e : ρ[i]? with
  | none => exact ⟨B, Ex.refl _, r⟩
  | some s =>
    have same : ∀ s : Sl, ρ[i]? = some s → ρ.set i s = ρ := fun s e => by
      refine List.ext_getElem? fun j => ?_
      by_cases hj : i = j
      · subst hj
        have hi : i < ρ.length := (List.getElem?_eq_some_iff.mp e).1
        rw [List.getElem?_set_self hi, e]
      · rw [List.getElem?_set_ne hj]
    cases s with
    | no =>
      refine ⟨B, Ex.refl _, ?_⟩
      show RS K xa B0 H0 B H σ (ρ.set i .no)
      rw [same _ e]
      exact r
    | sh d =>
      refine ⟨B, Ex.refl _, ?_⟩
      show RS K xa B0 H0 B H σ (ρ.set i (.sh d))
      rw [same _ e]
      exact r
    | own ds =>
      obtain ⟨a, vs, e1, e2, e3, e4, q⟩ := r.own i ds e
      have bb : Ex B (upd B a vs) := Ex.new e3
      refine ⟨upd B a vs, bb, ?_⟩
      show RS K xa B0 H0 _ H σ (ρ.set i (.sh ds.d))
      refine ⟨⟨r.gw.up, r.gw.bup.trans bb, fun b o z => ?_, fun b o z => ?_⟩, by rw [List.length_set, r.len], fun j d h => ?_, fun j es h => ?_, fun j k es fs b h1 h2 h3 h4 => ?_⟩
      · by_cases hb : b = a
        · subst hb
          rw [upd_same] at z
          rw [e2]
          exact z
        · rw [upd_ne hb] at z
          exact r.gw.le _ _ z
      · rw [upd_ne (ne_of_none z e4)]
        exact r.gw.old b o z
      · rcases getset h with ⟨rfl, z, _⟩ | ⟨n, h⟩
        · cases z
          exact ⟨.ref a, e1, (q.mono bb).r upd_same⟩
        · obtain ⟨v, e5, q5⟩ := r.sh j d h
          exact ⟨v, e5, q5.mono bb⟩
      · rcases getset h with ⟨rfl, z, _⟩ | ⟨n, h⟩
        · cases z
        · obtain ⟨b, ws, f1, f2, f3, f4, f5⟩ := r.own j es h
          refine ⟨b, ws, f1, f2, ?_, f4, f5.mono bb⟩
          rw [upd_ne]
          · exact f3
          · intro z
            subst z
            exact n (r.ap i j ds es b e h e1 f1)
      · rcases getset h1 with ⟨rfl, z, _⟩ | ⟨n, h1⟩
        · cases z
        · rcases getset h2 with ⟨rfl, z, _⟩ | ⟨n2, h2⟩
          · cases z
          · exact r.ap j k es fs b h1 h2 h3 h4
theorem RS.frz : ∀ (is : List Nat) {B : Hp} {ρ : SEnv}, RS K xa B0 H0 B H σ ρ → ∃ B', Ex B B' ∧ RS K xa B0 H0 B' H σ (frz is ρ)
  | [], B, _, r => ⟨B, Ex.refl _, r⟩
  | i :: is, B, ρ, r => by
    obtain ⟨B1, e1, r1⟩ := r.frI i
    obtain ⟨B2, e2, r2⟩ := RS.frz is r1
    exact ⟨B2, e1.trans e2, r2⟩
/-- slot l stands where slot φ l stood -/
theorem RS.pull {σ' : L2.St} {ρ' : SEnv} (r : RS K xa B0 H0 B H σ ρ) (φ : Nat → Nat) (inj : ∀ i j, i < ρ'.length → j < ρ'.length → φ i = φ j → i = j) (hl : ρ'.length = σ'.length) (hσ : ∀ i, i < ρ'.length → σ'[i]? = σ[φ i]?) (hρ : ∀ i, i < ρ'.length → ρ'[i]? = ρ[φ i]?) : RS K xa B0 H0 B H σ' ρ' := by
  have lt : ∀ {i : Nat} {s : Sl}, ρ'[i]? = some s → i < ρ'.length := fun h => (List.getElem?_eq_some_iff.mp h).1
  refine ⟨r.gw, hl, fun i d h => ?_, fun i ds h => ?_, fun i j ds es a h1 h2 h3 h4 => ?_⟩
  · rw [hσ i (lt h)]
    exact r.sh _ d ((hρ i (lt h)).symm.trans h)
  · rw [hσ i (lt h)]
    exact r.own _ ds ((hρ i (lt h)).symm.trans h)
  · exact inj i j (lt h1) (lt h2) (r.ap _ _ ds es a ((hρ i (lt h1)).symm.trans h1) ((hρ j (lt h2)).symm.trans h2) ((hσ i (lt h1)).symm.trans h3) ((hσ j (lt h2)).symm.trans h4))
theorem RS.set {v : V} {d : D} (r : RS K xa B0 H0 B H σ ρ) (q : R K xa B v d) (i : Nat) : RS K xa B0 H0 B H (σ.set i (some v)) (ρ.set i (.sh d)) := by
  have ns : ∀ {j : Nat} {es : Ob} {a : Addr}, (ρ.set i (.sh d))[j]? = some (.own es) → (σ.set i (some v))[j]? = some (some (.ref a)) → ρ[j]? = some (.own es) ∧ σ[j]? = some (some (.ref a)) := fun h h' => by
    rcases getset h with ⟨_, z, _⟩ | ⟨n, h⟩
    · cases z
    · rw [List.getElem?_set_ne n] at h'
      exact ⟨h, h'⟩
  refine ⟨r.gw, by rw [List.length_set, List.length_set, r.len], fun j e h => ?_, fun j ds h => ?_, fun j k ds es a h1 h2 h3 h4 => ?_⟩
  · rcases getset h with ⟨rfl, z, hl⟩ | ⟨n, h⟩
    · cases z
      exact ⟨v, List.getElem?_set_self (by rw [← r.len]; exact hl), q⟩
    · obtain ⟨w, e1, q1⟩ := r.sh j e h
      exact ⟨w, by rw [List.getElem?_set_ne n]; exact e1, q1⟩
  · rcases getset h with ⟨_, z, _⟩ | ⟨n, h⟩
    · cases z
    · rw [List.getElem?_set_ne n]
      exact r.own j ds h
  · obtain ⟨a1, a2⟩ := ns h1 h3
    obtain ⟨b1, b2⟩ := ns h2 h4
    exact r.ap j k ds es a a1 b1 a2 b2
theorem RS.lose (r : RS K xa B0 H0 B H σ ρ) (o : Option V) (i : Nat) : RS K xa B0 H0 B H (σ.set i o) (ρ.set i .no) := by
  have ns : ∀ {j : Nat} {es : Ob} {a : Addr}, (ρ.set i .no)[j]? = some (.own es) → (σ.set i o)[j]? = some (some (.ref a)) → ρ[j]? = some (.own es) ∧ σ[j]? = some (some (.ref a)) := fun h h' => by
    rcases getset h with ⟨_, z, _⟩ | ⟨n, h⟩
    · cases z
    · rw [List.getElem?_set_ne n] at h'
      exact ⟨h, h'⟩
  refine ⟨r.gw, by rw [List.length_set, List.length_set, r.len], fun j e h => ?_, fun j ds h => ?_, fun j k ds es a h1 h2 h3 h4 => ?_⟩
  · rcases getset h with ⟨_, z, _⟩ | ⟨n, h⟩
    · cases z
    · rw [List.getElem?_set_ne n]
      exact r.sh j e h
  · rcases getset h with ⟨_, z, _⟩ | ⟨n, h⟩
    · cases z
    · rw [List.getElem?_set_ne n]
      exact r.own j ds h
  · obtain ⟨a1, a2⟩ := ns h1 h3
    obtain ⟨b1, b2⟩ := ns h2 h4
    exact r.ap j k ds es a a1 b1 a2 b2
theorem RS.setOb {p : Addr} {xs : HO} {ds : Ob} (r : RS K xa B0 H0 B H σ ρ) (hp : H p = some xs) (n : B p = none) (n0 : H0 p = none) (q : RO K xa B xs ds) (hne : ∀ (j : Nat) (es : Ob), ρ[j]? = some (Sl.own es) → σ[j]? ≠ some (some (V.ref p))) (i : Nat) :
    RS K xa B0 H0 B H (σ.set i (some (.ref p))) (ρ.set i (.own ds)) := by
  refine ⟨r.gw, by rw [List.length_set, List.length_set, r.len], fun j e h => ?_, fun j es h => ?_, fun j k es fs a h1 h2 h3 h4 => ?_⟩
  · rcases getset h with ⟨_, z, _⟩ | ⟨n, h⟩
    · cases z
    · rw [List.getElem?_set_ne n]
      exact r.sh j e h
  · rcases getset h with ⟨rfl, z, hl⟩ | ⟨n, h⟩
    · cases z
      exact ⟨p, xs, List.getElem?_set_self (by rw [← r.len]; exact hl), hp, n, n0, q⟩
    · rw [List.getElem?_set_ne n]
      exact r.own j es h
  · rcases getset h1 with ⟨rfl, z, hl⟩ | ⟨n1, h1⟩
    · rw [List.getElem?_set_self (by rw [← r.len]; exact hl)] at h3
      cases h3
      rcases getset h2 with ⟨rfl, z2, _⟩ | ⟨n2, h2⟩
      · rfl
      · rw [List.getElem?_set_ne n2] at h4
        exact absurd h4 (hne k fs h2)
    · rw [List.getElem?_set_ne n1] at h3
      rcases getset h2 with ⟨rfl, z2, hl⟩ | ⟨n2, h2⟩
      · rw [List.getElem?_set_self (by rw [← r.len]; exact hl)] at h4
        cases h4
        exact absurd h3 (hne j es h1)
      · rw [List.getElem?_set_ne n2] at h4
        exact r.ap j k es fs a h1 h2 h3 h4
/-- an own list is changed in its place -/
theorem RS.mutOb {a : Addr} {xs : HO} {i : Nat} {ds ds' : Ob} (r : RS K xa B0 H0 B H σ ρ) (hi : ρ[i]? = some (.own ds)) (ha : σ[i]? = some (some (.ref a))) (q : RO K xa B xs ds') : RS K xa B0 H0 B (upd H a xs) σ (ρ.set i (.own ds')) := by
  obtain ⟨b, vs, e1, e2, e3, e4, _⟩ := r.own i ds hi
  rw [e1] at ha
  cases ha
  refine ⟨⟨Ex.mut r.gw.up e4, r.gw.bup, Ex.mut r.gw.le e3, r.gw.old⟩, by rw [List.length_set, r.len], fun j e h => ?_, fun j es h => ?_, fun j k es fs c h1 h2 h3 h4 => ?_⟩
  · rcases getset h with ⟨_, z, _⟩ | ⟨n, h⟩
    · cases z
    · exact r.sh j e h
  · rcases getset h with ⟨rfl, z, hl⟩ | ⟨n, h⟩
    · cases z
      exact ⟨a, xs, e1, upd_same, e3, e4, q⟩
    · obtain ⟨c, ws, f1, f2, f3, f4, f5⟩ := r.own j es h
      have hc : c ≠ a := by
        intro z
        subst z
        exact n (r.ap i j ds es c hi h e1 f1)
      exact ⟨c, ws, f1, by rw [upd_ne hc]; exact f2, f3, f4, f5⟩
  · have back : ∀ {j : Nat} {es : Ob}, (ρ.set i (.own ds'))[j]? = some (.own es) → ∃ es', ρ[j]? = some (.own es') := fun {j es} h => by
      rcases getset h with ⟨rfl, z, _⟩ | ⟨_, h⟩
      · exact ⟨ds, hi⟩
      · exact ⟨es, h⟩
    obtain ⟨es', h1⟩ := back h1
    obtain ⟨fs', h2⟩ := back h2
    exact r.ap j k es' fs' c h1 h2 h3 h4
theorem RS.setO {p : Addr} {xs : List V} {ds : List D} (r : RS K xa B0 H0 B H σ ρ) (hp : H p = some (.lst xs)) (n : B p = none) (n0 : H0 p = none) (q : RL K xa B xs ds) (hne : ∀ (j : Nat) (es : Ob), ρ[j]? = some (Sl.own es) → σ[j]? ≠ some (some (V.ref p))) (i : Nat) :
    RS K xa B0 H0 B H (σ.set i (some (.ref p))) (ρ.set i (.ow ds)) := r.setOb hp n n0 (.L q) hne i
theorem RS.mut {a : Addr} {xs : List V} {i : Nat} {ds ds' : List D} (r : RS K xa B0 H0 B H σ ρ) (hi : ρ[i]? = some (.ow ds)) (ha : σ[i]? = some (some (.ref a))) (q : RL K xa B xs ds') : RS K xa B0 H0 B (upd H a (.lst xs)) σ (ρ.set i (.ow ds')) := r.mutOb hi ha (.L q)
theorem RS.ow (r : RS K xa B0 H0 B H σ ρ) (i : Nat) (ds : List D) (h : ρ[i]? = some (.ow ds)) : ∃ a vs, σ[i]? = some (some (.ref a)) ∧ H a = some (.lst vs) ∧ B a = none ∧ H0 a = none ∧ RL K xa B vs ds := by
  obtain ⟨a, u, e1, e2, e3, e4, q⟩ := r.own i _ h
  cases q with
  | L q => exact ⟨a, _, e1, e2, e3, e4, q⟩
theorem RS.od (r : RS K xa B0 H0 B H σ ρ) (i : Nat) (ds : List (DK × D)) (h : ρ[i]? = some (.od ds)) : ∃ a vs, σ[i]? = some (some (.ref a)) ∧ H a = some (.dK vs) ∧ B a = none ∧ H0 a = none ∧ RK K xa B vs ds := by
  obtain ⟨a, u, e1, e2, e3, e4, q⟩ := r.own i _ h
  cases q with
  | T q => exact ⟨a, _, e1, e2, e3, e4, q⟩
end
/-! ### statements -/
inductive Out where
  | nx (ρ : SEnv) | rt (d : D) | bk (ρ : SEnv) | ct (ρ : SEnv) | ex (x : Xc) (ρ : SEnv) | st
def pS (K : PySem.W.Frag) (xa : Xa) (W : WX) (B0 H0 : Hp) (Dn : Ends) : Out → Prop
  | .nx ρ => ∀ σ B H, RS K xa B0 H0 B H σ ρ → Dn.nx σ H
  | .rt d => ∀ v B H, Gw B0 H0 B H → R K xa B v d → Dn.rt v H
  | .bk ρ => ∀ σ B H, RS K xa B0 H0 B H σ ρ → Dn.bk σ H
  | .ct ρ => ∀ σ B H, RS K xa B0 H0 B H σ ρ → Dn.ct σ H
  | .ex x ρ => ∀ c dx σ B H, RS K xa B0 H0 B H σ ρ → XR K B c dx x → W c dx σ H
  | .st => False
abbrev SF := SEnv → Out
def tS (K : PySem.W.Frag) (xa : Xa) (W : WX) (f : SF) : TS := fun Dn σ H => ∃ B0 H0 B ρ, RS K xa B0 H0 B H σ ρ ∧ pS K xa W B0 H0 Dn (f ρ)
abbrev Ps (X : Cx) (xa : Xa) (W : WX) (st : Stmt) (f : SF) : Prop := PS X st (tS X.K xa W f)
abbrev Pss (X : Cx) (xa : Xa) (W : WX) (st : List Stmt) (f : SF) : Prop := PSs X st (tS X.K xa W f)
def sqS (f g : SF) : SF := fun ρ => match f ρ with
  | .nx ρ' => g ρ'
  | o => o
def nxS : SF := fun ρ => .nx ρ
/-- behind a part: share, look -/
def shB {α : Type} (r : Res α) (ρ : SEnv) (k : α → Out) : Out := match r with
  | .ok a => k a
  | .ex x => .ex x ρ
  | .st => .st
def exS (f : F) : SF := fun ρ => shB (f (pkv ρ)) (frA ρ) fun _ => .nx ρ
def reS (f : F) : SF := fun ρ => shB (f (pkv ρ)) (frA ρ) fun d => .rt d
def rnS : SF := fun _ => .rt .non
def bkS : SF := fun ρ => .bk ρ
def ctS : SF := fun ρ => .ct ρ
def ifS (c : T) (f g : SF) : SF := fun ρ => shB (c (pkv ρ)) (frA ρ) fun b => if b = true then f ρ else g ρ
def imm : D → Bool
  | .non => true
  | .bl _ => true
  | .int _ => true
  | .str _ => true
  | _ => false
def asS (i : Nat) (f : F) : SF := fun ρ => shB (f (shv ρ)) ρ fun d => .nx (ρ.set i (.sh d))
def aiS (i : Nat) (f : F) : SF := fun ρ => shB (f (pkv ρ)) (frA ρ) fun d => if imm d = true then .nx (ρ.set i (.sh d)) else .st
def aoS (i : Nat) (g : Fs) : SF := fun ρ => shB (g (shv ρ)) ρ fun ds => .nx (ρ.set i (.ow ds))
def setsS (ρ : SEnv) : List (Nat × D) → SEnv
  | [] => ρ
  | (i, d) :: r => setsS (ρ.set i (.sh d)) r
def atS (t : Tg) (f : F) : SF := fun ρ => shB (f (shv ρ)) ρ fun d => match bnd t d with
  | some ps => .nx (setsS ρ ps)
  | none => .st
def fzS (is : List Nat) (f : SF) : SF := fun ρ => f (frz is ρ)
theorem R.imm {K : PySem.W.Frag} {xa : Xa} {B B' : Hp} {v : V} {d : D} (h : R K xa B v d) (i : imm d = true) : R K xa B' v d := by
  cases h with
  | non => exact .non
  | bl b => exact .bl b
  | int b => exact .int b
  | str b => exact .str b
  | lst _ _ => cases i
  | tup _ _ => cases i
  | frl _ _ => cases i
  | tpz _ _ _ _ => cases i
  | exv _ => cases i
  | exf _ _ _ => cases i
  | obj _ _ => cases i
  | dct _ _ => cases i
  | dco _ _ => cases i
section
variable {X : Cx} {xa : Xa} {W : WX} {pos : Pos} {e c : Expr} {st : Stmt} {rest sa sb : List Stmt} {f g : SF} {h : F}
theorem s_nil : Pss X xa W [] nxS := PSs.imp pss_nil fun Dn σ H ⟨B0, H0, B, ρ, r, p⟩ => p σ B H r
theorem s_cons (h1 : Ps X xa W st f) (h2 : Pss X xa W rest g) : Pss X xa W (st :: rest) (sqS f g) := by
  refine PSs.imp (pss_cons h1 h2) fun Dn σ H ⟨B0, H0, B, ρ, r, p⟩ => ⟨B0, H0, B, ρ, r, ?_⟩
  unfold sqS at p
  cases q : f ρ with
  | nx ρ' =>
    rw [q] at p
    exact fun σ' B' H' r' => ⟨B0, H0, B', ρ', r', p⟩
  | rt d => rw [q] at p; exact p
  | bk ρ' => rw [q] at p; exact p
  | ct ρ' => rw [q] at p; exact p
  | ex x ρ' => rw [q] at p; exact p
  | st => rw [q] at p; exact p
theorem s_one (h1 : Ps X xa W st f) : Pss X xa W [st] f := pss_one h1
theorem s_fz (is : List Nat) (h1 : Ps X xa W st f) : Ps X xa W st (fzS is f) := by
  refine PS.imp h1 fun Dn σ H ⟨B0, H0, B, ρ, r, p⟩ => ?_
  obtain ⟨B1, e1, r1⟩ := r.frz is
  exact ⟨B0, H0, B1, _, r1, p⟩
theorem s_fzs (is : List Nat) (h1 : Pss X xa W rest f) : Pss X xa W rest (fzS is f) := by
  refine PSs.imp h1 fun Dn σ H ⟨B0, H0, B, ρ, r, p⟩ => ?_
  obtain ⟨B1, e1, r1⟩ := r.frz is
  exact ⟨B0, H0, B1, _, r1, p⟩
/-- a part that shares -/
theorem meet {α β : Type} {Rel : Hp → β → α → Prop} {K : PySem.W.Frag} {q : Env → Res α} {B0 H0 B H : Hp} {σ : L2.St} {ρ : SEnv} {Dn : Ends} {k : α → Out} {Q : β → Hp → Prop} (r : RS K xa B0 H0 B H σ ρ) (p : pS K xa W B0 H0 Dn (shB (q (shv ρ)) ρ k))
    (hk : ∀ d v B' H', Gw B H B' H' → Rel B' v d → RS K xa B0 H0 B' H' σ ρ → pS K xa W B0 H0 Dn (k d) → Q v H') : tPx K xa Rel W q σ H Q := by
  refine ⟨B, shv ρ, r.gw.le, r.re, ?_⟩
  cases z : q (shv ρ) with
  | ok d =>
    rw [z] at p
    exact fun v B' H' g rel => hk d v B' H' g rel (r.grow g) p
  | ex x =>
    rw [z] at p
    exact fun c dx B' H' g xr => p c dx σ B' H' (r.grow g) xr
  | st =>
    rw [z] at p
    exact p
/-- a part that only looks -/
theorem peek {α β : Type} {Rel : Hp → β → α → Prop} {K : PySem.W.Frag} {q : Env → Res α} {B0 H0 B H : Hp} {σ : L2.St} {ρ : SEnv} {Dn : Ends} {k : α → Out} {Q : β → Hp → Prop} (r : RS K xa B0 H0 B H σ ρ) (p : pS K xa W B0 H0 Dn (shB (q (pkv ρ)) (frA ρ) k))
    (hk : ∀ d v B' H', Gw B0 H0 B' H' → Rel B' v d → RS K xa B0 H0 B H' σ ρ → pS K xa W B0 H0 Dn (k d) → Q v H') : tPx K xa Rel W q σ H Q := by
  obtain ⟨B1, e1, r1⟩ := r.frA
  refine ⟨B1, shv (frA ρ), r1.gw.le, r1.re, ?_⟩
  rw [shv_frA]
  cases z : q (pkv ρ) with
  | ok d =>
    rw [z] at p
    exact fun v B' H' g rel => hk d v B' H' (r1.gw.trans g) rel (r.keep g.up) p
  | ex x =>
    rw [z] at p
    exact fun c dx B' H' g xr => p c dx σ B' H' (r1.grow g) xr
  | st =>
    rw [z] at p
    exact p
theorem s_pass : Ps X xa W (.Pass pos) nxS := PS.imp ps_pass fun Dn σ H ⟨B0, H0, B, ρ, r, p⟩ => p σ B H r
theorem s_break : Ps X xa W (.Break pos) bkS := PS.imp ps_break fun Dn σ H ⟨B0, H0, B, ρ, r, p⟩ => p σ B H r
theorem s_cont : Ps X xa W (.Continue pos) ctS := PS.imp ps_continue fun Dn σ H ⟨B0, H0, B, ρ, r, p⟩ => p σ B H r
theorem s_expr (he : Pe X xa W e h) (hs : swapsWith e none pos.line X.env = pure false := by rfl) : Ps X xa W (.Expr e pos) (exS h) := by
  refine PS.imp (ps_expr he hs) fun Dn σ H ⟨B0, H0, B, ρ, r, p⟩ => ?_
  exact peek r p fun d v B' H' g rel r' k => k σ B H' r'
theorem s_ret (he : Pe X xa W e h) : Ps X xa W (.Return (some e) pos) (reS h) := by
  refine PS.imp (ps_ret he) fun Dn σ H ⟨B0, H0, B, ρ, r, p⟩ => ?_
  exact peek r p fun d v B' H' g rel r' k => k v B' H' g rel
theorem s_retN : Ps X xa W (.Return none pos) rnS := PS.imp ps_retN fun Dn σ H ⟨B0, H0, B, ρ, r, p⟩ => p .non B H r.gw .non
theorem s_if {q : T} (hc : Pt X xa W c q) (ha : Pss X xa W sa f) (hb : Pss X xa W sb g) : Ps X xa W (.If c sa sb pos) (ifS q f g) := by
  refine PS.imp (ps_if hc ha hb) fun Dn σ H ⟨B0, H0, B, ρ, r, p⟩ => ?_
  refine peek r p fun d v B' H' g rel r' k => ?_
  have rel : v = d := rel
  subst rel
  cases v with
  | true => exact ⟨B0, H0, B, ρ, r', k⟩
  | false => exact ⟨B0, H0, B, ρ, r', k⟩
theorem s_set (i : Nat) {x : Str} {pos' : Pos} (hN : X.N.Nodup) (he : Pe X xa W e h) (hi : X.N[i]? = some x := by rfl) (hx : Loc X.env.scope x := by first | exact Or.inl rfl | exact Or.inr rfl) (hs : swapsWith e (some (.Name x pos')) pos.line X.env = pure false := by rfl) (hf : X.fn x = true ∨ X.env.scope.names.lookup x = some .local := by first | exact .inl rfl | exact .inr rfl) :
    Ps X xa W (.Assign [.Name x pos'] e pos) (asS i h) := by
  refine PS.imp (ps_set hN hi hx he hs hf) fun Dn σ H ⟨B0, H0, B, ρ, r, p⟩ => ?_
  exact meet r p fun d v B' H' g rel r' k => k _ B' H' (r'.set rel i)
theorem s_setI (i : Nat) {x : Str} {pos' : Pos} (hN : X.N.Nodup) (he : Pe X xa W e h) (hi : X.N[i]? = some x := by rfl) (hx : Loc X.env.scope x := by first | exact Or.inl rfl | exact Or.inr rfl) (hs : swapsWith e (some (.Name x pos')) pos.line X.env = pure false := by rfl) (hf : X.fn x = true ∨ X.env.scope.names.lookup x = some .local := by first | exact .inl rfl | exact .inr rfl) :
    Ps X xa W (.Assign [.Name x pos'] e pos) (aiS i h) := by
  refine PS.imp (ps_set hN hi hx he hs hf) fun Dn σ H ⟨B0, H0, B, ρ, r, p⟩ => ?_
  refine peek r p fun d v B' H' g rel r' k => ?_
  by_cases c : imm d = true
  · rw [if_pos c] at k
    exact k _ B H' (r'.set (rel.imm c) i)
  · rw [if_neg c] at k
    exact k.elim
/-- an expression that makes a list of its own -/
theorem meetO {K : PySem.W.Frag} {q : Fs} {B0 H0 B H : Hp} {σ : L2.St} {ρ : SEnv} {Dn : Ends} {k : List D → Out} {Q : VK} (r : RS K xa B0 H0 B H σ ρ) (p : pS K xa W B0 H0 Dn (shB (q (shv ρ)) ρ k))
    (hk : ∀ ds a xs B' H', B' a = none → H' a = some (.lst xs) → H0 a = none → RL K xa B' xs ds → (∀ (j : Nat) (es : Ob), ρ[j]? = some (Sl.own es) → σ[j]? ≠ some (some (V.ref a))) → RS K xa B0 H0 B' H' σ ρ → pS K xa W B0 H0 Dn (k ds) → Q (.ref a) H') : tO K xa W q σ H Q := by
  refine ⟨B, shv ρ, r.gw.le, r.re, ?_⟩
  cases z : q (shv ρ) with
  | ok ds =>
    rw [z] at p
    refine fun a xs B' H' g n1 n2 hp rl => hk ds a xs B' H' n1 hp (fresh_back r.gw.up n2) rl (fun j es h1 h2 => ?_) (r.grow g) p
    obtain ⟨b, vs, e1, e2, _⟩ := r.own j es h1
    rw [e1] at h2
    cases h2
    rw [n2] at e2
    cases e2
  | ex x =>
    rw [z] at p
    exact fun c dx B' H' g xr => p c dx σ B' H' (r.grow g) xr
  | st =>
    rw [z] at p
    exact p
abbrev Po1 (X : Cx) (xa : Xa) (W : WX) (e : Expr) (q : Fs) : Prop := PE X e (tO X.K xa W q)
theorem s_setO (i : Nat) {x : Str} {pos' : Pos} {q : Fs} (hN : X.N.Nodup) (he : Po1 X xa W e q) (hi : X.N[i]? = some x := by rfl) (hx : Loc X.env.scope x := by first | exact Or.inl rfl | exact Or.inr rfl) (hs : swapsWith e (some (.Name x pos')) pos.line X.env = pure false := by rfl) (hf : X.fn x = true ∨ X.env.scope.names.lookup x = some .local := by first | exact .inl rfl | exact .inr rfl) :
    Ps X xa W (.Assign [.Name x pos'] e pos) (aoS i q) := by
  refine PS.imp (ps_set hN hi hx he hs hf) fun Dn σ H ⟨B0, H0, B, ρ, r, p⟩ => ?_
  exact meetO r p fun ds a xs B' H' n1 hp n0 rl hne r' k => k _ B' H' (r'.setO hp n1 n0 rl hne i)
theorem RS.sets {K : PySem.W.Frag} {B0 H0 B H : Hp} : ∀ (xs : List V) (ds : List D) (is : List Nat) (σ : L2.St) (ρ : SEnv), RS K xa B0 H0 B H σ ρ → RL K xa B xs ds → RS K xa B0 H0 B H (setsV σ (is.zip xs)) (setsS ρ (is.zip ds))
  | _, _, [], _, _, re, _ => re
  | _, _, _ :: _, _, _, re, .nil => re
  | _ :: xs, _ :: ds, i :: is, _, _, re, .cons r t => by
    have h := RS.sets xs ds is _ _ (re.set r i) t
    exact h
theorem tg_meetS {K : PySem.W.Frag} {B0 H0 B H : Hp} {σ : L2.St} {ρ : SEnv} {t : Tg} {v : V} {d : D} {ps : List (Nat × D)} {Q : L2.St → Hp → Prop} (rs : RS K xa B0 H0 B H σ ρ) (r : R K xa B v d) (h : bnd t d = some ps)
    (k : ∀ σ', RS K xa B0 H0 B H σ' (setsS ρ ps) → Q σ' H) : gD t v σ H Q := by
  have le := rs.gw.le
  cases t with
  | nm i =>
    cases h
    exact k _ (rs.set r i)
  | tp is =>
    cases r with
    | @tup a xs ds h1 q1 =>
      have h : (if is.length = ds.length then some (is.zip ds) else none) = some ps := h
      by_cases c : is.length = ds.length
      · rw [if_pos c] at h
        cases h
        exact ⟨a, xs, rfl, .inl (le _ _ h1), by rw [q1.length, c], k _ (RS.sets _ _ is _ _ rs q1)⟩
      · rw [if_neg c] at h
        cases h
    | @lst a xs ds h1 q1 =>
      have h : (if is.length = ds.length then some (is.zip ds) else none) = some ps := h
      by_cases c : is.length = ds.length
      · rw [if_pos c] at h
        cases h
        exact ⟨a, xs, rfl, .inr (le _ _ h1), by rw [q1.length, c], k _ (RS.sets _ _ is _ _ rs q1)⟩
      · rw [if_neg c] at h
        cases h
    | _ => cases h
theorem s_asgT {tg : Expr} {t : Tg} (he : Pe X xa W e h) (hg : Pg X tg t) (hs : swapsWithSole [tg] e pos.line X.env = pure false := by rfl) (hw : swappedStores [tg] e X.env = pure none := by rfl)
    (h1 : (assignEach [tg] X.env).map (·.2) = [assign tg X.env] := by rfl) : Ps X xa W (.Assign [tg] e pos) (atS t h) := by
  refine PS.imp (ps_asg he hg hs hw h1) fun Dn σ H ⟨B0, H0, B, ρ, r, p⟩ => ?_
  refine meet r p fun d v B' H' g rel r' k => ?_
  cases z : bnd t d with
  | none => rw [z] at k; exact k.elim
  | some ps =>
    rw [z] at k
    exact tg_meetS r' rel z fun σ' r2 => k σ' B' H' r2
end
end Pu

namespace Pu
open PySem PySem.Spec PyProof.Rows L2 Evl
/-! ### defs -/
def spP (K : PySem.W.Frag) (n : Nat) (m : List D → Res D) : Sp := fun vs H Q E => vs.length = n ∧ ∃ Hb ds, Ex Hb H ∧ RL K none Hb vs ds ∧ post K (R K none) E Hb H Q (m ds)
def outR : Out → Res D
  | .nx _ => .ok .non
  | .rt d => .ok d
  | .ex x _ => .ex x
  | _ => .st
def noS : Nat → SEnv
  | 0 => []
  | k + 1 => .no :: noS k
theorem noS_eq (k : Nat) : noS k = List.replicate k .no := by
  induction k with
  | zero => rfl
  | succ k ih => rw [noS, ih, List.replicate_succ]
def dfM (n k : Nat) (f : SF) : List D → Res D := fun ds => if ds.length = n then outR (f (ds.map .sh ++ noS k)) else .st
theorem dfM_st {n k : Nat} {f : SF} {ds : List D} (h : ds.length ≠ n) : dfM n k f ds = .st := if_neg h
/-- what a call may need of the def named x -/
structure Fn (P : Program) (w : World) (K : PySem.W.Frag) (mg : Str → Option Value) (base : Heap) (k : Nat) (x : Str) (n : Nat) (m : List D → Res D) : Prop where
  ex : ∃ (f : Addr) (fd : FuncData) (ps : List Str), FnOk P w K mg base (L2.CX P w) k f fd ps (spP K n m) ∧ mg x = some (.ref f) ∧ PySem.W.keepIn K (.ref f) = true ∧ Binds K fd ps []
  st : ∀ ds, ds.length ≠ n → m ds = .st
theorem RS.start {K : PySem.W.Frag} {B H : Hp} {vs : List V} {ds : List D} {k : Nat} {N : List Str} (le : Ex B H) (r : RL K none B vs ds) (hk : N.length = ds.length + k) : RS K none B H B H (L2.start N vs) (ds.map .sh ++ noS k) := by
  have hl := r.length
  rw [noS_eq]
  have only : ∀ {i : Nat} {s : Sl}, (ds.map Sl.sh ++ List.replicate k Sl.no)[i]? = some s → s = .no ∨ ∃ d, s = .sh d ∧ ds[i]? = some d := fun {i s} h => by
    by_cases hi : i < ds.length
    · rw [List.getElem?_append_left (by rw [List.length_map]; exact hi), List.getElem?_map, List.getElem?_eq_getElem hi] at h
      cases h
      exact .inr ⟨_, rfl, List.getElem?_eq_getElem hi⟩
    · rw [List.getElem?_append_right (by rw [List.length_map]; omega)] at h
      have h2 := List.mem_of_getElem? h
      exact .inl (List.eq_of_mem_replicate h2)
  refine ⟨Gw.refl le, ?_, fun i d h => ?_, fun i es h => ?_, fun i j es fs a h _ _ _ => ?_⟩
  · unfold L2.start
    rw [List.length_append, List.length_append, List.length_map, List.length_map, List.length_replicate, List.length_replicate, hl]
    omega
  · rcases only h with z | ⟨d', z, e⟩
    · cases z
    · cases z
      obtain ⟨v, e1, q⟩ := r.get e
      refine ⟨v, ?_, q⟩
      have hi : i < vs.length := (List.getElem?_eq_some_iff.mp e1).1
      unfold L2.start
      rw [List.getElem?_append_left (by rw [List.length_map]; exact hi), List.getElem?_map, e1]
      rfl
  · rcases only h with z | ⟨d', z, e⟩ <;> cases z
  · rcases only h with z | ⟨d', z, e⟩ <;> cases z
abbrev WO (E : XK) : WX := fun c d _ H => E c d H
theorem fn_def {P : Program} {w : World} {K : PySem.W.Frag} {mg : Str → Option Value} {base : Heap} {x qual : Str} {params : Arguments} {body : List Stmt} {scope : Scope} {dvs : List V} {kws : List (Str × V)} {f : Addr} {fd : FuncData} {N ps : List Str} {k n m : Nat} {g : SF}
    (F : FunD K x qual params body scope dvs kws f fd) (S : FnScope N ps scope) (hn : ps.length = n) (hk : N.length = n + m)
    (hbody : ∀ (cdv : Value) (A : Around) (outer : List PySem.Env) (s : Shared) (H : Hp) (E : XK), Room k (A.deeper (envOfC qual scope s.heap.objs.size f cdv)) → L2.Takes (cxOf (L2.CX P w) P w K mg base N qual scope f cdv A outer s H E) (WO E) →
      PassesOwn (model P w) (A.deeper (envOfC qual scope s.heap.objs.size f cdv)) (envOfC qual scope s.heap.objs.size f cdv) (cxOf (L2.CX P w) P w K mg base N qual scope f cdv A outer s H E).xe →
      Pss (cxOf (L2.CX P w) P w K mg base N qual scope f cdv A outer s H E) none (WO E) body g) : FnOk P w K mg base (L2.CX P w) (k + 1) f fd ps (spP K n (dfM n m g)) := by
  refine F.ok S (fun vs H Q E h => by rw [hn]; exact h.1) (fun cdv A outer s H vs Q E hr h => ⟨_, hbody cdv A outer s H E hr (takes_of rfl rfl rfl rfl) (passes_of (K := fun e s'' => L2.CX P w outer H s E e s'') rfl), ?_⟩)
  obtain ⟨hl, Hb, ds, le, rl, p⟩ := h
  have hd : ds.length = n := by rw [← rl.length, hl]
  have rs : RS K none Hb H Hb H (L2.start N vs) (ds.map Sl.sh ++ noS m) := RS.start le rl (by rw [hd]; exact hk)
  refine ⟨Hb, H, Hb, ds.map Sl.sh ++ noS m, rs, ?_⟩
  unfold dfM at p
  rw [if_pos hd] at p
  cases z : g (ds.map .sh ++ noS m) with
  | nx ρ =>
    rw [z] at p
    exact fun σ B H' r => p .non B H' r.gw .non
  | rt d =>
    rw [z] at p
    exact fun v B H' gw r => p v B H' gw r
  | ex x ρ =>
    rw [z] at p
    exact fun c dx σ B H' r xr => p c dx B H' r.gw xr
  | bk ρ => rw [z] at p; exact p.elim
  | ct ρ => rw [z] at p; exact p.elim
  | st => rw [z] at p; exact p.elim
section
variable {X : Cx} {W : WX} {pos : Pos} {e : Expr} {es : List Expr} {fs : Fs}
theorem p_call {x : Str} {k j n : Nat} {m : List D → Res D} {p : Pos} (F : Fn X.prog X.w X.K X.mg X.base k x n m) (hr : Room j X.A) (tk : L2.Takes X W) (ha : Pa X none W (e :: es) fs) (hk : k ≤ j := by decide) (hg : Gl X x := by rfl) (hdb : (x == ("__debug__" : Str)) = false := by decide)
    (he : starEach (e :: es) X.env = (false, eval e X.env) :: starEach es X.env := by rfl) (hpl : (backTo pos (starEach es X.env)).any (·.1) = false := by rfl) : Pe X none W (.Call (.Name x p) (e :: es) [] pos) (calF m fs) := by
  obtain ⟨f, fd, ps, F1, hm, hkp, hb⟩ := F.ex
  refine PE.imp (pe_callS F1 (hr.mono hk) hg hm hkp hb (fun σ => passAt tk σ) ha hdb he hpl) fun σ H Q hq => ?_
  obtain ⟨Hb, ρ, le, re, p⟩ := hq
  refine ⟨Hb, ρ, le, re, post_bind le p fun ds vs B1 H1 e1 g1 r1 p1 => ?_⟩
  by_cases hl : ds.length = n
  · exact ⟨by rw [r1.length, hl], B1, ds, g1.le, r1, p1⟩
  · rw [F.st ds hl] at p1
    exact p1.elim
end
/-! ### for -/
def forGo (t : Tg) (f : SF) : List D → SEnv → Out
  | [], ρ => .nx ρ
  | d :: ds, ρ => match bnd t d with
    | none => .st
    | some ps => match f (setsS ρ ps) with
      | .nx ρ' => forGo t f ds ρ'
      | .ct ρ' => forGo t f ds ρ'
      | .bk ρ' => .nx ρ'
      | o => o
def forS (it : Fs) (t : Tg) (f : SF) : SF := fun ρ => shB (it (shv ρ)) ρ fun ds => forGo t f ds ρ
section
variable {K : PySem.W.Frag} {xa : Xa} {W : WX} {B0 H0 B1 H1 B H : Hp} {σ : L2.St} {ρ : SEnv}
/-- the floor is lifted -/
theorem Gw.low (g : Gw B0 H0 B1 H1) (h : Gw B1 H0 B H) : Gw B0 H0 B H := ⟨h.up, g.bup.trans h.bup, h.le, fun a o e => (h.old a o e).trans (g.old a o e)⟩
theorem RS.low (g : Gw B0 H0 B1 H1) (r : RS K xa B1 H0 B H σ ρ) : RS K xa B0 H0 B H σ ρ := ⟨g.low r.gw, r.len, r.sh, r.own, r.ap⟩
theorem RS.lift (r : RS K xa B0 H0 B H σ ρ) : RS K xa B H0 B H σ ρ := ⟨⟨r.gw.up, Ex.refl _, r.gw.le, fun _ _ _ => rfl⟩, r.len, r.sh, r.own, r.ap⟩
theorem pS.lift {Dn : Ends} {o : Out} (g : Gw B0 H0 B1 H1) (p : pS K xa W B0 H0 Dn o) : pS K xa W B1 H0 Dn o := by
  cases o with
  | nx ρ => exact fun σ B H r => p σ B H (r.low g)
  | rt d => exact fun v B H r q => p v B H (g.low r) q
  | bk ρ => exact fun σ B H r => p σ B H (r.low g)
  | ct ρ => exact fun σ B H r => p σ B H (r.low g)
  | ex x ρ => exact fun c dx σ B H r q => p c dx σ B H (r.low g) q
  | st => exact p
end
section
variable {X : Cx} {xa : Xa} {W : WX} {pos : Pos} {tg iter c : Expr} {body : List Stmt}
theorem s_for {it : Fs} {t : Tg} {f : SF} (hp : PassesOwn (model X.prog X.w) X.A X.env X.xe) (hc : X.calm = true) (hi : Pi X xa W tg iter it) (hg : Pg X tg t) (hb : Pss X xa W body f) (hs : ∀ x, foldedSetIterable iter X.env x = pure x := by intro _; rfl) :
    Ps X xa W (.For tg iter body [] pos) (forS it t f) := by
  refine PS.imp (ps_for hp hc hi hg hb hs) fun Dn σ H ⟨B0, H0, B, ρ, r, p⟩ => ?_
  refine meet r p fun ds J B1 H1 g1 wk r1 p1 => ?_
  have p1 := p1.lift r1.gw
  have r1 := r1.lift
  refine ⟨fun i m σ H => m = ds.length - i ∧ i ≤ ds.length ∧ ∃ B ρ, RS X.K xa B1 H0 B H σ ρ ∧ pS X.K xa W B1 H0 Dn (forGo t f (ds.drop i) ρ), ⟨ds.length, rfl, Nat.zero_le _, B1, ρ, r1, by rw [List.drop_zero]; exact p1⟩, ?_⟩
  rintro i m σ H ⟨rfl, hi, B, ρ, r, p⟩
  have eb := r.gw.bup
  by_cases hlt : i < ds.length
  · rw [drop_at hlt] at p
    unfold forGo at p
    refine .inr ⟨wk.go i B H eb r.gw.le hlt, fun σ' H' => ∃ B' ρ', RS X.K xa B1 H0 B' H' σ' ρ' ∧ pS X.K xa W B1 H0 Dn (forGo t f (ds.drop (i + 1)) ρ'), fun σ' H' h' => ⟨ds.length - (i + 1), by omega, rfl, hlt, h'⟩, fun x H3 hy => ?_⟩
    obtain ⟨B3, g3, r3⟩ := wk.yld i B H x H3 ds[i] eb r.gw.le (List.getElem?_eq_getElem hlt) hy
    cases h1 : bnd t ds[i] with
    | none => rw [h1] at p; exact p.elim
    | some ps =>
      rw [h1] at p
      dsimp only at p
      refine tg_meetS (r.grow g3) r3 h1 fun σ' r4 => ⟨B1, H0, B3, _, r4, ?_⟩
      cases h2 : f (setsS ρ ps) with
      | nx ρ' =>
        rw [h2] at p
        exact fun σ'' B'' H'' r'' => ⟨B'', ρ', r'', p⟩
      | ct ρ' =>
        rw [h2] at p
        exact fun σ'' B'' H'' r'' => ⟨B'', ρ', r'', p⟩
      | bk ρ' => rw [h2] at p; exact p
      | rt d => rw [h2] at p; exact p
      | ex x ρ' => rw [h2] at p; exact p
      | st => rw [h2] at p; exact p
  · have ei : i = ds.length := by omega
    subst ei
    rw [List.drop_length] at p
    exact .inl ⟨wk.stop B H eb r.gw.le, p σ B H r⟩
/-! ### while -/
def whGo (q : T) (f : SF) : Nat → SEnv → Out
  | 0, _ => .st
  | n + 1, ρ => shB (q (pkv ρ)) (frA ρ) fun b => if b = true then (match f ρ with
      | .nx ρ' => whGo q f n ρ'
      | .ct ρ' => whGo q f n ρ'
      | .bk ρ' => .nx ρ'
      | o => o) else .nx ρ
def whS (n : Nat) (q : T) (f : SF) : SF := fun ρ => whGo q f n ρ
theorem s_while (n : Nat) {q : T} {f : SF} (hp : PassesOwn (model X.prog X.w) X.A X.env X.xe) (hc : Pt X xa W c q) (hb : Pss X xa W body f) : Ps X xa W (.While c body [] pos) (whS n q f) := by
  refine PS.imp (ps_while hp hc hb) fun Dn σ H ⟨B0, H0, B, ρ, r, p⟩ => ?_
  refine ⟨fun m σ H => ∃ B ρ, RS X.K xa B0 H0 B H σ ρ ∧ pS X.K xa W B0 H0 Dn (whGo q f m ρ), ⟨n, B, ρ, r, p⟩, ?_⟩
  rintro m σ H ⟨B, ρ, r, p⟩
  cases m with
  | zero => exact p.elim
  | succ m =>
    unfold whGo at p
    refine peek r p fun d v B' H' g rel r' k => ?_
    have rel : v = d := rel
    subst rel
    cases v with
    | false => exact k σ B H' r'
    | true =>
      rw [if_pos rfl] at k ⊢
      refine ⟨fun σ' H' => ∃ B ρ, RS X.K xa B0 H0 B H' σ' ρ ∧ pS X.K xa W B0 H0 Dn (whGo q f m ρ), fun σ' H' h => ⟨m, Nat.lt_succ_self _, h⟩, B0, H0, B, ρ, r', ?_⟩
      cases h2 : f ρ with
      | nx ρ' =>
        rw [h2] at k
        exact fun σ'' B'' H'' r'' => ⟨B'', ρ', r'', k⟩
      | ct ρ' =>
        rw [h2] at k
        exact fun σ'' B'' H'' r'' => ⟨B'', ρ', r'', k⟩
      | bk ρ' => rw [h2] at k; exact k
      | rt d => rw [h2] at k; exact k
      | ex x ρ' => rw [h2] at k; exact k
      | st => rw [h2] at k; exact k
end
/-! ### name op= e -/
def auS (i : Nat) (g : D → D → Option D) (h : F) : SF := fun ρ => match ρ[i]? with
  | some (.sh x) => shB (h (pkv ρ)) (frA ρ) fun y => match g x y with
    | some z => .nx (ρ.set i (.sh z))
    | none => .st
  | _ => .st
def iAdd : D → D → Option D
  | .int i, .int j => some (.int (i + j))
  | _, _ => none
def iSub : D → D → Option D
  | .int i, .int j => some (.int (i - j))
  | _, _ => none
section
variable {X : Cx} {xa : Xa} {W : WX} {pos : Pos} {e : Expr}
theorem s_augI {op : Operator} (i : Nat) {x : Str} {pos' : Pos} {g : D → D → Option D} {q : Int → Int → Int} {h : F} (hN : X.N.Nodup) (he : Pe X xa W e h) (ho : PIp X op (ipI q)) (hg : ∀ x y z, g x y = some z → ∃ a b, x = .int a ∧ y = .int b ∧ z = .int (q a b)) (hi : X.N[i]? = some x := by rfl) (hx : Loc X.env.scope x := by first | exact Or.inl rfl | exact Or.inr rfl) (hf : X.fn x = true ∨ X.env.scope.names.lookup x = some .local := by first | exact .inl rfl | exact .inr rfl) :
    Ps X xa W (.AugAssign (.Name x pos') op e pos) (auS i g h) := by
  refine PS.imp (ps_aug hN hi hx he ho hf) fun Dn σ H ⟨B0, H0, B, ρ, r, p⟩ => ?_
  unfold auS at p
  cases z : ρ[i]? with
  | none => rw [z] at p; exact p.elim
  | some s =>
    cases s with
    | no => rw [z] at p; exact p.elim
    | own ds => rw [z] at p; exact p.elim
    | sh d =>
      rw [z] at p
      dsimp only at p
      obtain ⟨v, e1, rv⟩ := r.sh i d z
      refine ⟨v, e1, peek r p fun d2 v2 B' H' g2 rel r' k => ?_⟩
      cases y : g d d2 with
      | none => rw [y] at k; exact k.elim
      | some u =>
        rw [y] at k
        obtain ⟨a, b, rfl, rfl, rfl⟩ := hg _ _ _ y
        cases rv
        cases rel
        exact ⟨a, b, rfl, rfl, k _ B H' (r'.set (.int _) i)⟩
theorem iAdd_ok (x y z : D) (h : iAdd x y = some z) : ∃ a b, x = .int a ∧ y = .int b ∧ z = .int (a + b) := by
  unfold iAdd at h
  split at h
  · cases h
    exact ⟨_, _, rfl, rfl, rfl⟩
  · cases h
theorem iSub_ok (x y z : D) (h : iSub x y = some z) : ∃ a b, x = .int a ∧ y = .int b ∧ z = .int (a - b) := by
  unfold iSub at h
  split at h
  · cases h
    exact ⟨_, _, rfl, rfl, rfl⟩
  · cases h
theorem s_aug (i : Nat) {x : Str} {pos' : Pos} {h : F} (hN : X.N.Nodup) (he : Pe X xa W e h) (hi : X.N[i]? = some x := by rfl) (hx : Loc X.env.scope x := by first | exact Or.inl rfl | exact Or.inr rfl) (hf : X.fn x = true ∨ X.env.scope.names.lookup x = some .local := by first | exact .inl rfl | exact .inr rfl) :
    Ps X xa W (.AugAssign (.Name x pos') .Add e pos) (auS i iAdd h) := s_augI i hN he ip_add iAdd_ok hi hx hf
theorem s_augM (i : Nat) {x : Str} {pos' : Pos} {h : F} (hN : X.N.Nodup) (he : Pe X xa W e h) (hi : X.N[i]? = some x := by rfl) (hx : Loc X.env.scope x := by first | exact Or.inl rfl | exact Or.inr rfl) (hf : X.fn x = true ∨ X.env.scope.names.lookup x = some .local := by first | exact .inl rfl | exact .inr rfl) :
    Ps X xa W (.AugAssign (.Name x pos') .Sub e pos) (auS i iSub h) := s_augI i hN he ip_sub iSub_ok hi hx hf
end
/-! ### xs.append(e), xs.pop(), xs[i] = e -/
def apS (i : Nat) (h : F) : SF := fun ρ => match ρ[i]? with
  | some (.own (.L ds)) => if ds.length < 1000000 then shB (h (shv ρ)) ρ fun d => .nx (ρ.set i (.ow (ds ++ [d]))) else .st
  | _ => .st
def apI (i : Nat) (h : F) : SF := fun ρ => match ρ[i]? with
  | some (.own (.L ds)) => if ds.length < 1000000 then shB (h (pkv ρ)) (frA ρ) fun d => if imm d = true then .nx (ρ.set i (.ow (ds ++ [d]))) else .st else .st
  | _ => .st
section
variable {X : Cx} {xa : Xa} {W : WX} {pos pos' p1 p2 : Pos} {e : Expr} {h : F}
theorem ow_of {f : List D → Out} {K : PySem.W.Frag} {B0 H0 B H : Hp} {σ : L2.St} {ρ : SEnv} {Dn : Ends} {i : Nat} (r : RS K xa B0 H0 B H σ ρ) (p : pS K xa W B0 H0 Dn (match ρ[i]? with
    | some (.own (.L ds)) => f ds
    | _ => .st)) : ∃ ds a vs, ρ[i]? = some (.ow ds) ∧ σ[i]? = some (some (V.ref a)) ∧ H a = some (.lst vs) ∧ RL K xa B vs ds ∧ pS K xa W B0 H0 Dn (f ds) := by
  cases z : ρ[i]? with
  | none => rw [z] at p; exact p.elim
  | some s =>
    cases s with
    | no => rw [z] at p; exact p.elim
    | sh d => rw [z] at p; exact p.elim
    | own ob =>
      cases ob with
      | T kvs => rw [z] at p; exact p.elim
      | L ds =>
        rw [z] at p
        obtain ⟨a, vs, e1, e2, e3, e4, q⟩ := r.ow i ds z
        exact ⟨ds, a, vs, rfl, e1, e2, q, p⟩
theorem pe_app {tv : TE} {x : Str} {t1 : TE} (hx : PE X (.Name x p1) t1) (he : PE X e tv) (hline : (p2.endLine == pos'.line) = true := by rfl) (hs : starEach [e] X.env = [(false, eval e X.env)] := by rfl)
    (hfew : ((backTo pos' (starEach [e] X.env)).all (fun x => !x.1) && (backToKw pos' (keywordEach [] X.env)).all (fun x => x.1.isSome) && decide (([e] : List Expr).length + ([] : List Keyword).length + (if ([] : List Keyword).isEmpty then 0 else 1) < 30)) = true := by rfl)
    (hbase : attributeBase (.Name x p1) "append" X.env (eval (.Name x p1) X.env) = eval (.Name x p1) X.env := by rfl) (hsw : swapsWith (.Call (.Attribute (.Name x p1) "append" p2) [e] [] pos') none pos.line X.env = pure false := by rfl) :
    PS X (.Expr (.Call (.Attribute (.Name x p1) "append" p2) [e] [] pos') pos) (tDrop (tBM X.K "list" rAppend t1 (tCons tv tNil))) :=
  ps_expr (pe_bm PySem.F.plainAttrs_list PySem.F.slot_list_append PySem.F.type_list_append mt_append hx (pa_cons he pa_nil hs) hbase hfew hline hs) hsw
theorem s_app (i : Nat) {x : Str} (he : Pe X xa W e h) (hi : X.N[i]? = some x := by rfl) (hv : Vis X.env.scope x := by first | exact Or.inl rfl | exact Or.inr (Or.inl rfl) | exact Or.inr (Or.inr rfl)) (hd : (x == ("__debug__" : Str)) = false := by decide) (hcd : (x == ("__classdict__" : Str)) = false := by decide)
    (hline : (p2.endLine == pos'.line) = true := by rfl) (hs : starEach [e] X.env = [(false, eval e X.env)] := by rfl)
    (hfew : ((backTo pos' (starEach [e] X.env)).all (fun x => !x.1) && (backToKw pos' (keywordEach [] X.env)).all (fun x => x.1.isSome) && decide (([e] : List Expr).length + ([] : List Keyword).length + (if ([] : List Keyword).isEmpty then 0 else 1) < 30)) = true := by rfl)
    (hbase : attributeBase (.Name x p1) "append" X.env (eval (.Name x p1) X.env) = eval (.Name x p1) X.env := by rfl) (hsw : swapsWith (.Call (.Attribute (.Name x p1) "append" p2) [e] [] pos') none pos.line X.env = pure false := by rfl) :
    Ps X xa W (.Expr (.Call (.Attribute (.Name x p1) "append" p2) [e] [] pos') pos) (apS i h) := by
  refine PS.imp (pe_app (pe_var hi hv hd hcd) he hline hs hfew hbase hsw) fun Dn σ H ⟨B0, H0, B, ρ, r, p⟩ => ?_
  obtain ⟨ds, a, vs, h1, h2, h3, h4, p⟩ := ow_of r p
  by_cases hl : ds.length < 1000000
  · rw [if_pos hl] at p
    refine ⟨_, h2, .inl ⟨rfl, vs, SqL.of h3⟩, ?_⟩
    refine meet r p fun d v B' H' g rel r' k => ?_
    refine ⟨a, vs, v, rfl, rfl, g.up _ _ h3, by rw [h4.length, szl]; omega, ?_⟩
    exact k _ B' _ (r'.mut h1 h2 ((h4.mono g.bup).app (.cons rel .nil)))
  · rw [if_neg hl] at p
    exact p.elim
theorem s_appI (i : Nat) {x : Str} (he : Pe X xa W e h) (hi : X.N[i]? = some x := by rfl) (hv : Vis X.env.scope x := by first | exact Or.inl rfl | exact Or.inr (Or.inl rfl) | exact Or.inr (Or.inr rfl)) (hd : (x == ("__debug__" : Str)) = false := by decide) (hcd : (x == ("__classdict__" : Str)) = false := by decide)
    (hline : (p2.endLine == pos'.line) = true := by rfl) (hs : starEach [e] X.env = [(false, eval e X.env)] := by rfl)
    (hfew : ((backTo pos' (starEach [e] X.env)).all (fun x => !x.1) && (backToKw pos' (keywordEach [] X.env)).all (fun x => x.1.isSome) && decide (([e] : List Expr).length + ([] : List Keyword).length + (if ([] : List Keyword).isEmpty then 0 else 1) < 30)) = true := by rfl)
    (hbase : attributeBase (.Name x p1) "append" X.env (eval (.Name x p1) X.env) = eval (.Name x p1) X.env := by rfl) (hsw : swapsWith (.Call (.Attribute (.Name x p1) "append" p2) [e] [] pos') none pos.line X.env = pure false := by rfl) :
    Ps X xa W (.Expr (.Call (.Attribute (.Name x p1) "append" p2) [e] [] pos') pos) (apI i h) := by
  refine PS.imp (pe_app (pe_var hi hv hd hcd) he hline hs hfew hbase hsw) fun Dn σ H ⟨B0, H0, B, ρ, r, p⟩ => ?_
  obtain ⟨ds, a, vs, h1, h2, h3, h4, p⟩ := ow_of r p
  by_cases hl : ds.length < 1000000
  · rw [if_pos hl] at p
    refine ⟨_, h2, .inl ⟨rfl, vs, SqL.of h3⟩, ?_⟩
    refine peek r p fun d v B' H' g rel r' k => ?_
    by_cases c : imm d = true
    · rw [if_pos c] at k
      obtain ⟨a', vs', f1, f2, f3, f4, f5⟩ := r'.ow i ds h1
      have ea : a' = a := by
        rw [f1] at h2
        cases h2
        rfl
      subst ea
      refine ⟨a', vs', v, rfl, rfl, f2, by rw [f5.length, szl]; omega, ?_⟩
      exact k _ B _ (r'.mut h1 f1 (f5.app (.cons (rel.imm c) .nil)))
    · rw [if_neg c] at k
      exact k.elim
  · rw [if_neg hl] at p
    exact p.elim
end
end Pu

namespace Pu
open PySem PySem.Spec PyProof.Rows L2 Evl
/-! ### try with several clauses 'except C as n' -/
abbrev Cl := Value × Nat × (Addr → Value → Option Addr → TS)
def asE (Dn : Ends) (i : Nat) : Ends := { nx := fun τ G => Dn.nx (τ.set i none) G, rt := Dn.rt, bk := fun τ G => Dn.bk (τ.set i none) G, ct := fun τ G => Dn.ct (τ.set i none) G }
def wCl (K : PySem.W.Frag) (Wo : WX) (Dn : Ends) : List Cl → WX
  | [] => Wo
  | cl :: r => fun cls dx τ G => ∃ b, PySem.W.exmOne K cls cl.1 = some b ∧ (b = true → ∀ a, G a = none → cl.2.2 a cls dx (asE Dn cl.2.1) (τ.set cl.2.1 (some (.ref a))) G) ∧ (b = false → wCl K Wo Dn r cls dx τ G)
inductive ClOk (X : Cx) : List ExceptHandler → List Cl → Prop
  | nil : ClOk X [] []
  | cons {x n : Str} {c : Value} {i : Nat} {ts : Addr → Value → Option Addr → TS} {b0 : Stmt} {bs : List Stmt} {np hp : Pos} {hs : List ExceptHandler} {l : List Cl} (hN : X.N.Nodup) (hi : X.N[i]? = some n) (hl : X.env.kindOf n = some .local) (hc : Names X x c)
      (run : ∀ (a : Addr) (o : Obj) (cls : Value) (dx : Option Addr) (pn : List (Addr × Obj)), Zc cls dx o → (∃ vs, o.data = .fields vs) → PSs (X.suite a ((a, o) :: pn)) (b0 :: bs) (ts a cls dx)) (r : ClOk X hs l) :
      ClOk X (.ExceptHandler (some (.Name x np)) (some n) (b0 :: bs) hp :: hs) ((c, i, ts) :: l)
section
variable {X : Cx} {Wo : WX} {Dn : Ends} {pins : List (Addr × Obj)}
/-- the exception has landed: the clauses, one by one -/
theorem clauses {a : Addr} {B : Heap} {sI s1 : Shared} {h1 : Heap} {τ : L2.St} {G : Hp} {cls : Value} {dx : Option Addr} (hs : X.stack = X.env :: X.outer) (hf : X.env.frame = some X.env.locals) (tk : L2.Takes X Wo) (ok : X.Ok) (J : Inv X pins τ G sI)
    (nb : ∀ b o, sI.heap.get? b = some o → b ∉ frs X.stack → B.get? b = some o) (up : sI.heap.UpToSlots h1) (fl : HandSPX.FlyingZ B (X.env :: X.outer) a (Zc cls dx) h1) (na : G a = none) (os : s1.os = sI.os) (ag : AllBare s1.gens) :
    ∀ {hs' : List ExceptHandler} {l : List Cl}, ClOk X hs' l → wCl X.K Wo Dn l cls dx τ G → wpAny (model X.prog X.w) X.A (handleBy (.ref a) X.env hs') (SP X pins Dn) X.xe { s1 with heap := h1 } := by
  have J1 : Inv X pins τ G { s1 with heap := h1 } := J.landed nb fl.1 up os ag
  obtain ⟨o1, vs1, g1, z1, d1⟩ := fl.there
  have off : a ∉ frs (X.env :: X.outer) := fun m => by
    obtain ⟨_, o2, g2, nf⟩ := fl.2.2.1.mem m
    rw [g1] at g2
    cases g2
    exact nf _ d1
  have offL : a ≠ X.env.locals := fun z => off (List.mem_filterMap.mpr ⟨X.env, List.mem_cons_self, by rw [hf, z]⟩)
  have offF : a ∉ X.fs := fun m => by
    obtain ⟨e, he, q⟩ := List.mem_filterMap.mp m
    exact off (List.mem_filterMap.mpr ⟨e, List.mem_cons_of_mem _ he, q⟩)
  have S1 := J1.suite g1 d1 na offL offF
  intro hs' l k
  induction k with
  | nil =>
    intro w
    obtain ⟨k1, k2, k3, oe, vs, T, oT, ts, he, hz, hd, hv, hr⟩ := id fl
    have goes : wpAny (model X.prog X.w) X.A (setFlight (.ref a) X.env.frame) (fun _ s2 => wpAny (model X.prog X.w) X.A (throw (.ref a) : Sem Flow) (SP X pins Dn) X.xe s2) X.xe { s1 with heap := h1 } := by
      rw [hf]
      exact HandSPX.setFlight_upZ fl fun h2 hh up2 => wpAny_throw (tk _ _ ⟨a, B, sI, pins, τ, G, cls, dx, rfl, J, nb, up.trans up2, .inr (.inr (by rw [hs]; exact hh)), na, os, ag, w⟩)
    refine wpAny_handleBy_nil ?_
    unfold PySem.passOn
    refine wpAny_bind (wpAny_field he hd hv ?_)
    rw [if_neg (fun z : (Value.ref T == Value.none) = true => by simp at z)]
    first
      | exact wpAny_bind (wpAny_pure (wpAny_bind goes))
      | exact wpAny_bind goes
  | @cons x n c i ts b0 bs np hp hs2 l2 hN hi hl hc run r ih =>
    intro w
    obtain ⟨b, hb, yes, no⟩ := w
    have ty : PySem.W.Looks (model X.prog X.w) h1 (typeOf (.ref a)) cls := fun A Q E s k q => wpAny_typeOf_ref (k _ _ g1) (by rw [z1.1]; exact q)
    have mt := PySem.W.exm_one (M := model X.prog X.w) J1.kIn ty hb
    have nm : ∀ {Q E : Value → Shared → Prop}, Q c { s1 with heap := h1 } → wpAny (model X.prog X.w) (X.A.mark (some (.ref a))) (eval (.Name x np) X.env) Q E { s1 with heap := h1 } := fun {Q E} q => by
      obtain ⟨hg, hdb, hm | ⟨hm, hv, hn⟩⟩ := hc
      · exact ld_glob (X := X.suite a ((a, o1) :: (X.pn ++ pins))) S1 hg hm q hdb
      · exact ld_blt (X := X.suite a ((a, o1) :: (X.pn ++ pins))) S1 hg hm hv q hn hdb
    refine wpAny_handleBy_cons (codeAny_handlers_test (nm (mt.here ?_))) (fun q => by cases q)
    cases b with
    | false => exact ih (no rfl)
    | true =>
      refine codeAny_handlers_suite_as (HandSPX.lands_againZ fl fun h2 fl2 up2 => ?_)
      obtain ⟨o2, vs2, g2, z2, d2⟩ := fl2.there
      have J2 : Inv X pins τ G { s1 with heap := h2 } := J.landed nb fl2.1 (up.trans up2) os ag
      have S2 := J2.suite g2 d2 na offL offF
      refine store_ok (X := X.suite a ((a, o2) :: (X.pn ++ pins))) (v := .ref a) S2 hN hi (.inl hl) rfl (fun s3 S3 => ?_) (.inr hl)
      refine wpAny_mono ((run a o2 cls dx (X.pn ++ pins) z2 ⟨_, d2⟩).run [] s3 _ G _ S3 (yes rfl a na)) (fun f s4 sp => ?_) (fun _ _ z => z.elim)
      have fin : ∀ {τ4 : L2.St} {G4 : Hp} {Q : Shared → Prop}, Inv (X.suite a ((a, o2) :: (X.pn ++ pins))) [] τ4 G4 s4 → (∀ s5, Inv X pins (τ4.set i none) G4 s5 → Q s5) →
          wpAny (model X.prog X.w) X.A (do bindName X.env n .none; unbindBehindTheSuite X.env n hp) (fun _ s5 => Q s5) X.xe s4 := fun I4 q => gone_ok (I4.unsuite ok) hN hi hl q
      cases f with
      | next =>
        obtain ⟨τ4, G4, I4, q4⟩ := sp
        exact fin I4 fun s5 I5 => ⟨_, _, I5, q4⟩
      | brk =>
        obtain ⟨τ4, G4, I4, q4⟩ := sp
        exact fin I4 fun s5 I5 => ⟨_, _, I5, q4⟩
      | cont =>
        obtain ⟨τ4, G4, I4, q4⟩ := sp
        exact fin I4 fun s5 I5 => ⟨_, _, I5, q4⟩
      | ret u =>
        obtain ⟨v4, τ4, G4, I4, r4, q4⟩ := sp
        exact fin I4 fun s5 I5 => ⟨_, _, _, I5, r4, q4⟩
theorem ps_tryC {body : List Stmt} {h0 : ExceptHandler} {hs' : List ExceptHandler} {l : List Cl} {pos : Pos} {tb : WX → TS} (hs : X.stack = X.env :: X.outer) (hf : X.env.frame = some X.env.locals) (tk : L2.Takes X Wo)
    (hb : ∀ (W : WX) (pn : List (Addr × Obj)) (xe : Value → Shared → Prop), L2.Takes (X.tr pn xe) W → PassesOwn (model X.prog X.w) X.A X.env xe → PSs (X.tr pn xe) body (tb W))
    (hh : ClOk X (h0 :: hs') l) : PS X (.Try body (h0 :: hs') [] [] pos) (fun Dn σ H => tb (wCl X.K Wo Dn l) Dn σ H) := by
  refine ⟨fun pins s σ H Dn I h => wpAny_Try_except ?_⟩
  have ok := I.ok
  refine wpAny_mono ((hb (wCl X.K Wo Dn l) (X.pn ++ pins) (fun e s1 => wpAny (model X.prog X.w) X.A (noteFrame e X.env) (fun _ s2 => wpAny (model X.prog X.w) X.A (setFlight e none)
    (fun _ s3 => wpAny (model X.prog X.w) X.A (handleBy e X.env (h0 :: hs')) (SP X pins Dn) X.xe s3) X.xe s2) X.xe s1) (fun u s1 xx => ?_) PassesOwn.looking).run [] s σ H Dn (I.toTry _) h) (fun f s1 sp => ?_) (fun _ _ z => z)
  · obtain ⟨a, B, sI, pins1, τ, G, cls, dx, rfl, J, nb, up, sky, na, os, ag, w⟩ := xx
    have sky1 : Sky B (X.env :: X.outer) a (Zc cls dx) X.env.locals s1.heap := by
      rw [← hs]
      exact sky
    exact Sky.land Zc.steady (by rw [ok.frames, hs]) hf sky1 fun h2 fl up2 => clauses hs hf tk ok (J.ofTry ok) nb (up.trans up2) fl na os ag hh w
  · cases f with
    | next =>
      obtain ⟨τ, G, J, q⟩ := sp
      exact wpAny_execs_nil ⟨τ, G, J.ofTry ok, q⟩
    | brk =>
      obtain ⟨τ, G, J, q⟩ := sp
      exact ⟨τ, G, J.ofTry ok, q⟩
    | cont =>
      obtain ⟨τ, G, J, q⟩ := sp
      exact ⟨τ, G, J.ofTry ok, q⟩
    | ret u =>
      obtain ⟨v, τ, G, J, r, q⟩ := sp
      exact ⟨v, τ, G, J.ofTry ok, r, q⟩
end
/-! ### the same on data -/
mutual
def noX : D → Bool
  | .lst xs => noXL xs
  | .tup xs => noXL xs
  | .frl xs => noXL xs
  | .tpz xs => noXL xs
  | .exv _ => false
  | .exf _ _ => false
  | .obj _ fs => noXF fs
  | .dct fs => noXK fs
  | .dco fs => noXK fs
  | _ => true
def noXK : List (DK × D) → Bool
  | [] => true
  | x :: xs => noX x.2 && noXK xs
def noXL : List D → Bool
  | [] => true
  | x :: xs => noX x && noXL xs
def noXF : List (Str × D) → Bool
  | [] => true
  | x :: xs => noX x.2 && noXF xs
end
section
variable {K : PySem.W.Frag} {xa : Xa} {H : Hp}
mutual
theorem R.noX : ∀ {v : V} {d : D}, R K xa H v d → Pu.noX d = true → R K none H v d
  | _, _, .non, _ => .non
  | _, _, .bl b, _ => .bl b
  | _, _, .int i, _ => .int i
  | _, _, .str h, _ => .str h
  | _, _, .lst h r, n => .lst h (RL.noX r n)
  | _, _, .tup h r, n => .tup h (RL.noX r n)
  | _, _, .frl h r, n => .frl h (RL.noX r n)
  | _, _, .tpz h a b r, n => .tpz h a b (RL.noX r n)
  | _, _, .exv h, n => nomatch n
  | _, _, .exf h _ _, n => nomatch n
  | _, _, .obj h r, n => .obj h (RF.noX r n)
  | _, _, .dct h r, n => .dct h (RK.noX r n)
  | _, _, .dco h r, n => .dco h (RK.noX r n)
theorem RK.noX : ∀ {vs : List (Key × V)} {ds : List (DK × D)}, RK K xa H vs ds → Pu.noXK ds = true → RK K none H vs ds
  | _, _, .nil, _ => .nil
  | _, _, .cons o h r, n => .cons o (R.noX h (Bool.and_eq_true_iff.mp n).1) (RK.noX r (Bool.and_eq_true_iff.mp n).2)
theorem RL.noX : ∀ {vs : List V} {ds : List D}, RL K xa H vs ds → Pu.noXL ds = true → RL K none H vs ds
  | _, _, .nil, _ => .nil
  | _, _, .cons h r, n => .cons (R.noX h (Bool.and_eq_true_iff.mp n).1) (RL.noX r (Bool.and_eq_true_iff.mp n).2)
theorem RF.noX : ∀ {vs : List (Str × V)} {ds : List (Str × D)}, RF K xa H vs ds → Pu.noXF ds = true → RF K none H vs ds
  | _, _, .nil, _ => .nil
  | _, _, .cons h r, n => .cons (R.noX h (Bool.and_eq_true_iff.mp n).1) (RF.noX r (Bool.and_eq_true_iff.mp n).2)
end
mutual
theorem R.ofN (xa : Xa) : ∀ {v : V} {d : D}, R K none H v d → R K xa H v d
  | _, _, .non => .non
  | _, _, .bl b => .bl b
  | _, _, .int i => .int i
  | _, _, .str h => .str h
  | _, _, .lst h r => .lst h (RL.ofN xa r)
  | _, _, .tup h r => .tup h (RL.ofN xa r)
  | _, _, .frl h r => .frl h (RL.ofN xa r)
  | _, _, .tpz h a b r => .tpz h a b (RL.ofN xa r)
  | _, _, .exv h => nomatch h
  | _, _, .exf h _ _ => nomatch h
  | _, _, .obj h r => .obj h (RF.ofN xa r)
  | _, _, .dct h r => .dct h (RK.ofN xa r)
  | _, _, .dco h r => .dco h (RK.ofN xa r)
theorem RK.ofN (xa : Xa) : ∀ {vs : List (Key × V)} {ds : List (DK × D)}, RK K none H vs ds → RK K xa H vs ds
  | _, _, .nil => .nil
  | _, _, .cons o h r => .cons o (R.ofN xa h) (RK.ofN xa r)
theorem RL.ofN (xa : Xa) : ∀ {vs : List V} {ds : List D}, RL K none H vs ds → RL K xa H vs ds
  | _, _, .nil => .nil
  | _, _, .cons h r => .cons (R.ofN xa h) (RL.ofN xa r)
theorem RF.ofN (xa : Xa) : ∀ {vs : List (Str × V)} {ds : List (Str × D)}, RF K none H vs ds → RF K xa H vs ds
  | _, _, .nil => .nil
  | _, _, .cons h r => .cons (R.ofN xa h) (RF.ofN xa r)
end
end
theorem RO.ofN {K : PySem.W.Frag} {B : Hp} {u : HO} {o : Ob} (xa : Xa) (h : RO K none B u o) : RO K xa B u o := by
  cases h with
  | L r => exact .L (r.ofN xa)
  | T r => exact .T (r.ofN xa)
theorem RS.ofN {K : PySem.W.Frag} {B0 H0 B H : Hp} {σ : L2.St} {ρ : SEnv} (xa : Xa) (r : RS K none B0 H0 B H σ ρ) : RS K xa B0 H0 B H σ ρ :=
  ⟨r.gw, r.len, fun i d h => by
    obtain ⟨v, e, q⟩ := r.sh i d h
    exact ⟨v, e, q.ofN xa⟩, fun i ds h => by
    obtain ⟨a, vs, e1, e2, e3, e4, q⟩ := r.own i ds h
    exact ⟨a, vs, e1, e2, e3, e4, q.ofN xa⟩, r.ap⟩
/-- the slots behind a suite: all shown ones free of the exception -/
def Sl.noX : Sl → Bool
  | .no => true
  | .sh d => Pu.noX d
  | .own (.L ds) => Pu.noXL ds
  | .own (.T ds) => Pu.noXK ds
theorem RO.noX {K : PySem.W.Frag} {xa : Xa} {B : Hp} {u : HO} {o : Ob} (h : RO K xa B u o) (n : (Sl.own o).noX = true) : RO K none B u o := by
  cases h with
  | L r => exact .L (r.noX n)
  | T r => exact .T (r.noX n)
theorem RS.noX {K : PySem.W.Frag} {xa : Xa} {B0 H0 B H : Hp} {σ : L2.St} {ρ : SEnv} (r : RS K xa B0 H0 B H σ ρ) (n : ∀ s ∈ ρ, s.noX = true) : RS K none B0 H0 B H σ ρ :=
  ⟨r.gw, r.len, fun i d h => by
    obtain ⟨v, e, q⟩ := r.sh i d h
    exact ⟨v, e, q.noX (n _ (List.mem_of_getElem? h))⟩, fun i ds h => by
    obtain ⟨a, vs, e1, e2, e3, e4, q⟩ := r.own i ds h
    exact ⟨a, vs, e1, e2, e3, e4, q.noX (n _ (List.mem_of_getElem? h))⟩, r.ap⟩
/-- which classes a clause takes: the program's tree of classes is flat below SlipError (0) -/
def takesB (c cl : Nat) : Bool := cl == 0 || c == cl
/-- a clause: its class, the slot of its name, its suite -/
abbrev Clm := Nat × Nat × SF
def clRun (i : Nat) (o : Out) : Out := match o with
  | .nx ρ => if (ρ.set i .no).all Sl.noX = true then .nx (ρ.set i .no) else .st
  | .rt d => if noX d = true then .rt d else .st
  | _ => .st
def exD (x : Xc) : D := match x.a with
  | none => .exv x.c
  | some y => .exf x.c y
def clGo : List Clm → Xc → SEnv → Out
  | [], x, ρ => .ex x ρ
  | cl :: r, x, ρ => if takesB x.c cl.1 = true then clRun cl.2.1 (cl.2.2 (ρ.set cl.2.1 (.sh (exD x)))) else clGo r x ρ
def tyS (cs : List Nat) (f : SF) (cls : List Clm) : SF := fun ρ => match f ρ with
  | .ex x ρ' => if cs.contains x.c = true then clGo cls x ρ' else .st
  | o => o
inductive ClmOk (X : Cx) (cs : List Nat) : List ExceptHandler → List Clm → Prop
  | nil : ClmOk X cs [] []
  | cons {x n : Str} {c i : Nat} {g : SF} {b0 : Stmt} {bs : List Stmt} {np hp : Pos} {hs : List ExceptHandler} {l : List Clm} (hN : X.N.Nodup) (hc : Names X x (.ref (He.ga X.K (cN c)))) (hx : ∀ k ∈ cs, PySem.W.exmOne X.K (.ref (He.ga X.K (cN k))) (.ref (He.ga X.K (cN c))) = some (takesB k c))
      (run : ∀ (a : Addr) (o : Obj) (cls : Value) (dx : Option Addr) (pn : List (Addr × Obj)), Zc cls dx o → (∃ vs, o.data = .fields vs) → Pss (X.suite a ((a, o) :: pn)) (some (a, cls, dx)) WF (b0 :: bs) g) (r : ClmOk X cs hs l) (hi : X.N[i]? = some n := by rfl) (hl : X.env.kindOf n = some .local := by rfl) :
      ClmOk X cs (.ExceptHandler (some (.Name x np)) (some n) (b0 :: bs) hp :: hs) ((c, i, g) :: l)
def clsOf (K : PySem.W.Frag) : List Clm → List Cl
  | [] => []
  | cl :: r => (.ref (He.ga K (cN cl.1)), cl.2.1, fun a cls dx => tS K (some (a, cls, dx)) WF cl.2.2) :: clsOf K r
theorem ClmOk.ok {X : Cx} {cs : List Nat} {hs : List ExceptHandler} {l : List Clm} (h : ClmOk X cs hs l) : ClOk X hs (clsOf X.K l) := by
  induction h with
  | nil => exact .nil
  | cons hN hc hx run r hi hl ih => exact .cons hN hi hl hc run ih
theorem wCl_of {X : Cx} {cs : List Nat} {Wo : WX} {Dn : Ends} {B0 H0 B H : Hp} {σ : L2.St} {ρ : SEnv} {x : Xc} {cls : Value} {dx : Option Addr} {hs : List ExceptHandler} {l : List Clm} (hh : ClmOk X cs hs l) (hc : cs.contains x.c = true) (r : RS X.K none B0 H0 B H σ ρ) (xr : XR X.K B cls dx x)
    (p : pS X.K none Wo B0 H0 Dn (clGo l x ρ)) : wCl X.K Wo Dn (clsOf X.K l) cls dx σ H := by
  induction hh with
  | nil => exact p cls dx σ B H r xr
  | @cons y n c i g b0 bs np hp hs2 l2 hN hnm hx run r2 hi hl ih =>
    refine ⟨takesB x.c c, by rw [xr.1]; exact hx x.c (by simpa using hc), fun hb a na => ?_, fun hb => ?_⟩
    · have p : pS X.K none Wo B0 H0 Dn (if takesB x.c c = true then clRun i (g (ρ.set i (.sh (exD x)))) else clGo l2 x ρ) := p
      rw [if_pos hb] at p
      have rx : R X.K (some (a, cls, dx)) B (.ref a) (exD x) := by
        unfold exD
        obtain ⟨e1, z⟩ := xr
        subst e1
        rcases z with ⟨e2, e3⟩ | ⟨dd, u, y, e2, e3, e4, q⟩
        · rw [e2, e3]
          exact .exv rfl
        · rw [e4, e2]
          exact .exf rfl e3 (q.ofN _)
      refine ⟨B0, H0, B, _, (r.ofN (some (a, cls, dx))).set rx i, ?_⟩
      show pS X.K (some (a, cls, dx)) WF B0 H0 (asE Dn i) (g (ρ.set i (.sh (exD x))))
      cases z : g (ρ.set i (.sh (exD x))) with
      | nx ρ' =>
        rw [z] at p
        intro τ B' H' r'
        have p : pS X.K none Wo B0 H0 Dn (if (ρ'.set i .no).all Sl.noX = true then .nx (ρ'.set i .no) else .st) := p
        by_cases q : (ρ'.set i .no).all Sl.noX = true
        · rw [if_pos q] at p
          exact p _ B' H' ((r'.lose none i).noX (List.all_eq_true.mp q))
        · rw [if_neg q] at p
          exact p.elim
      | rt d =>
        rw [z] at p
        intro v B' H' g' r'
        have p : pS X.K none Wo B0 H0 Dn (if noX d = true then .rt d else .st) := p
        by_cases q : noX d = true
        · rw [if_pos q] at p
          exact p v B' H' g' (r'.noX q)
        · rw [if_neg q] at p
          exact p.elim
      | bk ρ' => rw [z] at p; exact p.elim
      | ct ρ' => rw [z] at p; exact p.elim
      | ex x' ρ' => rw [z] at p; exact p.elim
      | st => rw [z] at p; exact p.elim
    · have p : pS X.K none Wo B0 H0 Dn (if takesB x.c c = true then clRun i (g (ρ.set i (.sh (exD x)))) else clGo l2 x ρ) := p
      rw [if_neg (by rw [hb]; exact Bool.false_ne_true)] at p
      exact ih p
theorem s_try {X : Cx} {W : WX} {body : List Stmt} {h0 : ExceptHandler} {hs' : List ExceptHandler} {pos : Pos} {f : SF} {l : List Clm} (cs : List Nat) (tk : L2.Takes X W)
    (hb : ∀ (W : WX) (pn : List (Addr × Obj)) (xe : Value → Shared → Prop), L2.Takes (X.tr pn xe) W → PassesOwn (model X.prog X.w) X.A X.env xe → Pss (X.tr pn xe) none W body f)
    (hh : ClmOk X cs (h0 :: hs') l) (hs : X.stack = X.env :: X.outer := by rfl) (hf : X.env.frame = some X.env.locals := by rfl) : Ps X none W (.Try body (h0 :: hs') [] [] pos) (tyS cs f l) := by
  refine PS.imp (ps_tryC (tb := fun W => tS X.K none W f) hs hf tk hb hh.ok) fun Dn σ H ⟨B0, H0, B, ρ, r, p⟩ => ⟨B0, H0, B, ρ, r, ?_⟩
  unfold tyS at p
  cases z : f ρ with
  | ex x ρ' =>
    rw [z] at p
    intro cls dx τ B' H' r' xr
    have p : pS X.K none W B0 H0 Dn (if cs.contains x.c = true then clGo l x ρ' else .st) := p
    by_cases q : cs.contains x.c = true
    · rw [if_pos q] at p
      exact wCl_of hh q r' xr p
    · rw [if_neg q] at p
      exact p.elim
  | nx ρ' => rw [z] at p; exact p
  | rt d => rw [z] at p; exact p
  | bk ρ' => rw [z] at p; exact p
  | ct ρ' => rw [z] at p; exact p
  | st => rw [z] at p; exact p
end Pu

namespace Pu
open PySem PySem.Spec PyProof.Rows L2 Evl
/-! ### raise -/
def raS (c : Nat) : SF := fun ρ => .ex ⟨c, none⟩ ρ
def raX (c : Nat) (h : F) : SF := fun ρ => shB (h (shv ρ)) ρ fun d => .ex ⟨c, some d⟩ ρ
section
variable {X : Cx} {xa : Xa} {W : WX} {pos pos' p p2 : Pos} {e : Expr} {h : F}
theorem s_raise (c : Nat) {x m : Str} {j : Nat} (hc : X.calm = true) (tk : L2.Takes X W) (gC : X.mg x = some (.ref (He.ga X.K x))) (ok : (He.Fa.exc x).ok X.K = true) (hx : cN c = x := by rfl) (hg : Gl X x := by rfl) (hdb : (x == ("__debug__" : Str)) = false := by decide) :
    Ps X xa W (.Raise (some (.Call (.Name x p) [.Constant (.str m) j p2] [] pos)) none pos') (raS c) := by
  obtain ⟨q1, q2, q3, q4⟩ := He.exc_ok ok
  refine PS.imp (ps_raise hc tk (pmk_own F.excBase_ValueError q1 gC q2 (raises_own q3 q4) hg hdb)) fun Dn σ H ⟨B0, H0, B, ρ, r, pp⟩ => ?_
  exact pp _ none σ B H r ⟨by rw [hx], .inl ⟨rfl, rfl⟩⟩
/-! a class with one field -/
def oexB (K : PySem.W.Frag) (C : Addr) : Bool := match K.lookup C with
  | some ⟨.type "type", _, .cls cd, sl⟩ => (match cd.mro, sl.toList with
    | .ref C' :: bm, [_, _, _, _, some (.builtin n), _] => (C' == C && n == "ValueError.__new__") && ((!cd.hasDel && cd.hasDict) && PySem.HandSPX.refsVE bm)
    | _, _ => false)
  | _ => false
theorem oexB_ok {K : PySem.W.Frag} {C : Addr} (q : oexB K C = true) : ∃ nm q N bs bm sn sub ab col dd k0 k1 k2 k3 k5, K.lookup C = some (excClassObj nm q C N bs bm true sn sub ab col dd k0 k1 k2 k3 k5 "ValueError.__new__") ∧ PySem.HandSPX.refsVE bm = true := by
  unfold oexB at q
  split at q
  · rename_i dd cd sl ho
    split at q
    · rename_i C' bm k0 k1 k2 k3 n k5 hm hs
      simp only [Bool.and_eq_true, beq_iff_eq, Bool.not_eq_true'] at q
      obtain ⟨⟨rfl, rfl⟩, ⟨hdel, hdi⟩, ht⟩ := q
      obtain ⟨nm, bs, mro, ns, qn, hd, sn, sub, ab, col, del⟩ := cd
      dsimp only at hm hdel hdi
      subst hm hdel hdi
      obtain ⟨l⟩ := sl
      have hs : l = [k0, k1, k2, k3, some (.builtin "ValueError.__new__"), k5] := hs
      subst hs
      exact ⟨nm, qn, ns, bs, bm, sn, sub, ab, col, dd, k0, k1, k2, k3, k5, ho, ht⟩
    · cases q
  · cases q
/-- all that is asked of a class with the field f -/
def xfaB (K : PySem.W.Frag) (x f : Str) : Bool := oexB K (He.ga K x) && (decide (PySem.W.findIn K (.ref (He.ga K x)) "__setattr__" = some (some (.builtin "object.__setattr__"))) && (decide (PySem.W.typeIn K (.ref (He.ga K x)) = some (.type "type")) && (PySem.W.keepIn K (.ref (He.ga K x)) &&
  (xfB K (He.ga K x) && (decide (PySem.W.findIn K (.ref (He.ga K x)) f = some none) && (decide (PySem.W.findIn K (.ref (He.ga K x)) "__init__" = some (some (.ref (He.fAd K (x, some "__init__"))))) && decide (PySem.W.typeIn K (.ref (He.fAd K (x, some "__init__"))) = some (.type "function"))))))))
structure XfA (K : PySem.W.Frag) (x f : Str) : Prop where
  oex : OexC K (He.ga K x)
  xf : XfC K (He.ga K x)
  no : PySem.W.findIn K (.ref (He.ga K x)) f = some none
  ini : PySem.W.findIn K (.ref (He.ga K x)) "__init__" = some (some (.ref (He.fAd K (x, some "__init__"))))
  fun_ : PySem.W.typeIn K (.ref (He.fAd K (x, some "__init__"))) = some (.type "function")
theorem xfaB_ok {K : PySem.W.Frag} {x f : Str} (q : xfaB K x f = true) : XfA K x f := by
  unfold xfaB at q
  obtain ⟨q1, q⟩ := Bool.and_eq_true_iff.mp q
  obtain ⟨q2, q⟩ := Bool.and_eq_true_iff.mp q
  obtain ⟨q3, q⟩ := Bool.and_eq_true_iff.mp q
  obtain ⟨q4, q⟩ := Bool.and_eq_true_iff.mp q
  obtain ⟨q5, q⟩ := Bool.and_eq_true_iff.mp q
  obtain ⟨q6, q⟩ := Bool.and_eq_true_iff.mp q
  obtain ⟨q7, q8⟩ := Bool.and_eq_true_iff.mp q
  have xf := xfB_ok q5
  exact ⟨⟨oexB_ok q1, of_decide_eq_true q2, xf.exC, of_decide_eq_true q3, q4⟩, xf, of_decide_eq_true q6, of_decide_eq_true q7, of_decide_eq_true q8⟩
def spI (C : Addr) (f : Str) : Sp := fun vs H Q _ => ∃ a v, vs = [.ref a, v] ∧ H a = some (exo a C none) ∧ ∀ dx, H dx = none → dx ≠ a → Q .non (upd (upd H dx (exd dx [(f, v)])) a (exo a C (some dx)))
/-- the class named x, of number c, its __init__ keeping the promise -/
structure Ini (P : Program) (w : World) (K : PySem.W.Frag) (mg : Str → Option Value) (base : Heap) (k : Nat) (x f : Str) : Prop where
  fa : XfA K x f
  glo : mg x = some (.ref (He.ga K x))
  ex : ∃ (fd : FuncData) (ps : List Str), FnOk P w K mg base (L2.CX P w) k (He.fAd K (x, some "__init__")) fd ps (spI (He.ga K x) f) ∧ Binds K fd ps []
theorem ini_def {P : Program} {w : World} {K : PySem.W.Frag} {mg : Str → Option Value} {base : Heap} {x qual f y : Str} {params : Arguments} {scope : Scope} {dvs : List V} {kws : List (Str × V)} {fI : Addr} {fd : FuncData} {p1 p2 p3 p4 : Pos}
    (T : XfA K x f) (F : FunD K "__init__" qual params [.Assign [.Attribute (.Name "self" p1) f p2] (.Name y p3) p4] scope dvs kws fI fd) (S : FnScope ["self", y] ["self", y] scope) (v1 : Vis scope "self") (v2 : Vis scope y) (hd : (y == ("__debug__" : Str)) = false) (hcd : (y == ("__classdict__" : Str)) = false)
    (hs : ∀ env : PySem.Env, env.scope = scope → swapsWith (.Name y p3) (some (.Attribute (.Name "self" p1) f p2)) p4.line env = pure false) :
    FnOk P w K mg base (L2.CX P w) 1 fI fd ["self", y] (spI (He.ga K x) f) := by
  refine F.ok S (fun vs H Q E h => ?_) (fun cdv A outer s H vs Q E hr h => ⟨_, pss_one (ps_ost (pe_var (i := 0) rfl v1) (pe_var (i := 1) rfl v2 hd hcd) (hs _ rfl)), ?_⟩)
  · obtain ⟨a, v, rfl, _⟩ := h
    rfl
  · obtain ⟨a, v, rfl, ha, hq⟩ := h
    exact ⟨v, rfl, .ref a, rfl, a, He.ga K x, rfl, T.oex, T.no, .inl ⟨ha, fun dx h1 h2 => hq dx h1 h2⟩⟩
theorem s_raiseX (c : Nat) {x f : Str} {k j : Nat} (F : Ini X.prog X.w X.K X.mg X.base k x f) (hr : Room j X.A) (hc : X.calm = true) (tk : L2.Takes X W) (he : Pe X none W e h) (hk : k + 1 ≤ j := by decide) (hx : cN c = x := by rfl) (hf : fN c = f := by rfl) (hg : Gl X x := by rfl) (hdb : (x == ("__debug__" : Str)) = false := by decide)
    (hs : starEach [e] X.env = [(false, eval e X.env)] := by rfl) (hpl : (backTo pos (starEach [] X.env)).any (·.1) = false := by rfl) :
    Ps X none W (.Raise (some (.Call (.Name x p) [e] [] pos)) none pos') (raX c h) := by
  obtain ⟨fd, ps, F1, hb⟩ := F.ex
  refine PS.imp (ps_raise hc tk (pmk_oex F.fa.oex F.fa.ini F.fa.fun_ F1 (hr.mono hk) hb .nil (passes_call tk fun _ _ _ _ z => z.elim) hg F.glo (pa_cons he pa_nil hs) hdb hs hpl)) fun Dn σ H ⟨B0, H0, B, ρ, r, pp⟩ => ?_
  refine meet r pp fun d v B1 H1 g1 rel r1 k1 => ?_
  refine ⟨Nat.le_of_ble_eq_true rfl, fun a na => ⟨a, v, rfl, upd_same, fun dx hd hne => ⟨rfl, dx, [(f, v)], upd_same, ?_, ?_, ?_⟩⟩⟩
  · rw [upd_ne hne, upd_same]
  · rw [upd_ne hne] at hd
    exact hd
  · have hd1 : H1 dx = none := by
      rw [upd_ne hne] at hd
      exact hd
    have eH : upd (del (upd (upd (upd H1 a (exo a (He.ga X.K x) none)) dx (exd dx [(f, v)])) a (exo a (He.ga X.K x) (some dx))) a) dx (.xd [(f, v)]) = upd H1 dx (.xd [(f, v)]) := by
      funext b
      by_cases h1 : b = dx
      · rw [h1, upd_same, upd_same]
      · rw [upd_ne h1, upd_ne h1]
        by_cases h2 : b = a
        · rw [h2, del_same, na]
        · rw [del_ne h2, upd_ne h2, upd_ne h1, upd_ne h2]
    rw [eH]
    have g2 := Gw.new (o := .xd [(f, v)]) g1.le hd1
    exact k1 _ (some dx) σ _ _ (r1.grow g2) ⟨by rw [hx], .inr ⟨dx, v, d, rfl, by rw [hf]; exact upd_same, rfl, rel.mono g2.bup⟩⟩
end
/-! ### what a suite asks of its exception -/
def fldD (c : Nat) : D → Option D
  | .exf c' y => if c' = c then some y else none
  | _ => none
def isX (cs : List Nat) (cl : Nat) : D → Option D
  | .exv c => if cs.contains c = true then some (.bl (takesB c cl)) else none
  | _ => none
def excCB (K : PySem.W.Frag) (D : Addr) : Bool := decide (PySem.W.findIn K (.ref D) "__getattribute__" = some (some (.builtin "BaseException.__getattribute__"))) && (decide (PySem.W.findIn K (.ref D) "__getattr__" = some none) && (decide (PySem.W.subIn K (.ref D) (.type "BaseException") = some true) && (PySem.W.hasDictIn K D &&
  (decide (PySem.W.findIn K (.ref D) "__class__" = some (some (.builtin "object.__class__"))) && (decide (PySem.W.specialIn K (.builtin "object.__class__") "__get__" = some (some (.builtin "getset_descriptor.__get__"))) && (decide (PySem.W.takesIn K (.builtin "object.__class__") = some true) && decide (PySem.W.mroIn K D (.type "object") = some true)))))))
theorem excCB_ok {K : PySem.W.Frag} {D : Addr} (q : excCB K D = true) : ExcC K D := by
  unfold excCB at q
  obtain ⟨q1, q⟩ := Bool.and_eq_true_iff.mp q
  obtain ⟨q2, q⟩ := Bool.and_eq_true_iff.mp q
  obtain ⟨q3, q⟩ := Bool.and_eq_true_iff.mp q
  obtain ⟨q4, q⟩ := Bool.and_eq_true_iff.mp q
  obtain ⟨q5, q⟩ := Bool.and_eq_true_iff.mp q
  obtain ⟨q6, q⟩ := Bool.and_eq_true_iff.mp q
  obtain ⟨q7, q8⟩ := Bool.and_eq_true_iff.mp q
  exact ⟨of_decide_eq_true q1, of_decide_eq_true q2, of_decide_eq_true q3, q4, of_decide_eq_true q5, of_decide_eq_true q6, of_decide_eq_true q7, of_decide_eq_true q8⟩
def kitB (K : PySem.W.Frag) (c : Nat) (v : Value) (b : Bool) : Bool := decide (PySem.W.kitOne K (.ref (He.ga K (cN c))) v = some b)
section
variable {X : Cx} {W : WX} {pos p p2 p3 : Pos} {e : Expr} {h : F} {a : Addr} {o : Obj} {cls : Value} {dx : Option Addr} {pn : List (Addr × Obj)}
theorem p_fld (c : Nat) {x f : Str} (T : XfA X.K x f) (hz : Zc cls dx o) (hf : ∃ vs, o.data = .fields vs) (he : Pe (X.suite a ((a, o) :: pn)) (some (a, cls, dx)) W e h) (hx : cN c = x := by rfl) (hff : fN c = f := by rfl) (hb : attributeBase e f X.env (eval e X.env) = eval e X.env := by rfl) :
    Pe (X.suite a ((a, o) :: pn)) (some (a, cls, dx)) W (.Attribute e f pos) (op1 (fldD c) h) := by
  refine PE.imp (pe_xf T.xf T.no hz hf he hb) fun σ H Q hq => ?_
  obtain ⟨Hb, ρ, le, re, q⟩ := hq
  refine ⟨Hb, ρ, le, re, post_bind le q fun d v B1 H1 e1 g1 r1 p1 => ?_⟩
  cases r1 with
  | exf k1 k2 k3 =>
    rename_i c' u y
    by_cases hc : c' = c
    · subst hc
      cases k1
      have p1 : post X.K (R X.K _) (WE W σ) B1 H1 Q (ofO (if c' = c' then some y else none)) := p1
      rw [if_pos rfl] at p1
      refine ⟨rfl, by rw [hx], _, _, u, rfl, g1.le _ _ k2, ?_, post_here g1.le p1 k3⟩
      rw [← hff]
      simp [List.lookup]
    · have p1 : post X.K (R X.K _) (WE W σ) B1 H1 Q (ofO (if c' = c then some y else none)) := p1
      rw [if_neg hc] at p1
      exact p1.elim
  | _ => exact p1.elim
theorem p_isX (i cl : Nat) (cs : List Nat) {n x : Str} {v : V} {cv : Value} (hT : PE (X.suite a ((a, o) :: pn)) (.Name x p3) (tC v)) (hv : ∀ u, RelV v u → u = cv) (hk : ∀ c ∈ cs, ExcC X.K (He.ga X.K (cN c)) ∧ PySem.W.kitOne X.K (.ref (He.ga X.K (cN c))) cv = some (takesB c cl)) (hz : Zc cls dx o) (hf : ∃ vs, o.data = .fields vs) (hm : X.mg "isinstance" = none) (hg : Gl X "isinstance" := by rfl)
    (hN : X.N[i]? = some n := by rfl) (hvis : Vis X.env.scope n := by first | exact Or.inl rfl | exact Or.inr (Or.inl rfl) | exact Or.inr (Or.inr rfl)) (hd : (n == ("__debug__" : Str)) = false := by decide) (hcd : (n == ("__classdict__" : Str)) = false := by decide)
    (hb : bootBuiltins "isinstance" = some (.builtin "isinstance") := by decide +kernel) (he : starEach [.Name n p2, .Name x p3] X.env = (false, eval (.Name n p2) X.env) :: starEach [.Name x p3] X.env := by rfl) (he2 : starEach [.Name x p3] X.env = (false, eval (.Name x p3) X.env) :: starEach [] X.env := by rfl)
    (hpl : (backTo pos (starEach [.Name x p3] X.env)).any (·.1) = false := by rfl) : Pe (X.suite a ((a, o) :: pn)) (some (a, cls, dx)) W (.Call (.Name "isinstance" p) [.Name n p2, .Name x p3] [] pos) (op1 (isX cs cl) (vr i)) := by
  refine ⟨fun pins s σ H Q I hq => ?_⟩
  obtain ⟨Hb, ρ, le, re, q⟩ := hq
  unfold op1 vr at q
  cases z : ρ[i]? with
  | none => rw [z] at q; exact q.elim
  | some od =>
    cases od with
    | none => rw [z] at q; exact q.elim
    | some d =>
      rw [z] at q
      obtain ⟨v1, e1, r1⟩ := re.at_ i d z
      cases r1 with
      | @exv a1 c hxa =>
        cases hxa
        by_cases hc : cs.contains c = true
        · have q : post X.K (R X.K (some (a, Value.ref (He.ga X.K (cN c)), none))) (WE W σ) Hb H Q (ofO (if cs.contains c = true then some (.bl (takesB c cl)) else none)) := q
          rw [if_pos hc] at q
          obtain ⟨x1, x2⟩ := hk c (by simpa using hc)
          refine (pe_callB (call_isE (X := X) (a := a) (pn := pn) x1 hz hf) hg hm hb (pa_cons (pe_var hN hvis hd hcd) (pa_cons hT pa_nil he2) he) (by decide) (by decide) he hpl).run pins s σ H Q I ?_
          exact ⟨_, e1, v, cv, takesB c cl, rfl, hv, x2, post_here le q (.bl _)⟩
        · have q : post X.K (R X.K (some (a, Value.ref (He.ga X.K (cN c)), none))) (WE W σ) Hb H Q (ofO (if cs.contains c = true then some (.bl (takesB c cl)) else none)) := q
          rw [if_neg hc] at q
          exact q.elim
      | _ => exact q.elim
theorem p_isXv (i : Nat) (cs : List Nat) {n : Str} (hm : X.mg "isinstance" = none) (hmv : X.mg "ValueError" = none) (hk : ∀ c ∈ cs, ExcC X.K (He.ga X.K (cN c)) ∧ PySem.W.kitOne X.K (.ref (He.ga X.K (cN c))) (.type "ValueError") = some true) (hz : Zc cls dx o) (hf : ∃ vs, o.data = .fields vs) (hg : Gl X "isinstance" := by rfl) (hgv : Gl X "ValueError" := by rfl)
    (hN : X.N[i]? = some n := by rfl) (hvis : Vis X.env.scope n := by first | exact Or.inl rfl | exact Or.inr (Or.inl rfl) | exact Or.inr (Or.inr rfl)) (hd : (n == ("__debug__" : Str)) = false := by decide) (hcd : (n == ("__classdict__" : Str)) = false := by decide)
    (he : starEach [.Name n p2, .Name "ValueError" p3] X.env = (false, eval (.Name n p2) X.env) :: starEach [.Name "ValueError" p3] X.env := by rfl) (he2 : starEach [.Name "ValueError" p3] X.env = (false, eval (.Name "ValueError" p3) X.env) :: starEach [] X.env := by rfl)
    (hpl : (backTo pos (starEach [.Name "ValueError" p3] X.env)).any (·.1) = false := by rfl) : Pe (X.suite a ((a, o) :: pn)) (some (a, cls, dx)) W (.Call (.Name "isinstance" p) [.Name n p2, .Name "ValueError" p3] [] pos) (op1 (isX cs 0) (vr i)) :=
  p_isX (X := X) i 0 cs (v := .ty "ValueError") (cv := .type "ValueError") (pe_bltn (X := X.suite a ((a, o) :: pn)) hgv hmv (u := .type "ValueError") (by decide +kernel) rfl) (fun u r => r) (fun c hc => hk c hc) hz hf hm hg hN hvis hd hcd (by decide +kernel) he he2 hpl
theorem p_isXc (i cl : Nat) (cs : List Nat) {n x : Str} (hm : X.mg "isinstance" = none) (hmx : X.mg x = some (.ref (He.ga X.K x))) (hk : ∀ c ∈ cs, ExcC X.K (He.ga X.K (cN c)) ∧ PySem.W.kitOne X.K (.ref (He.ga X.K (cN c))) (.ref (He.ga X.K x)) = some (takesB c cl)) (hz : Zc cls dx o) (hf : ∃ vs, o.data = .fields vs) (hg : Gl X "isinstance" := by rfl) (hgx : Gl X x := by rfl)
    (hN : X.N[i]? = some n := by rfl) (hvis : Vis X.env.scope n := by first | exact Or.inl rfl | exact Or.inr (Or.inl rfl) | exact Or.inr (Or.inr rfl)) (hd : (n == ("__debug__" : Str)) = false := by decide) (hcd : (n == ("__classdict__" : Str)) = false := by decide) (hdx : (x == ("__debug__" : Str)) = false := by decide)
    (he : starEach [.Name n p2, .Name x p3] X.env = (false, eval (.Name n p2) X.env) :: starEach [.Name x p3] X.env := by rfl) (he2 : starEach [.Name x p3] X.env = (false, eval (.Name x p3) X.env) :: starEach [] X.env := by rfl)
    (hpl : (backTo pos (starEach [.Name x p3] X.env)).any (·.1) = false := by rfl) : Pe (X.suite a ((a, o) :: pn)) (some (a, cls, dx)) W (.Call (.Name "isinstance" p) [.Name n p2, .Name x p3] [] pos) (op1 (isX cs cl) (vr i)) :=
  p_isX (X := X) i cl cs (v := .ref (He.ga X.K x)) (cv := .ref (He.ga X.K x)) (pe_glob (X := X.suite a ((a, o) :: pn)) hgx hmx rfl hdx) (fun u r => r) hk hz hf hm hg hN hvis hd hcd (by decide +kernel) he he2 hpl
end
end Pu

namespace Pu
open PySem PySem.Spec PyProof.Rows L2 Evl
/-! ### ''.join -/
def jn (a : List Nat) (zs : List (List Nat)) : Option D := if (zs.map List.length).sum + zs.length * a.length ≤ 16777216 then some (.str (TL.joinL a zs)) else none
def dJoin : D → D → Option D
  | .str a, .lst ds => (strsOf ds).bind (jn a)
  | .str a, .tup ds => (strsOf ds).bind (jn a)
  | _, _ => none
theorem joinL_ok {a : List Nat} (ha : okS a) : ∀ {zs : List (List Nat)}, (∀ l ∈ zs, okS l) → okS (TL.joinL a zs)
  | [], _ => okS.nil
  | [p], h => h p List.mem_cons_self
  | p :: q :: r, h => (h p List.mem_cons_self).app (ha.app (joinL_ok ha (zs := q :: r) fun l hl => h l (List.mem_cons_of_mem _ hl)))
def tyStr : D → Bool
  | .str _ => true
  | _ => false
def tyLst : D → Bool
  | .lst _ => true
  | _ => false
/-- o.m(e): what o is is looked at first -/
def mt1 (ty : D → Bool) (q : D → D → Option D) (f h : F) : F := fun ρ => (f ρ).bind fun d => if ty d = true then (h ρ).bind fun y => ofO (q d y) else .st
/-- l.index(x) -/
def idx (d : D) : List D → Option Nat
  | [] => none
  | e :: es => if eqd e d = true then some 0 else (idx d es).map (· + 1)
def dIndex : D → D → Option D
  | .lst ds, d => if dep (.lst ds) ≤ 60 ∧ dep d ≤ 60 then (idx d ds).map fun j => .int (j : Nat) else none
  | _, _ => none
theorem pyL_map : ∀ ds : List D, pyL ds = ds.map py
  | [] => rfl
  | d :: ds => by
    show py d :: pyL ds = _
    rw [pyL_map ds] <;> rfl
theorem idx_spec {d : D} : ∀ {ds : List D} {j : Nat}, idx d ds = some j → ∃ z, (pyL ds)[j]? = some z ∧ PyData.eqv z (py d) = true ∧ ∀ (m : Nat) (z' : PyData), m < j → (pyL ds)[m]? = some z' → PyData.eqv z' (py d) = false
  | [], _, h => nomatch h
  | e :: es, j, h => by
    unfold idx at h
    by_cases c : eqd e d = true
    · rw [if_pos c] at h
      cases h
      exact ⟨py e, rfl, c, fun m z' hm => absurd hm (Nat.not_lt_zero _)⟩
    · rw [if_neg c] at h
      obtain ⟨k, e1, e2⟩ := Option.map_eq_some_iff.mp h
      subst e2
      obtain ⟨z, h1, h2, h3⟩ := idx_spec e1
      refine ⟨z, h1, h2, fun m z' hm hz => ?_⟩
      cases m with
      | zero =>
        cases (show some (py e) = some z' from hz)
        exact Bool.eq_false_iff.mpr c
      | succ m => exact h3 m z' (by omega) hz
section
variable {X : Cx} {xa : Xa} {W : WX} {pos apos : Pos} {o e : Expr} {es : List Expr} {f g : F} {fs : Fs}
theorem p_join (ho : Pe X xa W o f) (he : Pe X xa W e g) (hs : starEach [e] X.env = [(false, eval e X.env)] := by rfl) (hbase : attributeBase o "join" X.env (eval o X.env) = eval o X.env := by rfl) (hline : (apos.endLine == pos.line) = true := by rfl) :
    Pe X xa W (.Call (.Attribute o "join" apos) [e] [] pos) (mt1 tyStr dJoin f g) := by
  refine PE.imp (pe_join ho he hs hbase hline) fun σ H Q hq => ?_
  obtain ⟨Hb, ρ, le, re, p⟩ := hq
  refine ⟨Hb, ρ, le, re, post_bind le p fun d v B1 H1 e1 g1 r1 p1 => ?_⟩
  cases r1 with
  | @str a ha =>
    refine ⟨⟨_, rfl⟩, B1, ρ, g1.le, re.mono g1.bup, post_bind g1.le p1 fun d2 v2 B2 H2 e2 g2 r2 p2 => ?_⟩
    have fin : ∀ {b : Addr} {vs : List V} {ds : List D}, v2 = .ref b → (H2 b = some (.lst vs) ∨ H2 b = some (.tup vs)) → RL X.K xa B2 vs ds → post X.K (R X.K xa) (WE W σ) B2 H2 Q (ofO ((strsOf ds).bind (jn a))) →
        ∃ (a1 : Str) (p1 : Addr) (ys : List Str), V.str (sOf a) = .str a1 ∧ [v2] = [.ref p1] ∧ (SqL X.K H2 p1 (ys.map V.str) ∨ SqT X.K H2 p1 (ys.map V.str)) ∧ (ys.map (·.length)).sum + ys.length * a1.length ≤ 16777216 ∧ Q (.str (Txt.join a1 ys)) H2 := by
      intro b vs ds ev hb rl pp
      subst ev
      cases hz : strsOf ds with
      | none => rw [hz] at pp; exact pp.elim
      | some zs =>
        rw [hz] at pp
        have pp : post X.K (R X.K xa) (WE W σ) B2 H2 Q (ofO (jn a zs)) := pp
        obtain ⟨evs, oks⟩ := rl.strs hz
        unfold jn at pp
        by_cases hl : (zs.map List.length).sum + zs.length * a.length ≤ 16777216
        · rw [if_pos hl] at pp
          refine ⟨sOf a, b, zs.map sOf, rfl, rfl, ?_, ?_, ?_⟩
          · rw [← evs]
            rcases hb with hb | hb
            · exact .inl (SqL.of hb)
            · exact .inr (SqT.of hb)
          · have e1 : ((zs.map sOf).map (·.length)) = zs.map List.length := by
              rw [List.map_map]
              exact List.map_congr_left fun l _ => sOf_len l
            rw [e1, List.length_map, sOf_len]
            exact hl
          · have e2 : Txt.join (sOf a) (zs.map sOf) = sOf (TL.joinL a zs) := by
              rw [TL.join_eq, ← sOf_toList (Str.join (sOf a) (zs.map sOf))]
              have e3 := TL.tl_join (sOf a) (zs.map sOf)
              have e4 : (zs.map sOf).map TL.tl = zs := by
                rw [List.map_map]
                have : ∀ l : List Nat, (TL.tl ∘ sOf) l = l := fun l => rfl
                rw [List.map_congr_left (g := id) fun l _ => this l, List.map_id]
              rw [e4] at e3
              exact congrArg sOf e3
            rw [e2]
            exact post_here g2.le pp (.str (joinL_ok ha oks))
        · rw [if_neg hl] at pp
          exact pp.elim
    cases r2 with
    | lst h1 q1 => exact fin rfl (.inl (g2.le _ _ h1)) q1 p2
    | tup h1 q1 => exact fin rfl (.inr (g2.le _ _ h1)) q1 p2
    | _ => exact p2.elim
  | _ => exact p1.elim
theorem p_index (hu : X.A.units + 65 < cLine) (ho : Pe X xa W o f) (he : Pe X xa W e g) (hbase : attributeBase o "index" X.env (eval o X.env) = eval o X.env := by rfl)
    (hfew : ((backTo pos (starEach [e] X.env)).all (fun x => !x.1) && (backToKw pos (keywordEach [] X.env)).all (fun x => x.1.isSome) && decide (([e] : List Expr).length + ([] : List Keyword).length + (if ([] : List Keyword).isEmpty then 0 else 1) < 30)) = true := by rfl)
    (hline : (apos.endLine == pos.line) = true := by rfl) (hs : starEach [e] X.env = [(false, eval e X.env)] := by rfl) : Pe X xa W (.Call (.Attribute o "index" apos) [e] [] pos) (mt1 tyLst dIndex f g) := by
  refine PE.imp (pe_bm PySem.F.plainAttrs_list PySem.F.slot_list_index PySem.F.type_list_index (mt_indexD hu) ho (pa_cons he pa_nil hs) hbase hfew hline hs) fun σ H Q hq => ?_
  obtain ⟨Hb, ρ, le, re, p⟩ := hq
  refine ⟨Hb, ρ, le, re, post_bind le p fun d v B1 H1 e1 g1 r1 p1 => ?_⟩
  cases r1 with
  | @lst a vs ds h1 q1 =>
    refine ⟨.inl ⟨rfl, vs, SqL.of (g1.le _ _ h1)⟩, B1, ρ, g1.le, re.mono g1.bup, post_bind g1.le p1 fun d2 v2 B2 H2 e2 g2 r2 p2 => ?_⟩
    have p2 : post X.K (R X.K xa) (WE W σ) B2 H2 Q (ofO (if dep (.lst ds) ≤ 60 ∧ dep d2 ≤ 60 then (idx d2 ds).map fun j => .int (j : Nat) else none)) := p2
    by_cases c : dep (.lst ds) ≤ 60 ∧ dep d2 ≤ 60
    · rw [if_pos c] at p2
      cases hj : idx d2 ds with
      | none => rw [hj] at p2; exact p2.elim
      | some j =>
        rw [hj] at p2
        have rl : R X.K xa B2 (.ref a) (.lst ds) := (R.lst h1 q1).mono g2.bup
        obtain ⟨a1, b1⟩ := (rl.mono g2.le).shp c.1
        obtain ⟨a2, b2⟩ := (r2.mono g2.le).shp c.2
        obtain ⟨z, h3, h4, h5⟩ := idx_spec hj
        exact ⟨a, v2, py d2, pyL ds, j, z, rfl, rfl, a1, a2, b1, b2, h3, h4, h5, post_here g2.le p2 (.int _)⟩
    · rw [if_neg c] at p2
      exact p2.elim
  | _ => exact p1.elim
end
end Pu

namespace Pu
open PySem PySem.Spec PyProof.Rows L2 Evl
/-! ### own lists: displays, comprehensions -/
def lnO (as : Fs) : Fs := fun ρ => (as ρ).bind fun xs => if xs.length ≤ 1000 then .ok xs else .st
section
variable {X : Cx} {xa : Xa} {W : WX} {pos py spos : Pos} {es : List Expr} {fs : Fs} {tg iter elt : Expr} {ifs : List Expr}
theorem o_lst (h : Pa X xa W es fs) : Po1 X xa W (.List es pos) (lnO fs) := by
  refine PE.imp (pe_lst h) fun σ H Q hq => ?_
  obtain ⟨Hb, ρ, le, re, p⟩ := hq
  refine ⟨Hb, ρ, le, re, postO_bind p fun ds vs B1 H1 e1 g1 r1 p1 => ?_⟩
  by_cases hl : ds.length ≤ 1000
  · rw [if_pos hl] at p1
    refine ⟨by rw [r1.length]; exact le1000 hl, fun q hn => ?_⟩
    exact p1 q vs B1 _ ⟨Ex.new hn, Ex.refl _, g1.le.trans (Ex.new hn), fun _ _ _ => rfl⟩ (fresh_back g1.le hn) hn upd_same r1
  · rw [if_neg hl] at p1
    exact p1.elim
theorem o_lc {scope : Scope} {own : List (Str × Nat)} {it : Fs} {t : Tg} {c : T} {f : F} (hc : X.calm = true) (hN : X.N.Nodup) (hi : Pi X xa W tg iter it) (ok : BlkOk X.N X.env.scope scope own)
    (hg : ∀ (s : Shared) (H : Hp) (C : Addr) (cl : List (Str × Addr)) (fp : List Addr), Pg (X.blk s H scope (compEnvC scope cl C X.env) fp) tg t)
    (ht : ∀ (s : Shared) (H : Hp) (C : Addr) (cl : List (Str × Addr)) (fp : List Addr), Pts (X.blk s H scope (compEnvC scope cl C X.env) fp) xa WF ifs c)
    (he : ∀ (s : Shared) (H : Hp) (C : Addr) (cl : List (Str × Addr)) (fp : List Addr), Pe (X.blk s H scope (compEnvC scope cl C X.env) fp) xa WF elt f)
    (hx : ∀ i ∈ t.ix, i ∈ own.map (·.2) := by decide) (hs : ∀ x, foldedSetIterable iter X.env x = pure x := by intro _; rfl) : Po1 X xa W (.ListComp elt [⟨tg, iter, ifs, 0⟩] scope pos) (lcO it (own.map (·.2)) t c f) :=
  PE.imp (pe_lc (tt := tPT X.K xa WF c) (te := tP X.K xa WF f) hc hN hi ok hg ht he hs) fun σ H Q hq => t_lc hx hq
/-- name = [..] -/
theorem s_lc {i : Nat} {y : Str} {scope : Scope} {own : List (Str × Nat)} {it : Fs} {t : Tg} {c : T} {f : F} (hc : X.calm = true) (hN : X.N.Nodup) (hi : Pi X xa W tg iter it) (ok : BlkOk X.N X.env.scope scope own)
    (hg : ∀ (s : Shared) (H : Hp) (C : Addr) (cl : List (Str × Addr)) (fp : List Addr), Pg (X.blk s H scope (compEnvC scope cl C X.env) fp) tg t)
    (ht : ∀ (s : Shared) (H : Hp) (C : Addr) (cl : List (Str × Addr)) (fp : List Addr), Pts (X.blk s H scope (compEnvC scope cl C X.env) fp) xa WF ifs c)
    (he : ∀ (s : Shared) (H : Hp) (C : Addr) (cl : List (Str × Addr)) (fp : List Addr), Pe (X.blk s H scope (compEnvC scope cl C X.env) fp) xa WF elt f)
    (hsw : swapsWith (.ListComp elt [⟨tg, iter, ifs, 0⟩] scope pos) (some (.Name y py)) spos.line X.env = pure true := by exact sw_true rfl rfl rfl rfl)
    (hx : ∀ i ∈ t.ix, i ∈ own.map (·.2) := by decide) (hs : ∀ x, foldedSetIterable iter X.env x = pure x := by intro _; rfl) (hy : X.N[i]? = some y := by rfl) (hyl : X.env.scope.names.lookup y = some .local := by rfl) :
    Ps X xa W (.Assign [.Name y py] (.ListComp elt [⟨tg, iter, ifs, 0⟩] scope pos) spos) (asS i (lcF it (own.map (·.2)) t c f)) := by
  refine PS.imp (ps_setLc (tt := tPT X.K xa WF c) (te := tP X.K xa WF f) hc hN hy hyl hsw hi ok hg ht he hs) fun Dn σ H ⟨B0, H0, B, ρ, r, p⟩ => ?_
  refine t_lc hx (tO_of ?_)
  exact meet r p fun d v B' H' g rel r' k => k _ B' H' (r'.set rel i)
theorem s_lcO {i : Nat} {y : Str} {scope : Scope} {own : List (Str × Nat)} {it : Fs} {t : Tg} {c : T} {f : F} (hc : X.calm = true) (hN : X.N.Nodup) (hi : Pi X xa W tg iter it) (ok : BlkOk X.N X.env.scope scope own)
    (hg : ∀ (s : Shared) (H : Hp) (C : Addr) (cl : List (Str × Addr)) (fp : List Addr), Pg (X.blk s H scope (compEnvC scope cl C X.env) fp) tg t)
    (ht : ∀ (s : Shared) (H : Hp) (C : Addr) (cl : List (Str × Addr)) (fp : List Addr), Pts (X.blk s H scope (compEnvC scope cl C X.env) fp) xa WF ifs c)
    (he : ∀ (s : Shared) (H : Hp) (C : Addr) (cl : List (Str × Addr)) (fp : List Addr), Pe (X.blk s H scope (compEnvC scope cl C X.env) fp) xa WF elt f)
    (hsw : swapsWith (.ListComp elt [⟨tg, iter, ifs, 0⟩] scope pos) (some (.Name y py)) spos.line X.env = pure true := by exact sw_true rfl rfl rfl rfl)
    (hx : ∀ i ∈ t.ix, i ∈ own.map (·.2) := by decide) (hs : ∀ x, foldedSetIterable iter X.env x = pure x := by intro _; rfl) (hy : X.N[i]? = some y := by rfl) (hyl : X.env.scope.names.lookup y = some .local := by rfl) :
    Ps X xa W (.Assign [.Name y py] (.ListComp elt [⟨tg, iter, ifs, 0⟩] scope pos) spos) (aoS i (lcO it (own.map (·.2)) t c f)) := by
  refine PS.imp (ps_setLc (tt := tPT X.K xa WF c) (te := tP X.K xa WF f) hc hN hy hyl hsw hi ok hg ht he hs) fun Dn σ H ⟨B0, H0, B, ρ, r, p⟩ => ?_
  refine t_lc hx ?_
  exact meetO r p fun ds a xs B' H' n1 hp n0 rl hne r' k => k _ B' H' (r'.setO hp n1 n0 rl hne i)
end
/-! ### a, b = x, y -/
inductive Zm where
  | s (f : F) | i (f : F) | o (g : Fs)
def tZ (K : PySem.W.Frag) (xa : Xa) (W : WX) : Zm → TE
  | .s f => tP K xa W f
  | .i f => tP K xa W f
  | .o g => tO K xa W g
abbrev Pz (X : Cx) (xa : Xa) (W : WX) (e : Expr) (z : Zm) : Prop := PE X e (tZ X.K xa W z)
def zRun (z : Zm) (ρ : SEnv) (k : Sl → Out) : Out := match z with
  | .s f => shB (f (shv ρ)) ρ fun d => k (.sh d)
  | .i f => shB (f (pkv ρ)) (frA ρ) fun d => if imm d = true then k (.sh d) else .st
  | .o g => shB (g (shv ρ)) ρ fun ds => k (.ow ds)
def paS (i j : Nat) (z1 z2 : Zm) : SF := fun ρ => zRun z1 ρ fun s1 => zRun z2 ρ fun s2 => .nx ((ρ.set i s1).set j s2)
def pa3S (i j l : Nat) (z1 z2 z3 : Zm) : SF := fun ρ => zRun z1 ρ fun s1 => zRun z2 ρ fun s2 => zRun z3 ρ fun s3 => .nx (((ρ.set i s1).set j s2).set l s3)
section
variable {K : PySem.W.Frag} {xa : Xa} {W : WX} {B0 H0 B H : Hp} {σ τ : L2.St} {ρ pd : SEnv}
theorem getsnoc {α : Type} {l : List α} {x y : α} {i : Nat} (h : (l ++ [x])[i]? = some y) : (i < l.length ∧ l[i]? = some y) ∨ (i = l.length ∧ x = y) := by
  by_cases c : i < l.length
  · rw [List.getElem?_append_left c] at h
    exact .inl ⟨c, h⟩
  · rw [List.getElem?_append_right (by omega)] at h
    have e : i - l.length = 0 := by
      cases z : i - l.length with
      | zero => rfl
      | succ n => rw [z] at h; cases h
    rw [e] at h
    exact .inr ⟨by omega, Option.some.inj h⟩
theorem RS.snoc {v : V} {d : D} (r : RS K xa B0 H0 B H σ ρ) (q : R K xa B v d) : RS K xa B0 H0 B H (σ ++ [some v]) (ρ ++ [.sh d]) := by
  have hl := r.len
  have low : ∀ {i : Nat}, i < ρ.length → (σ ++ [some v])[i]? = σ[i]? := fun h => List.getElem?_append_left (by omega)
  refine ⟨r.gw, by rw [List.length_append, List.length_append, hl]; rfl, fun i e h => ?_, fun i ds h => ?_, fun i j ds es a h1 h2 h3 h4 => ?_⟩
  · rcases getsnoc h with ⟨c, h⟩ | ⟨rfl, h9⟩
    · rw [low c]
      exact r.sh i e h
    · cases h9
      exact ⟨v, by rw [hl, List.getElem?_append_right (Nat.le_refl _), Nat.sub_self]; rfl, q⟩
  · rcases getsnoc h with ⟨c, h⟩ | ⟨_, h⟩
    · rw [low c]
      exact r.own i ds h
    · cases h
  · rcases getsnoc h1 with ⟨c1, h1⟩ | ⟨_, h1⟩
    · rcases getsnoc h2 with ⟨c2, h2⟩ | ⟨_, h2⟩
      · exact r.ap i j ds es a h1 h2 ((low c1).symm.trans h3) ((low c2).symm.trans h4)
      · cases h2
    · cases h1
theorem RS.snocOb {p : Addr} {xs : HO} {ds : Ob} (r : RS K xa B0 H0 B H σ ρ) (hp : H p = some xs) (n : B p = none) (n0 : H0 p = none) (q : RO K xa B xs ds) (hne : ∀ (j : Nat) (es : Ob), ρ[j]? = some (Sl.own es) → σ[j]? ≠ some (some (V.ref p))) :
    RS K xa B0 H0 B H (σ ++ [some (.ref p)]) (ρ ++ [.own ds]) := by
  have hl := r.len
  have low : ∀ {i : Nat}, i < ρ.length → (σ ++ [some (V.ref p)])[i]? = σ[i]? := fun h => List.getElem?_append_left (by omega)
  have top : (σ ++ [some (V.ref p)])[ρ.length]? = some (some (V.ref p)) := by
    rw [hl, List.getElem?_append_right (Nat.le_refl _), Nat.sub_self]
    rfl
  refine ⟨r.gw, by rw [List.length_append, List.length_append, hl]; rfl, fun i e h => ?_, fun i es h => ?_, fun i j es fs a h1 h2 h3 h4 => ?_⟩
  · rcases getsnoc h with ⟨c, h⟩ | ⟨_, h⟩
    · rw [low c]
      exact r.sh i e h
    · cases h
  · rcases getsnoc h with ⟨c, h⟩ | ⟨rfl, h9⟩
    · rw [low c]
      exact r.own i es h
    · cases h9
      exact ⟨p, xs, top, hp, n, n0, q⟩
  · rcases getsnoc h1 with ⟨c1, h1⟩ | ⟨rfl, _⟩
    · rw [low c1] at h3
      rcases getsnoc h2 with ⟨c2, h2⟩ | ⟨rfl, _⟩
      · rw [low c2] at h4
        exact r.ap i j es fs a h1 h2 h3 h4
      · rw [top] at h4
        cases h4
        exact absurd h3 (hne i es h1)
    · rw [top] at h3
      cases h3
      rcases getsnoc h2 with ⟨c2, h2⟩ | ⟨rfl, _⟩
      · rw [low c2] at h4
        exact absurd h4 (hne j fs h2)
      · rfl
theorem RS.snocO {p : Addr} {xs : List V} {ds : List D} (r : RS K xa B0 H0 B H σ ρ) (hp : H p = some (.lst xs)) (n : B p = none) (n0 : H0 p = none) (q : RL K xa B xs ds) (hne : ∀ (j : Nat) (es : Ob), ρ[j]? = some (Sl.own es) → σ[j]? ≠ some (some (V.ref p))) :
    RS K xa B0 H0 B H (σ ++ [some (.ref p)]) (ρ ++ [.ow ds]) := r.snocOb hp n n0 (.L q) hne
theorem RS.pre (r : RS K xa B0 H0 B H (σ ++ τ) (ρ ++ pd)) (hl : ρ.length = σ.length) : RS K xa B0 H0 B H σ ρ :=
  r.pull id (fun _ _ _ _ h => h) hl (fun i h => (List.getElem?_append_left (by omega)).symm) (fun i h => (List.getElem?_append_left h).symm)
theorem frA_app (a b : SEnv) : frA (a ++ b) = frA a ++ frA b := List.map_append ..
theorem frA_len (a : SEnv) : (frA a).length = a.length := List.length_map ..
theorem meetZ {z : Zm} {Dn : Ends} {k : Sl → Out} {Q : VK} (r : RS K xa B0 H0 B H (σ ++ τ) (ρ ++ pd)) (hl : ρ.length = σ.length) (p : pS K xa W B0 H0 Dn (zRun z ρ k))
    (hk : ∀ s v B' H', RS K xa B0 H0 B' H' (σ ++ (τ ++ [some v])) (ρ ++ (pd ++ [s])) → pS K xa W B0 H0 Dn (k s) → Q v H') : tZ K xa W z σ H Q := by
  cases z with
  | s f =>
    have p : pS K xa W B0 H0 Dn (shB (f (shv ρ)) ρ fun d => k (.sh d)) := p
    refine ⟨B, shv ρ, r.gw.le, (r.pre hl).re, ?_⟩
    cases z : f (shv ρ) with
    | ok d =>
      rw [z] at p
      intro v B' H' g rel
      refine hk (.sh d) v B' H' ?_ p
      rw [← List.append_assoc, ← List.append_assoc]
      exact (r.grow g).snoc rel
    | ex x =>
      rw [z] at p
      exact fun c dx B' H' g xr => p c dx σ B' H' ((r.pre hl).grow g) xr
    | st =>
      rw [z] at p
      exact p
  | i f =>
    have p : pS K xa W B0 H0 Dn (shB (f (pkv ρ)) (frA ρ) fun d => if imm d = true then k (.sh d) else .st) := p
    obtain ⟨B1, e1, r1⟩ := r.frA
    rw [frA_app] at r1
    have r2 := r1.pre (by rw [frA_len]; exact hl)
    refine ⟨B1, shv (frA ρ), r2.gw.le, r2.re, ?_⟩
    rw [shv_frA]
    cases z : f (pkv ρ) with
    | ok d =>
      rw [z] at p
      intro v B' H' g rel
      have p : pS K xa W B0 H0 Dn (if imm d = true then k (.sh d) else .st) := p
      by_cases c : imm d = true
      · rw [if_pos c] at p
        refine hk (.sh d) v B H' ?_ p
        rw [← List.append_assoc, ← List.append_assoc]
        exact (r.keep g.up).snoc (rel.imm c)
      · rw [if_neg c] at p
        exact p.elim
    | ex x =>
      rw [z] at p
      exact fun c dx B' H' g xr => p c dx σ B' H' (r2.grow g) xr
    | st =>
      rw [z] at p
      exact p
  | o q =>
    have p : pS K xa W B0 H0 Dn (shB (q (shv ρ)) ρ fun ds => k (.ow ds)) := p
    refine ⟨B, shv ρ, r.gw.le, (r.pre hl).re, ?_⟩
    cases z : q (shv ρ) with
    | ok ds =>
      rw [z] at p
      intro a xs B' H' g n1 n2 hp rl
      refine hk (.ow ds) (.ref a) B' H' ?_ p
      rw [← List.append_assoc, ← List.append_assoc]
      refine (r.grow g).snocO hp n1 (fresh_back r.gw.up n2) rl fun j es h1 h2 => ?_
      obtain ⟨b, vs, f1, f2, _⟩ := r.own j es h1
      rw [f1] at h2
      cases h2
      rw [n2] at f2
      cases f2
    | ex x =>
      rw [z] at p
      exact fun c dx B' H' g xr => p c dx σ B' H' ((r.pre hl).grow g) xr
    | st =>
      rw [z] at p
      exact p
theorem set_at {α : Type} {l : List α} {i j : Nat} {x : α} (hj : j < l.length) : (l.set i x)[j]? = if i = j then some x else l[j]? := by
  by_cases c : i = j
  · subst c
    rw [if_pos rfl, List.getElem?_set_self hj]
  · rw [if_neg c, List.getElem?_set_ne c]
theorem tail_at {α : Type} {l t : List α} {n : Nat} (m : Nat) (h : l.length = n) : (l ++ t)[n + m]? = t[m]? := by
  rw [List.getElem?_append_right (by omega)]
  congr 1
  omega
theorem RS.par {v w : V} {s t : Sl} {i j : Nat} (hij : i ≠ j) (hl : ρ.length = σ.length) (r : RS K xa B0 H0 B H (σ ++ [some v, some w]) (ρ ++ [s, t])) : RS K xa B0 H0 B H ((σ.set i (some v)).set j (some w)) ((ρ.set i s).set j t) := by
  have len1 : ((ρ.set i s).set j t).length = ρ.length := by rw [List.length_set, List.length_set]
  have cs : ∀ {l : Nat}, l < ρ.length → (σ ++ [some v, some w])[l]? = σ[l]? ∧ (ρ ++ [s, t])[l]? = ρ[l]? := fun h => ⟨List.getElem?_append_left (by omega), List.getElem?_append_left h⟩
  refine r.pull (fun l => if j = l then ρ.length + 1 else if i = l then ρ.length + 0 else l) (fun a b ha hb h => ?_) (by rw [len1, List.length_set, List.length_set, hl]) (fun l h => ?_) fun l h => ?_
  · rw [len1] at ha hb
    split at h <;> split at h <;> (try split at h) <;> (try split at h) <;> omega
  · rw [len1] at h
    rw [set_at (by rw [List.length_set]; omega), set_at (by omega)]
    split
    · rw [tail_at 1 hl.symm]; rfl
    · split
      · rw [tail_at 0 hl.symm]; rfl
      · exact (cs h).1.symm
  · rw [len1] at h
    rw [set_at (by rw [List.length_set]; omega), set_at h]
    split
    · rw [tail_at 1 rfl]; rfl
    · split
      · rw [tail_at 0 rfl]; rfl
      · exact (cs h).2.symm
theorem RS.par3 {u v w : V} {s t q : Sl} {i j k : Nat} (hl : ρ.length = σ.length) (r : RS K xa B0 H0 B H (σ ++ [some u, some v, some w]) (ρ ++ [s, t, q])) : RS K xa B0 H0 B H (((σ.set i (some u)).set j (some v)).set k (some w)) (((ρ.set i s).set j t).set k q) := by
  have len1 : (((ρ.set i s).set j t).set k q).length = ρ.length := by rw [List.length_set, List.length_set, List.length_set]
  have cs : ∀ {l : Nat}, l < ρ.length → (σ ++ [some u, some v, some w])[l]? = σ[l]? ∧ (ρ ++ [s, t, q])[l]? = ρ[l]? := fun h => ⟨List.getElem?_append_left (by omega), List.getElem?_append_left h⟩
  refine r.pull (fun l => if k = l then ρ.length + 2 else if j = l then ρ.length + 1 else if i = l then ρ.length + 0 else l) (fun a b ha hb h => ?_) (by rw [len1, List.length_set, List.length_set, List.length_set, hl]) (fun l h => ?_) fun l h => ?_
  · rw [len1] at ha hb
    split at h <;> split at h <;> (try split at h) <;> (try split at h) <;> (try split at h) <;> (try split at h) <;> omega
  · rw [len1] at h
    rw [set_at (by rw [List.length_set, List.length_set]; omega), set_at (by rw [List.length_set]; omega), set_at (by omega)]
    split
    · rw [tail_at 2 hl.symm]; rfl
    · split
      · rw [tail_at 1 hl.symm]; rfl
      · split
        · rw [tail_at 0 hl.symm]; rfl
        · exact (cs h).1.symm
  · rw [len1] at h
    rw [set_at (by rw [List.length_set, List.length_set]; omega), set_at (by rw [List.length_set]; omega), set_at h]
    split
    · rw [tail_at 2 rfl]; rfl
    · split
      · rw [tail_at 1 rfl]; rfl
      · split
        · rw [tail_at 0 rfl]; rfl
        · exact (cs h).2.symm
end
section
variable {X : Cx} {xa : Xa} {W : WX} {a b c : Expr} {px py pz pt pt2 pos : Pos} {kt k2 : Nat} {z1 z2 z3 : Zm}
theorem s_par (i j : Nat) {x y : Str} (hc : X.calm = true) (hN : X.N.Nodup) (h1 : Pz X xa W a z1) (h2 : Pz X xa W b z2) (hi : X.N[i]? = some x := by rfl) (hj : X.N[j]? = some y := by rfl) (hij : i ≠ j := by decide)
    (hx : X.env.scope.names.lookup x = some .local := by rfl) (hy : X.env.scope.names.lookup y = some .local := by rfl)
    (hw : swappedStores [.Tuple [.Name x px, .Name y py] kt pt] (.Tuple [a, b] k2 pt2) X.env = pure (some [x, y]) := by rfl)
    (hs : swapsWithSole [.Tuple [.Name x px, .Name y py] kt pt] (.Tuple [a, b] k2 pt2) pos.line X.env = pure false := by rfl)
    (s1 : starEach [a, b] X.env = (false, eval a X.env) :: starEach [b] X.env := by rfl) (s2 : starEach [b] X.env = (false, eval b X.env) :: starEach [] X.env := by rfl) :
    Ps X xa W (.Assign [.Tuple [.Name x px, .Name y py] kt pt] (.Tuple [a, b] k2 pt2) pos) (paS i j z1 z2) := by
  refine PS.imp (ps_par hc hN hi hj hij hx hy (pa_cons h1 (pa_cons h2 pa_nil s2) s1) hw hs) fun Dn σ H ⟨B0, H0, B, ρ, r, p⟩ => ?_
  refine meetZ (τ := []) (pd := []) (by rw [List.append_nil, List.append_nil]; exact r) r.len p fun s v B1 H1 r1 p1 => ?_
  refine meetZ r1 r.len p1 fun t w B2 H2 r2 p2 => ?_
  exact ⟨v, w, rfl, p2 _ B2 H2 (r2.par hij r.len)⟩
theorem s_par3 (i j l : Nat) {x y z : Str} (hc : X.calm = true) (hN : X.N.Nodup) (h1 : Pz X xa W a z1) (h2 : Pz X xa W b z2) (h3 : Pz X xa W c z3) (hi : X.N[i]? = some x := by rfl) (hj : X.N[j]? = some y := by rfl) (hl : X.N[l]? = some z := by rfl) (hij : i ≠ j := by decide) (hil : i ≠ l := by decide) (hjl : j ≠ l := by decide)
    (hx : X.env.scope.names.lookup x = some .local := by rfl) (hy : X.env.scope.names.lookup y = some .local := by rfl) (hz : X.env.scope.names.lookup z = some .local := by rfl)
    (hw : swappedStores [.Tuple [.Name x px, .Name y py, .Name z pz] kt pt] (.Tuple [a, b, c] k2 pt2) X.env = pure (some [x, y, z]) := by rfl)
    (hs : swapsWithSole [.Tuple [.Name x px, .Name y py, .Name z pz] kt pt] (.Tuple [a, b, c] k2 pt2) pos.line X.env = pure false := by rfl)
    (s1 : starEach [a, b, c] X.env = (false, eval a X.env) :: starEach [b, c] X.env := by rfl) (s2 : starEach [b, c] X.env = (false, eval b X.env) :: starEach [c] X.env := by rfl) (s3 : starEach [c] X.env = (false, eval c X.env) :: starEach [] X.env := by rfl) :
    Ps X xa W (.Assign [.Tuple [.Name x px, .Name y py, .Name z pz] kt pt] (.Tuple [a, b, c] k2 pt2) pos) (pa3S i j l z1 z2 z3) := by
  refine PS.imp (ps_par3 hc hN hi hj hl hij hil hjl hx hy hz (pa_cons h1 (pa_cons h2 (pa_cons h3 pa_nil s3) s2) s1) hw hs) fun Dn σ H ⟨B0, H0, B, ρ, r, p⟩ => ?_
  refine meetZ (τ := []) (pd := []) (by rw [List.append_nil, List.append_nil]; exact r) r.len p fun s v B1 H1 r1 p1 => ?_
  refine meetZ r1 r.len p1 fun t w B2 H2 r2 p2 => ?_
  refine meetZ r2 r.len p2 fun q u B3 H3 r3 p3 => ?_
  exact ⟨v, w, u, rfl, p3 _ B3 H3 (r3.par3 r.len)⟩
theorem z_s {f : F} (h : Pe X xa W a f) : Pz X xa W a (.s f) := h
theorem z_i {f : F} (h : Pe X xa W a f) : Pz X xa W a (.i f) := h
theorem z_o {f : Fs} (h : Po1 X xa W a f) : Pz X xa W a (.o f) := h
end
end Pu

namespace Pu
open PySem PySem.Spec PyProof.Rows L2 Evl
/-! ### the head: facts, defs, and checks of one's own -/
def hkC (n : Nat) (fa : List He.Fa) (fn : List He.DefD) (ck : PySem.W.Frag → Bool) : PySem.W.Hook where
  α := He.AlD × Bool
  obs := fun s => (He.obsDG n fa fn s.heap.get?, ck (He.frG s.heap.get? (He.asD s.heap.get? n)))
  val := fun _ => (He.valD fn, true)
  says := fun _ h => ∃ K : PySem.W.Frag, K.In h ∧ He.SaysD fa fn K ∧ ck K = true
  of := fun _ _ e => ⟨_, He.frG_in, congrArg Prod.fst e, congrArg Prod.snd e⟩
  keeps := fun _ _ _ ⟨K, hK, c, d⟩ k => ⟨K, PySem.W.Frag.In.keeps hK k, c, d⟩
def obC (n : Nat) (fa : List He.Fa) (fn : List He.DefD) (ck : PySem.W.Frag → Bool) (s : PySem.W.SharedT) : He.AlD × Bool := (He.obsDG n fa fn (HandSHeadRun.getT s), ck (He.frG (HandSHeadRun.getT s) (He.asD (HandSHeadRun.getT s) n)))
theorem obC_eq {n : Nat} {fa : List He.Fa} {fn : List He.DefD} {ck : PySem.W.Frag → Bool} (s : PySem.W.SharedT) : obC n fa fn ck s = (hkC n fa fn ck).obs s.abs := by
  have e : HandSHeadRun.getT s = s.abs.heap.get? := funext (HandSHeadRun.getT_eq s)
  unfold obC
  rw [e]
  rfl
/-- a law whose defs may raise: what they let out is told world by world -/
theorem walk_x {l : PySem.W.OpenLaw} {n k : Nat} {q : Program} {loose : List Str} {XP : (Str → Option Value) → Heap → Prop} {YP : World → Heap → Prop} {d : DefRec} {x : Str}
    (hm : l.most = some n) (hz : n ≤ sizeLine) (hdf : d.params.defaults = []) (room : Room k callerA)
    (go : ∀ (w : World) (mg : Str → Option Value) (f : Addr) (h : Heap), YP w h → h.Ns mainGlobals mg → mg d.name = some (.ref f) →
      ∃ (K : PySem.W.Frag) (fd : FuncData) (sp : Sp), K.In h ∧ (∀ (s : Shared) (u : Value), BindsTo s fd ⟨[u], []⟩ [(x, u)]) ∧
        (∀ (H : Hp) (a : Addr) (ns : List Int), ns.length ≤ n → SqL K H a (ns.map V.int) → sp [.ref a] H (fun v _ => v = .bl true) fun _ _ _ => False) ∧
        ∀ base : Heap, K.In base → base.Ns mainGlobals mg → FnOk l.prog w K mg base (L2.CX l.prog w) k f fd [x] sp) :
    PySem.W.WalkO q loose XP YP l.row.toRowW d [] (fun f vs => PySem.call f vs) := by
  refine Att.attach_call hm hdf fun w s0 s1 mg mb f o pm cd doc a vs ns G Y ho hd hcd hmg hobj hints hlen hg => ?_
  obtain ⟨K, fd, sp, kin, bnd, prom, fnk⟩ := go w mg f _ Y G.T.g hmg
  refine law_call kin G.T.g G.T.b G.T.builtins G.T.nolimit hg hobj hints (Nat.le_trans hlen hz) room fnk bnd (fun H _ hS => prom H a ns hlen hS) fun H e s2 z => ?_
  obtain ⟨_, _, _, _, _, _, _, _, _, _, _, _, bad⟩ := z
  exact bad
/-- a law's end -/
theorem law_end {K : PySem.W.Frag} {m : List D → Res D} {H : Hp} {a : Addr} {ns : List Int} (h : m [.frl (ns.map .int)] = .ok (.bl true)) (hS : SqL K H a (ns.map V.int)) : spP K 1 m [.ref a] H (fun v _ => v = .bl true) fun _ _ _ => False := by
  have rl : ∀ l : List Int, RL K none H (l.map V.int) (l.map D.int) := by
    intro l
    induction l with
    | nil => exact .nil
    | cons i l ih => exact .cons (.int i) ih
  refine ⟨rfl, H, [.frl (ns.map .int)], Ex.refl _, .cons (.frl hS (rl ns)) .nil, ?_⟩
  rw [h]
  intro v B H' _ r
  cases r
  rfl
end Pu

namespace Pu
open PySem
/-! ### plain: how mirrors compute -/
@[simp] theorem shB_ok {α : Type} (a : α) (ρ : SEnv) (k : α → Out) : shB (.ok a) ρ k = k a := rfl
@[simp] theorem shB_ex {α : Type} (x : Xc) (ρ : SEnv) (k : α → Out) : shB (.ex x) ρ k = .ex x ρ := rfl
@[simp] theorem shv_nil : shv [] = [] := rfl
@[simp] theorem shv_cons (s : Sl) (ρ : SEnv) : shv (s :: ρ) = s.see :: shv ρ := rfl
@[simp] theorem pkv_nil : pkv [] = [] := rfl
@[simp] theorem pkv_cons (s : Sl) (ρ : SEnv) : pkv (s :: ρ) = s.pk :: pkv ρ := rfl
@[simp] theorem frA_nil : frA [] = [] := rfl
@[simp] theorem frA_cons (s : Sl) (ρ : SEnv) : frA (s :: ρ) = s.frz :: frA ρ := rfl
@[simp] theorem see_sh (d : D) : (Sl.sh d).see = some d := rfl
@[simp] theorem see_no : (Sl.no).see = none := rfl
@[simp] theorem see_ow (d : List D) : (Sl.ow d).see = none := rfl
@[simp] theorem pk_sh (d : D) : (Sl.sh d).pk = some d := rfl
@[simp] theorem pk_no : (Sl.no).pk = none := rfl
@[simp] theorem pk_ow (d : List D) : (Sl.ow d).pk = some (.lst d) := rfl
@[simp] theorem frz_sh (d : D) : (Sl.sh d).frz = .sh d := rfl
@[simp] theorem frz_no : (Sl.no).frz = .no := rfl
@[simp] theorem frz_ow (d : List D) : (Sl.ow d).frz = .sh (.lst d) := rfl
@[simp] theorem see_od (d : List (DK × D)) : (Sl.od d).see = none := rfl
@[simp] theorem pk_od (d : List (DK × D)) : (Sl.od d).pk = some (.dco d) := rfl
@[simp] theorem frz_od (d : List (DK × D)) : (Sl.od d).frz = .sh (.dco d) := rfl
@[simp] theorem vr_0 (d : D) (ρ : Env) : vr 0 (some d :: ρ) = .ok d := rfl
@[simp] theorem vr_s (i : Nat) (o : Option D) (ρ : Env) : vr (i + 1) (o :: ρ) = vr i ρ := rfl
@[simp] theorem outR_rt (d : D) : outR (.rt d) = .ok d := rfl
@[simp] theorem outR_nx (ρ : SEnv) : outR (.nx ρ) = .ok .non := rfl
@[simp] theorem outR_ex (x : Xc) (ρ : SEnv) : outR (.ex x ρ) = .ex x := rfl
@[simp] theorem toB_bl (b : Bool) : toB (.bl b) = some b := rfl
@[simp] theorem toI_int (b : Int) : toI (.int b) = some b := rfl
@[simp] theorem dep_int (i : Int) : dep (.int i) = 0 := rfl
@[simp] theorem dep_bl (i : Bool) : dep (.bl i) = 0 := rfl
@[simp] theorem dep_non : dep .non = 0 := rfl
@[simp] theorem dep_str (i : List Nat) : dep (.str i) = 0 := rfl
@[simp] theorem dep_lst (i : List D) : dep (.lst i) = depL i + 1 := rfl
@[simp] theorem dep_frl (i : List D) : dep (.frl i) = depL i + 1 := rfl
@[simp] theorem dep_tpz (i : List D) : dep (.tpz i) = depL i + 1 := rfl
@[simp] theorem dep_tup (i : List D) : dep (.tup i) = depL i + 1 := rfl
@[simp] theorem depL_nil : depL [] = 0 := rfl
@[simp] theorem depL_cons (d : D) (ds : List D) : depL (d :: ds) = max (dep d) (depL ds) := rfl
theorem depL_le {n : Nat} : ∀ {ds : List D}, (∀ d ∈ ds, dep d ≤ n) → depL ds ≤ n
  | [], _ => Nat.zero_le _
  | d :: ds, h => Nat.max_le.mpr ⟨h d List.mem_cons_self, depL_le fun e he => h e (List.mem_cons_of_mem _ he)⟩
theorem depL_map {α : Type} {n : Nat} {l : List α} {f : α → D} (h : ∀ a ∈ l, dep (f a) ≤ n) : depL (l.map f) ≤ n := depL_le fun d hd => by
  obtain ⟨a, ha, rfl⟩ := List.mem_map.mp hd
  exact h a ha
/-! steps -/
section
variable {ρ ρ' : SEnv} {f g : SF} {h a b : F} {c u t : T} {fs : Fs} {ε : Env} {r : Res D} {d e z : D} {ds : List D} {q : D → D → Option D} {i : Nat} {o : Out}
theorem sq_nx (h1 : f ρ = .nx ρ') : sqS f g ρ = g ρ' := by
  unfold sqS
  rw [h1]
theorem sq_rt (h1 : f ρ = .rt d) : sqS f g ρ = .rt d := by
  unfold sqS
  rw [h1]
theorem sq_ex {x : Xc} (h1 : f ρ = .ex x ρ') : sqS f g ρ = .ex x ρ' := by
  unfold sqS
  rw [h1]
theorem sq_to (h1 : f ρ = .nx ρ') (h2 : outR (g ρ') = r) : outR (sqS f g ρ) = r := by
  rw [sq_nx h1]
  exact h2
theorem as_nx (h1 : h (shv ρ) = .ok d) : asS i h ρ = .nx (ρ.set i (.sh d)) := by
  unfold asS
  rw [h1]
  rfl
theorem ai_nx (h1 : h (pkv ρ) = .ok d) (h2 : imm d = true) : aiS i h ρ = .nx (ρ.set i (.sh d)) := by
  unfold aiS
  rw [h1]
  show (if imm d = true then _ else _) = _
  rw [if_pos h2]
theorem ao_nx (h1 : fs (shv ρ) = .ok ds) : aoS i fs ρ = .nx (ρ.set i (.ow ds)) := by
  unfold aoS
  rw [h1]
  rfl
theorem at_nx {t : Tg} {ps : List (Nat × D)} (h1 : h (shv ρ) = .ok d) (h2 : bnd t d = some ps) : atS t h ρ = .nx (setsS ρ ps) := by
  unfold atS
  rw [h1]
  show (match bnd t d with | some ps => _ | none => _) = _
  rw [h2]
theorem re_rt (h1 : h (pkv ρ) = .ok d) : reS h ρ = .rt d := by
  unfold reS
  rw [h1]
  rfl
theorem re_to (h1 : h (pkv ρ) = .ok d) : outR (reS h ρ) = .ok d := by
  rw [re_rt h1]
  rfl
theorem re_ex {x : Xc} (h1 : h (pkv ρ) = .ex x) : reS h ρ = .ex x (frA ρ) := by
  unfold reS
  rw [h1]
  rfl
theorem ex_nx (h1 : h (pkv ρ) = .ok d) : exS h ρ = .nx ρ := by
  unfold exS
  rw [h1]
  rfl
theorem ex_ex {x : Xc} (h1 : h (pkv ρ) = .ex x) : exS h ρ = .ex x (frA ρ) := by
  unfold exS
  rw [h1]
  rfl
theorem if_yes (h1 : c (pkv ρ) = .ok true) : ifS c f g ρ = f ρ := by
  unfold ifS
  rw [h1]
  rfl
theorem if_no (h1 : c (pkv ρ) = .ok false) : ifS c f g ρ = g ρ := by
  unfold ifS
  rw [h1]
  rfl
theorem if_nx (h1 : c (pkv ρ) = .ok false) : ifS c f nxS ρ = .nx ρ := if_no h1
theorem wh_no {n : Nat} (h1 : c (pkv ρ) = .ok false) : whGo c f (n + 1) ρ = .nx ρ := by
  unfold whGo
  rw [h1]
  rfl
theorem wh_yes {n : Nat} (h1 : c (pkv ρ) = .ok true) (h2 : f ρ = .nx ρ') : whGo c f (n + 1) ρ = whGo c f n ρ' := by
  rw [whGo, h1]
  show (match f ρ with | .nx ρ' => _ | .ct ρ' => _ | .bk ρ' => _ | o => o) = _
  rw [h2]
theorem for_nil {t : Tg} : forGo t f [] ρ = .nx ρ := rfl
theorem for_cons {t : Tg} {ps : List (Nat × D)} (h1 : bnd t d = some ps) (h2 : f (setsS ρ ps) = .nx ρ') : forGo t f (d :: ds) ρ = forGo t f ds ρ' := by
  rw [forGo, h1]
  show (match f (setsS ρ ps) with | .nx ρ' => _ | .ct ρ' => _ | .bk ρ' => _ | o => o) = _
  rw [h2]
theorem for_go {t : Tg} (h1 : fs (shv ρ) = .ok ds) : forS fs t f ρ = forGo t f ds ρ := by
  unfold forS
  rw [h1]
  rfl
theorem e2 (h1 : a ε = .ok d) (h2 : b ε = .ok e) (h3 : q d e = some z) : op2 q a b ε = .ok z := by
  unfold op2
  rw [h1, Res.bind_ok, h2, Res.bind_ok, h3]
  rfl
theorem e1 {p : D → Option D} (h1 : a ε = .ok d) (h3 : p d = some z) : op1 p a ε = .ok z := by
  unfold op1
  rw [h1, Res.bind_ok, h3]
  rfl
theorem eN {p : List D → Option D} (h1 : fs ε = .ok ds) (h3 : p ds = some z) : opN p fs ε = .ok z := by
  unfold opN
  rw [h1, Res.bind_ok, h3]
  rfl
theorem eC (h1 : a ε = .ok d) (h2 : fs ε = .ok ds) : argC a fs ε = .ok (d :: ds) := by
  unfold argC
  rw [h1, Res.bind_ok, h2]
  rfl
theorem eK {m : List D → Res D} (h1 : fs ε = .ok ds) : calF m fs ε = m ds := by
  unfold calF
  rw [h1]
  rfl
theorem eM {ty : D → Bool} (h1 : a ε = .ok d) (h2 : ty d = true) (h3 : b ε = .ok e) (h4 : q d e = some z) : mt1 ty q a b ε = .ok z := by
  unfold mt1
  rw [h1, Res.bind_ok, if_pos h2, h3, Res.bind_ok, h4]
  rfl
theorem eL (h1 : fs ε = .ok ds) (h2 : ds.length ≤ 1000) : lstF fs ε = .ok (.lst ds) := by
  unfold lstF
  rw [h1, Res.bind_ok, if_pos h2]
theorem eTu (h1 : fs ε = .ok ds) (h2 : ds.length ≤ 1000) : tupF fs ε = .ok (.tup ds) := by
  unfold tupF
  rw [h1, Res.bind_ok, if_pos h2]
theorem eS {lo hi : Env → Res (Option Int)} {l u : Option Int} (h1 : a ε = .ok d) (h2 : lo ε = .ok l) (h3 : hi ε = .ok u) (h4 : dSl d l u = some z) : slF a lo hi ε = .ok z := by
  unfold slF
  rw [h1, Res.bind_ok, h2, Res.bind_ok, h3, Res.bind_ok, h4]
  rfl
theorem eP {k : Int} (h1 : a ε = .ok (.int k)) : soP a ε = .ok (some k) := by
  unfold soP
  rw [h1]
  rfl
theorem tB {x : Bool} (h1 : a ε = .ok (.bl x)) : tst a ε = .ok x := by
  unfold tst
  rw [h1]
  rfl
theorem tAn {x y : Bool} (h1 : c ε = .ok x) (h2 : x = true → u ε = .ok y) : anT c u ε = .ok (x && y) := by
  unfold anT
  rw [h1]
  cases x with
  | true => exact h2 rfl
  | false => rfl
theorem tOr {x y : Bool} (h1 : c ε = .ok x) (h2 : x = false → u ε = .ok y) : orT c u ε = .ok (x || y) := by
  unfold orT
  rw [h1]
  cases x with
  | false => exact h2 rfl
  | true => rfl
theorem tNo {x : Bool} (h1 : c ε = .ok x) : noT c ε = .ok (!x) := by
  unfold noT
  rw [h1]
  rfl
theorem eAn {x y : Bool} (h1 : a ε = .ok (.bl x)) (h2 : x = true → b ε = .ok (.bl y)) : anF a b ε = .ok (.bl (x && y)) := by
  unfold anF
  rw [h1]
  cases x with
  | true => exact h2 rfl
  | false => rfl
theorem eOr {x y : Bool} (h1 : a ε = .ok (.bl x)) (h2 : x = false → b ε = .ok (.bl y)) : orF a b ε = .ok (.bl (x || y)) := by
  unfold orF
  rw [h1]
  cases x with
  | false => exact h2 rfl
  | true => rfl
theorem eNo {x : Bool} (h1 : a ε = .ok (.bl x)) : noF a ε = .ok (.bl (!x)) := by
  unfold noF
  rw [h1]
  rfl
theorem eIf {x : Bool} (h1 : c ε = .ok x) (h2 : x = true → a ε = r) (h3 : x = false → b ε = r) : ifF c a b ε = r := by
  unfold ifF
  rw [h1]
  cases x with
  | true => exact h2 rfl
  | false => exact h3 rfl
theorem eCh {q' : D → D → Option D} {k : F} {x y w : D} {s : Bool} (h1 : a ε = .ok x) (h2 : b ε = .ok y) (h3 : q x y = some (.bl s)) (h4 : s = true → ∃ u, k ε = .ok u ∧ q' y u = some w) (h5 : s = false → w = .bl false) : chF q q' a b k ε = .ok w := by
  unfold chF
  rw [h1, Res.bind_ok, h2, Res.bind_ok, h3, ofO_some, Res.bind_ok, toB_bl, ofO_some, Res.bind_ok]
  cases s with
  | true =>
    obtain ⟨u, e1, e2⟩ := h4 rfl
    rw [if_pos rfl, e1, Res.bind_ok, e2]
    rfl
  | false =>
    rw [h5 rfl]
    rfl
theorem eO (h1 : fs ε = .ok ds) : ofL fs ε = .ok (.lst ds) := by
  unfold ofL
  rw [h1]
  rfl
theorem eLc {it : Fs} {vs : List Nat} {t : Tg} {es : List D} (h1 : it ε = .ok ds) (h2 : ds.length ≤ 16777216) (h3 : lcGo (wipeE ε vs) t c a ds = .ok es) : lcO it vs t c a ε = .ok es := by
  unfold lcO
  rw [h1, Res.bind_ok, if_pos h2, h3]
theorem eI (h1 : a ε = .ok d) (h2 : itD d = some ds) : itF a ε = .ok ds := by
  unfold itF
  rw [h1, Res.bind_ok, h2]
  rfl
theorem eE (h1 : a ε = .ok d) (h2 : itE d = some ds) : enF a ε = .ok (enD ds) := by
  unfold enF
  rw [h1, Res.bind_ok, h2]
  rfl
theorem eZ {es : List D} (h1 : a ε = .ok d) (h2 : b ε = .ok e) (h3 : itD d = some ds) (h4 : itD e = some es) : ziF a b ε = .ok (ziD ds es) := by
  unfold ziF
  rw [h1, Res.bind_ok, h2, Res.bind_ok, h3, ofO_some, Res.bind_ok, h4]
  rfl
theorem eR {n : Int} (h1 : a ε = .ok (.int n)) (h2 : -(2 ^ 62) ≤ n ∧ n < 2 ^ 62) : rgF a ε = .ok (rgD 0 n) := by
  unfold rgF
  rw [h1, Res.bind_ok, toI_int, ofO_some, Res.bind_ok, if_pos h2]
theorem eR2 {m n : Int} (h1 : a ε = .ok (.int m)) (h2 : b ε = .ok (.int n)) (h3 : (-(2 ^ 62) ≤ m ∧ m < 2 ^ 62) ∧ (-(2 ^ 62) ≤ n ∧ n < 2 ^ 62)) : rg2F a b ε = .ok (rgD m n) := by
  unfold rg2F
  rw [h1, Res.bind_ok, h2, Res.bind_ok, toI_int, ofO_some, Res.bind_ok, toI_int, ofO_some, Res.bind_ok, if_pos h3]
theorem eLr {n : Int} (h1 : a ε = .ok (.int n)) (h2 : -16777216 ≤ n ∧ n ≤ 16777216) : lrF a ε = .ok (.lst (rgD 0 n)) := by
  unfold lrF
  rw [h1, Res.bind_ok, toI_int, ofO_some, Res.bind_ok, if_pos h2]
theorem dm {n k : Nat} {l : List D} (h : l.length = n) (h2 : outR (f (l.map .sh ++ noS k)) = r) : dfM n k f l = r := by
  unfold dfM
  rw [if_pos h]
  exact h2
end
/-! numbers -/
theorem mulq {i j : Int} (h : i.natAbs < 2 ^ 100) (k : j.natAbs < 2 ^ 100) : dMul (.int i) (.int j) = some (.int (i * j)) := if_pos ⟨Nat.lt_trans h (Nat.pow_lt_pow_right (by decide) (by decide)), Nat.lt_trans k (Nat.pow_lt_pow_right (by decide) (by decide))⟩
theorem fdivq {i j : Int} (h : 0 < j) (k : j < 2 ^ 64) : dFdiv (.int i) (.int j) = some (.int (i / j)) := if_pos ⟨h, Int.lt_trans k (by decide)⟩
theorem modq {i j : Int} (h : 0 < j) : dMod (.int i) (.int j) = some (.int (i % j)) := if_pos h
theorem eqq {d e : D} (h1 : dep d ≤ 60) (h2 : dep e ≤ 60) : dEq d e = some (.bl (eqd d e)) := if_pos ⟨h1, h2⟩
theorem neq {d e : D} (h1 : dep d ≤ 60) (h2 : dep e ≤ 60) : dNe d e = some (.bl (!eqd d e)) := if_pos ⟨h1, h2⟩
/-! equality -/
theorem eqvAll_cons (a b : PyData) (as bs : List PyData) : PyData.eqvAll (a :: as) (b :: bs) = (PyData.eqv a b && PyData.eqvAll as bs) := by
  first | rfl | simp [PyData.eqvAll]
@[simp] theorem eqd_int (i j : Int) : eqd (.int i) (.int j) = decide (i = j) := by
  have e : eqd (.int i) (.int j) = (i == j) := by
    unfold eqd
    simp [py, PyData.eqv]
  rw [e]
  by_cases h : i = j
  · rw [decide_eq_true h]
    simp [h]
  · rw [decide_eq_false h]
    simp [h]
@[simp] theorem eqd_bl (i j : Bool) : eqd (.bl i) (.bl j) = decide (i = j) := by
  unfold eqd
  cases i <;> cases j <;> simp [py, PyData.eqv]
@[simp] theorem eqd_str (i j : List Nat) : eqd (.str i) (.str j) = decide (i = j) := by
  have e : eqd (.str i) (.str j) = (sOf i == sOf j) := by
    unfold eqd
    simp [py, PyData.eqv]
  rw [e]
  by_cases h : i = j
  · subst h
    simp
  · rw [decide_eq_false h]
    exact beq_eq_false_iff_ne.mpr fun z => h (sOf_inj z)
@[simp] theorem eqd_lst (i j : List D) : eqd (.lst i) (.lst j) = eqdL i j := by
  unfold eqd eqdL
  simp [py, PyData.eqv]
@[simp] theorem eqd_frl (i j : List D) : eqd (.frl i) (.lst j) = eqdL i j := by
  unfold eqd eqdL
  simp [py, PyData.eqv]
@[simp] theorem eqd_tup (i j : List D) : eqd (.tup i) (.tup j) = eqdL i j := by
  unfold eqd eqdL
  simp [py, PyData.eqv]
@[simp] theorem eqdL_nil : eqdL [] [] = true := by
  unfold eqdL
  simp [pyL, PyData.eqvAll]
@[simp] theorem eqdL_cons (a b : D) (as bs : List D) : eqdL (a :: as) (b :: bs) = (eqd a b && eqdL as bs) := by
  unfold eqdL eqd
  simp [pyL, PyData.eqvAll]
@[simp] theorem eqdL_cn (a : D) (as : List D) : eqdL (a :: as) [] = false := by
  unfold eqdL
  simp [pyL, PyData.eqvAll]
@[simp] theorem eqdL_nc (a : D) (as : List D) : eqdL [] (a :: as) = false := by
  unfold eqdL
  simp [pyL, PyData.eqvAll]
mutual
theorem eqd_refl : ∀ d : D, eqd d d = true
  | .non => by unfold eqd; simp [py, PyData.eqv]
  | .bl b => by simp
  | .int b => by simp
  | .str b => by simp
  | .lst b => by rw [eqd_lst]; exact eqdL_refl b
  | .tup b => by rw [eqd_tup]; exact eqdL_refl b
  | .frl b => by unfold eqd; simp [py, PyData.eqv]; exact eqdL_refl b
  | .tpz b => by unfold eqd; simp [py, PyData.eqv]; exact eqdL_refl b
  | .exv _ => by unfold eqd; simp [py, PyData.eqv]
  | .exf _ _ => by unfold eqd; simp [py, PyData.eqv]
  | .obj _ _ => by unfold eqd; simp [py, PyData.eqv]
  | .dct _ => by unfold eqd; simp [py, PyData.eqv]
  | .dco _ => by unfold eqd; simp [py, PyData.eqv]
theorem eqdL_refl : ∀ d : List D, eqdL d d = true
  | [] => eqdL_nil
  | x :: xs => by rw [eqdL_cons, eqd_refl x, eqdL_refl xs]; rfl
end
/-! comprehensions -/
theorem lcGo_map {ρ : Env} {t : Tg} {f : F} {ps : D → List (Nat × D)} {g : D → D} : ∀ {ds : List D}, (∀ d ∈ ds, bnd t d = some (ps d) ∧ f (setsE ρ (ps d)) = .ok (g d)) → lcGo ρ t yesT f ds = .ok (ds.map g)
  | [], _ => rfl
  | d :: ds, h => by
    obtain ⟨h1, h2⟩ := h d List.mem_cons_self
    have ih := lcGo_map (ds := ds) fun e he => h e (List.mem_cons_of_mem _ he)
    unfold lcGo
    rw [h1, ofO_some, Res.bind_ok]
    unfold yesT
    rw [Res.pur_ok, Res.bind_ok, if_pos rfl, h2]
    unfold yesT at ih
    rw [ih]
    rfl
theorem lcGo_fil {ρ : Env} {t : Tg} {c : T} {f : F} {ps : D → List (Nat × D)} {b : D → Bool} {g : D → D} : ∀ {ds : List D}, (∀ d ∈ ds, bnd t d = some (ps d) ∧ c (setsE ρ (ps d)) = .ok (b d) ∧ (b d = true → f (setsE ρ (ps d)) = .ok (g d))) → lcGo ρ t c f ds = .ok ((ds.filter b).map g)
  | [], _ => rfl
  | d :: ds, h => by
    obtain ⟨h1, h2, h3⟩ := h d List.mem_cons_self
    have ih := lcGo_fil (ds := ds) fun e he => h e (List.mem_cons_of_mem _ he)
    unfold lcGo
    rw [h1, ofO_some, Res.bind_ok, h2, Res.pur_ok, Res.bind_ok]
    by_cases hb : b d = true
    · rw [if_pos hb, h3 hb, ih, List.filter_cons_of_pos hb]
      rfl
    · rw [if_neg hb, ih, List.filter_cons_of_neg hb]
end Pu

namespace Pu
open PySem L2
def m_drawn : List D → Res D := dfM 3 3 (sqS (asS 3 (op2 dMul (cst (.int 7)) (vr 1))) (sqS (ifS (tst (op2 dNe (vr 0) (lstF argN))) (sqS (asS 3 (op2 dIx (vr 0) (op2 dMod (vr 1) (opN cLen (argC (vr 0) argN))))) (sqS (asS 4 (op2 dFdiv (vr 1) (opN cLen (argC (vr 0) argN)))) (sqS (ifS (anT (tst (op2 dGe (vr 3) (op2 dPow (cst (.int 10)) (cst (.int 18))))) (tst (op2 dLt (vr 4) (cst (.int 60))))) (sqS (asS 5 (op2 dFdiv (vr 3) (op2 dPow (cst (.int 10)) (cst (.int 18))))) (sqS (whS 1000 (anT (tst (op2 dGt (vr 5) (cst (.int 0)))) (tst (op2 dGt (vr 4) (cst (.int 0))))) (sqS (asS 5 (op2 dFdiv (vr 5) (cst (.int 1000000)))) (asS 4 (op2 dSub (vr 4) (cst (.int 1)))))) (ifS (tst (op2 dGt (vr 5) (cst (.int 0)))) (reS (op2 dMod (op2 dMod (vr 5) (cst (.int 1000000))) (vr 2))) nxS))) nxS) (asS 3 (op2 dAdd (vr 3) (op2 dMul (cst (.int 6553)) (op2 dFdiv (vr 1) (opN cLen (argC (vr 0) argN))))))))) nxS) (sqS (asS 3 (op2 dMod (op2 dAdd (op2 dMul (op2 dMod (vr 3) (cst (.int 2147483563))) (cst (.int 69069))) (op2 dMul (cst (.int 104723)) (op2 dAdd (vr 1) (cst (.int 1))))) (cst (.int 2147483563)))) (sqS (asS 3 (op2 dMod (op2 dAdd (op2 dMul (vr 3) (vr 3)) (op2 dFdiv (vr 3) (cst (.int 3)))) (cst (.int 2147483399)))) (reS (op2 dMod (op2 dFdiv (op2 dMod (op2 dAdd (op2 dMul (vr 3) (vr 3)) (op2 dFdiv (vr 3) (cst (.int 7)))) (cst (.int 2147483647))) (cst (.int 11))) (vr 2)))))))
theorem p1018 : dPow (.int 10) (.int 18) = some (.int (10 ^ 18)) := rfl
/-- the loop: rest is cut down while turn goes to nought -/
theorem drawn_loop {q : T} {f : SF} {a : D} {k many cell : Int}
    (hq : ∀ rest turn : Int, q [some a, some (.int k), some (.int many), some (.int cell), some (.int turn), some (.int rest)] = .ok (decide (0 < rest) && decide (0 < turn)))
    (hf : ∀ rest turn : Int, f [.sh a, .sh (.int k), .sh (.int many), .sh (.int cell), .sh (.int turn), .sh (.int rest)] = .nx [.sh a, .sh (.int k), .sh (.int many), .sh (.int cell), .sh (.int (turn - 1)), .sh (.int (rest / 1000000))]) :
    ∀ (n : Nat) (rest turn : Int), turn ≤ n → ∃ rest' turn' : Int, whGo q f (n + 1) [.sh a, .sh (.int k), .sh (.int many), .sh (.int cell), .sh (.int turn), .sh (.int rest)] = .nx [.sh a, .sh (.int k), .sh (.int many), .sh (.int cell), .sh (.int turn'), .sh (.int rest')] := by
  intro n
  induction n with
  | zero =>
    intro rest turn h
    refine ⟨rest, turn, wh_no ?_⟩
    refine (hq rest turn).trans ?_
    have : ¬ 0 < turn := by omega
    rw [decide_eq_false this, Bool.and_false]
  | succ n ih =>
    intro rest turn h
    by_cases c : (decide (0 < rest) && decide (0 < turn)) = true
    · rw [wh_yes ((hq rest turn).trans (by rw [c])) (hf rest turn)]
      exact ih _ _ (by omega)
    · refine ⟨rest, turn, wh_no ((hq rest turn).trans ?_)⟩
      rw [Bool.eq_false_iff.mpr c]
/-- it returns a number below many -/
def Rg (many : Nat) (o : Out) : Prop := ∃ x : Nat, x < many ∧ outR o = .ok (.int x)
theorem Rg.sq {many : Nat} {f g : SF} {ρ ρ' : SEnv} (h1 : f ρ = .nx ρ') (h2 : Rg many (g ρ')) : Rg many (sqS f g ρ) := by
  rw [sq_nx h1]
  exact h2
theorem Rg.re {many : Nat} {a : F} {ρ : SEnv} {i : Int} (hm : 0 < many) (h : a (pkv ρ) = .ok (.int (i % (many : Int)))) : Rg many (reS a ρ) := by
  have h1 := Int.emod_nonneg i (b := (many : Int)) (by omega)
  have h2 := Int.emod_lt_of_pos i (b := (many : Int)) (by omega)
  refine ⟨(i % (many : Int)).toNat, by omega, (re_to h).trans ?_⟩
  rw [Int.toNat_of_nonneg h1]
theorem drawn_ok (ns : List Int) (k many : Nat) (hm : 0 < many) (hk : k < 2 ^ 60) (hl : ns.length ≤ 1000) : ∃ r : Nat, r < many ∧ m_drawn [.frl (ns.map .int), .int k, .int many] = .ok (.int r) := by
  have mm : (0 : Int) < many := by omega
  have tail : ∀ (cell : Int) (t r : Sl), Rg many (sqS (asS 3 (op2 dMod (op2 dAdd (op2 dMul (op2 dMod (vr 3) (cst (.int 2147483563))) (cst (.int 69069))) (op2 dMul (cst (.int 104723)) (op2 dAdd (vr 1) (cst (.int 1))))) (cst (.int 2147483563)))) (sqS (asS 3 (op2 dMod (op2 dAdd (op2 dMul (vr 3) (vr 3)) (op2 dFdiv (vr 3) (cst (.int 3)))) (cst (.int 2147483399)))) (reS (op2 dMod (op2 dFdiv (op2 dMod (op2 dAdd (op2 dMul (vr 3) (vr 3)) (op2 dFdiv (vr 3) (cst (.int 7)))) (cst (.int 2147483647))) (cst (.int 11))) (vr 2)))) [.sh (.frl (ns.map .int)), .sh (.int k), .sh (.int many), .sh (.int cell), t, r]) := by
    intro cell t r
    have b0 : 0 ≤ cell % 2147483563 ∧ cell % 2147483563 < 2147483563 := ⟨Int.emod_nonneg _ (by decide), Int.emod_lt_of_pos _ (by decide)⟩
    refine Rg.sq (as_nx (e2 (e2 (e2 (e2 rfl rfl (modq (by decide))) rfl (mulq (by omega) (by decide))) (e2 rfl (e2 rfl rfl rfl) (mulq (by decide) (by omega))) rfl) rfl (modq (by decide)))) ?_
    generalize (cell % 2147483563 * 69069 + 104723 * ((k : Int) + 1)) = c0
    have b1 : 0 ≤ c0 % 2147483563 ∧ c0 % 2147483563 < 2147483563 := ⟨Int.emod_nonneg _ (by decide), Int.emod_lt_of_pos _ (by decide)⟩
    refine Rg.sq (as_nx (e2 (e2 (e2 rfl rfl (mulq (by omega) (by omega))) (e2 rfl rfl (fdivq (by decide) (by decide))) rfl) rfl (modq (by decide)))) ?_
    generalize (c0 % 2147483563 * (c0 % 2147483563) + c0 % 2147483563 / 3) = c1
    have b2 : 0 ≤ c1 % 2147483399 ∧ c1 % 2147483399 < 2147483399 := ⟨Int.emod_nonneg _ (by decide), Int.emod_lt_of_pos _ (by decide)⟩
    exact Rg.re hm (e2 (e2 (e2 (e2 (e2 rfl rfl (mulq (by omega) (by omega))) (e2 rfl rfl (fdivq (by decide) (by decide))) rfl) rfl (modq (by decide))) rfl (fdivq (by decide) (by decide))) rfl (modq mm))
  suffices h : Rg many ((sqS (asS 3 (op2 dMul (cst (.int 7)) (vr 1))) _ : SF) [.sh (.frl (ns.map .int)), .sh (.int k), .sh (.int many), .no, .no, .no]) from h
  refine Rg.sq (as_nx (e2 rfl rfl (mulq (by decide) (by omega)))) ?_
  cases ns with
  | nil => exact Rg.sq (if_nx (tB (e2 rfl (eL rfl (by decide)) rfl))) (tail _ _ _)
  | cons n0 ns =>
    have dl : depL ((n0 :: ns).map D.int) ≤ 0 := depL_map fun _ _ => Nat.le_refl _
    have el : ((n0 :: ns).map D.int).length = ns.length + 1 := by simp
    have hl2 : ns.length + 1 ≤ 1000 := hl
    generalize hxs : (n0 :: ns).map D.int = xs at *
    have hlen : (0 : Int) < ((xs.length : Nat) : Int) := by omega
    have hdiv : 0 ≤ (k : Int) / (xs.length : Nat) ∧ (k : Int) / (xs.length : Nat) ≤ k := ⟨Int.ediv_nonneg (by omega) (by omega), Int.ediv_le_self _ (by omega)⟩
    have hmod : 0 ≤ (k : Int) % (xs.length : Nat) ∧ (k : Int) % (xs.length : Nat) < (xs.length : Nat) := ⟨Int.emod_nonneg _ (by omega), Int.emod_lt_of_pos _ hlen⟩
    have at_ : ∃ c : Int, atI xs ((k : Int) % (xs.length : Nat)) = some (.int c) := by
      generalize (k : Int) % (xs.length : Nat) = j at hmod
      obtain ⟨m, rfl⟩ : ∃ m : Nat, j = (m : Int) := ⟨j.toNat, by omega⟩
      have hm : m < xs.length := by omega
      have hx : ∃ c : Int, xs[m]? = some (.int c) := by
        rw [← hxs, List.getElem?_map]
        have hm2 : m < (n0 :: ns).length := by simp; omega
        rw [List.getElem?_eq_getElem hm2]
        exact ⟨_, rfl⟩
      obtain ⟨c, hc⟩ := hx
      refine ⟨c, ?_⟩
      unfold atI
      have e : ixN xs.length (m : Int) = some m := by
        unfold ixN
        rw [if_pos (by omega)]
        simp
        omega
      rw [e]
      exact hc
    obtain ⟨c, hc⟩ := at_
    have eA : ∀ (t r : Sl) (cell : Int), (asS 3 (op2 dAdd (vr 3) (op2 dMul (cst (.int 6553)) (op2 dFdiv (vr 1) (opN cLen (argC (vr 0) argN)))))) [.sh (.frl xs), .sh (.int k), .sh (.int many), .sh (.int cell), t, r] = .nx [.sh (.frl xs), .sh (.int k), .sh (.int many), .sh (.int (cell + 6553 * ((k : Int) / (xs.length : Nat)))), t, r] :=
      fun t r cell => as_nx (e2 rfl (e2 rfl (e2 rfl (eN (eC rfl rfl) rfl) (fdivq hlen (by omega))) (mulq (by decide) (by omega))) rfl)
    have yes : (tst (op2 dNe (vr 0) (lstF argN))) (pkv [.sh (.frl xs), .sh (.int k), .sh (.int many), .sh (.int (7 * k)), .no, .no]) = .ok true := by
      refine tB (e2 rfl (eL rfl (by decide)) ((neq (by rw [dep_frl]; omega) (by decide)).trans ?_))
      rw [eqd_frl, ← hxs, List.map_cons, eqdL_cn]
      rfl
    generalize hB : (sqS (asS 3 (op2 dIx (vr 0) (op2 dMod (vr 1) (opN cLen (argC (vr 0) argN))))) _ : SF) = BODY
    have key : (∃ i : Int, BODY [.sh (.frl xs), .sh (.int k), .sh (.int many), .sh (.int (7 * k)), .no, .no] = .rt (.int (i % (many : Int)))) ∨ ∃ (cell : Int) (t r : Sl), BODY [.sh (.frl xs), .sh (.int k), .sh (.int many), .sh (.int (7 * k)), .no, .no] = .nx [.sh (.frl xs), .sh (.int k), .sh (.int many), .sh (.int cell), t, r] := by
      rw [← hB, sq_nx (as_nx (e2 rfl (e2 rfl (eN (eC rfl rfl) rfl) (modq hlen)) hc)), sq_nx (as_nx (e2 rfl (eN (eC rfl rfl) rfl) (fdivq hlen (by omega))))]
      have tst1 := tAn (c := tst (op2 dGe (vr 3) (op2 dPow (cst (.int 10)) (cst (.int 18))))) (u := tst (op2 dLt (vr 4) (cst (.int 60)))) (ε := pkv [.sh (.frl xs), .sh (.int k), .sh (.int many), .sh (.int c), .sh (.int ((k : Int) / (xs.length : Nat))), .no]) (tB (e2 rfl (e2 rfl rfl p1018) rfl)) (fun _ => tB (e2 rfl rfl rfl))
      by_cases cc : (decide (10 ^ 18 ≤ c) && decide ((k : Int) / (xs.length : Nat) < 60)) = true
      · have c60 : (k : Int) / (xs.length : Nat) < 60 := by
          have := (Bool.and_eq_true_iff.mp cc).2
          exact of_decide_eq_true this
        rw [cc] at tst1
        have lp := drawn_loop (a := .frl xs) (k := k) (many := many) (cell := c) (q := anT (tst (op2 dGt (vr 5) (cst (.int 0)))) (tst (op2 dGt (vr 4) (cst (.int 0))))) (f := sqS (asS 5 (op2 dFdiv (vr 5) (cst (.int 1000000)))) (asS 4 (op2 dSub (vr 4) (cst (.int 1)))))
          (fun rest turn => tAn (tB (e2 rfl rfl rfl)) fun _ => tB (e2 rfl rfl rfl)) (fun rest turn => (sq_nx (as_nx (e2 rfl rfl (fdivq (by decide) (by decide))))).trans (as_nx (e2 rfl rfl rfl))) 999 (c / 10 ^ 18) ((k : Int) / (xs.length : Nat)) (by omega)
        obtain ⟨rest, turn, hlp⟩ := lp
        by_cases pos : decide (0 < rest) = true
        · left
          refine ⟨rest % 1000000, ?_⟩
          refine sq_rt ((if_yes tst1).trans ?_)
          refine (sq_nx (as_nx (e2 rfl (e2 rfl rfl p1018) (fdivq (by decide) (by decide))))).trans ?_
          refine (sq_nx hlp).trans ?_
          refine (if_yes ((tB (e2 rfl rfl rfl)).trans (congrArg _ pos))).trans ?_
          exact re_rt (e2 (e2 rfl rfl (modq (by decide))) rfl (modq mm))
        · right
          have inner := (sq_nx (g := sqS (whS 1000 (anT (tst (op2 dGt (vr 5) (cst (.int 0)))) (tst (op2 dGt (vr 4) (cst (.int 0))))) (sqS (asS 5 (op2 dFdiv (vr 5) (cst (.int 1000000)))) (asS 4 (op2 dSub (vr 4) (cst (.int 1)))))) (ifS (tst (op2 dGt (vr 5) (cst (.int 0)))) (reS (op2 dMod (op2 dMod (vr 5) (cst (.int 1000000))) (vr 2))) nxS)) (as_nx (i := 5) (ρ := [.sh (.frl xs), .sh (.int k), .sh (.int many), .sh (.int c), .sh (.int ((k : Int) / (xs.length : Nat))), .no]) (h := op2 dFdiv (vr 3) (op2 dPow (cst (.int 10)) (cst (.int 18)))) (e2 rfl (e2 rfl rfl p1018) (fdivq (by decide) (by decide))))).trans
            ((sq_nx (f := whS 1000 _ _) hlp).trans (if_nx ((tB (e2 rfl rfl rfl)).trans (congrArg _ (Bool.eq_false_iff.mpr pos)))))
          exact ⟨_, _, _, (sq_nx ((if_yes tst1).trans inner)).trans (eA _ _ _)⟩
      · right
        rw [Bool.eq_false_iff.mpr cc] at tst1
        exact ⟨_, _, _, (sq_nx (if_nx tst1)).trans (eA _ _ _)⟩
    rcases key with ⟨i, hi⟩ | ⟨cell, t, r, hi⟩
    · refine ⟨(i % (many : Int)).toNat, ?_, ?_⟩
      · have h1 := Int.emod_nonneg i (b := (many : Int)) (by omega)
        have h2 := Int.emod_lt_of_pos i (b := (many : Int)) (by omega)
        omega
      · refine (congrArg outR (sq_rt ((if_yes yes).trans hi))).trans ?_
        rw [Int.toNat_of_nonneg (Int.emod_nonneg i (by omega))]
        rfl
    · exact Rg.sq ((if_yes yes).trans hi) (tail _ _ _)
end Pu

namespace Pu
open PySem L2
/-! ### defs that many laws share -/
abbrev LET : List Nat := [97, 98, 99, 100, 101, 102, 103, 104, 105, 106, 107, 108, 109, 110, 111, 112, 113, 114, 115, 116, 117, 118, 119, 120, 121, 122]
def m_is_plain : List D → Res D := dfM 1 1 (reS (anF (op1 (isiD "str") (vr 0)) (anF (chF dLe dLe (cst (.int 1)) (opN cLen (argC (vr 0) argN)) (cst (.int 40))) (opN cAll (argC (ofL (lcO (itF (vr 0)) [1] (.nm 1) yesT (op2 dIn (vr 1) (cst (.str [97, 98, 99, 100, 101, 102, 103, 104, 105, 106, 107, 108, 109, 110, 111, 112, 113, 114, 115, 116, 117, 118, 119, 120, 121, 122]))))) argN)))))
def m_need_plain : List D → Res D := dfM 1 0 (ifS (noT (tst (calF m_is_plain (argC (vr 0) argN)))) (raS 2) nxS)
def m_unlike : List D → Res D := dfM 2 2 (reS (opN cLen (argC (ofL (lcO (ziF (vr 0) (vr 1)) [2, 3] (.tp [2, 3]) (tst (op2 dNe (vr 2) (vr 3))) (cst (.int 1)))) argN)))
def m_word : List D → Res D := dfM 4 1 (reS (mt1 tyStr dJoin (cst (.str [])) (ofL (lcO (rgF (vr 3)) [4] (.nm 4) yesT (op2 dIx (vr 2) (calF m_drawn (argC (vr 0) (argC (op2 dAdd (vr 1) (vr 4)) (argC (opN cLen (argC (vr 2) argN)) argN)))))))))

def signs (w : List Nat) : List D := w.map fun c => .str [c]
theorem bls_map {α : Type} (w : List α) (p : α → Bool) : blsOf (w.map fun c => D.bl (p c)) = some (w.map p) := by
  have e : (w.map fun c => D.bl (p c)) = (w.map p).map D.bl := by rw [List.map_map]; rfl
  rw [e, blsOf_map]
theorem strs_map {α : Type} (w : List α) (p : α → List Nat) : strsOf (w.map fun c => D.str (p c)) = some (w.map p) := by
  have e : (w.map fun c => D.str (p c)) = (w.map p).map D.str := by rw [List.map_map]; rfl
  rw [e, strsOf_map]
theorem ints_map {α : Type} (w : List α) (p : α → Int) : intsOf (w.map fun c => D.int (p c)) = some (w.map p) := by
  have e : (w.map fun c => D.int (p c)) = (w.map p).map D.int := by rw [List.map_map]; rfl
  rw [e, intsOf_map]
/-- a comprehension over what is written as an image -/
theorem lcGo_im {α : Type} {ρ : Env} {t : Tg} {f : F} {h g : α → D} {ps : α → List (Nat × D)} {w : List α} (k : ∀ c ∈ w, bnd t (h c) = some (ps c) ∧ f (setsE ρ (ps c)) = .ok (g c)) : lcGo ρ t yesT f (w.map h) = .ok (w.map g) := by
  induction w with
  | nil => rfl
  | cons c w ih =>
    obtain ⟨h1, h2⟩ := k c List.mem_cons_self
    have ih := ih fun e he => k e (List.mem_cons_of_mem _ he)
    rw [List.map_cons, lcGo, h1, ofO_some, Res.bind_ok]
    unfold yesT
    rw [Res.pur_ok, Res.bind_ok, if_pos rfl, h2]
    unfold yesT at ih
    rw [ih]
    rfl
theorem lcGo_imf {α : Type} {ρ : Env} {t : Tg} {c : T} {f : F} {h g : α → D} {b : α → Bool} {ps : α → List (Nat × D)} {w : List α} (k : ∀ a ∈ w, bnd t (h a) = some (ps a) ∧ c (setsE ρ (ps a)) = .ok (b a) ∧ (b a = true → f (setsE ρ (ps a)) = .ok (g a))) : lcGo ρ t c f (w.map h) = .ok ((w.filter b).map g) := by
  induction w with
  | nil => rfl
  | cons a w ih =>
    obtain ⟨h1, h2, h3⟩ := k a List.mem_cons_self
    have ih := ih fun e he => k e (List.mem_cons_of_mem _ he)
    rw [List.map_cons, lcGo, h1, ofO_some, Res.bind_ok, h2, Res.pur_ok, Res.bind_ok]
    by_cases hb : b a = true
    · rw [if_pos hb, h3 hb, ih, List.filter_cons_of_pos hb]
      rfl
    · rw [if_neg hb, ih, List.filter_cons_of_neg hb]
theorem lcGo_ex {α : Type} {ρ : Env} {t : Tg} {f : F} {h : α → D} {P : D → Prop} {ps : α → List (Nat × D)} {w : List α} (k : ∀ c ∈ w, bnd t (h c) = some (ps c) ∧ ∃ y, f (setsE ρ (ps c)) = .ok y ∧ P y) : ∃ ys, lcGo ρ t yesT f (w.map h) = .ok ys ∧ ys.length = w.length ∧ ∀ y ∈ ys, P y := by
  induction w with
  | nil => exact ⟨[], rfl, rfl, fun _ z => nomatch z⟩
  | cons c w ih =>
    obtain ⟨h1, y, h2, h3⟩ := k c List.mem_cons_self
    obtain ⟨ys, ih, l1, l2⟩ := ih fun e he => k e (List.mem_cons_of_mem _ he)
    refine ⟨y :: ys, ?_, by rw [List.length_cons, List.length_cons, l1], fun z hz => ?_⟩
    · rw [List.map_cons, lcGo, h1, ofO_some, Res.bind_ok]
      unfold yesT
      rw [Res.pur_ok, Res.bind_ok, if_pos rfl, h2]
      unfold yesT at ih
      rw [ih]
      rfl
    · rcases List.mem_cons.mp hz with e | e
      · rw [e]
        exact h3
      · exact l2 z e
theorem rgD_nat (n : Nat) : rgD 0 (n : Int) = (List.range n).map fun i => D.int (i : Nat) := by
  unfold rgD
  have e : (((n : Int) - 0).toNat) = n := by omega
  rw [e]
  exact List.map_congr_left fun i _ => by rw [Int.zero_add]
theorem atI_nat {α : Type} {xs : List α} {m : Nat} (h : m < xs.length) : atI xs (m : Int) = some xs[m] := by
  unfold atI
  have e : ixN xs.length (m : Int) = some m := by
    unfold ixN
    rw [if_pos (by omega)]
    simp
    omega
  rw [e]
  exact List.getElem?_eq_getElem h
theorem joinL_one : ∀ w : List Nat, TL.joinL [] (w.map fun c => [c]) = w
  | [] => rfl
  | [c] => rfl
  | c :: d :: w => by
    show [c] ++ ([] ++ TL.joinL [] ((d :: w).map fun c => [c])) = _
    rw [joinL_one (d :: w)]
    rfl
/-! plain words -/
def plainB : D → Bool
  | .str w => decide (1 ≤ w.length) && (decide (w.length ≤ 40) && (w.map fun c => decide (c ∈ LET)).all id)
  | _ => false
def okD : D → Prop
  | .str w => w.length ≤ 1000
  | .non => True
  | .bl _ => True
  | .int _ => True
  | .lst _ => True
  | .tup _ => True
  | _ => False
theorem is_plain_ok {d : D} (h : okD d) : m_is_plain [d] = .ok (.bl (plainB d)) := by
  cases d with
  | str w =>
    have hw : w.length ≤ 1000 := h
    have el : cLen [.str w] = some (.int w.length) := if_pos (by omega)
    refine dm rfl (re_to ?_)
    refine (eAn (x := true) (y := decide (1 ≤ w.length) && (decide (w.length ≤ 40) && (w.map fun c => decide (c ∈ LET)).all id)) (e1 rfl rfl) fun _ => ?_)
    refine (eAn (x := decide (1 ≤ w.length) && decide (w.length ≤ 40)) (y := (w.map fun c => decide (c ∈ LET)).all id) ?_ fun _ => ?_).trans ?_
    · refine eCh (s := decide ((1 : Int) ≤ w.length)) rfl (eN (eC rfl rfl) el) rfl (fun hs => ⟨_, rfl, ?_⟩) fun hs => ?_
      · have h1 : 1 ≤ w.length := by have := of_decide_eq_true hs; omega
        rw [decide_eq_true h1, Bool.true_and]
        show some (D.bl (decide ((w.length : Int) ≤ 40))) = _
        congr 2
        exact decide_eq_decide.mpr (by omega)
      · have h1 : ¬ 1 ≤ w.length := by have := of_decide_eq_false hs; omega
        rw [decide_eq_false h1]
        rfl
    · refine eN (eC (eO (eLc (eI rfl rfl) (by rw [List.length_map]; omega) (lcGo_im (g := fun c => .bl (decide (c ∈ LET))) (ps := fun c => [(1, .str [c])]) fun c _ => ⟨rfl, e2 rfl rfl rfl⟩))) rfl) ?_
      show (blsOf _).map _ = _
      rw [bls_map]
      rfl
    · rw [Bool.and_assoc]
  | non => rfl
  | bl b => rfl
  | int b => rfl
  | lst b => rfl
  | tup b => rfl
  | _ => exact h.elim
theorem need_plain_ok {d : D} (h : okD d) (h2 : plainB d = true) : m_need_plain [d] = .ok .non := by
  refine dm rfl ?_
  rw [if_no (tNo (tB ((eK (eC rfl rfl)).trans (is_plain_ok h))) |>.trans (by rw [h2]; rfl))]
  rfl
theorem need_plain_no {d : D} (h : okD d) (h2 : plainB d = false) : m_need_plain [d] = .ex ⟨2, none⟩ := by
  refine dm rfl ?_
  rw [if_yes (tNo (tB ((eK (eC rfl rfl)).trans (is_plain_ok h))) |>.trans (by rw [h2]; rfl))]
  rfl
/-- a word over a: n signs of it -/
def Wd (a : List Nat) (n : Nat) (w : List Nat) : Prop := w.length = n ∧ ∀ c ∈ w, c ∈ a
theorem word_ok (ns : List Int) (hl : ns.length ≤ 1000) (at_ : Nat) (ha : at_ < 2 ^ 50) (a : List Nat) (h0 : 0 < a.length) (h1 : a.length ≤ 1000) (n : Nat) (hn : n ≤ 1000) : ∃ w, Wd a n w ∧ m_word [.frl (ns.map .int), .int at_, .str a, .int n] = .ok (.str w) := by
  have ela : cLen [.str a] = some (.int a.length) := if_pos (by omega)
  have one : ∀ i ∈ List.range n, bnd (.nm 4) (D.int (i : Nat)) = some [(4, D.int (i : Nat))] ∧ ∃ y, (op2 dIx (vr 2) (calF m_drawn (argC (vr 0) (argC (op2 dAdd (vr 1) (vr 4)) (argC (opN cLen (argC (vr 2) argN)) argN))))) (setsE [some (.frl (ns.map .int)), some (.int at_), some (.str a), some (.int n), none] [(4, D.int (i : Nat))]) = .ok y ∧ ∃ c ∈ a, y = .str [c] := by
    intro i hi
    have hi : i < n := List.mem_range.mp hi
    obtain ⟨r, hr, e⟩ := drawn_ok ns (at_ + i) a.length h0 (by omega) hl
    refine ⟨rfl, .str [a[r]], ?_, a[r], List.getElem_mem hr, rfl⟩
    refine e2 rfl ((eK (eC rfl (eC (e2 rfl rfl rfl) (eC (eN (eC rfl rfl) ela) rfl)))).trans e) ?_
    show (if a.length ≤ 16777216 then _ else _) = _
    rw [if_pos (by omega), atI_nat hr]
    rfl
  obtain ⟨ys, e, l1, l2⟩ := lcGo_ex one
  have key : ∀ ys : List D, (∀ y ∈ ys, ∃ c ∈ a, y = .str [c]) → ∃ w : List Nat, ys = (w.map fun c => D.str [c]) ∧ ∀ c ∈ w, c ∈ a := by
    intro ys
    induction ys with
    | nil => exact fun _ => ⟨[], rfl, fun _ z => nomatch z⟩
    | cons y ys ih =>
      intro h
      obtain ⟨c, hc, ey⟩ := h y List.mem_cons_self
      obtain ⟨w, ew, hw⟩ := ih fun z hz => h z (List.mem_cons_of_mem _ hz)
      refine ⟨c :: w, by rw [ey, ew]; rfl, fun z hz => ?_⟩
      rcases List.mem_cons.mp hz with e | e
      · rw [e]; exact hc
      · exact hw z e
  obtain ⟨w, ew, hw⟩ := key ys l2
  have lw : w.length = n := by
    have := l1
    rw [ew, List.length_map, List.length_range] at this
    exact this
  refine ⟨w, ⟨lw, hw⟩, dm rfl (re_to ?_)⟩
  refine eM rfl rfl (eO (eLc ((eR rfl (by omega)).trans (by rw [rgD_nat])) (by rw [List.length_map, List.length_range]; omega) e)) ?_
  show (strsOf ys).bind (jn []) = _
  rw [ew, strs_map]
  show jn [] (w.map fun c => [c]) = _
  unfold jn
  have sm : ∀ w : List Nat, ((w.map fun c => [c]).map List.length).sum = w.length := by
    intro w
    induction w with
    | nil => rfl
    | cons c w ih =>
      rw [List.map_cons, List.map_cons, List.sum_cons, ih]
      show 1 + w.length = w.length + 1
      omega
  rw [sm w, if_pos (by simp; omega), joinL_one]
end Pu

namespace Pu
open PySem PySem.Spec PyProof.Rows L2 Evl
/-! ### f(e, .., k = v, ..) -/
/-- a parameter is taken from the written values (0), the defaults (1), the keywords' values (2) -/
def pick {α : Type} (pl : List (Nat × Nat)) (us mv ws : List α) : List α := pl.filterMap fun p => (match p.1 with
  | 0 => us
  | 1 => mv
  | _ => ws)[p.2]?
def kwF (g : List D → List D → List D) (m : List D → Res D) (as ks : Fs) : F := fun ρ => (as ρ).bind fun xs => (ks ρ).bind fun zs => m (g xs zs)
theorem Vals.at {vs : List V} {us : List Value} (r : Vals vs us) (i : Nat) : (vs[i]? = none ∧ us[i]? = none) ∨ ∃ v u, vs[i]? = some v ∧ us[i]? = some u ∧ RelV v u := by
  induction r generalizing i with
  | nil => exact .inl ⟨by simp, by simp⟩
  | cons q t ih =>
    cases i with
    | zero => exact .inr ⟨_, _, rfl, rfl, q⟩
    | succ i => simpa using ih i
theorem pick_rel {pl : List (Nat × Nat)} {vs mz zs : List V} {us mv ws : List Value} (h1 : Vals vs us) (h2 : Vals mz mv) (h3 : Vals zs ws) : Vals (pick pl vs mz zs) (pick pl us mv ws) := by
  induction pl with
  | nil => exact .nil
  | cons p pl ih =>
    obtain ⟨s, i⟩ := p
    have key : ∀ {a : List V} {b : List Value}, Vals a b → (a[i]? = none ∧ b[i]? = none) ∨ ∃ v u, a[i]? = some v ∧ b[i]? = some u ∧ RelV v u := fun h => Vals.at h i
    have go : ∀ {a : List V} {b : List Value}, Vals a b → (match s with | 0 => vs | 1 => mz | _ => zs) = a → (match s with | 0 => us | 1 => mv | _ => ws) = b → Vals (pick ((s, i) :: pl) vs mz zs) (pick ((s, i) :: pl) us mv ws) := by
      intro a b h ea eb
      unfold pick at ih ⊢
      rcases key h with ⟨n1, n2⟩ | ⟨v, u, n1, n2, rv⟩
      · rw [List.filterMap_cons_none (by dsimp only; rw [ea]; exact n1), List.filterMap_cons_none (by dsimp only; rw [eb]; exact n2)]
        exact ih
      · rw [List.filterMap_cons_some (by dsimp only; rw [ea]; exact n1), List.filterMap_cons_some (by dsimp only; rw [eb]; exact n2)]
        exact .cons rv ih
    match s with
    | 0 => exact go h1 rfl rfl
    | 1 => exact go h2 rfl rfl
    | _ + 2 => exact go h3 rfl rfl
theorem RL.atN {K : PySem.W.Frag} {xa : Xa} {B : Hp} {vs : List V} {ds : List D} (r : RL K xa B vs ds) (i : Nat) : (vs[i]? = none ∧ ds[i]? = none) ∨ ∃ v d, vs[i]? = some v ∧ ds[i]? = some d ∧ R K xa B v d := by
  have hl := r.length
  by_cases c : i < ds.length
  · obtain ⟨v, e, q⟩ := r.get (List.getElem?_eq_getElem c)
    exact .inr ⟨v, _, e, List.getElem?_eq_getElem c, q⟩
  · exact .inl ⟨List.getElem?_eq_none (by omega), List.getElem?_eq_none (by omega)⟩
theorem pick_rl {K : PySem.W.Frag} {xa : Xa} {B : Hp} {pl : List (Nat × Nat)} {vs mz zs : List V} {us mv ws : List D} (h1 : RL K xa B vs us) (h2 : RL K xa B mz mv) (h3 : RL K xa B zs ws) : RL K xa B (pick pl vs mz zs) (pick pl us mv ws) := by
  induction pl with
  | nil => exact .nil
  | cons p pl ih =>
    obtain ⟨s, i⟩ := p
    have go : ∀ {a : List V} {b : List D}, RL K xa B a b → (match s with | 0 => vs | 1 => mz | _ => zs) = a → (match s with | 0 => us | 1 => mv | _ => ws) = b → RL K xa B (pick ((s, i) :: pl) vs mz zs) (pick ((s, i) :: pl) us mv ws) := by
      intro a b h ea eb
      unfold pick at ih ⊢
      rcases h.atN i with ⟨n1, n2⟩ | ⟨v, u, n1, n2, rv⟩
      · rw [List.filterMap_cons_none (by dsimp only; rw [ea]; exact n1), List.filterMap_cons_none (by dsimp only; rw [eb]; exact n2)]
        exact ih
      · rw [List.filterMap_cons_some (by dsimp only; rw [ea]; exact n1), List.filterMap_cons_some (by dsimp only; rw [eb]; exact n2)]
        exact .cons rv ih
    match s with
    | 0 => exact go h1 rfl rfl
    | 1 => exact go h2 rfl rfl
    | _ + 2 => exact go h3 rfl rfl
/-- the def named x as it is called with np values and the keywords ks; mz: what lacks -/
structure FnKw (P : Program) (w : World) (K : PySem.W.Frag) (mg : Str → Option Value) (base : Heap) (k : Nat) (x : Str) (n : Nat) (m : List D → Res D) (np : Nat) (ks : List Str) (pl : List (Nat × Nat)) (md : List D) : Prop where
  ex : ∃ (f : Addr) (fd : FuncData) (ps : List Str) (g : List Value → List Value → List Value) (mz : List V), FnOk P w K mg base (L2.CX P w) k f fd ps (spP K n m) ∧ mg x = some (.ref f) ∧ PySem.W.keepIn K (.ref f) = true ∧ KBn K fd ps np ks g (fun vs zs => pick pl vs mz zs) ∧ ∀ B, RL K none B mz md
  st : ∀ ds, ds.length ≠ n → m ds = .st
abbrev Pk (X : Cx) (xa : Xa) (W : WX) (kws : List Keyword) (f : Fs) : Prop := PK X kws (tPA X.K xa W f)
/-- n values, m keywords; else stuck -/
def kg (np nk : Nat) (pl : List (Nat × Nat)) (md : List D) : List D → List D → List D := fun xs zs => if xs.length = np ∧ zs.length = nk then pick pl xs md zs else []
section
variable {X : Cx} {W : WX} {xa : Xa} {pos p kpos : Pos} {e : Expr} {es : List Expr} {kws : List Keyword} {fs gs : Fs} {a : F} {nm : Option Str}
theorem k_nil : Pk X xa W [] argN := ⟨fun pp pins s σ H Q I h => pk_nil.run pp pins s σ H Q I (by
  obtain ⟨Hb, ρ, le, re, p⟩ := h
  exact post_here le p .nil)⟩
theorem k_cons (ha : Pe X xa W e a) (hr : Pk X xa W kws gs) : Pk X xa W (⟨nm, e, kpos⟩ :: kws) (argC a gs) := ⟨fun pp pins s σ H Q I h => (pk_cons ha hr).run pp pins s σ H Q I (by
  obtain ⟨Hb, ρ, le, re, p⟩ := h
  refine ⟨Hb, ρ, le, re, post_bind le p fun d v B1 H1 e1 g1 r1 p1 => ?_⟩
  refine ⟨B1, ρ, g1.le, re.mono g1.bup, post_bind g1.le p1 fun ds vs B2 H2 e2 g2 r2 p2 => ?_⟩
  exact p2 _ B2 H2 (Gw.refl g2.le) (.cons (r1.mono g2.bup) r2))⟩
theorem run_kS {CX : CXT} {k n : Nat} {f : Addr} {fd : FuncData} {ps ks : List Str} {sp : Sp} {E : L2.St → XK} {g : List Value → List Value → List Value} {gV : List V → List V → List V} {pins : List (Addr × Obj)} {σ : L2.St} {H : Hp} {s : Shared} {Q : VK} {us ws : List Value} {vs zs : List V}
    (F : FnOk X.prog X.w X.K X.mg X.base CX k f fd ps sp) (room : Room k X.A) (hb : KBn X.K fd ps n ks g gV) (pass : PassesAt CX X σ (E σ)) (I : Inv X pins σ H s) (r : Vals vs us) (q : Vals zs ws) (n1 : vs.length = n) (n2 : zs.length = ks.length) (h : sp (gV vs zs) H Q (E σ)) :
    wpAny (model X.prog X.w) X.A (call (.ref f) us (ks.zip ws)) (EP X pins σ Q) X.xe s := by
  have to := hb.to s us ws I.kIn (r.length.symm.trans n1) (q.length.symm.trans n2)
  refine wpAny_call (codeAny_mono (F.run X.A X.stack s H ⟨us, ks.zip ws⟩ (g us ws) (gV vs zs) Q (E σ) room I.env0 to (hb.rel r q) h) fun res s1 z => ?_)
  match res, z with
  | .error er, z => exact pass pins H s er s1 I z
  | .ok (.ret u), z => exact I.after z
theorem p_callK {x : Str} {k j n np : Nat} {m : List D → Res D} {ks : List Str} {pl : List (Nat × Nat)} {md : List D} (F : FnKw X.prog X.w X.K X.mg X.base k x n m np ks pl md) (hr : Room j X.A) (tk : L2.Takes X W) (ha : Pa X none W (e :: es) fs) (hq : Pk X none W kws gs) (hk : k ≤ j := by decide) (hg : Gl X x := by rfl)
    (hall : (backToKw pos (keywordEach kws X.env)).all (·.1.isSome) = true := by rfl) (hks : (backToKw pos (keywordEach kws X.env)).filterMap (·.1) = ks := by rfl) (hdb : (x == ("__debug__" : Str)) = false := by decide) (he : starEach (e :: es) X.env = (false, eval e X.env) :: starEach es X.env := by rfl)
    (hpl : ((backTo pos (starEach (e :: es) X.env)).any (·.1) || (backToKw pos (keywordEach kws X.env)).any (·.1.isNone)) = false := by rfl) (hn : 0 < n := by decide) : Pe X none W (.Call (.Name x p) (e :: es) kws pos) (kwF (kg np ks.length pl md) m fs gs) := by
  obtain ⟨f, fd, ps, g, mz, F1, hm, hkp, hb, rmz⟩ := F.ex
  refine ⟨fun pins s σ H Q I hq0 => wpAny_Call_Name_kw (ld_glob I hg hm ?_ hdb)⟩
  have hq1 : tPA X.K none W fs σ H (fun vs H1 => tPA X.K none W gs σ H1 fun zs H2 => vs.length = np ∧ zs.length = ks.length ∧ spP X.K n m (pick pl vs mz zs) H2 Q (WE W σ)) := by
    obtain ⟨Hb, ρ, le, re, p⟩ := hq0
    refine ⟨Hb, ρ, le, re, post_bind le p fun ds vs B1 H1 e1 g1 r1 p1 => ?_⟩
    refine ⟨B1, ρ, g1.le, re.mono g1.bup, post_bind g1.le p1 fun es zs B2 H2 e2 g2 r2 p2 => ?_⟩
    unfold kg at p2
    by_cases c : ds.length = np ∧ es.length = ks.length
    · rw [if_pos c] at p2
      have rl := pick_rl (pl := pl) (r1.mono g2.bup) (rmz B2) r2
      refine ⟨by rw [r1.length, c.1], by rw [r2.length, c.2], ?_, B2, _, g2.le, rl, p2⟩
      by_cases d : (pick pl ds md es).length = n
      · rw [rl.length, d]
      · rw [F.st _ d] at p2
        exact p2.elim
    · rw [if_neg c, F.st [] (by show 0 ≠ n; omega)] at p2
      exact p2.elim
  refine PySem.W.callWith_KW (h₀ := X.base) I.ok.mod.kin hkp hall (thn (ha.run pos pins s σ H _ I hq1) fun us s1 ⟨vs, H1, I1, r, q⟩ => ?_) hpl he
  refine thn (hq.run pos pins s1 σ H1 _ I1 q) fun ws s2 ⟨zs, H2, I2, rz, l1, l2, q2⟩ => ⟨I2.kIn, ?_⟩
  rw [hks]
  exact run_kS F1 (hr.mono hk) hb (passAt tk σ) I2 r rz l1 l2 q2
end
end Pu

namespace Pu
open PySem L2
def m_is_number : List D → Res D := dfM 3 0 (reS (anF (op1 (isiD "int") (vr 0)) (anF (noF (op1 (isiD "bool") (vr 0))) (chF dLe dLe (vr 1) (vr 0) (vr 2)))))
def m_need_number : List D → Res D := dfM 4 0 (ifS (noT (tst (calF m_is_number (argC (vr 0) (argC (vr 2) (argC (vr 3) argN)))))) (raX 4 (vr 1)) nxS)
def m_alpha : List D → Res D := dfM 2 0 (reS (op2 dIx (lstF (argC (cst (.str [97, 98])) (argC (cst (.str [97, 99])) (argC (cst (.str [97, 98, 99])) (argC (cst (.str [97, 99, 103, 116])) argN))))) (calF m_drawn (argC (vr 0) (argC (vr 1) (argC (cst (.int 4)) argN))))))
theorem plain_len {w : List Nat} (h : plainB (.str w) = true) : w.length ≤ 40 := of_decide_eq_true (Bool.and_eq_true_iff.mp (Bool.and_eq_true_iff.mp h).2).1
theorem plain_ok {w : List Nat} (h : plainB (.str w) = true) : okD (.str w) := Nat.le_trans (plain_len h) (by decide)
theorem zi_map : ∀ u v : List Nat, ziD (u.map fun c => D.str [c]) (v.map fun c => D.str [c]) = (u.zip v).map fun p => D.tup [.str [p.1], .str [p.2]]
  | [], _ => by simp [ziD]
  | _ :: _, [] => by simp [ziD]
  | c :: u, d :: v => by
    have h := zi_map u v
    unfold ziD at h ⊢
    rw [List.map_cons, List.map_cons, List.zipWith_cons_cons, h]
    rfl
def cnt (u v : List Nat) : Nat := ((u.zip v).filter fun p => !decide (p.1 = p.2)).length
theorem unlike_ok {u v : List Nat} (hu : u.length ≤ 1000) : m_unlike [.str u, .str v] = .ok (.int (cnt u v)) := by
  refine dm rfl (re_to ?_)
  refine eN (eC (eO (eLc ((eZ rfl rfl rfl rfl).trans (by rw [zi_map])) (by rw [List.length_map, List.length_zip]; omega) (lcGo_imf (b := fun p : Nat × Nat => !decide (p.1 = p.2)) (g := fun _ => .int 1) (ps := fun p : Nat × Nat => [(2, .str [p.1]), (3, .str [p.2])]) fun p _ => ⟨rfl, tB (e2 rfl rfl ?_), fun _ => rfl⟩))) rfl) ?_
  · refine (neq (by simp) (by simp)).trans ?_
    rw [eqd_str]
    congr 3
    exact decide_eq_decide.mpr ⟨fun h => (List.cons.inj h).1, fun h => by rw [h]⟩
  · show some (D.int _) = _
    rw [List.length_map]
    rfl
theorem lcGo_none {ρ : Pu.Env} {i : Nat} {c : T} {f : F} : ∀ {ds : List D}, (∀ d ∈ ds, c (setsE ρ [(i, d)]) = .ok false) → lcGo ρ (.nm i) c f ds = .ok []
  | [], _ => rfl
  | d :: ds, h => by
    have ih := lcGo_none (i := i) (f := f) (ds := ds) fun e he => h e (List.mem_cons_of_mem _ he)
    unfold lcGo
    show ((c (setsE ρ [(i, d)])).pur.bind _) = _
    rw [h d List.mem_cons_self, Res.pur_ok, Res.bind_ok, if_neg Bool.false_ne_true, ih]

def numB (lo hi : Int) : D → Bool
  | .int i => decide (lo ≤ i) && decide (i ≤ hi)
  | _ => false
theorem is_number_ok {d : D} {lo hi : Int} (h : okD d) : m_is_number [d, .int lo, .int hi] = .ok (.bl (numB lo hi d)) := by
  cases d with
  | int i =>
    refine dm rfl (re_to ?_)
    refine (eAn (x := true) (y := true && (decide (lo ≤ i) && decide (i ≤ hi))) (e1 rfl rfl) fun _ => ?_)
    refine (eAn (x := true) (y := decide (lo ≤ i) && decide (i ≤ hi)) (eNo (x := false) (e1 rfl rfl)) fun _ => ?_)
    refine eCh (s := decide (lo ≤ i)) rfl rfl rfl (fun hs => ⟨_, rfl, ?_⟩) fun hs => ?_
    · rw [hs, Bool.true_and]
      rfl
    · rw [hs]
      rfl
  | str w => rfl
  | non => rfl
  | bl b => cases b <;> rfl
  | lst b => rfl
  | tup b => rfl
  | _ => exact h.elim
theorem need_number_ok {d y : D} {lo hi : Int} (h : okD d) (h2 : numB lo hi d = true) : m_need_number [d, y, .int lo, .int hi] = .ok .non := by
  refine dm rfl (congrArg outR (if_no ((tNo (tB ((eK (eC rfl (eC rfl (eC rfl rfl)))).trans (is_number_ok h)))).trans ?_)))
  rw [h2]
  rfl
theorem need_number_no {d y : D} {lo hi : Int} (h : okD d) (h2 : numB lo hi d = false) : m_need_number [d, y, .int lo, .int hi] = .ex ⟨4, some y⟩ := by
  have t : (noT (tst (calF m_is_number (argC (vr 0) (argC (vr 2) (argC (vr 3) argN)))))) (pkv [.sh d, .sh y, .sh (.int lo), .sh (.int hi)]) = .ok true := by
    refine (tNo (tB ((eK (eC rfl (eC rfl (eC rfl rfl)))).trans (is_number_ok h)))).trans ?_
    rw [h2]
    rfl
  refine dm rfl ?_
  exact congrArg outR (show _ = Out.ex ⟨4, some y⟩ [.sh d, .sh y, .sh (.int lo), .sh (.int hi)] from if_yes t)
theorem eKw {g : List D → List D → List D} {m : List D → Res D} {as ks : Fs} {ε : Env} {xs zs : List D} (h1 : as ε = .ok xs) (h2 : ks ε = .ok zs) : kwF g m as ks ε = m (g xs zs) := by
  unfold kwF
  rw [h1, Res.bind_ok, h2]
  rfl
theorem nn2 {m : List D → Res D} {as ks : Fs} {ε : Env} {d y z : D} (h1 : as ε = .ok [d]) (h2 : ks ε = .ok [y, z]) : kwF (kg 1 2 [(0, 0), (2, 0), (1, 0), (2, 1)] [.int 0]) m as ks ε = m [d, y, .int 0, z] := (eKw h1 h2).trans rfl
theorem nn3 {m : List D → Res D} {as ks : Fs} {ε : Env} {d y z u : D} (h1 : as ε = .ok [d]) (h2 : ks ε = .ok [y, z, u]) : kwF (kg 1 3 [(0, 0), (2, 0), (2, 1), (2, 2)] []) m as ks ε = m [d, y, z, u] := (eKw h1 h2).trans rfl
theorem ty_ex {cs : List Nat} {f : SF} {l : List Clm} {ρ ρ' : SEnv} {x : Xc} {o : Out} (h : f ρ = .ex x ρ') (h2 : (if cs.contains x.c = true then clGo l x ρ' else .st) = o) : tyS cs f l ρ = o := by
  unfold tyS
  rw [h]
  exact h2
theorem ty_nx {cs : List Nat} {f : SF} {l : List Clm} {ρ ρ' : SEnv} (h : f ρ = .nx ρ') : tyS cs f l ρ = .nx ρ' := by
  unfold tyS
  rw [h]
/-- the four alphabets -/
def A4 : List (List Nat) := [[97, 98], [97, 99], [97, 98, 99], [97, 99, 103, 116]]
theorem a4_let : ∀ a ∈ A4, (∀ c ∈ a, c ∈ LET) ∧ 0 < a.length ∧ a.length ≤ 6 := by
  intro a h
  simp only [A4, List.mem_cons, List.not_mem_nil, or_false] at h
  rcases h with rfl | rfl | rfl | rfl <;> decide
theorem alpha_ok (ns : List Int) (hl : ns.length ≤ 1000) (at_ : Nat) (ha : at_ < 2 ^ 50) : ∃ a ∈ A4, m_alpha [.frl (ns.map .int), .int at_] = .ok (.str a) := by
  obtain ⟨r, hr, e⟩ := drawn_ok ns at_ 4 (by decide) (by omega) hl
  have h : ∃ a ∈ A4, dIx (.lst [.str [97, 98], .str [97, 99], .str [97, 98, 99], .str [97, 99, 103, 116]]) (.int r) = some (.str a) := by
    match r, hr with
    | 0, _ => exact ⟨_, by decide, rfl⟩
    | 1, _ => exact ⟨_, by decide, rfl⟩
    | 2, _ => exact ⟨_, by decide, rfl⟩
    | 3, _ => exact ⟨_, by decide, rfl⟩
  obtain ⟨a, ha, ea⟩ := h
  exact ⟨a, ha, dm rfl (re_to (e2 (eL rfl (by decide)) ((eK rfl).trans e) ea))⟩
theorem wd_plain {a : List Nat} (ha : ∀ c ∈ a, c ∈ LET) {n : Nat} {w : List Nat} (h : Wd a n w) (h1 : 1 ≤ n) (h2 : n ≤ 40) : plainB (.str w) = true := by
  show (decide (1 ≤ w.length) && (decide (w.length ≤ 40) && (w.map fun c => decide (c ∈ LET)).all id)) = true
  rw [h.1, decide_eq_true h1, decide_eq_true h2, Bool.true_and, Bool.true_and, List.all_map]
  exact List.all_eq_true.mpr fun c hc => decide_eq_true (ha c (h.2 c hc))
/-- a word drawn with a drawn length -/
theorem word_len (ns : List Int) (hl : ns.length ≤ 1000) (k at_ most : Nat) (hk : k < 2 ^ 50) (ha : at_ < 2 ^ 50) (h0 : 0 < most) (h1 : most ≤ 40) (a : List Nat) (hp : 0 < a.length) (hq : a.length ≤ 6) : ∃ n w, 1 ≤ n ∧ n ≤ most ∧ Wd a n w ∧
    ∀ (ε : Env) (f g : F), f ε = .ok (.frl (ns.map .int)) → g ε = .ok (.str a) → (calF m_word (argC f (argC (cst (.int at_)) (argC g (argC (op2 dAdd (cst (.int 1)) (calF m_drawn (argC f (argC (cst (.int k)) (argC (cst (.int most)) argN))))) argN))))) ε = .ok (.str w) := by
  obtain ⟨r, hr, e⟩ := drawn_ok ns k most h0 (by omega) hl
  obtain ⟨w, hw, ew⟩ := word_ok ns hl at_ ha a hp (by omega) (1 + r) (by omega)
  refine ⟨1 + r, w, by omega, by omega, hw, fun ε f g hf hg => ?_⟩
  have c1 : ((1 : Int) + (r : Nat)) = ((1 + r : Nat) : Int) := by omega
  have ea : (op2 dAdd (cst (.int 1)) (calF m_drawn (argC f (argC (cst (.int k)) (argC (cst (.int most)) argN))))) ε = .ok (.int ((1 + r : Nat) : Int)) := (e2 rfl ((eK (eC hf rfl)).trans e) rfl).trans (by rw [c1])
  exact (eK (eC hf (eC rfl (eC hg (eC ea rfl))))).trans ew
theorem lenq {w : List Nat} (h : w.length ≤ 1000) : cLen [.str w] = some (.int w.length) := if_pos (by omega)
theorem mem_enD {ds : List D} {d : D} (h : d ∈ enD ds) : ∃ (i : Nat) (e : D), e ∈ ds ∧ d = .tup [.int (i : Nat), e] := by
  unfold enD at h
  obtain ⟨i, hi, e⟩ := List.mem_mapIdx.mp h
  exact ⟨i, ds[i], List.getElem_mem hi, e.symm⟩
theorem idx_mem {x : Int} : ∀ {l : List Int}, x ∈ l → ∃ j, idx (.int x) (l.map D.int) = some j
  | [], h => nomatch h
  | y :: l, h => by
    rw [List.map_cons, idx, eqd_int]
    by_cases c : y = x
    · rw [decide_eq_true c, if_pos rfl]
      exact ⟨0, rfl⟩
    · rw [decide_eq_false c, if_neg Bool.false_ne_true]
      rcases List.mem_cons.mp h with e | e
      · exact absurd e.symm c
      · obtain ⟨j, hj⟩ := idx_mem e
        rw [hj]
        exact ⟨j + 1, rfl⟩
end Pu

namespace Pu
open PySem L2
/-! ### plain: lists that grow -/
section
variable {ρ : SEnv} {i : Nat} {h : F} {ds : List D} {d x y z : D}
theorem ap_nx (h1 : ρ[i]? = some (.ow ds)) (hl : ds.length < 1000000) (h2 : h (shv ρ) = .ok d) : apS i h ρ = .nx (ρ.set i (.ow (ds ++ [d]))) := by
  unfold apS
  rw [h1]
  show (if ds.length < 1000000 then _ else _) = _
  rw [if_pos hl, h2]
  rfl
theorem ai_ap (h1 : ρ[i]? = some (.ow ds)) (hl : ds.length < 1000000) (h2 : h (pkv ρ) = .ok d) (h3 : imm d = true) : apI i h ρ = .nx (ρ.set i (.ow (ds ++ [d]))) := by
  unfold apI
  rw [h1]
  show (if ds.length < 1000000 then _ else _) = _
  rw [if_pos hl, h2]
  show (if imm d = true then _ else _) = _
  rw [if_pos h3]
theorem au_nx {g : D → D → Option D} (h1 : ρ[i]? = some (.sh x)) (h2 : h (pkv ρ) = .ok y) (h3 : g x y = some z) : auS i g h ρ = .nx (ρ.set i (.sh z)) := by
  unfold auS
  rw [h1]
  show shB (h (pkv ρ)) _ _ = _
  rw [h2]
  show (match g x y with | some z => _ | none => _) = _
  rw [h3]
end
/-- for k in ..: if c: xs.append(k) -/
theorem filt_loop {α : Type} {k s : Nat} {c : T} {b : α → Bool} {hh : α → D} (E : Sl → List D → SEnv) (p1 : ∀ x acc d, setsS (E x acc) [(k, d)] = E (.sh d) acc) (p2 : ∀ x acc, (E x acc)[s]? = some (.ow acc)) (p3 : ∀ x acc acc', (E x acc).set s (.ow acc') = E x acc') (p4 : ∀ d acc, vr k (shv (E (.sh d) acc)) = .ok d) :
    ∀ (l : List α) (x : Sl) (acc : List D), (∀ a ∈ l, ∀ acc, c (pkv (E (.sh (hh a)) acc)) = .ok (b a)) → acc.length + l.length ≤ 100000 → ∃ x', forGo (.nm k) (ifS c (apS s (vr k)) nxS) (l.map hh) (E x acc) = .nx (E x' (acc ++ (l.filter b).map hh))
  | [], x, acc, _, _ => ⟨x, by rw [List.filter_nil, List.map_nil, List.append_nil]; rfl⟩
  | a :: l, x, acc, hc, hl => by
    have hl : acc.length + (l.length + 1) ≤ 100000 := hl
    have c1 := hc a List.mem_cons_self acc
    by_cases hb : b a = true
    · obtain ⟨x', e⟩ := filt_loop E p1 p2 p3 p4 l (.sh (hh a)) (acc ++ [hh a]) (fun q hq => hc q (List.mem_cons_of_mem _ hq)) (by rw [List.length_append]; show acc.length + 1 + _ ≤ _; omega)
      refine ⟨x', ?_⟩
      rw [List.map_cons, for_cons (ps := [(k, hh a)]) (ρ' := E (.sh (hh a)) (acc ++ [hh a])) rfl, e, List.filter_cons_of_pos hb, List.map_cons, List.append_assoc]
      · rfl
      · rw [p1, if_yes (by rw [c1, hb]), ap_nx (p2 _ _) (by omega) (p4 _ _), p3]
    · obtain ⟨x', e⟩ := filt_loop E p1 p2 p3 p4 l (.sh (hh a)) acc (fun q hq => hc q (List.mem_cons_of_mem _ hq)) (by omega)
      refine ⟨x', ?_⟩
      rw [List.map_cons, for_cons (ps := [(k, hh a)]) (ρ' := E (.sh (hh a)) acc) rfl, e, List.filter_cons_of_neg hb]
      rw [p1, if_nx (by rw [c1, Bool.eq_false_iff.mpr hb])]
theorem par_nx {i j : Nat} {z1 z2 : Zm} {ρ : SEnv} {s t : Sl} (h1 : ∀ k, zRun z1 ρ k = k s) (h2 : ∀ k, zRun z2 ρ k = k t) : paS i j z1 z2 ρ = .nx ((ρ.set i s).set j t) := by
  unfold paS
  rw [h1, h2]
theorem zs_ok {f : F} {ρ : SEnv} {d : D} (h : f (shv ρ) = .ok d) : ∀ k, zRun (.s f) ρ k = k (.sh d) := fun k => by
  unfold zRun
  dsimp only
  rw [h]
  rfl
theorem zo_ok {f : Fs} {ρ : SEnv} {d : List D} (h : f (shv ρ) = .ok d) : ∀ k, zRun (.o f) ρ k = k (.ow d) := fun k => by
  unfold zRun
  dsimp only
  rw [h]
  rfl
theorem cut_len {α : Type} (t : List α) (lo hi : Option Int) : (cut t lo hi).length ≤ t.length := by
  unfold cut
  rw [List.length_take, List.length_drop]
  omega
theorem slq {t : List Nat} {lo hi : Option Int} (h : t.length ≤ 1000) : dSl (.str t) lo hi = some (.str (cut t lo hi)) := if_pos (by omega)
/-- things that are no words; numbers that are none -/
theorem thing6 {r : Nat} (h : r < 6) : ∃ d, okD d ∧ plainB d = false ∧ dIx (.lst [.non, .str [], .str [65], .str (List.replicate (41 : Int).toNat [97]).flatten, .int 7, .tup [.str [97]]]) (.int r) = some d := by
  match r, h with
  | 0, _ => exact ⟨.non, trivial, rfl, rfl⟩
  | 1, _ => exact ⟨.str [], Nat.le_of_ble_eq_true rfl, rfl, rfl⟩
  | 2, _ => exact ⟨.str [65], Nat.le_of_ble_eq_true rfl, rfl, rfl⟩
  | 3, _ => exact ⟨.str (List.replicate (41 : Int).toNat [97]).flatten, Nat.le_of_ble_eq_true rfl, rfl, rfl⟩
  | 4, _ => exact ⟨.int 7, trivial, rfl, rfl⟩
  | 5, _ => exact ⟨.tup [.str [97]], trivial, rfl, rfl⟩
theorem odd5 {r : Nat} {n hi : Int} {s : List Nat} (h : r < 5) (hn : hi < n) (hs : s.length ≤ 1000) : ∃ d, okD d ∧ numB 0 hi d = false ∧ dIx (.lst [.int (-1), .int n, .non, .bl true, .str s]) (.int r) = some d := by
  match r, h with
  | 0, _ => exact ⟨.int (-1), trivial, rfl, rfl⟩
  | 1, _ => exact ⟨.int n, trivial, Bool.and_eq_false_iff.mpr (.inr (decide_eq_false (by omega))), rfl⟩
  | 2, _ => exact ⟨.non, trivial, rfl, rfl⟩
  | 3, _ => exact ⟨.bl true, trivial, rfl, rfl⟩
  | 4, _ => exact ⟨.str s, hs, rfl, rfl⟩
end Pu

namespace Pu
open PySem L2
/-! ### rows of a table -/
def mn3 (x y z : Int) : Int := if x ≤ (if y ≤ z then y else z) then x else (if y ≤ z then y else z)
theorem mn3_eq (x y z : Int) : cMin [.int x, .int y, .int z] = some (.int (mn3 x y z)) := rfl
theorem mn3_le (x y z : Int) : mn3 x y z ≤ x ∧ mn3 x y z ≤ y ∧ mn3 x y z ≤ z := by
  unfold mn3
  split <;> split <;> omega
theorem mn3_cases (x y z : Int) : mn3 x y z = x ∨ mn3 x y z = y ∨ mn3 x y z = z := by
  unfold mn3
  split <;> split <;> omega
theorem mn3_ge {x y z v : Int} (h1 : v ≤ x) (h2 : v ≤ y) (h3 : v ≤ z) : v ≤ mn3 x y z := by
  rcases mn3_cases x y z with e | e | e <;> omega
/-- what enumerate gives, from j on -/
def enf : Nat → List Nat → List D
  | _, [] => []
  | j, c :: cs => .tup [.int (j : Nat), .str [c]] :: enf (j + 1) cs
theorem enf_eq : ∀ (w : List Nat) (j : Nat), (w.map fun c => D.str [c]).mapIdx (fun i d => D.tup [.int ((i + j : Nat) : Int), d]) = enf j w
  | [], _ => rfl
  | c :: w, j => by
    rw [List.map_cons, List.mapIdx_cons]
    show _ :: _ = D.tup [.int (j : Nat), .str [c]] :: enf (j + 1) w
    rw [← enf_eq w (j + 1)]
    congr 1
    · rw [Nat.zero_add]
    · congr 1
      funext i d
      rw [Nat.add_assoc, Nat.add_comm 1 j]
theorem enD_str (w : List Nat) : enD (w.map fun c => D.str [c]) = enf 0 w := by
  rw [← enf_eq w 0]
  rfl
theorem enf_len : ∀ (w : List Nat) (j : Nat), (enf j w).length = w.length
  | [], _ => rfl
  | _ :: w, j => by
    show (enf (j + 1) w).length + 1 = w.length + 1
    rw [enf_len w]
def grow (V : Nat → Nat → List Int → Int) : Nat → List Nat → List Int → List Int
  | _, [], acc => acc
  | j, c :: cs, acc => grow V (j + 1) cs (acc ++ [V j c acc])
theorem grow_len (V : Nat → Nat → List Int → Int) : ∀ (cs : List Nat) (j : Nat) (acc : List Int), (grow V j cs acc).length = acc.length + cs.length
  | [], _, _ => rfl
  | c :: cs, j, acc => by
    rw [grow, grow_len V cs, List.length_append]
    show acc.length + 1 + _ = acc.length + (_ + 1)
    omega
theorem grow_old (V : Nat → Nat → List Int → Int) : ∀ (cs : List Nat) (j : Nat) (acc : List Int) (i : Nat), i < acc.length → (grow V j cs acc).getD i 0 = acc.getD i 0
  | [], _, _, _, _ => rfl
  | c :: cs, j, acc, i, h => by
    rw [grow, grow_old V cs (j + 1) _ i (by rw [List.length_append]; show i < acc.length + 1; omega)]
    rw [List.getD_eq_getElem?_getD, List.getD_eq_getElem?_getD, List.getElem?_append_left h]
theorem grow_new {V : Nat → Nat → List Int → Int} (hV : ∀ (j c : Nat) (a b : List Int), a.getD j 0 = b.getD j 0 → V j c a = V j c b) : ∀ (cs : List Nat) (j : Nat) (acc : List Int) (i : Nat), acc.length = j + 1 → (h : i < cs.length) → (grow V j cs acc).getD (j + i + 1) 0 = V (j + i) cs[i] (grow V j cs acc)
  | [], _, _, i, _, h => absurd h (Nat.not_lt_zero i)
  | c :: cs, j, acc, 0, hl, h => by
    rw [grow, grow_old V cs (j + 1) _ (j + 0 + 1) (by rw [List.length_append]; show j + 1 < acc.length + 1; omega), List.getD_eq_getElem?_getD, List.getElem?_append_right (by omega), hl]
    have e : j + 0 + 1 - (j + 1) = 0 := by omega
    rw [e]
    show V j c acc = V (j + 0) c _
    refine hV j c _ _ ?_
    rw [Nat.add_zero, grow_old V cs (j + 1) _ j (by rw [List.length_append]; show j < acc.length + 1; omega), List.getD_eq_getElem?_getD, List.getD_eq_getElem?_getD, List.getElem?_append_left (by omega)]
  | c :: cs, j, acc, i + 1, hl, h => by
    rw [grow]
    have := grow_new hV cs (j + 1) (acc ++ [V j c acc]) i (by rw [List.length_append, hl]; rfl) (Nat.lt_of_succ_lt_succ h)
    have e1 : j + (i + 1) + 1 = j + 1 + i + 1 := by omega
    have e2 : j + (i + 1) = j + 1 + i := by omega
    rw [e1, e2]
    exact this
/-- the inner loop -/
theorem grow_loop {k1 k2 s : Nat} {f : F} {V : Nat → Nat → List Int → Int} (E : Sl → Sl → List D → SEnv) (p1 : ∀ x y acc d e, setsS (E x y acc) [(k1, d), (k2, e)] = E (.sh d) (.sh e) acc) (p2 : ∀ x y acc, (E x y acc)[s]? = some (.ow acc)) (p3 : ∀ x y acc acc', (E x y acc).set s (.ow acc') = E x y acc') (n : Nat) (hn : n ≤ 1000)
    (hf : ∀ (j c : Nat) (acc : List Int), j < n → acc.length = j + 1 → f (pkv (E (.sh (.int (j : Nat))) (.sh (.str [c])) (acc.map .int))) = .ok (.int (V j c acc))) :
    ∀ (cs : List Nat) (j : Nat) (acc : List Int) (x y : Sl), acc.length = j + 1 → j + cs.length = n → ∃ x' y', forGo (.tp [k1, k2]) (apI s f) (enf j cs) (E x y (acc.map .int)) = .nx (E x' y' ((grow V j cs acc).map .int))
  | [], j, acc, x, y, _, _ => ⟨x, y, rfl⟩
  | c :: cs, j, acc, x, y, hl, hj => by
    have hj : j + (cs.length + 1) = n := hj
    obtain ⟨x', y', e⟩ := grow_loop E p1 p2 p3 n hn hf cs (j + 1) (acc ++ [V j c acc]) (.sh (.int (j : Nat))) (.sh (.str [c])) (by rw [List.length_append, hl]; rfl) (by omega)
    refine ⟨x', y', ?_⟩
    rw [enf, for_cons (ps := [(k1, .int (j : Nat)), (k2, .str [c])]) (ρ' := E (.sh (.int (j : Nat))) (.sh (.str [c])) ((acc ++ [V j c acc]).map .int)) rfl, e]
    · rfl
    · rw [p1, ai_ap (p2 _ _ _) (by rw [List.length_map]; omega) (hf j c acc (by omega) hl) rfl, p3, List.map_append]
      rfl
/-- one row from the row above -/
def Vd (s : Nat) (row : List Int) : Nat → Nat → List Int → Int := fun j c acc => mn3 (row.getD j 0 + (if s = c then 0 else 1)) (row.getD (j + 1) 0 + 1) (acc.getD j 0 + 1)
def stp (w : List Nat) (first : Int) (row : List Int) (s : Nat) : List Int := grow (Vd s row) 0 w [first]
theorem stp_len (w : List Nat) (first : Int) (row : List Int) (s : Nat) : (stp w first row s).length = w.length + 1 := by
  unfold stp
  rw [grow_len]
  show 1 + _ = _
  omega
theorem stp_0 (w : List Nat) (first : Int) (row : List Int) (s : Nat) : (stp w first row s).getD 0 0 = first := by
  unfold stp
  rw [grow_old _ _ _ _ _ (Nat.zero_lt_one)]
  rfl
theorem stp_s (w : List Nat) (first : Int) (row : List Int) (s : Nat) (j : Nat) (h : j < w.length) : (stp w first row s).getD (j + 1) 0 = mn3 (row.getD j 0 + (if s = w[j] then 0 else 1)) (row.getD (j + 1) 0 + 1) ((stp w first row s).getD j 0 + 1) := by
  have := grow_new (V := Vd s row) (fun j c a b e => by unfold Vd; rw [e]) w 0 [first] j rfl h
  rw [Nat.zero_add] at this
  exact this
def row0 (n : Nat) : List Int := (List.range (n + 1)).map fun i => ((i : Nat) : Int)
theorem row0_at {n j : Nat} (h : j ≤ n) : (row0 n).getD j 0 = (j : Int) := by
  unfold row0
  rw [List.getD_eq_getElem?_getD, List.getElem?_map, List.getElem?_range (by omega)]
  rfl
theorem row0_len (n : Nat) : (row0 n).length = n + 1 := by
  unfold row0
  rw [List.length_map, List.length_range]
theorem rg_row0 (n : Nat) : rgD 0 (((n : Nat) : Int) + 1) = (row0 n).map .int := by
  unfold rgD row0
  have e : ((((n : Nat) : Int) + 1) - 0).toNat = n + 1 := by omega
  rw [e, List.map_map]
  exact List.map_congr_left fun i _ => by rw [Int.zero_add]; rfl
/-- the rows of edits, of ends -/
def eRow (w : List Nat) (x : List Nat) : List Int := x.foldl (fun row s => stp w (row.getD 0 0 + 1) row s) (row0 w.length)
def sRow (w : List Nat) (x : List Nat) : List Int := x.foldl (fun row s => stp w 0 row s) (row0 w.length)
theorem eRow_snoc (w x : List Nat) (c : Nat) : eRow w (x ++ [c]) = stp w ((eRow w x).getD 0 0 + 1) (eRow w x) c := by
  unfold eRow
  rw [List.foldl_append]
  rfl
theorem sRow_snoc (w x : List Nat) (c : Nat) : sRow w (x ++ [c]) = stp w 0 (sRow w x) c := by
  unfold sRow
  rw [List.foldl_append]
  rfl
theorem snoc_ind {P : List Nat → Prop} (h0 : P []) (h1 : ∀ x c, P x → P (x ++ [c])) (x : List Nat) : P x := by
  have h : ∀ y : List Nat, P y.reverse := by
    intro y
    induction y with
    | nil => exact h0
    | cons c y ih =>
      rw [List.reverse_cons]
      exact h1 _ c ih
  have := h x.reverse
  rwa [List.reverse_reverse] at this
theorem eRow_len (w x : List Nat) : (eRow w x).length = w.length + 1 := by
  induction x using snoc_ind with
  | h0 => exact row0_len _
  | h1 x c ih =>
    rw [eRow_snoc]
    exact stp_len _ _ _ _
theorem sRow_len (w x : List Nat) : (sRow w x).length = w.length + 1 := by
  induction x using snoc_ind with
  | h0 => exact row0_len _
  | h1 x c ih =>
    rw [sRow_snoc]
    exact stp_len _ _ _ _
theorem eRow_0 (w x : List Nat) : (eRow w x).getD 0 0 = (x.length : Int) := by
  induction x using snoc_ind with
  | h0 => exact row0_at (Nat.zero_le _)
  | h1 x c ih =>
    rw [eRow_snoc, stp_0, ih, List.length_append]
    rfl
/-- an end's row: the least of the edits' rows over all starts -/
theorem ends_min (w p : List Nat) : ∀ j, j ≤ w.length → (∀ k, k ≤ p.length → (sRow w p).getD j 0 ≤ (eRow w (p.drop k)).getD j 0) ∧ ∃ k, k ≤ p.length ∧ (sRow w p).getD j 0 = (eRow w (p.drop k)).getD j 0 := by
  induction p using snoc_ind with
  | h0 =>
    intro j hj
    refine ⟨fun k _ => ?_, 0, Nat.le_refl _, rfl⟩
    rw [List.drop_nil]
    exact Int.le_refl _
  | h1 p c ih =>
    have dk : ∀ k, k ≤ p.length → (p ++ [c]).drop k = p.drop k ++ [c] := fun k hk => by rw [List.drop_append_of_le_length hk]
    have dl : (p ++ [c]).drop (p.length + 1) = [] := List.drop_eq_nil_of_le (by rw [List.length_append]; exact Nat.le_refl _)
    have ll : (p ++ [c]).length = p.length + 1 := by rw [List.length_append]; rfl
    intro j
    induction j with
    | zero =>
      intro _
      rw [sRow_snoc, stp_0]
      refine ⟨fun k _ => by rw [eRow_0]; omega, p.length + 1, by omega, ?_⟩
      rw [dl, eRow_0]
      rfl
    | succ j ihj =>
      intro hj
      obtain ⟨lo, k0, hk0, at0⟩ := ihj (by omega)
      obtain ⟨lo1, k1, hk1, at1⟩ := ih j (by omega)
      obtain ⟨lo2, k2, hk2, at2⟩ := ih (j + 1) hj
      have hs := stp_s w 0 (sRow w p) c j (by omega)
      rw [← sRow_snoc] at hs
      have he : ∀ k, k ≤ p.length → (eRow w ((p ++ [c]).drop k)).getD (j + 1) 0 = mn3 ((eRow w (p.drop k)).getD j 0 + (if c = w[j] then 0 else 1)) ((eRow w (p.drop k)).getD (j + 1) 0 + 1) ((eRow w ((p ++ [c]).drop k)).getD j 0 + 1) := by
        intro k hk
        rw [dk k hk, eRow_snoc]
        exact stp_s w _ _ c j (by omega)
      have nil_s : (eRow w []).getD (j + 1) 0 = (eRow w []).getD j 0 + 1 := by
        show (row0 _).getD _ _ = (row0 _).getD _ _ + 1
        rw [row0_at hj, row0_at (by omega)]
        omega
      have low : ∀ k, k ≤ (p ++ [c]).length → (sRow w (p ++ [c])).getD (j + 1) 0 ≤ (eRow w ((p ++ [c]).drop k)).getD (j + 1) 0 := by
        intro k hk
        have m := mn3_le ((sRow w p).getD j 0 + (if c = w[j] then 0 else 1)) ((sRow w p).getD (j + 1) 0 + 1) ((sRow w (p ++ [c])).getD j 0 + 1)
        rw [← hs] at m
        by_cases c1 : k ≤ p.length
        · rw [he k c1]
          have a1 := lo1 k c1
          have a2 := lo2 k c1
          have a3 := lo k hk
          exact mn3_ge (by omega) (by omega) (by omega)
        · have ek : k = p.length + 1 := by omega
          have a3 := lo k hk
          rw [ek, dl] at a3 ⊢
          rw [nil_s]
          omega
      refine ⟨low, ?_⟩
      rcases mn3_cases ((sRow w p).getD j 0 + (if c = w[j] then 0 else 1)) ((sRow w p).getD (j + 1) 0 + 1) ((sRow w (p ++ [c])).getD j 0 + 1) with e | e | e
      · refine ⟨k1, by omega, ?_⟩
        have l := low k1 (by omega)
        have m := (mn3_le ((eRow w (p.drop k1)).getD j 0 + (if c = w[j] then 0 else 1)) ((eRow w (p.drop k1)).getD (j + 1) 0 + 1) ((eRow w ((p ++ [c]).drop k1)).getD j 0 + 1)).1
        rw [← he k1 hk1] at m
        rw [hs, e] at l ⊢
        omega
      · refine ⟨k2, by omega, ?_⟩
        have l := low k2 (by omega)
        have m := (mn3_le ((eRow w (p.drop k2)).getD j 0 + (if c = w[j] then 0 else 1)) ((eRow w (p.drop k2)).getD (j + 1) 0 + 1) ((eRow w ((p ++ [c]).drop k2)).getD j 0 + 1)).2.1
        rw [← he k2 hk2] at m
        rw [hs, e] at l ⊢
        omega
      · refine ⟨k0, hk0, ?_⟩
        have l := low k0 hk0
        rw [hs, e] at l ⊢
        by_cases c1 : k0 ≤ p.length
        · have m := (mn3_le ((eRow w (p.drop k0)).getD j 0 + (if c = w[j] then 0 else 1)) ((eRow w (p.drop k0)).getD (j + 1) 0 + 1) ((eRow w ((p ++ [c]).drop k0)).getD j 0 + 1)).2.2
          rw [← he k0 c1] at m
          omega
        · have ek : k0 = p.length + 1 := by omega
          rw [ek, dl] at at0 ⊢
          rw [nil_s]
          omega
end Pu

namespace Pu
open PySem PySem.Spec PyProof.Rows L2 Evl
/-! ### range(a, b, -1) -/
def dnD (a b : Int) : List D := (List.range (a - b).toNat).map fun i => D.int (a + (i : Nat) * (-1))
def rg3F (f h k : F) : Fs := fun ρ => (f ρ).bind fun x => (h ρ).bind fun y => (k ρ).bind fun z => (ofO (toI x)).bind fun m => (ofO (toI y)).bind fun n => (ofO (toI z)).bind fun c => if ((-(2 ^ 62) ≤ m ∧ m < 2 ^ 62) ∧ (-(2 ^ 62) ≤ n ∧ n < 2 ^ 62)) ∧ c = -1 then .ok (dnD m n) else .st
theorem wk_down {K : PySem.W.Frag} {xa : Xa} {B : Hp} (lo : Int) (n : Nat) : Wk K xa B (Itc lo (-1) n) ((List.range n).map fun i => D.int (lo + (i : Nat) * (-1))) where
  go := fun i B1 H1 _ _ hi => by
    rw [List.length_map, List.length_range] at hi
    exact hi
  stop := fun B1 H1 _ _ => by
    show n ≤ _
    rw [List.length_map, List.length_range]
    exact Nat.le_refl _
  yld := fun i B1 H1 x H2 d _ b2 hd hy => by
    obtain ⟨rfl, rfl⟩ := hy
    rw [List.getElem?_map] at hd
    obtain ⟨j, e3, e4⟩ := Option.map_eq_some_iff.mp hd
    have ej : j = i := by
      obtain ⟨h1, h2⟩ := List.getElem?_eq_some_iff.mp e3
      rw [List.getElem_range] at h2
      exact h2.symm
    subst ej e4
    exact ⟨B1, Gw.refl b2, .int _⟩
section
variable {X : Cx} {xa : Xa} {W : WX} {pos p : Pos} {tg a b c : Expr} {f h k : F}
theorem i_down (hg : Gl X "range") (hm : X.mg "range" = none) (ha : Pe X xa W a f) (hb : Pe X xa W b h) (hc : Pe X xa W c k) (hs : starEach [a, b, c] X.env = (false, eval a X.env) :: starEach [b, c] X.env := by rfl) (hs2 : starEach [b, c] X.env = (false, eval b X.env) :: starEach [c] X.env := by rfl)
    (hs3 : starEach [c] X.env = (false, eval c X.env) :: starEach [] X.env := by rfl) (hpl : (backTo pos (starEach [b, c] X.env)).any (·.1) = false := by rfl) : Pi X xa W tg (.Call (.Name "range" p) [a, b, c] [] pos) (rg3F f h k) := by
  refine PI.imp (pi_range3 hg hm (pa_cons ha (pa_cons hb (pa_cons hc pa_nil hs3) hs2) hs) hs hpl) fun σ H R0 hq => ?_
  obtain ⟨Hb, ρ, le, re, q⟩ := hq
  refine ⟨Hb, ρ, le, re, post_bind le q fun d v B1 H1 e1 g1 r1 p1 => ?_⟩
  refine ⟨B1, ρ, g1.le, re.mono g1.bup, post_bind g1.le p1 fun d2 v2 B2 H2 e2 g2 r2 p2 => ?_⟩
  refine ⟨B2, ρ, g2.le, re.mono (g1.bup.trans g2.bup), post_bind g2.le p2 fun d3 v3 B3 H3 e3 g3 r3 p3 => ?_⟩
  cases r1 with
  | int m =>
    cases r2 with
    | int n =>
      cases r3 with
      | int z =>
        have p4 : post X.K (Wk X.K xa) (WE W σ) B3 H3 R0 (if ((-(2 ^ 62) ≤ m ∧ m < 2 ^ 62) ∧ (-(2 ^ 62) ≤ n ∧ n < 2 ^ 62)) ∧ z = -1 then .ok (dnD m n) else .st) := p3
        by_cases cc : ((-(2 ^ 62) ≤ m ∧ m < 2 ^ 62) ∧ (-(2 ^ 62) ≤ n ∧ n < 2 ^ 62)) ∧ z = -1
        · rw [if_pos cc] at p4
          obtain ⟨⟨⟨c1, c2⟩, c3, c4⟩, rfl⟩ := cc
          exact ⟨m, n, -1, (m - n).toNat, rfl, RgC.neg c1 c2 c3 c4, post_here g3.le p4 (wk_down m (m - n).toNat)⟩
        · rw [if_neg cc] at p4
          exact p4.elim
      | _ => exact (show False from p3).elim
    | _ => exact (show False from p3).elim
  | _ => exact (show False from p3).elim
end
theorem eDn {a b c : F} {ε : Env} {m n : Int} (h1 : a ε = .ok (.int m)) (h2 : b ε = .ok (.int n)) (h3 : c ε = .ok (.int (-1))) (h4 : (-(2 ^ 62) ≤ m ∧ m < 2 ^ 62) ∧ (-(2 ^ 62) ≤ n ∧ n < 2 ^ 62)) : rg3F a b c ε = .ok (dnD m n) := by
  unfold rg3F
  rw [h1, Res.bind_ok, h2, Res.bind_ok, h3, Res.bind_ok, toI_int, ofO_some, Res.bind_ok, toI_int, ofO_some, Res.bind_ok, toI_int, ofO_some, Res.bind_ok, if_pos ⟨h4, rfl⟩]
end Pu

namespace Pu
open PySem PySem.Spec PyProof.Rows L2 Evl
/-! ### text[::-1] -/
def dRev : D → Option D
  | .str l => if l.length ≤ 16777216 then some (.str l.reverse) else none
  | _ => none
theorem rev_ix (n : Nat) : Builtin.Str.strSliceIndices none none (-1) n = (List.range n).reverse := by
  have e : Builtin.Str.strSliceIndices none none (-1) n = sliceRange ((n : Int) - 1) (-1) (-1) := rfl
  rw [e, PySem.W.krv_sliceRange, PySem.W.krv_range]
section
variable {X : Cx} {xa : Xa} {W : WX} {pos p1 p2 p3 : Pos} {e : Expr} {f : F} {k : Nat}
theorem pe_revS {te : TE} (he : PE X e te) : PE X (.Subscript e (.Slice none none (some (.UnaryOp .USub (.Constant (.int 1) k p1) p2)) p3) pos) (fun σ H Q => te σ H fun x H1 => ∃ l : List Nat, x = .str (sOf l) ∧ l.length ≤ 16777216 ∧ Q (.str (sOf l.reverse)) H1) := by
  refine ⟨fun pins s σ H Q I h => Subscript_ (thn (he.run pins s σ H _ I h) fun v s1 hv => ?_)⟩
  obtain ⟨x, H1, I1, r1, l, rfl, hz, q⟩ := hv
  obtain ⟨t, rfl⟩ := r1
  have neg : PO X (some (.UnaryOp .USub (.Constant (.int 1) k p1) p2)) (tPart (tUn (rU fun i => .int (-i)) (tC (.int 1)))) := po_some (pe_un un_neg pe_int)
  refine wpAny_Slice (thn (po_none.run pins s1 σ H1 (fun o G => o = none ∧ G = H1) I1 ⟨rfl, rfl⟩) fun vl s2 hl => ?_)
  obtain ⟨o2, H2, I2, pl, rfl, rfl⟩ := hl
  refine thn (po_none.run pins s2 σ H2 (fun o G => o = none ∧ G = H2) I2 ⟨rfl, rfl⟩) fun vu s3 hu => ?_
  obtain ⟨o3, H3, I3, pu, rfl, rfl⟩ := hu
  refine thn (neg.run pins s3 σ H3 (fun o G => o = some (-1) ∧ G = H3) I3 ⟨1, rfl, -1, rfl, rfl, rfl⟩) fun vs s4 hs => ?_
  obtain ⟨o4, H4, I4, ps, rfl, rfl⟩ := hs
  cases pl
  cases pu
  cases ps with
  | int _ tk =>
    have I5 : Inv X pins σ H4 { s4 with heap := s4.heap.push { cls := .type "slice", data := .fields #[.none, .none, .int (-1) tk] } } := I4.kept (t' := s4.toks) fun b ob z => Heap.get?_push_of_some _ z
    show wpAny (model X.prog X.w) X.A (subscriptTail e (.Slice none none (some (.UnaryOp .USub (.Constant (.int 1) k p1) p2)) p3) (.str (sOf l) t) (.ref s4.heap.objs.size)) (EP X pins σ Q) X.xe { s4 with heap := s4.heap.push { cls := .type "slice", data := .fields #[.none, .none, .int (-1) tk] } }
    refine tail_any (ops := [.str (sOf l) t, .ref s4.heap.objs.size]) (typeIs_str _ _ _) (slot_str_getitem.lookup) ?_ (by with_unfolding_all rfl)
    refine wpAny_getItem_str_slice (l := none) (u := none) (st := some (-1, tk)) ⟨_, Heap.get?_push_size _ rfl, rfl, rfl⟩ (show ((-1 : Int) == 0) = false by decide) ?_
    have em : sliceMade (sOf l) t none none (some (-1, tk)) = .str (sOf l.reverse) := by
      unfold sliceMade slicePicked
      show (if ((-1 : Int) == 1 && _) = true then _ else Made.str ⟨((Builtin.Str.strSliceIndices none none (-1) (sOf l).length).filterMap ((sOf l).cps[·]?)).toArray⟩) = _
      rw [if_neg (by simp), rev_ix, List.filterMap_reverse]
      have e : (List.range (sOf l).length).filterMap ((sOf l).cps[·]?) = l := PySem.W.krv_all (sOf l).cps
      rw [e]
    rw [em]
    exact ⟨by rw [sOf_len, List.length_reverse, szl]; exact hz, .str _, H4, I5.tok _, ⟨_, rfl⟩, q⟩
theorem p_rev (he : Pe X xa W e f) : Pe X xa W (.Subscript e (.Slice none none (some (.UnaryOp .USub (.Constant (.int 1) k p1) p2)) p3) pos) (op1 dRev f) := by
  refine PE.imp (pe_revS he) fun σ H Q hq => ?_
  obtain ⟨Hb, ρ, le, re, p⟩ := hq
  refine ⟨Hb, ρ, le, re, post_bind le p fun d v B1 H1 e1 g1 r1 p1 => ?_⟩
  cases r1 with
  | @str l hl =>
    have p1 : post X.K (R X.K xa) (WE W σ) B1 H1 Q (ofO (if l.length ≤ 16777216 then some (.str l.reverse) else none)) := p1
    by_cases c : l.length ≤ 16777216
    · rw [if_pos c] at p1
      exact ⟨l, rfl, c, post_here g1.le p1 (.str (hl.sub fun c hc => List.mem_reverse.mp hc))⟩
    · rw [if_neg c] at p1
      exact p1.elim
  | _ => exact p1.elim
end
end Pu

namespace Pu
open PySem L2
/-! ### edits from the front -/
def Lv : List Nat → List Nat → Int
  | [], y => ((y.length : Nat) : Int)
  | a :: x, [] => (((a :: x).length : Nat) : Int)
  | a :: x, b :: y => mn3 (Lv x y + (if a = b then 0 else 1)) (Lv x (b :: y) + 1) (Lv (a :: x) y + 1)
termination_by x y => x.length + y.length
theorem Lv_nil (y : List Nat) : Lv [] y = ((y.length : Nat) : Int) := by rw [Lv]
theorem Lv_nilR (x : List Nat) : Lv x [] = ((x.length : Nat) : Int) := by
  cases x with
  | nil => rw [Lv]
  | cons a x => rw [Lv]
theorem Lv_cons (a b : Nat) (x y : List Nat) : Lv (a :: x) (b :: y) = mn3 (Lv x y + (if a = b then 0 else 1)) (Lv x (b :: y) + 1) (Lv (a :: x) y + 1) := by rw [Lv]
/-- least of three, as inequalities -/
theorem mn3_iff {v x y z : Int} : v = mn3 x y z ↔ (v ≤ x ∧ v ≤ y ∧ v ≤ z) ∧ (v = x ∨ v = y ∨ v = z) := by
  constructor
  · rintro rfl
    exact ⟨mn3_le x y z, mn3_cases x y z⟩
  · rintro ⟨⟨h1, h2, h3⟩, h4⟩
    have a := mn3_le x y z
    have b := mn3_cases x y z
    omega
theorem back1 (a b : Nat) : ∀ y : List Nat, Lv [a] (y ++ [b]) = mn3 (Lv [] y + (if a = b then 0 else 1)) (Lv [] (y ++ [b]) + 1) (Lv [a] y + 1)
  | [] => by
    show Lv [a] [b] = _
    rw [Lv_cons]
    rfl
  | d :: y => by
    have ih := mn3_iff.mp (back1 a b y)
    have e1 := mn3_iff.mp (Lv_cons a d [] (y ++ [b]))
    have e2 := mn3_iff.mp (Lv_cons a d [] y)
    rw [List.cons_append]
    simp only [Lv_nil, List.length_cons, List.length_append, List.length_nil] at ih e1 e2 ⊢
    refine mn3_iff.mpr ?_
    generalize Lv [a] (d :: (y ++ [b])) = v at *
    generalize Lv [a] (y ++ [b]) = v1 at *
    generalize Lv [a] (d :: y) = v2 at *
    generalize Lv [a] y = v3 at *
    generalize (if a = b then (0 : Int) else 1) = p at *
    generalize (if a = d then (0 : Int) else 1) = q at *
    omega
theorem back2 (a b : Nat) : ∀ x : List Nat, Lv (x ++ [a]) [b] = mn3 (Lv x [] + (if a = b then 0 else 1)) (Lv x [b] + 1) (Lv (x ++ [a]) [] + 1)
  | [] => by
    show Lv [a] [b] = _
    rw [Lv_cons]
    rfl
  | c :: x => by
    have ih := mn3_iff.mp (back2 a b x)
    have e1 := mn3_iff.mp (Lv_cons c b (x ++ [a]) [])
    have e2 := mn3_iff.mp (Lv_cons c b x [])
    rw [List.cons_append]
    simp only [Lv_nilR, List.length_cons, List.length_append, List.length_nil] at ih e1 e2 ⊢
    refine mn3_iff.mpr ?_
    generalize Lv (c :: (x ++ [a])) [b] = v at *
    generalize Lv (x ++ [a]) [b] = v1 at *
    generalize Lv (c :: x) [b] = v2 at *
    generalize Lv x [b] = v3 at *
    generalize (if a = b then (0 : Int) else 1) = p at *
    generalize (if c = b then (0 : Int) else 1) = q at *
    omega
/-- from the back as from the front -/
theorem back (a b : Nat) : ∀ (n : Nat) (x y : List Nat), x.length + y.length ≤ n → Lv (x ++ [a]) (y ++ [b]) = mn3 (Lv x y + (if a = b then 0 else 1)) (Lv x (y ++ [b]) + 1) (Lv (x ++ [a]) y + 1)
  | n, [], y, _ => back1 a b y
  | n, x, [], _ => back2 a b x
  | 0, _ :: _, _ :: _, h => by simp at h
  | n + 1, c :: x, d :: y, h => by
    have hl : x.length + 1 + (y.length + 1) ≤ n + 1 := h
    have i1 := mn3_iff.mp (back a b n x y (by omega))
    have i2 := mn3_iff.mp (back a b n x (d :: y) (by show x.length + (y.length + 1) ≤ n; omega))
    have i3 := mn3_iff.mp (back a b n (c :: x) y (by show x.length + 1 + y.length ≤ n; omega))
    have f0 := mn3_iff.mp (Lv_cons c d (x ++ [a]) (y ++ [b]))
    have f1 := mn3_iff.mp (Lv_cons c d x y)
    have f2 := mn3_iff.mp (Lv_cons c d x (y ++ [b]))
    have f3 := mn3_iff.mp (Lv_cons c d (x ++ [a]) y)
    rw [List.cons_append, List.cons_append]
    rw [List.cons_append] at i2 i3
    refine mn3_iff.mpr ?_
    generalize Lv (c :: (x ++ [a])) (d :: (y ++ [b])) = v0 at *
    generalize Lv (x ++ [a]) (y ++ [b]) = v1 at *
    generalize Lv (x ++ [a]) (d :: (y ++ [b])) = v2 at *
    generalize Lv (c :: (x ++ [a])) (y ++ [b]) = v3 at *
    generalize Lv (c :: x) (d :: y) = v4 at *
    generalize Lv (c :: x) (d :: (y ++ [b])) = v5 at *
    generalize Lv (c :: (x ++ [a])) (d :: y) = v6 at *
    generalize Lv x y = u1 at *
    generalize Lv x (y ++ [b]) = u2 at *
    generalize Lv (x ++ [a]) y = u3 at *
    generalize Lv x (d :: y) = u4 at *
    generalize Lv x (d :: (y ++ [b])) = u5 at *
    generalize Lv (x ++ [a]) (d :: y) = u6 at *
    generalize Lv (c :: x) y = u7 at *
    generalize Lv (c :: x) (y ++ [b]) = u8 at *
    generalize Lv (c :: (x ++ [a])) y = u9 at *
    generalize (if a = b then (0 : Int) else 1) = p at *
    generalize (if c = d then (0 : Int) else 1) = q at *
    omega
theorem Lv_rev : ∀ (n : Nat) (x y : List Nat), x.length + y.length ≤ n → Lv x.reverse y.reverse = Lv x y
  | _, [], y, _ => by rw [List.reverse_nil, Lv_nil, Lv_nil, List.length_reverse]
  | _, x, [], _ => by rw [List.reverse_nil, Lv_nilR, Lv_nilR, List.length_reverse]
  | 0, _ :: _, _ :: _, h => by simp at h
  | n + 1, a :: x, b :: y, h => by
    have hl : x.length + 1 + (y.length + 1) ≤ n + 1 := h
    have h1 := Lv_rev n x y (by omega)
    have h2 := Lv_rev n x (b :: y) (by show x.length + (y.length + 1) ≤ n; omega)
    have h3 := Lv_rev n (a :: x) y (by show x.length + 1 + y.length ≤ n; omega)
    rw [List.reverse_cons] at h2 h3
    rw [List.reverse_cons, List.reverse_cons, back a b _ _ _ (Nat.le_refl _), h1, h2, h3, Lv_cons]
theorem eRow_L (w x : List Nat) : ∀ j, j ≤ w.length → (eRow w x).getD j 0 = Lv x (w.take j) := by
  induction x using snoc_ind with
  | h0 =>
    intro j hj
    rw [Lv_nil, List.length_take, Nat.min_eq_left hj]
    exact row0_at hj
  | h1 x c ih =>
    intro j
    induction j with
    | zero =>
      intro _
      rw [eRow_0, List.take_zero, Lv_nilR]
    | succ j ihj =>
      intro hj
      have tk : w.take (j + 1) = w.take j ++ [w[j]] := by rw [List.take_succ, List.getElem?_eq_getElem (by omega)]; rfl
      rw [eRow_snoc, stp_s w _ _ c j (by omega), ← eRow_snoc, ih j (by omega), ih (j + 1) hj, ihj (by omega), tk, back c w[j] _ _ _ (Nat.le_refl _)]
theorem eRow_end (w x : List Nat) : (eRow w x).getD w.length 0 = Lv x w := by
  rw [eRow_L w x w.length (Nat.le_refl _), List.take_length]
end Pu

namespace Pu
open PySem L2
/-! ### edits as a distance -/
abbrev dl (a b : Nat) : Int := if a = b then 0 else 1
theorem dl_bd (a b : Nat) : 0 ≤ dl a b ∧ dl a b ≤ 1 := by
  unfold dl
  split <;> omega
theorem dl_sym (a b : Nat) : dl a b = dl b a := by
  unfold dl
  by_cases h : a = b
  · rw [if_pos h, if_pos h.symm]
  · rw [if_neg h, if_neg fun e => h e.symm]
theorem dl_tri (a b c : Nat) : dl a c ≤ dl a b + dl b c := by
  unfold dl
  by_cases h1 : a = b
  · subst h1
    rw [if_pos rfl]
    omega
  · rw [if_neg h1]
    split <;> split <;> omega
theorem dl_0 {a b : Nat} : dl a b = 0 ↔ a = b := by
  unfold dl
  by_cases h : a = b
  · rw [if_pos h]
    exact ⟨fun _ => h, fun _ => rfl⟩
  · rw [if_neg h]
    exact ⟨fun e => absurd e (by omega), fun e => absurd e h⟩
theorem Lv_c (a b : Nat) (x y : List Nat) : (Lv (a :: x) (b :: y) ≤ Lv x y + dl a b ∧ Lv (a :: x) (b :: y) ≤ Lv x (b :: y) + 1 ∧ Lv (a :: x) (b :: y) ≤ Lv (a :: x) y + 1) ∧ (Lv (a :: x) (b :: y) = Lv x y + dl a b ∨ Lv (a :: x) (b :: y) = Lv x (b :: y) + 1 ∨ Lv (a :: x) (b :: y) = Lv (a :: x) y + 1) := mn3_iff.mp (Lv_cons a b x y)
theorem Lv_n0 (b : Nat) (y : List Nat) : Lv [] (b :: y) = Lv [] y + 1 := by
  rw [Lv_nil, Lv_nil]
  show ((y.length + 1 : Nat) : Int) = _
  omega
theorem Lv_0n (a : Nat) (x : List Nat) : Lv (a :: x) [] = Lv x [] + 1 := by
  rw [Lv_nilR, Lv_nilR]
  show ((x.length + 1 : Nat) : Int) = _
  omega
theorem Lv_00 : Lv [] [] = 0 := by rw [Lv_nil]; rfl
/-- by the sum of lengths -/
theorem ind2 {P : List Nat → List Nat → Prop} (h0 : P [] []) (h1 : ∀ a x, P x [] → P (a :: x) []) (h2 : ∀ b y, P [] y → P [] (b :: y)) (h3 : ∀ a x b y, P x y → P x (b :: y) → P (a :: x) y → P (a :: x) (b :: y)) : ∀ x y, P x y := by
  have key : ∀ (n : Nat) (x y : List Nat), x.length + y.length ≤ n → P x y := by
    intro n
    induction n with
    | zero =>
      intro x y h
      cases x with
      | nil =>
        cases y with
        | nil => exact h0
        | cons b y => simp at h
      | cons a x => simp at h
    | succ n ih =>
      intro x y h
      cases x with
      | nil =>
        cases y with
        | nil => exact h0
        | cons b y => exact h2 b y (ih _ _ (by simp at h ⊢; omega))
      | cons a x =>
        cases y with
        | nil => exact h1 a x (ih _ _ (by simp at h ⊢; omega))
        | cons b y => exact h3 a x b y (ih _ _ (by simp at h ⊢; omega)) (ih _ _ (by simp at h ⊢; omega)) (ih _ _ (by simp at h ⊢; omega))
  exact fun x y => key _ x y (Nat.le_refl _)
theorem Lv_nn : ∀ x y, 0 ≤ Lv x y := by
  refine ind2 (by rw [Lv_00]; omega) (fun a x h => by rw [Lv_0n]; omega) (fun b y h => by rw [Lv_n0]; omega) fun a x b y h1 h2 h3 => ?_
  have := Lv_c a b x y
  have := dl_bd a b
  omega
theorem Lv_sym : ∀ x y, Lv x y = Lv y x := by
  refine ind2 rfl (fun a x h => by rw [Lv_0n, Lv_n0, h]) (fun b y h => by rw [Lv_n0, Lv_0n, h]) fun a x b y h1 h2 h3 => ?_
  have e1 := Lv_c a b x y
  have e2 := Lv_c b a y x
  have := dl_sym a b
  omega
/-- one sign more -/
theorem Lv_lip : ∀ x y, (∀ c, Lv x y ≤ Lv (c :: x) y + 1 ∧ Lv (c :: x) y ≤ Lv x y + 1) ∧ ∀ c, Lv x y ≤ Lv x (c :: y) + 1 ∧ Lv x (c :: y) ≤ Lv x y + 1 := by
  refine ind2 ⟨fun c => by rw [Lv_0n]; omega, fun c => by rw [Lv_n0]; omega⟩ (fun a x h => ?_) (fun b y h => ?_) fun a x b y h1 h2 h3 => ?_
  · refine ⟨fun c => by rw [Lv_0n c]; omega, fun c => ?_⟩
    have e := Lv_c a c x []
    have d := dl_bd a c
    have k := h.2 c
    have z := Lv_0n a x
    omega
  · refine ⟨fun c => ?_, fun c => by rw [Lv_n0 c]; omega⟩
    have e := Lv_c c b [] y
    have d := dl_bd c b
    have k := h.1 c
    have z := Lv_n0 b y
    omega
  · refine ⟨fun c => ?_, fun c => ?_⟩
    · have e := Lv_c c b (a :: x) y
      have f := Lv_c a b x y
      have d := dl_bd c b
      have k1 := h3.1 c
      have k2 := h3.2 b
      omega
    · have e := Lv_c a c x (b :: y)
      have f := Lv_c a b x y
      have d := dl_bd a c
      have k1 := h2.2 c
      have k2 := h2.1 a
      omega
theorem Lv_pre1 (c : Nat) (x y : List Nat) : Lv (c :: x) (c :: y) = Lv x y := by
  have e := Lv_c c c x y
  have d : dl c c = 0 := dl_0.mpr rfl
  have k1 := (Lv_lip x y).2 c
  have k2 := (Lv_lip x y).1 c
  omega
theorem Lv_pre (z x y : List Nat) : Lv (z ++ x) (z ++ y) = Lv x y := by
  induction z with
  | nil => rfl
  | cons c z ih =>
    rw [List.cons_append, List.cons_append, Lv_pre1, ih]
theorem Lv_suf (x y z : List Nat) : Lv (x ++ z) (y ++ z) = Lv x y := by
  rw [← Lv_rev _ _ _ (Nat.le_refl _), List.reverse_append, List.reverse_append, Lv_pre, Lv_rev _ _ _ (Nat.le_refl _)]
theorem Lv_self (x : List Nat) : Lv x x = 0 := by
  have := Lv_pre x [] []
  rw [List.append_nil] at this
  rw [this, Lv_00]
theorem Lv_zero : ∀ x y, Lv x y = 0 → x = y := by
  refine ind2 (fun _ => rfl) (fun a x h => ?_) (fun b y h => ?_) fun a x b y h1 h2 h3 h => ?_
  · intro e
    have := Lv_nn x []
    rw [Lv_0n] at e
    omega
  · intro e
    have := Lv_nn [] y
    rw [Lv_n0] at e
    omega
  · have e := Lv_c a b x y
    have n1 := Lv_nn x y
    have n2 := Lv_nn x (b :: y)
    have n3 := Lv_nn (a :: x) y
    have d := dl_bd a b
    have z1 : Lv x y = 0 := by omega
    have z2 : dl a b = 0 := by omega
    rw [h1 z1, dl_0.mp z2]
theorem Lv_len : ∀ x y, (((x.length : Nat) : Int) - ((y.length : Nat) : Int) ≤ Lv x y ∧ ((y.length : Nat) : Int) - ((x.length : Nat) : Int) ≤ Lv x y) ∧ (Lv x y ≤ ((x.length : Nat) : Int) ∨ Lv x y ≤ ((y.length : Nat) : Int)) := by
  refine ind2 (by rw [Lv_00]; simp) (fun a x h => by rw [Lv_nilR]; simp; omega) (fun b y h => by rw [Lv_nil]; simp; omega) fun a x b y h1 h2 h3 => ?_
  have e := Lv_c a b x y
  have d := dl_bd a b
  simp only [List.length_cons] at h1 h2 h3 ⊢
  omega
theorem Lv_tri : ∀ (n : Nat) (x y z : List Nat), x.length + y.length + z.length ≤ n → Lv x z ≤ Lv x y + Lv y z
  | n, [], y, z, _ => by
    have := Lv_len y z
    rw [Lv_nil, Lv_nil]
    omega
  | n, x, y, [], _ => by
    have := Lv_len x y
    rw [Lv_nilR, Lv_nilR]
    omega
  | n, x, [], z, _ => by
    have := Lv_len x z
    rw [Lv_nilR, Lv_nil]
    omega
  | 0, _ :: _, _ :: _, _ :: _, h => by simp at h
  | n + 1, a :: x, b :: y, c :: z, h => by
    have hl : x.length + 1 + (y.length + 1) + (z.length + 1) ≤ n + 1 := h
    have t1 := Lv_tri n x (b :: y) (c :: z) (by show x.length + (y.length + 1) + (z.length + 1) ≤ n; omega)
    have t2 := Lv_tri n (a :: x) (b :: y) z (by show x.length + 1 + (y.length + 1) + z.length ≤ n; omega)
    have t3 := Lv_tri n x y z (by omega)
    have t4 := Lv_tri n x y (c :: z) (by show x.length + y.length + (z.length + 1) ≤ n; omega)
    have t5 := Lv_tri n (a :: x) y z (by show x.length + 1 + y.length + z.length ≤ n; omega)
    have t6 := Lv_tri n (a :: x) y (c :: z) (by show x.length + 1 + y.length + (z.length + 1) ≤ n; omega)
    have e1 := Lv_c a b x y
    have e2 := Lv_c b c y z
    have e3 := Lv_c a c x z
    have d1 := dl_bd a b
    have d2 := dl_bd b c
    have d3 := dl_tri a b c
    omega
theorem Lv_app (y w : List Nat) : ∀ x z, Lv (x ++ y) (z ++ w) ≤ Lv x z + Lv y w := by
  refine ind2 (by rw [Lv_00]; show Lv y w ≤ _; omega) (fun a x h => ?_) (fun b z h => ?_) fun a x b z h1 h2 h3 => ?_
  · have k := ((Lv_lip (x ++ y) ([] ++ w)).1 a).2
    rw [Lv_0n, List.cons_append]
    omega
  · have k := ((Lv_lip ([] ++ y) (z ++ w)).2 b).2
    rw [Lv_n0, List.cons_append]
    omega
  · have e := Lv_c a b x z
    have f := Lv_c a b (x ++ y) (z ++ w)
    rw [List.cons_append, List.cons_append] at *
    omega
theorem Lv_cnt : ∀ x y, x.length = y.length → Lv x y ≤ ((cnt x y : Nat) : Int) := by
  refine ind2 (fun _ => by rw [Lv_00]; omega) (fun a x h e => by simp at e) (fun b y h e => by simp at e) fun a x b y h1 h2 h3 e => ?_
  have h1 := h1 (by simpa using e)
  have f := Lv_c a b x y
  have g : ((cnt (a :: x) (b :: y) : Nat) : Int) = ((cnt x y : Nat) : Int) + dl a b := by
    unfold cnt dl
    rw [List.zip_cons_cons]
    by_cases q : a = b
    · subst q
      simp
    · simp [q]
  omega
end Pu

namespace Pu
open PySem PySem.Spec PyProof.Rows L2 Evl
/-! ### y = xs.pop() -/
def poS (i s : Nat) : SF := fun ρ => match ρ[s]? with
  | some (.own (.L ds)) => (match ds[ds.length - 1]? with
    | some d => .nx ((ρ.set s (.ow ds.dropLast)).set i (.sh d))
    | none => .st)
  | _ => .st
section
variable {X : Cx} {xa : Xa} {W : WX} {pos pos' p1 p2 py : Pos}
theorem s_pop (i s : Nat) {x y : Str} (hN : X.N.Nodup) (hi : X.N[i]? = some y := by rfl) (hy : Loc X.env.scope y := by first | exact Or.inl rfl | exact Or.inr rfl) (hs : X.N[s]? = some x := by rfl) (hv : Vis X.env.scope x := by first | exact Or.inl rfl | exact Or.inr (Or.inl rfl) | exact Or.inr (Or.inr rfl)) (hd : (x == ("__debug__" : Str)) = false := by decide) (hcd : (x == ("__classdict__" : Str)) = false := by decide)
    (hbase : attributeBase (.Name x p1) "pop" X.env (eval (.Name x p1) X.env) = eval (.Name x p1) X.env := by rfl) (hline : (p2.endLine == pos'.line) = true := by rfl)
    (hsw : swapsWith (.Call (.Attribute (.Name x p1) "pop" p2) [] [] pos') (some (.Name y py)) pos.line X.env = pure false := by rfl) (hf : X.fn y = true ∨ X.env.scope.names.lookup y = some .local := by first | exact .inl rfl | exact .inr rfl) :
    Ps X xa W (.Assign [.Name y py] (.Call (.Attribute (.Name x p1) "pop" p2) [] [] pos') pos) (poS i s) := by
  refine PS.imp (ps_set hN hi hy (pe_bm0 PySem.F.plainAttrs_list PySem.F.slot_list_pop PySem.F.type_list_pop mt_pop (pe_var hs hv hd hcd) hbase hline) hsw hf) fun Dn σ H ⟨B0, H0, B, ρ, r, p⟩ => ?_
  obtain ⟨ds, a, vs, h1, h2, h3, h4, p⟩ := ow_of r p
  cases e : ds[ds.length - 1]? with
  | none => rw [e] at p; exact p.elim
  | some d =>
    rw [e] at p
    obtain ⟨v, e1, rv⟩ := h4.get e
    have rd : RL X.K xa B vs.dropLast ds.dropLast := by
      rw [List.dropLast_eq_take, List.dropLast_eq_take, h4.length]
      exact h4.take _
    refine ⟨_, h2, .inl ⟨rfl, vs, SqL.of h3⟩, a, vs, v, rfl, rfl, h3, by rw [h4.length]; exact e1, ?_⟩
    exact p _ B _ ((r.mut h1 h2 rd).set rv i)
end
end Pu

namespace Pu
open PySem PySem.Spec PyProof.Rows L2 Evl
/-! ### xs + ys as a list of its own; list(..) likewise -/
def catD : D → D → Option (List D)
  | .lst a, .lst b => if a.length + b.length ≤ 1000000 then some (a ++ b) else none
  | _, _ => none
def catO (f h : F) : Fs := fun ρ => (f ρ).bind fun x => (h ρ).bind fun y => ofO (catD x y)
section
variable {X : Cx} {xa : Xa} {W : WX} {pos apos : Pos} {a b o e : Expr} {f h g : F}
theorem o_cat (ha : Pe X xa W a f) (hb : Pe X xa W b h) : Po1 X xa W (.BinOp a .Add b pos) (catO f h) := by
  refine PE.imp (pe_op op_cat ha hb) fun σ H Q hq => ?_
  obtain ⟨Hb, ρ, le, re, p⟩ := hq
  refine ⟨Hb, ρ, le, re, postO_bind p fun d v B1 H1 e1 g1 r1 p1 => ?_⟩
  refine ⟨B1, ρ, g1.le, re.mono g1.bup, postO_bind p1 fun d2 v2 B2 H2 e2 g2 r2 p2 => ?_⟩
  cases r1 with
  | @lst l xs as h1 q1 =>
    cases r2 with
    | @lst m ys bs h2 q2 =>
      have p2 : postO X.K xa (WE W σ) B2 H2 Q (ofO (if as.length + bs.length ≤ 1000000 then some (as ++ bs) else none)) := p2
      by_cases c : as.length + bs.length ≤ 1000000
      · rw [if_pos c] at p2
        refine ⟨l, m, xs, ys, rfl, rfl, g2.le _ _ (g2.bup _ _ h1), g2.le _ _ h2, by rw [q1.length, q2.length, szl]; omega, fun q hn => ?_⟩
        exact p2 q (xs ++ ys) B2 _ ⟨Ex.new hn, Ex.refl _, g2.le.trans (Ex.new hn), fun _ _ _ => rfl⟩ (fresh_back g2.le hn) hn upd_same ((q1.mono g2.bup).app q2)
      · rw [if_neg c] at p2
        exact p2.elim
    | _ => exact p2.elim
  | _ => exact p2.elim
/-! ### text.startswith(text) -/
def dStarts : D → D → Option D
  | .str a, .str b => some (.bl (Txt.startswith (sOf a) (sOf b)))
  | _, _ => none
theorem p_starts (ho : Pe X xa W o f) (he : Pe X xa W e g) (hbase : attributeBase o "startswith" X.env (eval o X.env) = eval o X.env := by rfl)
    (hfew : ((backTo pos (starEach [e] X.env)).all (fun x => !x.1) && (backToKw pos (keywordEach [] X.env)).all (fun x => x.1.isSome) && decide (([e] : List Expr).length + ([] : List Keyword).length + (if ([] : List Keyword).isEmpty then 0 else 1) < 30)) = true := by rfl)
    (hline : (apos.endLine == pos.line) = true := by rfl) (hs : starEach [e] X.env = [(false, eval e X.env)] := by rfl) : Pe X xa W (.Call (.Attribute o "startswith" apos) [e] [] pos) (mt1 tyStr dStarts f g) := by
  refine PE.imp (pe_bm PySem.F.plainAttrs_str PySem.F.slot_str_startswith PySem.F.type_str_startswith mt_startswith ho (pa_cons he pa_nil hs) hbase hfew hline hs) fun σ H Q hq => ?_
  obtain ⟨Hb, ρ, le, re, p⟩ := hq
  refine ⟨Hb, ρ, le, re, post_bind le p fun d v B1 H1 e1 g1 r1 p1 => ?_⟩
  cases r1 with
  | @str l hl =>
    refine ⟨rfl, B1, ρ, g1.le, re.mono g1.bup, post_bind g1.le p1 fun d2 v2 B2 H2 e2 g2 r2 p2 => ?_⟩
    cases r2 with
    | @str m hm => exact ⟨sOf l, sOf m, rfl, rfl, post_here g2.le p2 (.bl _)⟩
    | _ => exact p2.elim
  | _ => exact p1.elim
end
end Pu

namespace Pu
open PySem PySem.Spec PyProof.Rows L2 Evl
/-! ### sorted(a list of ints) -/
def insS (x : Int) : List Int → List Int
  | [] => [x]
  | y :: r => if x ≤ y then x :: y :: r else y :: insS x r
def isort : List Int → List Int
  | [] => []
  | x :: r => insS x (isort r)
theorem insS_perm (x : Int) : ∀ l : List Int, (insS x l).Perm (x :: l)
  | [] => List.Perm.refl _
  | y :: r => by
    unfold insS
    split
    · exact List.Perm.refl _
    · exact ((insS_perm x r).cons y).trans (List.Perm.swap x y r)
theorem isort_perm : ∀ l : List Int, (isort l).Perm l
  | [] => List.Perm.refl _
  | x :: r => (insS_perm x _).trans ((isort_perm r).cons x)
theorem insS_sorted (x : Int) : ∀ l : List Int, l.Pairwise (· ≤ ·) → (insS x l).Pairwise (· ≤ ·)
  | [], _ => List.pairwise_singleton _ _
  | y :: r, h => by
    obtain ⟨h1, h2⟩ := List.pairwise_cons.mp h
    unfold insS
    split
    · rename_i c
      exact List.pairwise_cons.mpr ⟨fun z hz => by
        rcases List.mem_cons.mp hz with e | e
        · rw [e]; exact c
        · exact Int.le_trans c (h1 z e), h⟩
    · rename_i c
      refine List.pairwise_cons.mpr ⟨fun z hz => ?_, insS_sorted x r h2⟩
      rcases List.mem_cons.mp ((insS_perm x r).mem_iff.mp hz) with e | e
      · rw [e]; omega
      · exact h1 z e
theorem isort_sorted : ∀ l : List Int, (isort l).Pairwise (· ≤ ·)
  | [] => List.Pairwise.nil
  | x :: r => insS_sorted x _ (isort_sorted r)
theorem sorted_uniq : ∀ {a b : List Int}, a.Perm b → a.Pairwise (· ≤ ·) → b.Pairwise (· ≤ ·) → a = b
  | [], b, p, _, _ => p.nil_eq
  | x :: a, [], p, _, _ => p.eq_nil
  | x :: a, y :: b, p, ha, hb => by
    obtain ⟨a1, a2⟩ := List.pairwise_cons.mp ha
    obtain ⟨b1, b2⟩ := List.pairwise_cons.mp hb
    have h1 : y ≤ x := by
      rcases List.mem_cons.mp (p.mem_iff.mp List.mem_cons_self) with e | e
      · omega
      · exact b1 x e
    have h2 : x ≤ y := by
      rcases List.mem_cons.mp (p.mem_iff.mpr List.mem_cons_self) with e | e
      · omega
      · exact a1 y e
    have e : x = y := by omega
    subst e
    rw [sorted_uniq (List.Perm.cons_inv p) a2 b2]
def cSortI : List D → Option D
  | [.lst ds] => (intsOf ds).map fun ns => .lst ((isort ns).map .int)
  | _ => none
theorem RL_ints {K : PySem.W.Frag} {xa : Xa} {B : Hp} : ∀ l : List Int, RL K xa B (l.map V.int) (l.map D.int)
  | [] => .nil
  | i :: l => .cons (.int i) (RL_ints l)
theorem c_sortI {X : Cx} {xa : Xa} : OpC X xa (.builtin "sorted") cSortI := by
  intro pins s σ H vs us Q I r h
  obtain ⟨Hb, ds, z, le, rl, hz, q⟩ := h
  match ds, rl, hz with
  | [], _, hz => cases hz
  | a0 :: b0 :: r0, _, hz => cases a0 <;> cases hz
  | [d], rl, hz =>
    obtain ⟨v, rfl, rd⟩ := rl.one
    cases rd with
    | @lst a xs es h1 q1 =>
      have hz : (intsOf es).map (fun ns => D.lst ((isort ns).map .int)) = some z := hz
      obtain ⟨ns, e1, e2⟩ := Option.map_eq_some_iff.mp hz
      subst e2
      have ev := q1.ints e1
      refine cr_sortedI pins s σ H _ us Q I r ⟨a, ns, rfl, by rw [← ev]; exact SqL.of (le _ _ h1), fun ns' p hp hs hn => ?_⟩
      have e : ns' = isort ns := sorted_uniq (hp.trans (isort_perm ns).symm) hs (isort_sorted ns)
      subst e
      exact q _ _ _ (Gw.new le hn) (.lst upd_same (RL_ints _))
    | _ => cases hz
end Pu

namespace Pu
open PySem PySem.Spec PyProof.Rows L2 Evl
/-! ### sorted(a list of pairs of ints) -/
abbrev P2 := Int × Int
abbrev ple (p q : P2) : Prop := SrtO.lexB q p = false
theorem ple_iff {p q : P2} : ple p q ↔ ¬ (q.1 < p.1 ∨ (q.1 = p.1 ∧ q.2 < p.2)) := SrtO.lexB_no
theorem ple_anti {p q : P2} (h : ple p q) (k : ple q p) : p = q := by
  have a := ple_iff.mp h
  have b := ple_iff.mp k
  refine Prod.ext ?_ ?_ <;> omega
theorem ple_refl (p : P2) : ple p p := ple_iff.mpr (by omega)
theorem ple_trans {p q r : P2} (h : ple p q) (k : ple q r) : ple p r := by
  have a := ple_iff.mp h
  have b := ple_iff.mp k
  refine ple_iff.mpr ?_
  omega
theorem ple_tot {p q : P2} (h : ¬ ple p q) : ple q p := by
  have a := (not_congr ple_iff).mp h
  refine ple_iff.mpr ?_
  omega
def insP (x : P2) : List P2 → List P2
  | [] => [x]
  | y :: r => if ple x y then x :: y :: r else y :: insP x r
def psort : List P2 → List P2
  | [] => []
  | x :: r => insP x (psort r)
theorem insP_perm (x : P2) : ∀ l : List P2, (insP x l).Perm (x :: l)
  | [] => List.Perm.refl _
  | y :: r => by
    unfold insP
    split
    · exact List.Perm.refl _
    · exact ((insP_perm x r).cons y).trans (List.Perm.swap x y r)
theorem psort_perm : ∀ l : List P2, (psort l).Perm l
  | [] => List.Perm.refl _
  | x :: r => (insP_perm x _).trans ((psort_perm r).cons x)
theorem insP_sorted (x : P2) : ∀ l : List P2, l.Pairwise ple → (insP x l).Pairwise ple
  | [], _ => List.pairwise_singleton _ _
  | y :: r, h => by
    obtain ⟨h1, h2⟩ := List.pairwise_cons.mp h
    unfold insP
    split
    · rename_i c
      exact List.pairwise_cons.mpr ⟨fun z hz => by
        rcases List.mem_cons.mp hz with e | e
        · rw [e]; exact c
        · exact ple_trans c (h1 z e), h⟩
    · rename_i c
      refine List.pairwise_cons.mpr ⟨fun z hz => ?_, insP_sorted x r h2⟩
      rcases List.mem_cons.mp ((insP_perm x r).mem_iff.mp hz) with e | e
      · rw [e]; exact ple_tot c
      · exact h1 z e
theorem psort_sorted : ∀ l : List P2, (psort l).Pairwise ple
  | [] => List.Pairwise.nil
  | x :: r => insP_sorted x _ (psort_sorted r)
theorem psorted_uniq : ∀ {a b : List P2}, a.Perm b → a.Pairwise ple → b.Pairwise ple → a = b
  | [], b, p, _, _ => p.nil_eq
  | x :: a, [], p, _, _ => p.eq_nil
  | x :: a, y :: b, p, ha, hb => by
    obtain ⟨a1, a2⟩ := List.pairwise_cons.mp ha
    obtain ⟨b1, b2⟩ := List.pairwise_cons.mp hb
    have h1 : ple y x := by
      rcases List.mem_cons.mp (p.mem_iff.mp List.mem_cons_self) with e | e
      · rw [e]; exact ple_refl _
      · exact b1 x e
    have h2 : ple x y := by
      rcases List.mem_cons.mp (p.mem_iff.mpr List.mem_cons_self) with e | e
      · rw [e]; exact ple_refl _
      · exact a1 y e
    have e : x = y := ple_anti h2 h1
    subst e
    rw [psorted_uniq (List.Perm.cons_inv p) a2 b2]
def pD (p : P2) : D := .tup [.int p.1, .int p.2]
def p2Of : D → Option P2
  | .tup [.int a, .int b] => some (a, b)
  | _ => none
def p2sOf : List D → Option (List P2)
  | [] => some []
  | d :: ds => (p2Of d).bind fun p => (p2sOf ds).map (p :: ·)
theorem p2Of_eq {d : D} {p : P2} (h : p2Of d = some p) : d = pD p := by
  unfold p2Of at h
  split at h
  · cases h; rfl
  · cases h
theorem p2sOf_map : ∀ l : List P2, p2sOf (l.map pD) = some l
  | [] => rfl
  | p :: l => by
    show (p2Of (pD p)).bind _ = _
    rw [p2sOf_map l]
    rfl
theorem p2sOf_eq : ∀ {ds : List D} {l : List P2}, p2sOf ds = some l → ds = l.map pD
  | [], l, h => by cases h; rfl
  | d :: ds, l, h => by
    obtain ⟨p, e1, e2⟩ := Option.bind_eq_some_iff.mp (show (p2Of d).bind (fun p => (p2sOf ds).map (p :: ·)) = some l from h)
    obtain ⟨l', e3, e4⟩ := Option.map_eq_some_iff.mp e2
    rw [← e4, p2Of_eq e1, p2sOf_eq e3] <;> rfl
/-- the pair that lies there -/
def kP (H : Hp) : V → P2
  | .ref t => match H t with
    | some (.tup [.int a, .int b]) => (a, b)
    | _ => (0, 0)
  | _ => (0, 0)
section
variable {K : PySem.W.Frag} {xa : Xa} {B : Hp}
theorem R.p2 {v : V} {p : P2} (h : R K xa B v (pD p)) : ∃ t, v = .ref t ∧ B t = some (.tup [.int p.1, .int p.2]) := by
  unfold pD at h
  cases h with
  | @tup a xs ds h1 q1 =>
    cases q1 with
    | cons r1 q2 => cases q2 with
      | cons r2 q3 => cases q3; cases r1; cases r2; exact ⟨_, rfl, h1⟩
theorem RL.p2 : ∀ {vs : List V} {l : List P2}, RL K xa B vs (l.map pD) → ∀ v ∈ vs, ∃ t, v = .ref t ∧ B t = some (.tup [.int (kP B v).1, .int (kP B v).2])
  | _, [], .nil, _, h => nomatch h
  | _, p :: l, .cons r t, v, h => by
    rcases List.mem_cons.mp h with e | e
    · subst e
      obtain ⟨t, rfl, ht⟩ := R.p2 r
      refine ⟨t, rfl, ?_⟩
      have e : kP B (.ref t) = p := by
        unfold kP
        simp only [ht]
      rw [e]; exact ht
    · exact RL.p2 t v e
theorem RL.p2k : ∀ {vs : List V} {l : List P2}, RL K xa B vs (l.map pD) → vs.map (kP B) = l
  | _, [], .nil => rfl
  | _, p :: l, .cons r t => by
    obtain ⟨t', rfl, ht⟩ := R.p2 r
    have e : kP B (.ref t') = p := by
      unfold kP
      simp only [ht]
    rw [List.map_cons, e, RL.p2k t]
theorem RL_p2 : ∀ (vs : List V), (∀ v ∈ vs, ∃ t, v = .ref t ∧ B t = some (.tup [.int (kP B v).1, .int (kP B v).2])) → RL K xa B vs ((vs.map (kP B)).map pD)
  | [], _ => .nil
  | v :: vs, h => by
    obtain ⟨t, e, ht⟩ := h v List.mem_cons_self
    refine .cons ?_ (RL_p2 vs fun u hu => h u (List.mem_cons_of_mem _ hu))
    conv => arg 4; rw [e]
    exact .tup ht (.cons (.int _) (.cons (.int _) .nil))
end
def cSort : List D → Option D
  | [.lst ds] => match intsOf ds with
    | some ns => some (.lst ((isort ns).map .int))
    | none => (p2sOf ds).map fun l => .lst ((psort l).map pD)
  | _ => none
theorem c_sort {X : Cx} {xa : Xa} : OpC X xa (.builtin "sorted") cSort := by
  intro pins s σ H vs us Q I r h
  obtain ⟨Hb, ds, z, le, rl, hz, q⟩ := h
  match ds, rl, hz with
  | [], _, hz => cases hz
  | a0 :: b0 :: r0, _, hz => cases a0 <;> cases hz
  | [d], rl, hz =>
    obtain ⟨v, rfl, rd⟩ := rl.one
    cases rd with
    | @lst a xs es h1 q1 =>
      have hz : (match intsOf es with | some ns => some (.lst ((isort ns).map .int)) | none => (p2sOf es).map fun l => D.lst ((psort l).map pD)) = some z := hz
      cases e1 : intsOf es with
      | some ns =>
        rw [e1] at hz
        cases hz
        have ev := q1.ints e1
        refine cr_sortedI pins s σ H _ us Q I r ⟨a, ns, rfl, by rw [← ev]; exact SqL.of (le _ _ h1), fun ns' p hp hs hn => ?_⟩
        have e : ns' = isort ns := sorted_uniq (hp.trans (isort_perm ns).symm) hs (isort_sorted ns)
        subst e
        exact q _ _ _ (Gw.new le hn) (.lst upd_same (RL_ints _))
      | none =>
        rw [e1] at hz
        obtain ⟨l, e2, e3⟩ := Option.map_eq_some_iff.mp hz
        subst e3
        have e4 := p2sOf_eq e2
        subst e4
        have hx := RL.p2 q1
        refine cr_sortedPO pins s σ H _ us Q I r ⟨a, xs, kP Hb, rfl, SqL.of (le _ _ h1), fun x m => ?_, fun ys p hs hb hn => ?_⟩
        · obtain ⟨t, e, ht⟩ := hx x m
          exact ⟨t, e, le _ _ ht⟩
        · have hp : (ys.map (kP Hb)).Perm l := by
            have q2 := hb.perm.map (kP Hb)
            rw [RL.p2k q1] at q2
            exact q2
          have e : ys.map (kP Hb) = psort l := psorted_uniq (hp.trans (psort_perm l).symm) (List.pairwise_map.mpr (hs.imp fun {x y} h => h)) (psort_sorted l)
          have w : RL X.K xa Hb ys ((psort l).map pD) := by
            rw [← e]
            exact RL_p2 ys fun v hv => hx v (hb.perm.mem_iff.mp hv)
          exact q _ _ _ (Gw.new le hn) (.lst upd_same (RL.mono (Ex.new (fresh_back le hn)) w))
    | _ => cases hz
end Pu

namespace Pu
open PySem PySem.Spec PyProof.Rows L2 Evl
/-! ### where a word stands: plain -/
def pcs (t : List Nat) (i l : Nat) : List Nat := (t.drop i).take l
def pl (t w : List Nat) : List P2 := (List.range (t.length + 1 - w.length)).map fun i => (((i : Nat) : Int), ((cnt (pcs t i w.length) w : Nat) : Int))
def sp (t w : List Nat) (m : Int) : List P2 := (pl t w).filter fun p => decide (p.2 ≤ m)
theorem cnt_le_r (u v : List Nat) : cnt u v ≤ v.length := by
  unfold cnt
  refine Nat.le_trans (List.length_filter_le _ _) ?_
  rw [List.length_zip]
  omega
theorem cnt_self : ∀ u : List Nat, cnt u u = 0
  | [] => rfl
  | a :: u => by
    have h := cnt_self u
    unfold cnt at h ⊢
    rw [List.zip_cons_cons, List.filter_cons_of_neg (by simp)]
    exact h
theorem cnt_app : ∀ {a c : List Nat} (b d : List Nat), a.length = c.length → cnt (a ++ b) (c ++ d) = cnt a c + cnt b d := by
  intro a c b d h
  unfold cnt
  rw [List.zip_append h, List.filter_append, List.length_append]
theorem cnt_zero : ∀ {u v : List Nat}, u.length = v.length → cnt u v = 0 → u = v
  | [], [], _, _ => rfl
  | [], _ :: _, h, _ => by cases h
  | _ :: _, [], h, _ => by cases h
  | a :: u, b :: v, h, e => by
    have q := cnt_app (a := [a]) (c := [b]) u v rfl
    rw [List.singleton_append, List.singleton_append, e] at q
    have e1 : cnt [a] [b] = 0 := by omega
    have e2 : cnt u v = 0 := by omega
    have e3 : a = b := by
      apply Decidable.byContradiction
      intro n
      have : cnt [a] [b] = 1 := by
        unfold cnt
        simp [n]
      omega
    rw [e3, cnt_zero (by simpa using h) e2]
theorem sp_mem {t w : List Nat} {m : Int} {p : P2} : p ∈ sp t w m ↔ ∃ i : Nat, i + w.length ≤ t.length ∧ p = (((i : Nat) : Int), ((cnt (pcs t i w.length) w : Nat) : Int)) ∧ p.2 ≤ m := by
  unfold sp pl
  rw [List.mem_filter, List.mem_map]
  constructor
  · rintro ⟨⟨i, hi, rfl⟩, h⟩
    rw [List.mem_range] at hi
    exact ⟨i, by omega, rfl, of_decide_eq_true h⟩
  · rintro ⟨i, hi, rfl, h⟩
    exact ⟨⟨i, List.mem_range.mpr (by omega), rfl⟩, decide_eq_true h⟩
theorem pl_sorted (t w : List Nat) : (pl t w).Pairwise ple := by
  unfold pl
  refine List.pairwise_map.mpr (List.Pairwise.imp ?_ (List.pairwise_lt_range))
  intro a b h
  refine ple_iff.mpr ?_
  omega
theorem sp_sorted (t w : List Nat) (m : Int) : psort (sp t w m) = sp t w m :=
  psorted_uniq (psort_perm _) (psort_sorted _) ((pl_sorted t w).filter _)
theorem sp_more {t w : List Nat} {m : Int} {p : P2} (h : p ∈ sp t w m) : p ∈ sp t w (m + 1) := by
  obtain ⟨i, h1, h2, h3⟩ := sp_mem.mp h
  exact sp_mem.mpr ⟨i, h1, h2, by omega⟩
theorem sp_all (t w : List Nat) : (sp t w ((w.length : Nat) : Int)).length = t.length + 1 - w.length := by
  have e : sp t w ((w.length : Nat) : Int) = pl t w := by
    unfold sp
    refine List.filter_eq_self.mpr fun p hp => ?_
    unfold pl at hp
    obtain ⟨i, hi, rfl⟩ := List.mem_map.mp hp
    have := cnt_le_r (pcs t i w.length) w
    exact decide_eq_true (by show ((cnt (pcs t i w.length) w : Nat) : Int) ≤ _; omega)
  rw [e]
  unfold pl
  rw [List.length_map, List.length_range]
theorem sp_self {w : List Nat} {m : Int} (hm : 0 ≤ m) : sp w w m = [(0, 0)] := by
  unfold sp pl
  have e : w.length + 1 - w.length = 1 := by omega
  rw [e]
  have e2 : pcs w 0 w.length = w := by
    unfold pcs
    rw [List.drop_zero, List.take_length]
  show List.filter _ [((((0 : Nat) : Int)), ((cnt (pcs w 0 w.length) w : Nat) : Int))] = _
  rw [e2, cnt_self]
  exact List.filter_cons_of_pos (decide_eq_true hm)
/-- a text put ahead -/
theorem sp_ahead (a t w : List Nat) (m : Int) (hw : 1 ≤ w.length) : ((sp (a ++ t) w m).filter fun p => decide (p.1 ≥ ((a.length : Nat) : Int))) = (sp t w m).map fun p => (p.1 + ((a.length : Nat) : Int), p.2) := by
  have low : ∀ (l : List Nat), (∀ i ∈ l, i < a.length) → (((l.map fun i => (((i : Nat) : Int), ((cnt (pcs (a ++ t) i w.length) w : Nat) : Int))).filter fun p : P2 => decide (p.2 ≤ m)).filter fun p => decide (p.1 ≥ ((a.length : Nat) : Int))) = [] := fun l hl => by
    rw [List.filter_filter]
    refine List.filter_eq_nil_iff.mpr fun p hp => ?_
    obtain ⟨i, hi, rfl⟩ := List.mem_map.mp hp
    have := hl i hi
    rw [decide_eq_false (p := ((i : Nat) : Int) ≥ ((a.length : Nat) : Int)) (by omega)]
    simp
  unfold sp pl
  by_cases c : w.length ≤ t.length + 1
  · have e : (a ++ t).length + 1 - w.length = a.length + (t.length + 1 - w.length) := by
      rw [List.length_append]
      omega
    rw [e, List.range_add, List.map_append, List.filter_append, List.filter_append, low _ fun i hi => List.mem_range.mp hi, List.nil_append, List.map_map, List.filter_map, List.filter_map, List.filter_map, List.map_map, List.filter_eq_self.mpr]
    · have e2 : ∀ i : Nat, pcs (a ++ t) (a.length + i) w.length = pcs t i w.length := fun i => by
        unfold pcs
        rw [List.drop_append, List.drop_eq_nil_of_le (by omega), List.nil_append, Nat.add_sub_cancel_left]
      have e3 : ((fun p : P2 => decide (p.2 ≤ m)) ∘ ((fun i : Nat => (((i : Nat) : Int), ((cnt (pcs (a ++ t) i w.length) w : Nat) : Int))) ∘ fun x => a.length + x)) = ((fun p : P2 => decide (p.2 ≤ m)) ∘ fun i : Nat => (((i : Nat) : Int), ((cnt (pcs t i w.length) w : Nat) : Int))) := by
        funext i
        show decide (((cnt (pcs (a ++ t) (a.length + i) w.length) w : Nat) : Int) ≤ m) = decide (((cnt (pcs t i w.length) w : Nat) : Int) ≤ m)
        rw [e2]
      rw [e3]
      refine List.map_congr_left fun i _ => ?_
      show ((((a.length + i : Nat)) : Int), ((cnt (pcs (a ++ t) (a.length + i) w.length) w : Nat) : Int)) = (((i : Nat) : Int) + ((a.length : Nat) : Int), ((cnt (pcs t i w.length) w : Nat) : Int))
      rw [e2]
      refine Prod.ext ?_ rfl
      show (((a.length + i : Nat)) : Int) = ((i : Nat) : Int) + ((a.length : Nat) : Int)
      omega
    · intro i hi
      exact decide_eq_true (by show (((a.length + i : Nat)) : Int) ≥ ((a.length : Nat) : Int); omega)
  · have e0 : t.length + 1 - w.length = 0 := by omega
    rw [e0]
    refine low _ fun i hi => ?_
    rw [List.mem_range, List.length_append] at hi
    omega
end Pu

namespace Pu
open PySem PySem.Spec PyProof.Rows L2 Evl
/-! ### a word cut up: plain -/
def prt : Nat → List Nat → List (Nat × Nat)
  | _, [] => []
  | s, z :: r => (s, z) :: prt (s + z) r
theorem pcs_len {t : List Nat} {i l : Nat} (h : i + l ≤ t.length) : (pcs t i l).length = l := by
  unfold pcs
  rw [List.length_take, List.length_drop]
  omega
theorem pcs_add (t : List Nat) (i k l : Nat) : pcs t i (k + l) = pcs t i k ++ pcs t (i + k) l := by
  unfold pcs
  rw [List.take_add, List.drop_drop]
theorem pigeon {u w : List Nat} : ∀ (zs : List Nat) (s : Nat), s + zs.sum ≤ w.length → s + zs.sum ≤ u.length → (∀ p ∈ prt s zs, pcs u p.1 p.2 ≠ pcs w p.1 p.2) → zs.length ≤ cnt (pcs u s zs.sum) (pcs w s zs.sum)
  | [], _, _, _, _ => Nat.zero_le _
  | z :: zs, s, hw, hu, h => by
    rw [List.sum_cons] at hw hu ⊢
    have a := pigeon zs (s + z) (by omega) (by omega) fun p hp => h p (List.mem_cons_of_mem _ hp)
    have l1 : (pcs u s z).length = z := pcs_len (by omega)
    have l2 : (pcs w s z).length = z := pcs_len (by omega)
    rw [pcs_add, pcs_add, cnt_app _ _ (by rw [l1, l2]), List.length_cons]
    have b : cnt (pcs u s z) (pcs w s z) ≠ 0 := fun e => h (s, z) List.mem_cons_self (cnt_zero (by rw [l1, l2]) e)
    omega
theorem prt_join {w : List Nat} : ∀ (zs : List Nat) (s : Nat), ((prt s zs).map fun p => pcs w p.1 p.2).flatten = pcs w s zs.sum
  | [], s => by
    show [] = pcs w s 0
    unfold pcs
    rw [List.take_zero]
  | z :: zs, s => by
    rw [List.sum_cons, pcs_add, ← prt_join zs (s + z)]
    rfl
/-- a piece of a piece -/
theorem pcs_pcs {t : List Nat} {i l s z : Nat} (h : s + z ≤ l) : pcs (pcs t i l) s z = pcs t (i + s) z := by
  unfold pcs
  rw [List.drop_take, List.take_take, List.drop_drop, Nat.min_eq_left (by omega)]
theorem prt_in : ∀ (zs : List Nat) (s : Nat), ∀ p ∈ prt s zs, s ≤ p.1 ∧ p.1 + p.2 ≤ s + zs.sum
  | [], _, _, h => nomatch h
  | z :: zs, s, p, h => by
    rw [List.sum_cons]
    rcases List.mem_cons.mp h with e | e
    · subst e
      exact ⟨Nat.le_refl _, by show s + z ≤ _; omega⟩
    · have := prt_in zs (s + z) p e
      omega
/-- where a word stands with so many slips some part of it stands as it is -/
theorem seed_stands {t w : List Nat} {i : Nat} {zs : List Nat} (hz : zs.sum = w.length) (hi : i + w.length ≤ t.length) (hc : cnt (pcs t i w.length) w < zs.length) : ∃ p ∈ prt 0 zs, pcs t (i + p.1) p.2 = pcs w p.1 p.2 := by
  apply Decidable.byContradiction
  intro n
  have l := pcs_len hi
  have a := pigeon (u := pcs t i w.length) (w := w) zs 0 (by omega) (by omega) fun p hp e => n ⟨p, hp, by
    have q := prt_in zs 0 p hp
    rw [← e, pcs_pcs (by omega)]⟩
  rw [hz] at a
  have e1 : pcs w 0 w.length = w := by
    unfold pcs
    rw [List.drop_zero, List.take_length]
  have e2 : pcs (pcs t i w.length) 0 w.length = pcs t i w.length := by
    rw [pcs_pcs (by omega)]
    rfl
  rw [e1, e2] at a
  omega
end Pu

namespace Pu
open PySem PySem.Spec PyProof.Rows L2 Evl
/-! ### xs.count(text), four names at once, a, b = xs.pop() -/
theorem eqU_count {z : Str} : ∀ {us : List Value} {ys : List Str}, Vals (ys.map V.str) us → us.countP (eqU (.str z)) = ys.count z
  | _, [], h => by cases h; rfl
  | _, y :: ys, h => by
    cases h with
    | cons r t =>
      obtain ⟨tk, rfl⟩ := r
      have ih := eqU_count (z := z) t
      rw [List.countP_cons, List.count_cons, ih] <;> rfl
section
variable {X : Cx}
def rCntS (K : PySem.W.Frag) : V → List V → Hp → VK → Prop := fun x xs H Q => ∃ (p : Addr) (ys : List Str) (z : Str), x = .ref p ∧ xs = [.str z] ∧ SqL K H p (ys.map V.str) ∧ Q (.int (ys.count z : Nat)) H
theorem mt_countS : MtR X "list.count" (rCntS X.K) := by
  intro pins s σ H x xs v us Q I rx rxs h
  obtain ⟨p, ys, z, rfl, rfl, hs, q⟩ := h
  cases rx
  obtain ⟨u, rfl, ru⟩ := rxs.one
  obtain ⟨t, rfl⟩ := ru
  obtain ⟨its, rv, ⟨⟨cls, dd, data, sl⟩, n, ho, hc, hdn, hd⟩, hlen⟩ := I.list hs
  simp only at hc hd
  subst hc hd
  refine call_meets PySem.F.slot_list_count ⟨_, ho, rfl⟩ PySem.F.entry_list_count (PySem.F.args_list_count_2 _ _)
    (SeqAt.list_countAt p its.toArray n dd sl (.str z t) (eqU (.str z))) ⟨ho, fun y hy => mem_eqAt (x := .str z) ⟨t, rfl⟩ rfl rv (flat_strs ys) y (by simpa using hy), ?_⟩
  have ec : its.toArray.toList.countP (eqU (.str z)) = ys.count z := eqU_count rv
  refine ⟨.int (ys.count z : Nat), H, I.tok _, ⟨s.toks, ?_⟩, q⟩
  show Value.int ((its.toArray.toList.countP (eqU (.str z)) : Nat) : Int) s.toks = Value.int ((ys.count z : Nat) : Int) s.toks
  rw [ec]
end
def dCount : D → D → Option D
  | .lst ds, .str z => (strsOf ds).map fun zs => .int (zs.count z : Nat)
  | _, _ => none
theorem count_sOf (z : List Nat) : ∀ zs : List (List Nat), (zs.map sOf).count (sOf z) = zs.count z
  | [] => rfl
  | y :: zs => by
    have ih := count_sOf z zs
    rw [List.map_cons, List.count_cons, List.count_cons, ih]
    congr 1
    by_cases c : y = z
    · subst c
      simp
    · have c2 : sOf y ≠ sOf z := fun e => c (congrArg TL.tl e)
      simp [c, c2]
section
variable {X : Cx} {xa : Xa} {W : WX} {pos apos : Pos} {o e : Expr} {f g : F}
theorem p_count (ho : Pe X xa W o f) (he : Pe X xa W e g) (hbase : attributeBase o "count" X.env (eval o X.env) = eval o X.env := by rfl)
    (hfew : ((backTo pos (starEach [e] X.env)).all (fun x => !x.1) && (backToKw pos (keywordEach [] X.env)).all (fun x => x.1.isSome) && decide (([e] : List Expr).length + ([] : List Keyword).length + (if ([] : List Keyword).isEmpty then 0 else 1) < 30)) = true := by rfl)
    (hline : (apos.endLine == pos.line) = true := by rfl) (hs : starEach [e] X.env = [(false, eval e X.env)] := by rfl) : Pe X xa W (.Call (.Attribute o "count" apos) [e] [] pos) (mt1 tyLst dCount f g) := by
  refine PE.imp (pe_bm PySem.F.plainAttrs_list PySem.F.slot_list_count PySem.F.type_list_count mt_countS ho (pa_cons he pa_nil hs) hbase hfew hline hs) fun σ H Q hq => ?_
  obtain ⟨Hb, ρ, le, re, p⟩ := hq
  refine ⟨Hb, ρ, le, re, post_bind le p fun d v B1 H1 e1 g1 r1 p1 => ?_⟩
  cases r1 with
  | @lst a vs ds h1 q1 =>
    refine ⟨.inl ⟨rfl, vs, SqL.of (g1.le _ _ h1)⟩, B1, ρ, g1.le, re.mono g1.bup, post_bind g1.le p1 fun d2 v2 B2 H2 e2 g2 r2 p2 => ?_⟩
    cases r2 with
    | @str z hz =>
      have p2 : post X.K (R X.K xa) (WE W σ) B2 H2 Q (ofO ((strsOf ds).map fun zs => .int (zs.count z : Nat))) := p2
      cases hj : strsOf ds with
      | none => rw [hj] at p2; exact p2.elim
      | some zs =>
        rw [hj] at p2
        obtain ⟨evs, oks⟩ := q1.strs hj
        refine ⟨a, zs.map sOf, sOf z, rfl, rfl, ?_, ?_⟩
        · rw [← evs]
          exact SqL.of (g2.up _ _ (g1.le _ _ h1))
        · rw [count_sOf]
          exact post_here g2.le p2 (.int _)
    | _ => exact p2.elim
  | _ => exact p1.elim
end
/-! four names at once -/
def pa4S (i j l n : Nat) (z1 z2 z3 z4 : Zm) : SF := fun ρ => zRun z1 ρ fun s1 => zRun z2 ρ fun s2 => zRun z3 ρ fun s3 => zRun z4 ρ fun s4 => .nx ((((ρ.set i s1).set j s2).set l s3).set n s4)
section
variable {K : PySem.W.Frag} {xa : Xa} {W : WX} {B0 H0 B H : Hp} {σ τ : L2.St} {ρ pd : SEnv}
theorem RS.par4 {u v w x : V} {s t q p : Sl} {i j k m : Nat} (hl : ρ.length = σ.length) (r : RS K xa B0 H0 B H (σ ++ [some u, some v, some w, some x]) (ρ ++ [s, t, q, p])) : RS K xa B0 H0 B H ((((σ.set i (some u)).set j (some v)).set k (some w)).set m (some x)) ((((ρ.set i s).set j t).set k q).set m p) := by
  have len1 : ((((ρ.set i s).set j t).set k q).set m p).length = ρ.length := by rw [List.length_set, List.length_set, List.length_set, List.length_set]
  have cs : ∀ {l : Nat}, l < ρ.length → (σ ++ [some u, some v, some w, some x])[l]? = σ[l]? ∧ (ρ ++ [s, t, q, p])[l]? = ρ[l]? := fun h => ⟨List.getElem?_append_left (by omega), List.getElem?_append_left h⟩
  refine r.pull (fun l => if m = l then ρ.length + 3 else if k = l then ρ.length + 2 else if j = l then ρ.length + 1 else if i = l then ρ.length + 0 else l) (fun a b ha hb h => ?_) (by rw [len1, List.length_set, List.length_set, List.length_set, List.length_set, hl]) (fun l h => ?_) fun l h => ?_
  · rw [len1] at ha hb
    split at h <;> split at h <;> (try split at h) <;> (try split at h) <;> (try split at h) <;> (try split at h) <;> (try split at h) <;> (try split at h) <;> omega
  · rw [len1] at h
    rw [set_at (by rw [List.length_set, List.length_set, List.length_set]; omega), set_at (by rw [List.length_set, List.length_set]; omega), set_at (by rw [List.length_set]; omega), set_at (by omega)]
    split
    · rw [tail_at 3 hl.symm]; rfl
    · split
      · rw [tail_at 2 hl.symm]; rfl
      · split
        · rw [tail_at 1 hl.symm]; rfl
        · split
          · rw [tail_at 0 hl.symm]; rfl
          · exact (cs h).1.symm
  · rw [len1] at h
    rw [set_at (by rw [List.length_set, List.length_set, List.length_set]; omega), set_at (by rw [List.length_set, List.length_set]; omega), set_at (by rw [List.length_set]; omega), set_at h]
    split
    · rw [tail_at 3 rfl]; rfl
    · split
      · rw [tail_at 2 rfl]; rfl
      · split
        · rw [tail_at 1 rfl]; rfl
        · split
          · rw [tail_at 0 rfl]; rfl
          · exact (cs h).2.symm
end
section
variable {X : Cx} {xa : Xa} {W : WX} {a b c d t : Expr} {pt2 pos : Pos} {k2 : Nat} {z1 z2 z3 z4 : Zm}
theorem s_par4 (i j l n : Nat) (h1 : Pz X xa W a z1) (h2 : Pz X xa W b z2) (h3 : Pz X xa W c z3) (h4 : Pz X xa W d z4) (hg : Pg X t (.tp [i, j, l, n]))
    (hs : swapsWithSole [t] (.Tuple [a, b, c, d] k2 pt2) pos.line X.env = pure false := by rfl) (hw : swappedStores [t] (.Tuple [a, b, c, d] k2 pt2) X.env = pure none := by rfl)
    (hh : (assignEach [t] X.env).map (·.2) = [assign t X.env] := by rfl)
    (s1 : starEach [a, b, c, d] X.env = (false, eval a X.env) :: starEach [b, c, d] X.env := by rfl) (s2 : starEach [b, c, d] X.env = (false, eval b X.env) :: starEach [c, d] X.env := by rfl) (s3 : starEach [c, d] X.env = (false, eval c X.env) :: starEach [d] X.env := by rfl) (s4 : starEach [d] X.env = (false, eval d X.env) :: starEach [] X.env := by rfl) :
    Ps X xa W (.Assign [t] (.Tuple [a, b, c, d] k2 pt2) pos) (pa4S i j l n z1 z2 z3 z4) := by
  refine PS.imp (ps_asg (pe_tup (pa_cons h1 (pa_cons h2 (pa_cons h3 (pa_cons h4 pa_nil s4) s3) s2) s1)) hg hs hw hh) fun Dn σ H ⟨B0, H0, B, ρ, r, p⟩ => ?_
  refine meetZ (τ := []) (pd := []) (by rw [List.append_nil, List.append_nil]; exact r) r.len p fun s v B1 H1 r1 p1 => ?_
  refine meetZ r1 r.len p1 fun t w B2 H2 r2 p2 => ?_
  refine meetZ r2 r.len p2 fun q u B3 H3 r3 p3 => ?_
  refine meetZ r3 r.len p3 fun q4 u4 B4 H4 r4 p4 => ?_
  refine ⟨Nat.le_of_ble_eq_true rfl, fun q hn => ⟨q, [v, w, u, u4], rfl, .inl upd_same, rfl, ?_⟩⟩
  exact p4 _ B4 _ ((r4.par4 r.len).keep (Ex.new hn))
end
/-! a, b = xs.pop() -/
def poT (t : Tg) (s : Nat) : SF := fun ρ => match ρ[s]? with
  | some (.own (.L ds)) => (match ds[ds.length - 1]? with
    | some d => (match bnd t d with
      | some ps => .nx (setsS (ρ.set s (.ow ds.dropLast)) ps)
      | none => .st)
    | none => .st)
  | _ => .st
section
variable {X : Cx} {xa : Xa} {W : WX} {pos pos' p1 p2 py : Pos}
theorem s_popT (s : Nat) {x : Str} {tg : Expr} {t : Tg} (hg : Pg X tg t) (hs : X.N[s]? = some x := by rfl) (hv : Vis X.env.scope x := by first | exact Or.inl rfl | exact Or.inr (Or.inl rfl) | exact Or.inr (Or.inr rfl)) (hd : (x == ("__debug__" : Str)) = false := by decide) (hcd : (x == ("__classdict__" : Str)) = false := by decide)
    (hbase : attributeBase (.Name x p1) "pop" X.env (eval (.Name x p1) X.env) = eval (.Name x p1) X.env := by rfl) (hline : (p2.endLine == pos'.line) = true := by rfl)
    (hsw : swapsWithSole [tg] (.Call (.Attribute (.Name x p1) "pop" p2) [] [] pos') pos.line X.env = pure false := by rfl) (hw : swappedStores [tg] (.Call (.Attribute (.Name x p1) "pop" p2) [] [] pos') X.env = pure none := by rfl)
    (hh : (assignEach [tg] X.env).map (·.2) = [assign tg X.env] := by rfl) :
    Ps X xa W (.Assign [tg] (.Call (.Attribute (.Name x p1) "pop" p2) [] [] pos') pos) (poT t s) := by
  refine PS.imp (ps_asg (pe_bm0 PySem.F.plainAttrs_list PySem.F.slot_list_pop PySem.F.type_list_pop mt_pop (pe_var hs hv hd hcd) hbase hline) hg hsw hw hh) fun Dn σ H ⟨B0, H0, B, ρ, r, p⟩ => ?_
  obtain ⟨ds, a, vs, h1, h2, h3, h4, p⟩ := ow_of r p
  cases e : ds[ds.length - 1]? with
  | none => rw [e] at p; exact p.elim
  | some d =>
    rw [e] at p
    obtain ⟨v, e1, rv⟩ := h4.get e
    have rd : RL X.K xa B vs.dropLast ds.dropLast := by
      rw [List.dropLast_eq_take, List.dropLast_eq_take, h4.length]
      exact h4.take _
    refine ⟨_, h2, .inl ⟨rfl, vs, SqL.of h3⟩, a, vs, v, rfl, rfl, h3, by rw [h4.length]; exact e1, ?_⟩
    cases z : bnd t d with
    | none => simp only [z] at p; exact p.elim
    | some ps =>
      simp only [z] at p
      exact tg_meetS (r.mut h1 h2 rd) rv z fun σ' r2 => p σ' B _ r2
end
end Pu

namespace Pu
open PySem PySem.Spec PyProof.Rows L2 Evl
/-! ### a def that calls itself: at depth 0 it is stuck -/
theorem pss_st {X : Cx} {xa : Xa} {W : WX} {sts : List Stmt} : Pss X xa W sts (fun _ => .st) := ⟨fun pins s σ H Dn I h => by
  obtain ⟨B0, H0, B, ρ, r, p⟩ := h
  exact p.elim⟩
/-! two or three names at once, some of them cells: a tuple is made and taken apart -/
section
variable {X : Cx} {xa : Xa} {W : WX} {a b c t : Expr} {pt2 pos : Pos} {k2 : Nat} {z1 z2 z3 : Zm}
theorem s_par2T (i j : Nat) (hij : i ≠ j) (h1 : Pz X xa W a z1) (h2 : Pz X xa W b z2) (hg : Pg X t (.tp [i, j]))
    (hs : swapsWithSole [t] (.Tuple [a, b] k2 pt2) pos.line X.env = pure false := by rfl) (hw : swappedStores [t] (.Tuple [a, b] k2 pt2) X.env = pure none := by rfl)
    (hh : (assignEach [t] X.env).map (·.2) = [assign t X.env] := by rfl)
    (s1 : starEach [a, b] X.env = (false, eval a X.env) :: starEach [b] X.env := by rfl) (s2 : starEach [b] X.env = (false, eval b X.env) :: starEach [] X.env := by rfl) :
    Ps X xa W (.Assign [t] (.Tuple [a, b] k2 pt2) pos) (paS i j z1 z2) := by
  refine PS.imp (ps_asg (pe_tup (pa_cons h1 (pa_cons h2 pa_nil s2) s1)) hg hs hw hh) fun Dn σ H ⟨B0, H0, B, ρ, r, p⟩ => ?_
  refine meetZ (τ := []) (pd := []) (by rw [List.append_nil, List.append_nil]; exact r) r.len p fun s v B1 H1 r1 p1 => ?_
  refine meetZ r1 r.len p1 fun t w B2 H2 r2 p2 => ?_
  refine ⟨Nat.le_of_ble_eq_true rfl, fun q hn => ⟨q, [v, w], rfl, .inl upd_same, rfl, ?_⟩⟩
  exact p2 _ B2 _ ((r2.par hij r.len).keep (Ex.new hn))
theorem s_par3T (i j l : Nat) (h1 : Pz X xa W a z1) (h2 : Pz X xa W b z2) (h3 : Pz X xa W c z3) (hg : Pg X t (.tp [i, j, l]))
    (hs : swapsWithSole [t] (.Tuple [a, b, c] k2 pt2) pos.line X.env = pure false := by rfl) (hw : swappedStores [t] (.Tuple [a, b, c] k2 pt2) X.env = pure none := by rfl)
    (hh : (assignEach [t] X.env).map (·.2) = [assign t X.env] := by rfl)
    (s1 : starEach [a, b, c] X.env = (false, eval a X.env) :: starEach [b, c] X.env := by rfl) (s2 : starEach [b, c] X.env = (false, eval b X.env) :: starEach [c] X.env := by rfl) (s3 : starEach [c] X.env = (false, eval c X.env) :: starEach [] X.env := by rfl) :
    Ps X xa W (.Assign [t] (.Tuple [a, b, c] k2 pt2) pos) (pa3S i j l z1 z2 z3) := by
  refine PS.imp (ps_asg (pe_tup (pa_cons h1 (pa_cons h2 (pa_cons h3 pa_nil s3) s2) s1)) hg hs hw hh) fun Dn σ H ⟨B0, H0, B, ρ, r, p⟩ => ?_
  refine meetZ (τ := []) (pd := []) (by rw [List.append_nil, List.append_nil]; exact r) r.len p fun s v B1 H1 r1 p1 => ?_
  refine meetZ r1 r.len p1 fun t w B2 H2 r2 p2 => ?_
  refine meetZ r2 r.len p2 fun q u B3 H3 r3 p3 => ?_
  refine ⟨Nat.le_of_ble_eq_true rfl, fun q hn => ⟨q, [v, w, u], rfl, .inl upd_same, rfl, ?_⟩⟩
  exact p3 _ B3 _ ((r3.par3 r.len).keep (Ex.new hn))
end
end Pu

namespace Pu
open PySem L2
/-! ### a walk with a stack, the last one first: what it does is what a recursion does -/
def sz (b : Nat) : Nat → Nat
  | 0 => 1
  | k + 1 => 1 + b * sz b k
section
variable {S N : Type} (nx : S → N → S) (kids : S → N → List N)
def goD : Nat → S → N → S
  | 0, s, n => nx s n
  | k + 1, s, n => (kids s n).foldl (goD k) (nx s n)
end
section
variable {S N J : Type} {E : S → List N → J → SEnv} {c : T} {f : SF} {nx : S → N → S} {kids : S → N → List N} {dp : N → Nat} {b : Nat} {P : N → Prop} {w : S → Nat}
/-- what the body of the loop has to do -/
structure Dfs (E : S → List N → J → SEnv) (c : T) (f : SF) (nx : S → N → S) (kids : S → N → List N) (dp : N → Nat) (b : Nat) (P : N → Prop) (w : S → Nat) : Prop where
  more : ∀ s st n x, c (pkv (E s (st ++ [n]) x)) = .ok true
  body : ∀ s st n x, P n → w s ≤ 100000 → st.length ≤ 5000 → ∃ x', f (E s (st ++ [n]) x) = .nx (E (nx s n) (st ++ (kids s n).reverse) x')
  wle : ∀ s n, w (nx s n) ≤ w s + 1
  few : ∀ s n, (kids s n).length ≤ b
  down : ∀ s n m, P n → m ∈ kids s n → P m ∧ dp m + 1 ≤ dp n
theorem Dfs.list {k : Nat} (one : ∀ (s : S) (n : N) (st : List N) (x : J) (F : Nat), P n → dp n ≤ k → w s + F ≤ 100000 → st.length + b * (k + 1) ≤ 5000 → sz b k ≤ F →
      ∃ x' F', F ≤ F' + sz b k ∧ w (goD nx kids k s n) + F' ≤ w s + F ∧ whGo c f F (E s (st ++ [n]) x) = whGo c f F' (E (goD nx kids k s n) st x')) :
    ∀ (ns : List N) (s : S) (st : List N) (x : J) (F : Nat), (∀ n ∈ ns, P n ∧ dp n ≤ k) → w s + F ≤ 100000 → st.length + ns.length + b * (k + 1) ≤ 5000 → ns.length * sz b k ≤ F →
      ∃ x' F', F ≤ F' + ns.length * sz b k ∧ w (ns.foldl (goD nx kids k) s) + F' ≤ w s + F ∧ whGo c f F (E s (st ++ ns.reverse) x) = whGo c f F' (E (ns.foldl (goD nx kids k) s) st x')
  | [], s, st, x, F, _, _, _, _ => ⟨x, F, by omega, Nat.le_refl _, by rw [List.reverse_nil, List.append_nil]; rfl⟩
  | n :: r, s, st, x, F, hp, hw, hl, hf => by
    have hl : st.length + (r.length + 1) + b * (k + 1) ≤ 5000 := hl
    have hf : (r.length + 1) * sz b k ≤ F := hf
    rw [Nat.add_mul, Nat.one_mul] at hf
    obtain ⟨x1, F1, h1, h2, h3⟩ := one s n (st ++ r.reverse) x F (hp n List.mem_cons_self).1 (hp n List.mem_cons_self).2 hw (by rw [List.length_append, List.length_reverse]; omega) (by omega)
    obtain ⟨x2, F2, g1, g2, g3⟩ := Dfs.list one r (goD nx kids k s n) st x1 F1 (fun m hm => hp m (List.mem_cons_of_mem _ hm)) (by omega) (by omega) (by omega)
    refine ⟨x2, F2, ?_, by rw [List.foldl_cons]; omega, ?_⟩
    · show F ≤ F2 + (r.length + 1) * sz b k
      rw [Nat.add_mul, Nat.one_mul]
      omega
    · rw [List.reverse_cons, ← List.append_assoc, h3, g3]
      rfl
theorem Dfs.one (D : Dfs E c f nx kids dp b P w) : ∀ (k : Nat) (s : S) (n : N) (st : List N) (x : J) (F : Nat), P n → dp n ≤ k → w s + F ≤ 100000 → st.length + b * (k + 1) ≤ 5000 → sz b k ≤ F →
      ∃ x' F', F ≤ F' + sz b k ∧ w (goD nx kids k s n) + F' ≤ w s + F ∧ whGo c f F (E s (st ++ [n]) x) = whGo c f F' (E (goD nx kids k s n) st x')
  | 0, s, n, st, x, F, hp, hd, hw, hl, hf => by
    have hf : 1 ≤ F := hf
    obtain ⟨G, rfl⟩ : ∃ G, F = G + 1 := ⟨F - 1, by omega⟩
    obtain ⟨x', e⟩ := D.body s st n x hp (by omega) (by omega)
    have ek : kids s n = [] := by
      cases z : kids s n with
      | nil => rfl
      | cons m r =>
        have := (D.down s n m hp (by rw [z]; exact List.mem_cons_self)).2
        omega
    rw [ek, List.reverse_nil, List.append_nil] at e
    have := D.wle s n
    exact ⟨x', G, Nat.le_refl _, by show w (nx s n) + G ≤ _; omega, wh_yes (D.more s st n x) e⟩
  | k + 1, s, n, st, x, F, hp, hd, hw, hl, hf => by
    have hf : 1 + b * sz b k ≤ F := hf
    obtain ⟨G, rfl⟩ : ∃ G, F = G + 1 := ⟨F - 1, by omega⟩
    obtain ⟨x1, e⟩ := D.body s st n x hp (by omega) (by omega)
    have hb := D.few s n
    have hm : (kids s n).length * sz b k ≤ b * sz b k := Nat.mul_le_mul_right _ hb
    have hw1 := D.wle s n
    have hl2 : b * (k + 1 + 1) = b * (k + 1) + b := Nat.mul_succ _ _
    obtain ⟨x2, F2, g1, g2, g3⟩ := Dfs.list (D.one k) (kids s n) (nx s n) st x1 G (fun m h => ⟨(D.down s n m hp h).1, by have := (D.down s n m hp h).2; omega⟩) (by omega) (by omega) (by omega)
    refine ⟨x2, F2, ?_, by show w ((kids s n).foldl (goD nx kids k) (nx s n)) + F2 ≤ _; omega, ?_⟩
    · show G + 1 ≤ F2 + (1 + b * sz b k)
      omega
    · rw [wh_yes (D.more s st n x) e, g3]
      rfl
/-- the whole loop, from one node -/
theorem Dfs.run (D : Dfs E c f nx kids dp b P w) (no : ∀ s x, c (pkv (E s [] x)) = .ok false) {k F : Nat} {s : S} {n : N} (x : J) (hp : P n) (hd : dp n ≤ k) (hw : w s + F ≤ 100000) (hl : b * (k + 1) ≤ 5000) (hf : sz b k < F) :
    ∃ x', whGo c f F (E s [n] x) = .nx (E (goD nx kids k s n) [] x') := by
  obtain ⟨x', F', h1, _, h3⟩ := D.one k s n [] x F hp hd hw (by show 0 + _ ≤ _; omega) (by omega)
  obtain ⟨G, rfl⟩ : ∃ G, F' = G + 1 := ⟨F' - 1, by omega⟩
  exact ⟨x', (show whGo c f F (E s ([] ++ [n]) x) = _ from h3).trans (wh_no (no _ _))⟩
end
end Pu

namespace Pu
open PySem L2
/-! ### _law_texts: some texts, a word planted into some of them -/
def m_texts : List D → Res D := dfM 5 5 (sqS (paS 6 7 (.o (lnO argN)) (.s (calF m_word (argC (vr 0) (argC (vr 1) (argC (vr 2) (argC (cst (.int 4)) argN))))))) (sqS (forS (rgF (vr 3)) (.nm 5) (sqS (asS 8 (calF m_word (argC (vr 0) (argC (op2 dAdd (op2 dAdd (vr 1) (cst (.int 20))) (op2 dMul (cst (.int 23)) (vr 5))) (argC (vr 2) (argC (op2 dAdd (cst (.int 1)) (calF m_drawn (argC (vr 0) (argC (op2 dAdd (op2 dAdd (vr 1) (cst (.int 10))) (vr 5)) (argC (vr 4) argN))))) argN)))))) (sqS (ifS (anT (tst (op2 dEq (calF m_drawn (argC (vr 0) (argC (op2 dAdd (op2 dAdd (vr 1) (cst (.int 30))) (vr 5)) (argC (cst (.int 2)) argN)))) (cst (.int 0)))) (tst (op2 dGt (opN cLen (argC (vr 8) argN)) (cst (.int 5))))) (sqS (asS 9 (calF m_drawn (argC (vr 0) (argC (op2 dAdd (op2 dAdd (vr 1) (cst (.int 40))) (vr 5)) (argC (op2 dSub (opN cLen (argC (vr 8) argN)) (cst (.int 4))) argN))))) (asS 8 (op2 dAdd (op2 dAdd (slF (vr 8) noP (soP (vr 9))) (vr 7)) (slF (vr 8) (soP (op2 dAdd (vr 9) (cst (.int 4)))) noP)))) nxS) (apS 6 (vr 8))))) (reS (vr 6))))
abbrev tBody : SF := (sqS (asS 8 (calF m_word (argC (vr 0) (argC (op2 dAdd (op2 dAdd (vr 1) (cst (.int 20))) (op2 dMul (cst (.int 23)) (vr 5))) (argC (vr 2) (argC (op2 dAdd (cst (.int 1)) (calF m_drawn (argC (vr 0) (argC (op2 dAdd (op2 dAdd (vr 1) (cst (.int 10))) (vr 5)) (argC (vr 4) argN))))) argN)))))) (sqS (ifS (anT (tst (op2 dEq (calF m_drawn (argC (vr 0) (argC (op2 dAdd (op2 dAdd (vr 1) (cst (.int 30))) (vr 5)) (argC (cst (.int 2)) argN)))) (cst (.int 0)))) (tst (op2 dGt (opN cLen (argC (vr 8) argN)) (cst (.int 5))))) (sqS (asS 9 (calF m_drawn (argC (vr 0) (argC (op2 dAdd (op2 dAdd (vr 1) (cst (.int 40))) (vr 5)) (argC (op2 dSub (opN cLen (argC (vr 8) argN)) (cst (.int 4))) argN))))) (asS 8 (op2 dAdd (op2 dAdd (slF (vr 8) noP (soP (vr 9))) (vr 7)) (slF (vr 8) (soP (op2 dAdd (vr 9) (cst (.int 4)))) noP)))) nxS) (apS 6 (vr 8))))
/-- a text of letters of a, not empty, no longer than told -/
def Tx (a : List Nat) (most : Nat) (t : List Nat) : Prop := (1 ≤ t.length ∧ t.length ≤ most) ∧ ∀ c ∈ t, c ∈ a
theorem cut_to {x : List Nat} {p : Nat} (h : p ≤ x.length) : cut x none (some ((p : Nat) : Int)) = x.take p := by
  unfold cut
  rw [HT.sIx_nat, Nat.min_eq_left h]
  rfl
theorem cut_from {x : List Nat} {p : Nat} (h : p ≤ x.length) : cut x (some ((p : Nat) : Int)) none = x.drop p := by
  unfold cut
  rw [HT.sIx_nat, Nat.min_eq_left h]
  show (x.drop p).take (x.length - p) = x.drop p
  exact List.take_of_length_le (by rw [List.length_drop]; omega)
theorem texts_loop (ns : List Int) (hl : ns.length ≤ 1000) (at_ : Nat) (ha : at_ < 2 ^ 40) (a : List Nat) (h0 : 0 < a.length) (h1 : a.length ≤ 6) (most : Nat) (m0 : 0 < most) (m1 : most ≤ 30) (p : List Nat) (hp : Wd a 4 p) (nD : Sl) :
    ∀ (l : List Nat) (acc : List D) (x y z : Sl), (∀ k ∈ l, k ≤ 1000) → acc.length + l.length ≤ 1000 → ∃ (ts : List (List Nat)) (x' y' z' : Sl), (ts.length = l.length ∧ ∀ t ∈ ts, Tx a most t) ∧
      forGo (.nm 5) tBody (l.map fun i => D.int (i : Nat)) [.sh (.frl (ns.map .int)), .sh (.int at_), .sh (.str a), nD, .sh (.int most), x, .ow acc, .sh (.str p), y, z] = .nx [.sh (.frl (ns.map .int)), .sh (.int at_), .sh (.str a), nD, .sh (.int most), x', .ow (acc ++ ts.map .str), .sh (.str p), y', z']
  | [], acc, x, y, z, _, _ => ⟨[], x, y, z, ⟨rfl, fun _ h => nomatch h⟩, by rw [List.map_nil, List.map_nil, List.append_nil]; rfl⟩
  | k :: l, acc, x, y, z, hk, hn => by
    have hn : acc.length + (l.length + 1) ≤ 1000 := hn
    have k1 := hk k List.mem_cons_self
    obtain ⟨r, hr, er⟩ := drawn_ok ns (at_ + 10 + k) most m0 (by omega) hl
    obtain ⟨w, hw, ew⟩ := word_ok ns hl (at_ + 20 + 23 * k) (by omega) a h0 (by omega) (1 + r) (by omega)
    obtain ⟨q, hq, eq_⟩ := drawn_ok ns (at_ + 30 + k) 2 (by decide) (by omega) hl
    have lw : w.length = 1 + r := hw.1
    have c1 : ((1 : Int) + (r : Nat)) = ((1 + r : Nat) : Int) := by omega
    have step : ∃ (t : List Nat) (z1 : Sl), Tx a most t ∧ tBody [.sh (.frl (ns.map .int)), .sh (.int at_), .sh (.str a), nD, .sh (.int most), .sh (.int (k : Nat)), .ow acc, .sh (.str p), y, z] = .nx [.sh (.frl (ns.map .int)), .sh (.int at_), .sh (.str a), nD, .sh (.int most), .sh (.int (k : Nat)), .ow (acc ++ [.str t]), .sh (.str p), .sh (.str t), z1] := by
      have e20 : ((at_ : Nat) : Int) + 20 + 23 * ((k : Nat) : Int) = ((at_ + 20 + 23 * k : Nat) : Int) := by omega
      have e10 : ((at_ : Nat) : Int) + 10 + ((k : Nat) : Int) = ((at_ + 10 + k : Nat) : Int) := by omega
      have e30 : ((at_ : Nat) : Int) + 30 + ((k : Nat) : Int) = ((at_ + 30 + k : Nat) : Int) := by omega
      have e40 : ((at_ : Nat) : Int) + 40 + ((k : Nat) : Int) = ((at_ + 40 + k : Nat) : Int) := by omega
      have b23 : ((23 : Int)).natAbs < 2 ^ 100 := by decide
      have bk : ((k : Nat) : Int).natAbs < 2 ^ 100 := by
        have : ((k : Nat) : Int).natAbs = k := by omega
        rw [this]
        exact Nat.lt_of_le_of_lt k1 (by decide)
      have set8 : (asS 8 (calF m_word (argC (vr 0) (argC (op2 dAdd (op2 dAdd (vr 1) (cst (.int 20))) (op2 dMul (cst (.int 23)) (vr 5))) (argC (vr 2) (argC (op2 dAdd (cst (.int 1)) (calF m_drawn (argC (vr 0) (argC (op2 dAdd (op2 dAdd (vr 1) (cst (.int 10))) (vr 5)) (argC (vr 4) argN))))) argN)))))) [.sh (.frl (ns.map .int)), .sh (.int at_), .sh (.str a), nD, .sh (.int most), .sh (.int (k : Nat)), .ow acc, .sh (.str p), y, z] = .nx [.sh (.frl (ns.map .int)), .sh (.int at_), .sh (.str a), nD, .sh (.int most), .sh (.int (k : Nat)), .ow acc, .sh (.str p), .sh (.str w), z] :=
        as_nx (d := .str w) ((eK (eC rfl (eC ((e2 (e2 rfl rfl rfl) (e2 rfl rfl (mulq b23 bk)) rfl).trans (by rw [e20])) (eC rfl (eC ((e2 rfl ((eK (eC rfl (eC ((e2 (e2 rfl rfl rfl) rfl rfl).trans (by rw [e10])) rfl))).trans er) rfl).trans (by rw [c1])) rfl))))).trans ew)
      have tt : (anT (tst (op2 dEq (calF m_drawn (argC (vr 0) (argC (op2 dAdd (op2 dAdd (vr 1) (cst (.int 30))) (vr 5)) (argC (cst (.int 2)) argN)))) (cst (.int 0)))) (tst (op2 dGt (opN cLen (argC (vr 8) argN)) (cst (.int 5))))) (pkv [.sh (.frl (ns.map .int)), .sh (.int at_), .sh (.str a), nD, .sh (.int most), .sh (.int (k : Nat)), .ow acc, .sh (.str p), .sh (.str w), z]) = .ok (decide (((q : Nat) : Int) = 0) && decide (((w.length : Nat) : Int) > 5)) :=
        tAn ((tB (e2 ((eK (eC rfl (eC ((e2 (e2 rfl rfl rfl) rfl rfl).trans (by rw [e30])) rfl))).trans eq_) rfl (eqq (by simp) (by simp)))).trans (by rw [eqd_int])) fun _ => tB (e2 (eN (eC rfl rfl) (lenq (by omega))) rfl rfl)
      by_cases hb : (decide (((q : Nat) : Int) = 0) && decide (((w.length : Nat) : Int) > 5)) = true
      · have h5 : ((w.length : Nat) : Int) > 5 := of_decide_eq_true (Bool.and_eq_true_iff.mp hb).2
        obtain ⟨g, hg, eg⟩ := drawn_ok ns (at_ + 40 + k) (w.length - 4) (by omega) (by omega) hl
        have e4 : ((w.length : Nat) : Int) - 4 = ((w.length - 4 : Nat) : Int) := by omega
        have g4 : ((g : Nat) : Int) + 4 = ((g + 4 : Nat) : Int) := by omega
        have f1 : dSl (.str w) none (some ((g : Nat) : Int)) = some (.str (w.take g)) := (slq (by omega)).trans (by rw [cut_to (by omega)])
        have f2 : dSl (.str w) (some (((g : Nat) : Int) + 4)) none = some (.str (w.drop (g + 4))) := (slq (by omega)).trans (by rw [g4, cut_from (by omega)])
        have l1 : (w.take g).length = g := by rw [List.length_take]; omega
        have l2 : (w.drop (g + 4)).length = w.length - (g + 4) := List.length_drop
        have lp : p.length = 4 := hp.1
        have a1 : dAdd (.str (w.take g)) (.str p) = some (.str (w.take g ++ p)) := if_pos (by omega)
        have a2 : dAdd (.str (w.take g ++ p)) (.str (w.drop (g + 4))) = some (.str (w.take g ++ p ++ w.drop (g + 4))) := if_pos (by rw [List.length_append]; omega)
        refine ⟨w.take g ++ p ++ w.drop (g + 4), .sh (.int g), ⟨by rw [List.length_append, List.length_append]; omega, fun c hc => ?_⟩, ?_⟩
        · rcases List.mem_append.mp hc with z | z
          · rcases List.mem_append.mp z with z | z
            · exact hw.2 c (List.mem_of_mem_take z)
            · exact hp.2 c z
          · exact hw.2 c (List.mem_of_mem_drop z)
        · refine (sq_nx set8).trans ((sq_nx ((if_yes (tt.trans (congrArg Res.ok hb))).trans ((sq_nx (as_nx (d := .int g) ((eK (eC rfl (eC ((e2 (e2 rfl rfl rfl) rfl rfl).trans (by rw [e40])) (eC ((e2 (eN (eC rfl rfl) (lenq (by omega))) rfl rfl).trans (by rw [e4])) rfl)))).trans eg))).trans (as_nx (d := .str (w.take g ++ p ++ w.drop (g + 4))) (e2 (e2 (eS rfl rfl (eP rfl) f1) rfl a1) (eS rfl (eP (e2 rfl rfl rfl)) rfl f2) a2))))).trans ?_)
          exact ap_nx (ds := acc) rfl (by omega) rfl
      · refine ⟨w, z, ⟨by omega, hw.2⟩, ?_⟩
        exact (sq_nx set8).trans ((sq_nx (if_nx (tt.trans (congrArg Res.ok (Bool.eq_false_iff.mpr hb))))).trans (ap_nx (ds := acc) rfl (by omega) rfl))
    obtain ⟨t, z1, ht, es⟩ := step
    obtain ⟨ts, x', y', z', ⟨g1, g2⟩, e⟩ := texts_loop ns hl at_ ha a h0 h1 most m0 m1 p hp nD l (acc ++ [.str t]) (.sh (.int (k : Nat))) (.sh (.str t)) z1 (fun q hq => hk q (List.mem_cons_of_mem _ hq)) (by rw [List.length_append]; show acc.length + 1 + _ ≤ _; omega)
    refine ⟨t :: ts, x', y', z', ⟨by rw [List.length_cons, List.length_cons, g1], fun u hu => ?_⟩, ?_⟩
    · rcases List.mem_cons.mp hu with z | z
      · rw [z]; exact ht
      · exact g2 u z
    · rw [List.map_cons, for_cons (ps := [(5, .int (k : Nat))]) rfl es, e, List.append_assoc]
      rfl
theorem texts_ok (ns : List Int) (hl : ns.length ≤ 1000) (at_ : Nat) (ha : at_ < 2 ^ 40) (a : List Nat) (h0 : 0 < a.length) (h1 : a.length ≤ 6) (n : Nat) (hn : n ≤ 12) (most : Nat) (m0 : 0 < most) (m1 : most ≤ 30) :
    ∃ ts : List (List Nat), (ts.length = n ∧ ∀ t ∈ ts, Tx a most t) ∧ m_texts [.frl (ns.map .int), .int at_, .str a, .int n, .int most] = .ok (.lst (ts.map .str)) := by
  obtain ⟨p, hp, ep⟩ := word_ok ns hl at_ (by omega) a h0 (by omega) 4 (by omega)
  obtain ⟨ts, x', y', z', ⟨g1, g2⟩, e⟩ := texts_loop ns hl at_ ha a h0 h1 most m0 m1 p hp (.sh (.int n)) (List.range n) [] .no .no .no (fun k hk => by have := List.mem_range.mp hk; omega) (by rw [List.length_range]; show 0 + _ ≤ _; omega)
  refine ⟨ts, ⟨by rw [g1, List.length_range], g2⟩, ?_⟩
  exact dm rfl (sq_to (par_nx (zo_ok (d := []) rfl) (zs_ok ((eK rfl).trans ep))) (sq_to ((for_go (ds := rgD 0 ((n : Nat) : Int)) (eR rfl (by omega))).trans ((congrArg (fun l => forGo _ _ l _) (rgD_nat n)).trans e)) (re_to rfl)))
end Pu

namespace Pu
open PySem L2
/-! ### the least edits from some piece of a text, by rows over the text -/
def wRow (t u : List Nat) : List Int := u.foldl (fun row c => stp t (row.getD 0 0 + 1) row c) (List.replicate (t.length + 1) 0)
theorem wRow_snoc (t u : List Nat) (c : Nat) : wRow t (u ++ [c]) = stp t ((wRow t u).getD 0 0 + 1) (wRow t u) c := by
  unfold wRow
  rw [List.foldl_append]
  rfl
theorem wRow_len (t u : List Nat) : (wRow t u).length = t.length + 1 := by
  induction u using snoc_ind with
  | h0 => exact List.length_replicate
  | h1 u c ih =>
    rw [wRow_snoc]
    exact stp_len _ _ _ _
theorem zero_at (n j : Nat) : (List.replicate n (0 : Int)).getD j 0 = 0 := by
  rw [List.getD_eq_getElem?_getD, List.getElem?_replicate]
  split <;> rfl
theorem wRow_spec (t u : List Nat) : ∀ j, j ≤ t.length → (∀ k, k ≤ j → (wRow t u).getD j 0 ≤ Lv ((t.take j).drop k) u) ∧ ∃ k, k ≤ j ∧ Lv ((t.take j).drop k) u ≤ (wRow t u).getD j 0 := by
  induction u using snoc_ind with
  | h0 =>
    intro j hj
    have e : (wRow t []).getD j 0 = 0 := zero_at _ _
    rw [e]
    refine ⟨fun k _ => ?_, j, Nat.le_refl _, ?_⟩
    · rw [Lv_nilR]
      omega
    · rw [Lv_nilR, List.drop_eq_nil_of_le (by rw [List.length_take]; omega)]
      exact Int.le_refl _
  | h1 u c ih =>
    rw [wRow_snoc]
    intro j
    induction j with
    | zero =>
      intro hj
      rw [stp_0]
      obtain ⟨h1, k, hk, h2⟩ := ih 0 hj
      have e0 : ∀ k, (t.take 0).drop k = [] := fun k => by rw [List.take_zero, List.drop_nil]
      have q1 := h1 0 (Nat.le_refl _)
      rw [e0, Lv_nil] at q1 h2
      have ln : ((u ++ [c]).length : Int) = (u.length : Int) + 1 := by rw [List.length_append]; rfl
      refine ⟨fun k _ => ?_, 0, Nat.le_refl _, ?_⟩
      · rw [e0, Lv_nil, ln]
        omega
      · rw [e0, Lv_nil, ln]
        omega
    | succ j ihj =>
      intro hj
      obtain ⟨n1, kn, hkn, n2⟩ := ihj (by omega)
      obtain ⟨a1, ka, hka, a2⟩ := ih j (by omega)
      obtain ⟨b1, kb, hkb, b2⟩ := ih (j + 1) hj
      rw [stp_s t _ _ c j (by omega)]
      generalize hN : (stp t ((wRow t u).getD 0 0 + 1) (wRow t u) c).getD j 0 = nj at *
      generalize hA : (wRow t u).getD j 0 = aj at *
      generalize hB : (wRow t u).getD (j + 1) 0 = bj at *
      have lt : j < t.length := by omega
      have tk : t.take (j + 1) = t.take j ++ [t[j]] := by rw [List.take_add_one, List.getElem?_eq_getElem lt]; rfl
      have dk : ∀ k, k ≤ j → (t.take (j + 1)).drop k = (t.take j).drop k ++ [t[j]] := fun k hk => by
        rw [tk, List.drop_append_of_le_length (by rw [List.length_take]; omega)]
      have de : (t.take (j + 1)).drop (j + 1) = [] := List.drop_eq_nil_of_le (by rw [List.length_take]; omega)
      have bk : ∀ x : List Nat, Lv (x ++ [t[j]]) (u ++ [c]) = mn3 (Lv x u + (if t[j] = c then 0 else 1)) (Lv x (u ++ [c]) + 1) (Lv (x ++ [t[j]]) u + 1) := fun x => back _ _ _ x u (Nat.le_refl _)
      have dl : (if c = t[j] then (0 : Int) else 1) = if t[j] = c then 0 else 1 := by
        by_cases z : c = t[j]
        · rw [if_pos z, if_pos z.symm]
        · rw [if_neg z, if_neg fun y => z y.symm]
      rw [dl]
      generalize hd : (if t[j] = c then (0 : Int) else 1) = dd at *
      have ln : ((u ++ [c]).length : Int) = (u.length : Int) + 1 := by rw [List.length_append]; rfl
      obtain ⟨v1, v2, v3⟩ := mn3_le (aj + dd) (bj + 1) (nj + 1)
      have le : ∀ k, k ≤ j + 1 → mn3 (aj + dd) (bj + 1) (nj + 1) ≤ Lv ((t.take (j + 1)).drop k) (u ++ [c]) := fun k hk => by
        by_cases z : k ≤ j
        · rw [dk k z, bk]
          have q1 := a1 k z
          have q2 := n1 k z
          have q3 := b1 k hk
          rw [dk k z] at q3
          exact mn3_ge (by omega) (by omega) (by omega)
        · have e : k = j + 1 := by omega
          subst e
          have q3 := b1 (j + 1) (Nat.le_refl _)
          rw [de, Lv_nil] at q3
          rw [de, Lv_nil, ln]
          omega
      refine ⟨le, ?_⟩
      rcases mn3_cases (aj + dd) (bj + 1) (nj + 1) with e | e | e
      · refine ⟨ka, by omega, ?_⟩
        rw [dk ka hka, bk]
        have := (mn3_le (Lv ((t.take j).drop ka) u + dd) (Lv ((t.take j).drop ka) (u ++ [c]) + 1) (Lv ((t.take j).drop ka ++ [t[j]]) u + 1)).1
        omega
      · refine ⟨kb, hkb, ?_⟩
        by_cases z : kb ≤ j
        · rw [dk kb z] at b2 ⊢
          rw [bk]
          have := (mn3_le (Lv ((t.take j).drop kb) u + dd) (Lv ((t.take j).drop kb) (u ++ [c]) + 1) (Lv ((t.take j).drop kb ++ [t[j]]) u + 1)).2.2
          omega
        · have e9 : kb = j + 1 := by omega
          subst e9
          rw [de, Lv_nil] at b2 ⊢
          rw [ln]
          omega
      · refine ⟨kn, by omega, ?_⟩
        rw [dk kn hkn, bk]
        have := (mn3_le (Lv ((t.take j).drop kn) u + dd) (Lv ((t.take j).drop kn) (u ++ [c]) + 1) (Lv ((t.take j).drop kn ++ [t[j]]) u + 1)).2.1
        omega
theorem stp_ge {t : List Nat} {row : List Int} {c : Nat} {v : Int} (h : ∀ j, j ≤ t.length → v ≤ row.getD j 0) : ∀ j, j ≤ t.length → v ≤ (stp t (row.getD 0 0 + 1) row c).getD j 0
  | 0, _ => by
    rw [stp_0]
    have := h 0 (Nat.zero_le _)
    omega
  | j + 1, hj => by
    rw [stp_s t _ _ c j (by omega)]
    have q1 := h j (by omega)
    have q2 := h (j + 1) hj
    have q3 := stp_ge (c := c) h j (by omega)
    refine mn3_ge ?_ (by omega) (by omega)
    split <;> omega
/-- the least edits of all -/
def lo (t u : List Nat) : Int := (lmin (wRow t u)).getD 0
theorem lo_ok (t u : List Nat) : lmin (wRow t u) = some (lo t u) := by
  obtain ⟨m, e⟩ := lmin_some (l := wRow t u) fun z => by have := wRow_len t u; rw [z] at this; cases this
  unfold lo
  rw [e]
  rfl
theorem getD_mem' {l : List Int} {j : Nat} (h : j < l.length) : l.getD j 0 ∈ l := by
  rw [List.getD_eq_getElem?_getD, List.getElem?_eq_getElem h]
  exact List.getElem_mem h
theorem lo_le (t u : List Nat) (j : Nat) (h : j ≤ t.length) : lo t u ≤ (wRow t u).getD j 0 :=
  (lmin_spec (lo_ok t u)).2 _ (getD_mem' (by rw [wRow_len]; omega))
theorem lo_at (t u : List Nat) : ∃ j, j ≤ t.length ∧ lo t u = (wRow t u).getD j 0 := by
  obtain ⟨i, h1, h2⟩ := List.mem_iff_getElem.mp (lmin_spec (lo_ok t u)).1
  refine ⟨i, by rw [wRow_len] at h1; omega, ?_⟩
  rw [List.getD_eq_getElem?_getD, List.getElem?_eq_getElem h1, h2]
  rfl
theorem lo_snoc (t u : List Nat) (c : Nat) : lo t u ≤ lo t (u ++ [c]) := by
  obtain ⟨j, h1, h2⟩ := lo_at t (u ++ [c])
  rw [h2, wRow_snoc]
  exact stp_ge (fun i hi => lo_le t u i hi) j h1
/-- no piece of the text is nearer, and one is as near -/
theorem lo_pieces (t u : List Nat) : (∀ k e, k ≤ e → e ≤ t.length → lo t u ≤ Lv ((t.take e).drop k) u) ∧ ∃ k e, k ≤ e ∧ e ≤ t.length ∧ Lv ((t.take e).drop k) u ≤ lo t u := by
  refine ⟨fun k e hk he => Int.le_trans (lo_le t u e he) ((wRow_spec t u e he).1 k hk), ?_⟩
  obtain ⟨j, h1, h2⟩ := lo_at t u
  obtain ⟨_, k, hk, q⟩ := wRow_spec t u j h1
  exact ⟨k, j, hk, h1, by omega⟩
/-! enumerate, and places picked -/
theorem enD_zip {α : Type} (l : List α) (f : α → D) : enD (l.map f) = l.zipIdx.map fun p => D.tup [.int (p.2 : Nat), f p.1] := by
  unfold enD
  refine List.ext_getElem (by simp) fun i h1 h2 => ?_
  simp
theorem zip_pick {α : Type} (l : List α) (b : α → Bool) : (l.zipIdx.filter fun p => b p.1).length = (l.filter b).length := by
  have h : ∀ (l : List α) (n : Nat), ((l.zipIdx n).filter fun p => b p.1).length = (l.filter b).length := by
    intro l
    induction l with
    | nil => intro n; rfl
    | cons x l ih =>
      intro n
      rw [List.zipIdx_cons]
      by_cases c : b x = true
      · rw [List.filter_cons_of_pos (p := fun p : α × Nat => b p.1) c, List.filter_cons_of_pos c, List.length_cons, List.length_cons, ih]
      · rw [List.filter_cons_of_neg (p := fun p : α × Nat => b p.1) c, List.filter_cons_of_neg c, ih]
  exact h l 0
end Pu

namespace Pu
open PySem PySem.Spec PyProof.Rows L2 Evl
/-! ### instances that no longer change, as data: attributes, methods, making -/
def getD' (c f : Str) : D → Option D
  | .obj c' fs => if c' = c then fs.lookup f else none
  | _ => none
def isO (c m : Str) : D → Bool
  | .obj c' fs => decide (c' = c) && (fs.lookup m).isNone
  | _ => false
/-- o.m(..): it must not raise -/
def metF (c m : Str) (mm : List D → Res D) (f : F) (as : Fs) : F := fun ρ => (f ρ).bind fun o => if isO c m o = true then (as ρ).bind fun xs => (mm (o :: xs)).pur else .st
def putD (f : Str) (d : D) : List (Str × D) → List (Str × D)
  | [] => [(f, d)]
  | (g, x) :: r => if g = f then (g, d) :: r else (g, x) :: putD f d r
section
variable {K : PySem.W.Frag} {xa : Xa} {B H : Hp}
theorem RF.lookup {f : Str} : ∀ {vs : List (Str × V)} {fs : List (Str × D)}, RF K xa B vs fs → (∀ d, fs.lookup f = some d → ∃ v, vs.lookup f = some v ∧ R K xa B v d) ∧ (fs.lookup f = none → vs.lookup f = none)
  | _, _, .nil => ⟨fun d h => (nomatch h), fun _ => rfl⟩
  | _, _, .cons (f := g) (vs := vs) (ds := fs) (v := v) (d := e) h r => by
    obtain ⟨i1, i2⟩ := RF.lookup (f := f) r
    rw [List.lookup_cons, List.lookup_cons]
    cases z : f == g with
    | true => exact ⟨fun d q => ⟨v, rfl, by cases q; exact h⟩, fun q => nomatch q⟩
    | false => exact ⟨i1, i2⟩
theorem RF.put {f : Str} {v : V} {d : D} (h : R K xa B v d) : ∀ {vs : List (Str × V)} {fs : List (Str × D)}, RF K xa B vs fs → RF K xa B (putF f v vs) (putD f d fs)
  | _, _, .nil => .cons h .nil
  | _, _, .cons (f := g) k r => by
    unfold putF putD
    by_cases c : g = f
    · rw [if_pos c, if_pos c]
      exact .cons h r
    · rw [if_neg c, if_neg c]
      exact .cons k (RF.put h r)
theorem RF.length : ∀ {vs : List (Str × V)} {fs : List (Str × D)}, RF K xa B vs fs → vs.length = fs.length
  | _, _, .nil => rfl
  | _, _, .cons _ r => by rw [List.length_cons, List.length_cons, RF.length r]
end
section
variable {X : Cx} {xa : Xa} {W : WX} {pos apos p : Pos} {o e : Expr} {es : List Expr} {f g : F} {fs : Fs}
theorem p_attr (c n : Str) (hC : Cls X.K (He.ga X.K c)) (hn : NoAttr X.K (He.ga X.K c) n) (he : Pe X xa W o f) (hb : attributeBase o n X.env (eval o X.env) = eval o X.env := by rfl) : Pe X xa W (.Attribute o n pos) (op1 (getD' c n) f) := by
  refine PE.imp (pe_fld he hb) fun σ H Q hq => ?_
  obtain ⟨Hb, ρ, le, re, q⟩ := hq
  refine ⟨Hb, ρ, le, re, post_bind le q fun d v B1 H1 e1 g1 r1 p1 => ?_⟩
  cases r1 with
  | @obj a dx c' vs fs h1 rf =>
    have p1 : post X.K (R X.K xa) (WE W σ) B1 H1 Q (ofO (if c' = c then fs.lookup n else none)) := p1
    by_cases hc : c' = c
    · subst hc
      rw [if_pos rfl] at p1
      cases z : fs.lookup n with
      | none => rw [z] at p1; exact p1.elim
      | some d =>
        rw [z] at p1
        obtain ⟨w, hw, rw_⟩ := rf.lookup.1 d z
        exact ⟨a, _, dx, vs, w, rfl, g1.le _ _ h1, hC, hn, hw, post_here g1.le p1 rw_⟩
    · rw [if_neg hc] at p1
      exact p1.elim
  | _ => exact p1.elim
/-- a method of a class, its promise kept -/
structure FnM (P : Program) (w : World) (K : PySem.W.Frag) (mg : Str → Option Value) (base : Heap) (k : Nat) (c m : Str) (n : Nat) (mm : List D → Res D) : Prop where
  cls : Cls K (He.ga K c)
  ex : ∃ (f : Addr) (fd : FuncData) (ps : List Str), Meth K (He.ga K c) m f ∧ FnOk P w K mg base (L2.CX P w) k f fd ps (spP K n mm) ∧ Binds K fd ps []
  st : ∀ ds, ds.length ≠ n → mm ds = .st
theorem met_fin {mm : List D → Res D} {n : Nat} {o : D} {v : V} {vs : List V} {ds : List D} {B2 H2 : Hp} {Q : VK} {W : WX} {σ : L2.St} (st : ∀ ds, ds.length ≠ n → mm ds = .st) (ro : R X.K none B2 v o) (r : RL X.K none B2 vs ds) (le : Ex B2 H2) (p : post X.K (R X.K none) (WE W σ) B2 H2 Q (mm (o :: ds)).pur) :
    spP X.K n mm (v :: vs) H2 Q (fun _ _ _ => False) := by
  cases z : mm (o :: ds) with
  | ok d =>
    rw [z] at p
    by_cases hl : (o :: ds).length = n
    · refine ⟨by rw [← hl, List.length_cons, List.length_cons, r.length], B2, o :: ds, le, .cons ro r, ?_⟩
      rw [z]
      exact p
    · rw [st _ hl] at z
      cases z
  | ex x => rw [z] at p; exact p.elim
  | st => rw [z] at p; exact p.elim
theorem p_meth {c m : Str} {k j n : Nat} {mm : List D → Res D} {pl : Sem Bool} (M : FnM X.prog X.w X.K X.mg X.base k c m n mm) (hr : Room j X.A) (tk : L2.Takes X W) (ho : Pe X none W o f) (ha : Pa X none W (e :: es) fs) (hk : k ≤ j := by decide)
    (hst : starEach (e :: es) X.env = (false, eval e X.env) :: starEach es X.env := by rfl) (hpl : (backTo pos (starEach es X.env)).any (·.1) = false := by rfl)
    (ht : eval (.Call (.Attribute o m apos) (e :: es) [] pos) X.env = (do
      let ov ← eval o X.env
      standAt apos.atName
      let (f, first) ← holding [ov] (getMethod ov m pl)
      callWith pos f first (backTo pos (starEach (e :: es) X.env)) (backToKw pos (keywordEach [] X.env))) := by rfl) :
    Pe X none W (.Call (.Attribute o m apos) (e :: es) [] pos) (metF c m mm f fs) := by
  obtain ⟨g, fd, ps, hm, F, hb⟩ := M.ex
  refine PE.imp (pe_meth (pl := pl) (E := fun _ _ _ => False) ho M.cls hm F (hr.mono hk) hb .nil (passes_call tk fun _ _ _ _ z => z.elim) ha hst hpl ht) fun σ H Q hq => ?_
  obtain ⟨Hb, ρ, le, re, q⟩ := hq
  refine ⟨Hb, ρ, le, re, post_bind le q fun d v B1 H1 e1 g1 r1 p1 => ?_⟩
  have p3 : post X.K (R X.K none) (WE W σ) B1 H1 Q (if isO c m d = true then (fs ρ).bind fun xs => (mm (d :: xs)).pur else .st) := p1
  clear p1
  by_cases hi : isO c m d = true
  · rw [if_pos hi] at p3
    cases r1 with
    | @obj a dx c' vs fs' h1 rf =>
      obtain ⟨hc, hl⟩ := Bool.and_eq_true_iff.mp (show (decide (c' = c) && (fs'.lookup m).isNone) = true from hi)
      have hc := of_decide_eq_true hc
      subst hc
      refine ⟨a, dx, vs, rfl, g1.le _ _ h1, rf.lookup.2 (Option.isNone_iff_eq_none.mp hl), B1, ρ, g1.le, re.mono g1.bup, post_bind g1.le p3 fun ds ws B2 H2 e2 g2 r2 p2 => ?_⟩
      rw [List.append_nil]
      exact met_fin M.st (R.obj (g2.bup _ _ h1) (rf.mono g2.bup)) r2 g2.le p2
    | _ => cases hi
  · rw [if_neg hi] at p3
    exact p3.elim
theorem p_meth0 {c m : Str} {k j n : Nat} {mm : List D → Res D} {pl : Sem Bool} (M : FnM X.prog X.w X.K X.mg X.base k c m n mm) (hr : Room j X.A) (tk : L2.Takes X W) (ho : Pe X none W o f) (hk : k ≤ j := by decide)
    (ht : eval (.Call (.Attribute o m apos) [] [] pos) X.env = (do
      let ov ← eval o X.env
      standAt apos.atName
      let (f, first) ← holding [ov] (getMethod ov m pl)
      callWith pos f first (backTo pos (starEach [] X.env)) (backToKw pos (keywordEach [] X.env))) := by rfl) :
    Pe X none W (.Call (.Attribute o m apos) [] [] pos) (metF c m mm f argN) := by
  obtain ⟨g, fd, ps, hm, F, hb⟩ := M.ex
  refine PE.imp (pe_meth0 (pl := pl) (E := fun _ _ _ => False) ho M.cls hm F (hr.mono hk) hb .nil (passes_call tk fun _ _ _ _ z => z.elim) ht) fun σ H Q hq => ?_
  obtain ⟨Hb, ρ, le, re, q⟩ := hq
  refine ⟨Hb, ρ, le, re, post_bind le q fun d v B1 H1 e1 g1 r1 p1 => ?_⟩
  have p3 : post X.K (R X.K none) (WE W σ) B1 H1 Q (if isO c m d = true then (mm [d]).pur else .st) := p1
  clear p1
  by_cases hi : isO c m d = true
  · rw [if_pos hi] at p3
    cases r1 with
    | @obj a dx c' vs fs' h1 rf =>
      obtain ⟨hc, hl⟩ := Bool.and_eq_true_iff.mp (show (decide (c' = c) && (fs'.lookup m).isNone) = true from hi)
      have hc := of_decide_eq_true hc
      subst hc
      refine ⟨a, dx, vs, rfl, g1.le _ _ h1, rf.lookup.2 (Option.isNone_iff_eq_none.mp hl), ?_⟩
      exact met_fin M.st (R.obj h1 rf) .nil g1.le p3
    | _ => cases hi
  · rw [if_neg hi] at p3
    exact p3.elim
/-! making -/
def postN (K : PySem.W.Frag) (c : Str) (E : XK) (Hb Hc : Hp) (x dx : Addr) (Q : VK) : Res (List (Str × D)) → Prop
  | .ok fs => ∀ vs B H, Gw Hb Hc B H → B x = some (.ins (He.ga K c) dx vs) → RF K none B vs fs → Q .non H
  | .ex y => ∀ cl d B H, Gw Hb Hc B H → XR K B cl d y → E cl d H
  | .st => False
def spN (K : PySem.W.Frag) (c : Str) (n : Nat) (mi : List D → Res (List (Str × D))) : Sp := fun vs H Q E => vs.length = n + 1 ∧ ∃ x dx ws Hb Hc ds, vs = .ref x :: ws ∧ H = upd (upd Hc dx (.own x)) x (.ins (He.ga K c) dx []) ∧ Hc x = none ∧ Hc dx = none ∧ dx ≠ x ∧ Ex Hb Hc ∧ RL K none Hb ws ds ∧ postN K c E Hb Hc x dx Q (mi ds)
structure FnN (P : Program) (w : World) (K : PySem.W.Frag) (mg : Str → Option Value) (base : Heap) (k : Nat) (c : Str) (n : Nat) (mi : List D → Res (List (Str × D))) : Prop where
  ex : ∃ (f : Addr) (fd : FuncData) (ps : List Str), Mk K (He.ga K c) f ∧ FnOk P w K mg base (L2.CX P w) k f fd ps (spN K c n mi) ∧ Binds K fd ps []
  glo : mg c = some (.ref (He.ga K c))
/-- a new instance -/
def newM (c : Str) (n : Nat) (mi : List D → Res (List (Str × D))) : List D → Res D := fun ds => if ds.length = n then (mi ds).bind fun fs => .ok (.obj c fs) else .st
theorem p_make {c : Str} {k j n : Nat} {mi : List D → Res (List (Str × D))} {E : XK} (N : FnN X.prog X.w X.K X.mg X.base k c n mi) (hr : Room j X.A) (tk : L2.Takes X (WO E)) (ha : Pa X none (WO E) (e :: es) fs) (hk : k + 1 ≤ j := by decide) (hg : Gl X c := by rfl) (hdb : (c == ("__debug__" : Str)) = false := by decide)
    (he : starEach (e :: es) X.env = (false, eval e X.env) :: starEach es X.env := by rfl) (hpl : (backTo pos (starEach es X.env)).any (·.1) = false := by rfl) : Pe X none (WO E) (.Call (.Name c p) (e :: es) [] pos) (calF (newM c n mi) fs) := by
  obtain ⟨f, fd, ps, M, F, hb⟩ := N.ex
  refine PE.imp (pe_make (E := E) M F (hr.mono hk) hg N.glo hb .nil (passes_call tk fun _ _ _ _ z => z) ha hdb he hpl) fun σ H Q hq => ?_
  obtain ⟨Hb, ρ, le, re, q⟩ := hq
  refine ⟨Hb, ρ, le, re, post_bind le q fun ds vs B1 H1 e1 g1 r1 p1 => fun x dx hx hd hne => ?_⟩
  unfold newM at p1
  by_cases hl : ds.length = n
  · rw [if_pos hl] at p1
    refine ⟨by rw [List.append_nil, List.length_cons, r1.length, hl], x, dx, vs, B1, H1, ds, by rw [List.append_nil], rfl, hx, hd, hne, g1.le, r1, ?_⟩
    cases z : mi ds with
    | ok fs =>
      rw [z] at p1
      exact fun vs' B H' g bx rf => ⟨rfl, p1 (.ref x) B H' g (.obj bx rf)⟩
    | ex y =>
      rw [z] at p1
      exact fun cl d B H' g xr => p1 cl d B H' g xr
    | st => rw [z] at p1; exact p1.elim
  · rw [if_neg hl] at p1
    exact p1.elim
end
/-! __init__ -/
structure IR (K : PySem.W.Frag) (B0 H0 B H : Hp) (σ : L2.St) (ρ : Env) (x dx C : Addr) (vs : List (Str × V)) (fs : List (Str × D)) : Prop where
  gw : Gw B0 H0 B H
  len : ρ.length = σ.length
  re : RE K none B σ ρ
  s0 : σ[0]? = some (some (.ref x))
  r0 : ρ[0]? = some none
  hx : H x = some (.ins C dx vs)
  bx : B x = none
  nx : H0 x = none
  rf : RF K none B vs fs
section
variable {K : PySem.W.Frag} {B0 H0 B H B' H' : Hp} {σ : L2.St} {ρ : Env} {x dx C : Addr} {vs : List (Str × V)} {fs : List (Str × D)}
theorem IR.grow (I : IR K B0 H0 B H σ ρ x dx C vs fs) (g : Gw B H B' H') : IR K B0 H0 B' H' σ ρ x dx C vs fs :=
  ⟨I.gw.trans g, I.len, I.re.mono g.bup, I.s0, I.r0, g.up _ _ I.hx, (g.old _ _ I.hx).trans I.bx, I.nx, I.rf.mono g.bup⟩
theorem IR.put {f : Str} {v : V} {d : D} (I : IR K B0 H0 B H σ ρ x dx C vs fs) (r : R K none B v d) : IR K B0 H0 B (upd H x (.ins C dx (putF f v vs))) σ ρ x dx C (putF f v vs) (putD f d fs) := by
  have out : ∀ {G : Hp}, G x = none → Ex G H → Ex G (upd H x (.ins C dx (putF f v vs))) := fun {G} gx e a o h => by
    by_cases c : a = x
    · subst c
      rw [gx] at h
      cases h
    · rw [upd_ne c]
      exact e a o h
  exact ⟨⟨out I.nx I.gw.up, I.gw.bup, out I.bx I.gw.le, I.gw.old⟩, I.len, I.re, I.s0, I.r0, upd_same, I.bx, I.nx, I.rf.put r⟩
theorem IR.hold (I : IR K B0 H0 B H σ ρ x dx C vs fs) : Ex B (upd B x (.ins C dx vs)) ∧ Ex (upd B x (.ins C dx vs)) H := by
  refine ⟨Ex.new I.bx, fun a o h => ?_⟩
  by_cases c : a = x
  · subst c
    rw [upd_same] at h
    cases h
    exact I.hx
  · rw [upd_ne c] at h
    exact I.gw.le a o h
theorem IR.done (I : IR K B0 H0 B H σ ρ x dx C vs fs) (g : Gw (upd B x (.ins C dx vs)) H B' H') : Gw B0 H0 B' H' ∧ B' x = some (.ins C dx vs) ∧ RF K none B' vs fs := by
  obtain ⟨h1, h2⟩ := I.hold
  refine ⟨⟨I.gw.up.trans g.up, (I.gw.bup.trans h1).trans g.bup, g.le, fun a o h => ?_⟩, g.bup _ _ upd_same, I.rf.mono (h1.trans g.bup)⟩
  have ne : a ≠ x := fun e => by
    subst e
    rw [I.nx] at h
    cases h
  rw [g.old a o (I.gw.up a o h), upd_ne ne, I.gw.old a o h]
end
abbrev IM := Env → List (Str × D) → Res (List (Str × D))
def pI (K : PySem.W.Frag) (E : XK) (B0 H0 : Hp) (Dn : Ends) (σ : L2.St) (ρ : Env) (x dx C : Addr) : Res (List (Str × D)) → Prop
  | .ok fs => ∀ B H vs, IR K B0 H0 B H σ ρ x dx C vs fs → Dn.nx σ H
  | .ex y => ∀ cl d B H, Gw B0 H0 B H → XR K B cl d y → E cl d H
  | .st => False
def pL (K : PySem.W.Frag) (E : XK) (B0 H0 : Hp) (Dn : Ends) (x dx C : Addr) : Res (List (Str × D)) → Prop
  | .ok fs => ∀ σ B H vs, Gw B0 H0 B H → B x = some (.ins C dx vs) → RF K none B vs fs → Dn.nx σ H
  | .ex y => ∀ cl d B H, Gw B0 H0 B H → XR K B cl d y → E cl d H
  | .st => False
def tIs (K : PySem.W.Frag) (c : Str) (E : XK) (g : IM) : TS := fun Dn σ H => ∃ B0 H0 B ρ x dx vs fs, IR K B0 H0 B H σ ρ x dx (He.ga K c) vs fs ∧ pI K E B0 H0 Dn σ ρ x dx (He.ga K c) (g ρ fs)
def tIl (K : PySem.W.Frag) (c : Str) (E : XK) (g : IM) : TS := fun Dn σ H => ∃ B0 H0 B ρ x dx vs fs, IR K B0 H0 B H σ ρ x dx (He.ga K c) vs fs ∧ pL K E B0 H0 Dn x dx (He.ga K c) (g ρ fs)
def iE (f : F) : IM := fun ρ fs => (f ρ).bind fun _ => .ok fs
def iS (n : Str) (f : F) : IM := fun ρ fs => (f ρ).bind fun d => if fs.length < 900 then .ok (putD n d fs) else .st
def iQ (g h : IM) : IM := fun ρ fs => (g ρ fs).bind (h ρ)
def toS : Option D → Sl
  | some d => .sh d
  | none => .no
def iL (c : Str) (g : SF) : IM := fun ρ fs => match g (.sh (.obj c fs) :: ρ.tail.map toS) with
  | .nx _ => .ok fs
  | .ex y _ => .ex y
  | _ => .st
section
variable {X : Cx} {E : XK} {pos p1 p2 : Pos} {e : Expr} {f : F} {c n : Str} {st : Stmt} {sts : List Stmt} {g h : IM}
theorem i_expr (he : Pe X none (WO E) e f) (hs : swapsWith e none pos.line X.env = pure false := by rfl) : PS X (.Expr e pos) (tIs X.K c E (iE f)) := by
  refine PS.imp (ps_expr he hs) fun Dn σ H ⟨B0, H0, B, ρ, x, dx, vs, fs, I, p⟩ => ?_
  refine ⟨B, ρ, I.gw.le, I.re, ?_⟩
  unfold iE at p
  cases z : f ρ with
  | ok d =>
    rw [z] at p
    exact fun v B' H' g r => p B' H' vs (I.grow g)
  | ex y =>
    rw [z] at p
    exact fun cl d B' H' g xr => p cl d B' H' (I.gw.trans g) xr
  | st => rw [z] at p; exact p.elim
theorem i_set (hC : Cls X.K (He.ga X.K c)) (hn : NoAttr X.K (He.ga X.K c) n) (he : Pe X none (WO E) e f) (h0 : X.N[0]? = some ("self" : Str) := by rfl) (hv : Vis X.env.scope "self" := by first | exact Or.inl rfl | exact Or.inr (Or.inl rfl) | exact Or.inr (Or.inr rfl))
    (hs : swapsWith e (some (.Attribute (.Name "self" p1) n p2)) pos.line X.env = pure false := by rfl) : PS X (.Assign [.Attribute (.Name "self" p1) n p2] e pos) (tIs X.K c E (iS n f)) := by
  refine PS.imp (ps_fld (pe_var (i := 0) h0 hv) he hs) fun Dn σ H ⟨B0, H0, B, ρ, x, dx, vs, fs, I, p⟩ => ?_
  refine ⟨B, ρ, I.gw.le, I.re, ?_⟩
  unfold iS at p
  cases z : f ρ with
  | ok d =>
    rw [z] at p
    have p : pI X.K E B0 H0 Dn σ ρ x dx (He.ga X.K c) (if fs.length < 900 then .ok (putD n d fs) else .st) := p
    by_cases hl : fs.length < 900
    · rw [if_pos hl] at p
      intro v B' H' g r
      have I' := I.grow g
      refine ⟨.ref x, I.s0, x, _, dx, vs, rfl, I'.hx, hC, hn, by rw [I.rf.length]; omega, ?_⟩
      exact p B' _ _ (I'.put r)
    · rw [if_neg hl] at p
      exact p.elim
  | ex y =>
    rw [z] at p
    exact fun cl d B' H' g xr => p cl d B' H' (I.gw.trans g) xr
  | st => rw [z] at p; exact p.elim
theorem i_cons (h1 : PS X st (tIs X.K c E g)) (h2 : PSs X sts (tIl X.K c E h)) : PSs X (st :: sts) (tIl X.K c E (iQ g h)) := by
  refine PSs.imp (pss_cons h1 h2) fun Dn σ H ⟨B0, H0, B, ρ, x, dx, vs, fs, I, p⟩ => ?_
  refine ⟨B0, H0, B, ρ, x, dx, vs, fs, I, ?_⟩
  unfold iQ at p
  cases z : g ρ fs with
  | ok fs' =>
    rw [z] at p
    exact fun B' H' vs' I' => ⟨B0, H0, B', ρ, x, dx, vs', fs', I', p⟩
  | ex y => rw [z] at p; exact p
  | st => rw [z] at p; exact p.elim
theorem i_last {gs : SF} (h : Pss X none (WO E) sts gs) : PSs X sts (tIl X.K c E (iL c gs)) := by
  refine PSs.imp h fun Dn σ H ⟨B0, H0, B, ρ, x, dx, vs, fs, I, p⟩ => ?_
  obtain ⟨h1, h2⟩ := I.hold
  have rs : RS X.K none (upd B x (.ins (He.ga X.K c) dx vs)) H (upd B x (.ins (He.ga X.K c) dx vs)) H σ (.sh (.obj c fs) :: ρ.tail.map toS) := by
    cases ρ with
    | nil => have := I.r0; cases this
    | cons o r =>
      have kind : ∀ {i : Nat} {s : Sl}, (Sl.sh (.obj c fs) :: (o :: r).tail.map toS)[i]? = some s → (i = 0 ∧ s = .sh (.obj c fs)) ∨ (s = .no) ∨ ∃ j d, i = j + 1 ∧ r[j]? = some (some d) ∧ s = .sh d := fun {i s} q => by
        cases i with
        | zero => cases q; exact .inl ⟨rfl, rfl⟩
        | succ j =>
          have q : (r.map toS)[j]? = some s := q
          rw [List.getElem?_map] at q
          cases z : r[j]? with
          | none => rw [z] at q; cases q
          | some u =>
            rw [z] at q
            cases u with
            | none => cases q; exact .inr (.inl rfl)
            | some d => cases q; exact .inr (.inr ⟨j, d, rfl, z, rfl⟩)
      refine ⟨Gw.refl h2, ?_, fun i d q => ?_, fun i ds q => ?_, fun i j ds es a q _ _ _ => ?_⟩
      · have := I.len
        rw [← this]
        show (r.map toS).length + 1 = r.length + 1
        rw [List.length_map]
      · rcases kind q with ⟨rfl, z⟩ | z | ⟨j, d', rfl, z1, z2⟩
        · cases z
          exact ⟨.ref x, I.s0, .obj upd_same (I.rf.mono h1)⟩
        · cases z
        · cases z2
          obtain ⟨v, e1, r1⟩ := I.re.at_ (j + 1) d z1
          exact ⟨v, e1, r1.mono h1⟩
      · rcases kind q with ⟨rfl, z⟩ | z | ⟨j, d', rfl, z1, z2⟩
        · cases z
        · cases z
        · cases z2
      · rcases kind q with ⟨rfl, z⟩ | z | ⟨j, d', rfl, z1, z2⟩
        · cases z
        · cases z
        · cases z2
  refine ⟨_, _, _, _, rs, ?_⟩
  unfold iL at p
  cases z : gs (.sh (.obj c fs) :: ρ.tail.map toS) with
  | nx ρ' =>
    rw [z] at p
    exact fun σ' B' H' r => by
      obtain ⟨k1, k2, k3⟩ := I.done r.gw
      exact p σ' B' H' vs k1 k2 k3
  | ex y ρ' =>
    rw [z] at p
    exact fun cl d σ' B' H' r xr => p cl d B' H' (I.done r.gw).1 xr
  | rt d => rw [z] at p; exact p.elim
  | bk ρ' => rw [z] at p; exact p.elim
  | ct ρ' => rw [z] at p; exact p.elim
  | st => rw [z] at p; exact p.elim
end
/-- the whole __init__ -/
theorem fn_init {P : Program} {w : World} {K : PySem.W.Frag} {mg : Str → Option Value} {base : Heap} {x qual c : Str} {params : Arguments} {body : List Stmt} {scope : Scope} {dvs : List V} {kws : List (Str × V)} {f : Addr} {fd : FuncData} {N ps : List Str} {k n : Nat} {g : IM}
    (F : FunD K x qual params body scope dvs kws f fd) (S : FnScope N ps scope) (hn : ps.length = n + 1) (hk : N.length = n + 1)
    (hbody : ∀ (cdv : Value) (A : Around) (outer : List PySem.Env) (s : Shared) (H : Hp) (E : XK), Room k (A.deeper (envOfC qual scope s.heap.objs.size f cdv)) → L2.Takes (cxOf (L2.CX P w) P w K mg base N qual scope f cdv A outer s H E) (WO E) →
      PassesOwn (model P w) (A.deeper (envOfC qual scope s.heap.objs.size f cdv)) (envOfC qual scope s.heap.objs.size f cdv) (cxOf (L2.CX P w) P w K mg base N qual scope f cdv A outer s H E).xe →
      PSs (cxOf (L2.CX P w) P w K mg base N qual scope f cdv A outer s H E) body (tIl K c E g)) : FnOk P w K mg base (L2.CX P w) (k + 1) f fd ps (spN K c n fun ds => g (none :: ds.map some) []) := by
  refine F.ok S (fun vs H Q E h => by rw [hn]; exact h.1) (fun cdv A outer s H vs Q E hr h => ⟨_, hbody cdv A outer s H E hr (takes_of rfl rfl rfl rfl) (passes_of (K := fun e s'' => L2.CX P w outer H s E e s'') rfl), ?_⟩)
  obtain ⟨hl, x, dx, ws, Hb, Hc, ds, rfl, rfl, hx, hd, hne, le, rl, p⟩ := h
  have hw : ws.length = n := by simpa using hl
  have bx : Hb x = none := by
    cases z : Hb x with
    | none => rfl
    | some o => rw [le _ _ z] at hx; cases hx
  have up : Ex Hc (upd (upd Hc dx (.own x)) x (.ins (He.ga K c) dx [])) := fun a o z => by
    rw [upd_ne (ne_of_none z hx), upd_ne (ne_of_none z hd)]
    exact z
  have es : L2.start N (.ref x :: ws) = some (V.ref x) :: ws.map some := by
    unfold L2.start
    rw [hk, List.length_cons, hw, Nat.sub_self]
    show some (V.ref x) :: (ws.map some ++ []) = _
    rw [List.append_nil]
  have I : IR K Hb Hc Hb (upd (upd Hc dx (.own x)) x (.ins (He.ga K c) dx [])) (L2.start N (.ref x :: ws)) (none :: ds.map some) x dx (He.ga K c) [] [] := by
    rw [es]
    refine ⟨⟨up, Ex.refl _, le.trans up, fun _ _ _ => rfl⟩, ?_, ⟨?_, fun i d z => ?_⟩, rfl, rfl, upd_same, bx, hx, .nil⟩
    · rw [List.length_cons, List.length_cons, List.length_map, List.length_map, rl.length]
    · rw [List.length_cons, List.length_cons, List.length_map, List.length_map, rl.length]
      exact Nat.le_refl _
    · cases i with
      | zero => cases z
      | succ i =>
        have z : (ds.map some)[i]? = some (some d) := z
        rw [List.getElem?_map] at z
        cases y : ds[i]? with
        | none => rw [y] at z; cases z
        | some d' =>
          rw [y] at z
          cases z
          obtain ⟨v, e1, r⟩ := rl.get y
          exact ⟨v, by show (ws.map some)[i]? = _; rw [List.getElem?_map, e1]; rfl, r⟩
  refine ⟨Hb, Hc, Hb, none :: ds.map some, x, dx, [], [], I, ?_⟩
  have p : postN K c E Hb Hc x dx Q (g (none :: ds.map some) []) := p
  cases z : g (none :: ds.map some) [] with
  | ok fs =>
    rw [z] at p
    exact fun σ B H vs gw b rf => p vs B H gw b rf
  | ex y =>
    rw [z] at p
    exact fun cl d B H gw xr => p cl d B H gw xr
  | st => rw [z] at p; exact p.elim
end Pu

namespace Pu
open PySem PySem.Spec PyProof.Rows L2 Evl PySem.SeqAt
/-! ### min of a list of pairs (number, text) -/
abbrev IS := Int × List Nat
abbrev isD (p : IS) : D := .tup [.int p.1, .str p.2]
def ltIS (p q : IS) : Bool := if p.1 = q.1 then (if p.2 = q.2 then false else decide (p.2 < q.2)) else decide (p.1 < q.1)
def isOf : D → Option IS
  | .tup [.int i, .str w] => some (i, w)
  | _ => none
def isOfs : List D → Option (List IS)
  | [] => some []
  | d :: ds => (isOf d).bind fun p => (isOfs ds).map fun l => p :: l
theorem isOf_eq {d : D} {p : IS} (h : isOf d = some p) : d = isD p := by
  unfold isOf at h
  split at h
  · cases h
    rfl
  · cases h
theorem isOfs_eq : ∀ {ds : List D} {l : List IS}, isOfs ds = some l → ds = l.map isD
  | [], _, h => by cases h; rfl
  | d :: ds, l, h => by
    obtain ⟨p, e1, h⟩ := Option.bind_eq_some_iff.mp h
    obtain ⟨r, e2, e3⟩ := Option.map_eq_some_iff.mp h
    subst e3
    rw [isOf_eq e1, isOfs_eq e2]
    rfl
theorem isOfs_map : ∀ l : List IS, isOfs (l.map isD) = some l
  | [] => rfl
  | p :: l => by
    show (isOf (isD p)).bind (fun p => (isOfs (l.map isD)).map fun l => p :: l) = _
    rw [isOfs_map l]
    rfl
def minIS (x : IS) (xs : List IS) : IS := xs.foldl (fun a y => if ltIS y a = true then y else a) x
def cMinP : List D → Option D
  | [.lst ds] => (isOfs ds).bind fun l => match l with
    | [] => none
    | x :: xs => some (isD (minIS x xs))
  | _ => none
theorem lt_is (p q : IS) : PySem.W.dataLt (py (isD p)) (py (isD q)) = ltIS p q := by
  show PySem.W.dataLt (.tuple [.int p.1, .str (sOf p.2)]) (.tuple [.int q.1, .str (sOf q.2)]) = _
  rw [PySem.W.dataLt_pair (by simp [PySem.W.alike]) (by simp [PySem.W.alike]), PySem.W.dataLt_int, PySem.W.dataLt_str]
  unfold ltIS
  simp only [PyData.eqv, beq_iff_eq]
  by_cases c : p.1 = q.1
  · rw [if_pos c, if_pos c]
    by_cases e : p.2 = q.2
    · rw [if_pos e, if_pos (by rw [e])]
    · rw [if_neg e, if_neg fun z => e (sOf_inj z)]
  · rw [if_neg c, if_neg c]
theorem minD_is : ∀ (xs : List IS) (x : IS), PySem.W.minD (py (isD x)) (xs.map fun p => py (isD p)) = py (isD (minIS x xs))
  | [], x => rfl
  | y :: xs, x => by
    have ih := minD_is xs (if ltIS y x = true then y else x)
    unfold PySem.W.minD minIS at ih ⊢
    rw [List.map_cons, List.foldl_cons, List.foldl_cons, lt_is]
    rw [← ih]
    congr 1
    split <;> rfl
theorem py_inj {p q : IS} (h : py (isD p) = py (isD q)) : p = q := by
  have h : PyData.tuple [.int p.1, .str (sOf p.2)] = .tuple [.int q.1, .str (sOf q.2)] := h
  injection h with h
  injection h with h1 h2
  injection h1 with h1
  injection h2 with h2 _
  injection h2 with h2
  exact Prod.ext h1 (sOf_inj h2)
section
variable {X : Cx} {xa : Xa}
theorem c_minP (hc : X.calm = true) (hu : X.A.units + 64 < cLine) : OpC X xa (.builtin "min") cMinP := by
  intro pins s σ H vs us Q I r h
  obtain ⟨Hb, ds, z, le, rl, hz, q⟩ := h
  match ds, rl, hz with
  | [], _, hz => cases hz
  | a0 :: b0 :: r0, _, hz => cases a0 <;> cases hz
  | [d], rl, hz =>
    obtain ⟨v, rfl, r1⟩ := rl.one
    cases r1 with
    | @lst a ws es h1 q1 =>
      obtain ⟨l, e1, e2⟩ := Option.bind_eq_some_iff.mp (show (isOfs es).bind _ = some z from hz)
      have ee := isOfs_eq e1
      subst ee
      cases l with
      | nil => cases e2
      | cons x xs =>
        cases e2
        have dl : depL ((x :: xs).map isD) ≤ 1 := depL_map fun p _ => by simp
        obtain ⟨da, dc, dd⟩ := RL.dp (q1.mono le) (by omega)
        obtain ⟨its, rv, hl, _⟩ := I.list (SqL.of (K := X.K) (le _ _ h1))
        obtain ⟨as, hr⟩ := Dp.readsAll I _ _ its da rv
        have ep : pyL ((x :: xs).map isD) = py (isD x) :: xs.map fun p => py (isD p) := by
          rw [pyL_map, List.map_map]
          rfl
        rw [Vals.ref1 r]
        rw [ep] at hr dd dc
        have al : PySem.W.AlikeAll (py (isD x) :: xs.map fun p => py (isD p)) := by
          have form : ∀ y ∈ (py (isD x) :: xs.map fun p => py (isD p)), ∃ p : IS, y = py (isD p) := fun y hy => by
            rcases List.mem_cons.mp hy with e | e
            · exact ⟨x, e⟩
            · obtain ⟨p, _, e⟩ := List.mem_map.mp e
              exact ⟨p, e.symm⟩
          refine ⟨fun y hy w hw => ?_, fun y hy => ?_⟩
          · obtain ⟨p, rfl⟩ := form y hy
            obtain ⟨p', rfl⟩ := form w hw
            show PySem.W.alike (.tuple [.int p.1, .str (sOf p.2)]) (.tuple [.int p'.1, .str (sOf p'.2)]) = true
            simp [PySem.W.alike, PySem.W.alikeAll]
          · obtain ⟨p, rfl⟩ := form y hy
            intro e
            cases e
        refine PySem.W.min_list_data (I.ok.hd hc) hl.isList (show ReadsAll s.heap its.toArray.toList _ as from hr) al (by omega) fun i u h' tk bs hv hrd hk => ?_
        have hv : its[i]? = some u := by simpa using hv
        have hi : i < its.length := (List.getElem?_eq_some_iff.mp hv).1
        have hw : ws.length = its.length := rv.length
        have hx : ws.length = (x :: xs).length := by rw [q1.length, List.length_map]
        have hil : i < (x :: xs).length := by omega
        obtain ⟨wv, hwv, rw_⟩ := q1.get (i := i) (d := isD (x :: xs)[i]) (by rw [List.getElem?_map, List.getElem?_eq_getElem hil]; rfl)
        obtain ⟨u', hu', ru⟩ := rv.get hwv
        rw [hv] at hu'
        cases hu'
        obtain ⟨bs', r', hlt, _, _⟩ := PySem.W.readsAll_at hr i u hv
        have eg : (py (isD x) :: xs.map fun p => py (isD p)).getD i .none = py (isD (x :: xs)[i]) := by
          have e9 : (py (isD x) :: xs.map fun p => py (isD p)) = (x :: xs).map fun p => py (isD p) := rfl
          rw [e9, List.getD_eq_getElem?_getD, List.getElem?_map, List.getElem?_eq_getElem hil]
          rfl
        rw [eg] at r'
        rw [minD_is] at hrd
        have lay : ∀ p : IS, p ∈ x :: xs → (py (isD p)).canLay0 = true := fun p hp => by
          obtain ⟨j, hj, ej⟩ := List.mem_iff_getElem.mp hp
          obtain ⟨v9, _, r9⟩ := (q1.mono le).get (i := j) (d := isD p) (by rw [List.getElem?_map, List.getElem?_eq_getElem hj, ej]; rfl)
          exact (r9.dp (by simp)).2.1
        have inm : ∀ (l : List IS) (y : IS), minIS y l ∈ y :: l := by
          intro l
          induction l with
          | nil => intro y; exact List.mem_cons_self
          | cons b l ih =>
            intro y
            have h9 := ih (if ltIS b y = true then b else y)
            show minIS (if ltIS b y = true then b else y) l ∈ _
            rcases List.mem_cons.mp h9 with e | e
            · rw [e]
              split
              · exact List.mem_cons_of_mem _ List.mem_cons_self
              · exact List.mem_cons_self
            · exact List.mem_cons_of_mem _ (List.mem_cons_of_mem _ e)
        have k1 := SeqAt.readOf_eq (lay _ (List.getElem_mem hil)) (PySem.W.reads_keeps hk r')
        have k2 := SeqAt.readOf_eq (lay _ (inm xs x)) hrd
        have ek : (x :: xs)[i] = minIS x xs := py_inj (k1.symm.trans k2)
        rw [ek] at rw_
        exact ⟨wv, H, I.kept hk, ru, q wv Hb H (Gw.refl le) rw_⟩
    | _ => cases hz
end
end Pu

namespace Pu
open PySem PySem.Spec PyProof.Rows L2 Evl
/-! ### [e for t in it if c for t1 in it1 if c1] -/
def lc2Go (ρ : Env) (t : Tg) (c : T) (it1 : Fs) (vs1 : List Nat) (t1 : Tg) (c1 : T) (f : F) : List D → Res (List D)
  | [] => .ok []
  | d :: ds => (ofO (bnd t d)).bind fun ps => (c (setsE ρ ps)).pur.bind fun b => if b = true then (it1 (setsE ρ ps)).pur.bind fun es => (if es.length ≤ 16777216 then lcGo (wipeE (setsE ρ ps) vs1) t1 c1 f es else .st).pur.bind fun ys => (lc2Go ρ t c it1 vs1 t1 c1 f ds).bind fun zs => .ok (ys ++ zs)
      else lc2Go ρ t c it1 vs1 t1 c1 f ds
def lc2O (it : Fs) (vs : List Nat) (t : Tg) (c : T) (it1 : Fs) (vs1 : List Nat) (t1 : Tg) (c1 : T) (f : F) : Fs := fun ρ => (it ρ).bind fun ds => if ds.length ≤ 16777216 then (lc2Go (wipeE ρ vs) t c it1 vs1 t1 c1 f ds).pur.bind fun zs => if zs.length ≤ 1000000 then .ok zs else .st else .st
theorem pur_ok {α : Type} {r : Res α} {β : Type} {k : α → Res β} {y : β} (h : r.pur.bind k = .ok y) : ∃ a, r = .ok a ∧ k a = .ok y := by
  cases r with
  | ok a => exact ⟨a, rfl, h⟩
  | ex x => cases h
  | st => cases h
theorem bnd_ok {α : Type} {r : Res α} {β : Type} {k : α → Res β} {y : β} (h : r.bind k = .ok y) : ∃ a, r = .ok a ∧ k a = .ok y := by
  cases r with
  | ok a => exact ⟨a, rfl, h⟩
  | ex x => cases h
  | st => cases h
theorem ofO_ok {α : Type} {o : Option α} {β : Type} {k : α → Res β} {y : β} (h : (ofO o).bind k = .ok y) : ∃ a, o = some a ∧ k a = .ok y := by
  cases o with
  | some a => exact ⟨a, rfl, h⟩
  | none => cases h
section
variable {xa : Xa} {W : WX}
theorem t_lc2 {it it1 : Fs} {t t1 : Tg} {c c1 : T} {f : F} {vs vs1 : List Nat} {K : PySem.W.Frag} {σ : L2.St} {H : Hp} {Q : VK} (hx : ∀ i ∈ t.ix, i ∈ vs) (hx1 : ∀ i ∈ t1.ix, i ∈ vs1) (hq : tO K xa W (lc2O it vs t c it1 vs1 t1 c1 f) σ H Q) :
    tLc2 (tPx K xa (Wk K xa) W it) (gD t) (tPT K xa WF c) (tPx K xa (Wk K xa) WF it1) (gD t1) (tPT K xa WF c1) (tP K xa WF f) vs vs1 σ H Q := by
  obtain ⟨Hb, ρ, le, re, p⟩ := hq
  refine ⟨Hb, ρ, le, re, postO_bind p fun ds J B1 H1 e1 g1 wk p1 => ?_⟩
  intro Dl hD
  by_cases hz : ds.length ≤ 16777216
  · rw [if_pos hz] at p1
    cases hgo : lc2Go (wipeE ρ vs) t c it1 vs1 t1 c1 f ds with
    | st => rw [hgo] at p1; exact p1.elim
    | ex x => rw [hgo] at p1; exact p1.elim
    | ok zs =>
      rw [hgo] at p1
      have p1 : postO K xa (WE W σ) B1 H1 Q (if zs.length ≤ 1000000 then .ok zs else .st) := p1
      by_cases hzl : zs.length ≤ 1000000
      · rw [if_pos hzl] at p1
        have nB : B1 Dl = none := fresh_back g1.le hD
        refine ⟨fun i m H => m = ds.length - i ∧ i ≤ ds.length ∧ ∃ B acc ys zr, Gw B1 H1 B H ∧ B Dl = none ∧ H Dl = some (.lst acc) ∧ RL K xa B acc ys ∧ lc2Go (wipeE ρ vs) t c it1 vs1 t1 c1 f (ds.drop i) = .ok zr ∧ ys ++ zr = zs, ⟨ds.length, rfl, Nat.zero_le _, B1, [], [], zs, ?_, nB, upd_same, .nil, hgo, rfl⟩, ?_⟩
        · exact ⟨Ex.new hD, Ex.refl _, (g1.le).trans (Ex.new hD), fun _ _ _ => rfl⟩
        · rintro i m H2 ⟨rfl, hi, B2, acc, ys, zr, g2, n2, hacc, rl, hgo2, hys⟩
          by_cases hlt : i < ds.length
          · refine .inr ⟨wk.go i B2 H2 g2.bup g2.le hlt, fun H' => ∃ B acc ys zr, Gw B1 H1 B H' ∧ B Dl = none ∧ H' Dl = some (.lst acc) ∧ RL K xa B acc ys ∧ lc2Go (wipeE ρ vs) t c it1 vs1 t1 c1 f (ds.drop (i + 1)) = .ok zr ∧ ys ++ zr = zs, fun H' h' => ⟨ds.length - (i + 1), by omega, rfl, hlt, h'⟩, fun x H3 hy => ?_⟩
            obtain ⟨B3, g3, r3⟩ := wk.yld i B2 H2 x H3 ds[i] g2.bup g2.le (List.getElem?_eq_getElem hlt) hy
            have n3 : B3 Dl = none := (g3.old _ _ hacc).trans n2
            rw [drop_at hlt] at hgo2
            unfold lc2Go at hgo2
            obtain ⟨ps, h1, hgo2⟩ := ofO_ok hgo2
            obtain ⟨b, h2, hgo2⟩ := pur_ok hgo2
            refine tg_meet g3.le ((re.mono ((g1.bup.trans g2.bup).trans g3.bup)).wipe vs) r3 h1 fun qs hqs re4 => ⟨?_, ?_⟩
            · rw [wipe_sets fun p hp => hx _ (hqs p hp), wipe_wipe fun i hi => hi]
            · refine ⟨B3, _, g3.le, re4, ?_⟩
              rw [h2]
              intro b' B4 H4 g4 rb
              have rb : b' = b := rb
              subst rb
              have a4 : H4 Dl = some (.lst acc) := g4.up _ _ (g3.up _ _ hacc)
              have n4 : B4 Dl = none := (g4.old _ _ (g3.up _ _ hacc)).trans n3
              have gg4 := (g2.trans g3).trans g4
              have rl4 := rl.mono (g3.bup.trans g4.bup)
              cases b' with
              | false => exact ⟨B4, acc, ys, zr, gg4, n4, a4, rl4, hgo2, hys⟩
              | true =>
                rw [if_pos rfl] at hgo2
                obtain ⟨es, h3, hgo2⟩ := pur_ok hgo2
                obtain ⟨y1, h4, hgo2⟩ := pur_ok hgo2
                obtain ⟨z1, h5, hgo2⟩ := bnd_ok hgo2
                have ez : y1 ++ z1 = zr := by cases hgo2; rfl
                by_cases hel : es.length ≤ 16777216
                · rw [if_pos hel] at h4
                  refine ⟨B4, _, g4.le, re4.mono g4.bup, ?_⟩
                  rw [h3]
                  intro J1 B5 H5 g5 wk1
                  have a5 : H5 Dl = some (.lst acc) := g5.up _ _ a4
                  have n5 : B5 Dl = none := (g5.old _ _ a4).trans n4
                  have re5 := re4.mono (g4.bup.trans g5.bup)
                  refine ⟨fun j k H => k = es.length - j ∧ j ≤ es.length ∧ ∃ B acc ys zr1, Gw B1 H1 B H ∧ Ex B5 B ∧ B Dl = none ∧ H Dl = some (.lst acc) ∧ RL K xa B acc ys ∧ lcGo (wipeE (setsE (wipeE ρ vs) ps) vs1) t1 c1 f (es.drop j) = .ok zr1 ∧ ys ++ (zr1 ++ z1) = zs, ⟨es.length, rfl, Nat.zero_le _, B5, acc, ys, y1, gg4.trans g5, Ex.refl _, n5, a5, rl4.mono g5.bup, h4, by rw [ez]; exact hys⟩, ?_⟩
                  rintro j k H6 ⟨rfl, hj, B6, acc6, ys6, zr6, g6, x6, n6, a6, rl6, hgo6, hys6⟩
                  by_cases hjl : j < es.length
                  · refine .inr ⟨wk1.go j B6 H6 x6 g6.le hjl, fun H' => ∃ B acc ys zr1, Gw B1 H1 B H' ∧ Ex B5 B ∧ B Dl = none ∧ H' Dl = some (.lst acc) ∧ RL K xa B acc ys ∧ lcGo (wipeE (setsE (wipeE ρ vs) ps) vs1) t1 c1 f (es.drop (j + 1)) = .ok zr1 ∧ ys ++ (zr1 ++ z1) = zs, fun H' h' => ⟨es.length - (j + 1), by omega, rfl, hjl, h'⟩, fun y H7 hy7 => ?_⟩
                    obtain ⟨B7, g7, r7⟩ := wk1.yld j B6 H6 y H7 es[j] x6 g6.le (List.getElem?_eq_getElem hjl) hy7
                    have n7 : B7 Dl = none := (g7.old _ _ a6).trans n6
                    rw [drop_at hjl] at hgo6
                    unfold lcGo at hgo6
                    obtain ⟨ps1, k1, hgo6⟩ := ofO_ok hgo6
                    obtain ⟨b1, k2, hgo6⟩ := pur_ok hgo6
                    refine tg_meet g7.le ((re5.mono (x6.trans g7.bup)).wipe vs1) r7 k1 fun qs1 hqs1 re7 => ⟨?_, ?_⟩
                    · rw [wipe_sets fun p hp => hx1 _ (hqs1 p hp), wipe_wipe fun i hi => hi]
                    · refine ⟨B7, _, g7.le, re7, ?_⟩
                      rw [k2]
                      intro b8 B8 H8 g8 rb8
                      have rb8 : b8 = b1 := rb8
                      subst rb8
                      have a8 : H8 Dl = some (.lst acc6) := g8.up _ _ (g7.up _ _ a6)
                      have n8 : B8 Dl = none := (g8.old _ _ (g7.up _ _ a6)).trans n7
                      have gg8 := (g6.trans g7).trans g8
                      cases b8 with
                      | false => exact ⟨B8, acc6, ys6, zr6, gg8, x6.trans (g7.bup.trans g8.bup), n8, a8, rl6.mono (g7.bup.trans g8.bup), hgo6, hys6⟩
                      | true =>
                        rw [if_pos rfl] at hgo6
                        obtain ⟨yv, k3, hgo6⟩ := pur_ok hgo6
                        obtain ⟨yr, k4, hgo6⟩ := bnd_ok hgo6
                        have ey : yv :: yr = zr6 := by cases hgo6; rfl
                        refine ⟨B8, _, g8.le, re7.mono g8.bup, ?_⟩
                        rw [k3]
                        intro v B9 H9 g9 r9
                        have a9 : H9 Dl = some (.lst acc6) := g9.up _ _ a8
                        have n9 : B9 Dl = none := (g9.old _ _ a8).trans n8
                        have gg := gg8.trans g9
                        have big : acc6.length < 1000000 := by
                          rw [rl6.length]
                          have := congrArg List.length hys6
                          rw [List.length_append, ← ey] at this
                          have e9 : ((yv :: yr) ++ z1).length = yr.length + 1 + z1.length := by rw [List.length_append]; rfl
                          omega
                        refine ⟨acc6, a9, by rw [szl]; omega, B9, acc6 ++ [v], ys6 ++ [yv], yr, ⟨Ex.mut gg.up hD, gg.bup, Ex.mut gg.le n9, gg.old⟩, x6.trans ((g7.bup.trans g8.bup).trans g9.bup), n9, upd_same, (rl6.mono ((g7.bup.trans g8.bup).trans g9.bup)).app (.cons r9 .nil), k4, ?_⟩
                        rw [List.append_assoc, ← hys6, ← ey]
                        rfl
                  · have ej : j = es.length := by omega
                    subst ej
                    refine .inl ⟨wk1.stop B6 H6 x6 g6.le, ?_⟩
                    rw [List.drop_length] at hgo6
                    cases hgo6
                    exact ⟨B6, acc6, ys6, z1, g6, n6, a6, rl6, h5, hys6⟩
                · rw [if_neg hel] at h4
                  cases h4
          · have ei : i = ds.length := by omega
            subst ei
            refine .inl ⟨wk.stop B2 H2 g2.bup g2.le, ?_⟩
            rw [List.drop_length] at hgo2
            cases hgo2
            rw [List.append_nil] at hys
            subst hys
            exact p1 Dl acc B2 H2 g2 n2 hD hacc rl
      · rw [if_neg hzl] at p1
        exact p1.elim
  · rw [if_neg hz] at p1
    exact p1.elim
end
section
variable {X : Cx} {xa : Xa} {W : WX} {pos : Pos} {elt tg iter tg1 iter1 : Expr} {ifs ifs1 : List Expr}
theorem p_lc2 {scope : Scope} {own : List (Str × Nat)} {it it1 : Fs} {t t1 : Tg} {c c1 : T} {f : F} (vs1 : List Nat) (hc : X.calm = true) (hN : X.N.Nodup) (hi : Pi X xa W tg iter it) (ok : BlkOk X.N X.env.scope scope own)
    (hg : ∀ (s : Shared) (H : Hp) (C : Addr) (cl : List (Str × Addr)) (fp : List Addr), Pg (X.blk s H scope (compEnvC scope cl C X.env) fp) tg t)
    (ht : ∀ (s : Shared) (H : Hp) (C : Addr) (cl : List (Str × Addr)) (fp : List Addr), Pts (X.blk s H scope (compEnvC scope cl C X.env) fp) xa WF ifs c)
    (hi1 : ∀ (s : Shared) (H : Hp) (C : Addr) (cl : List (Str × Addr)) (fp : List Addr), Pi (X.blk s H scope (compEnvC scope cl C X.env) fp) xa WF tg1 iter1 it1)
    (hg1 : ∀ (s : Shared) (H : Hp) (C : Addr) (cl : List (Str × Addr)) (fp : List Addr), Pg (X.blk s H scope (compEnvC scope cl C X.env) fp) tg1 t1)
    (ht1 : ∀ (s : Shared) (H : Hp) (C : Addr) (cl : List (Str × Addr)) (fp : List Addr), Pts (X.blk s H scope (compEnvC scope cl C X.env) fp) xa WF ifs1 c1)
    (he : ∀ (s : Shared) (H : Hp) (C : Addr) (cl : List (Str × Addr)) (fp : List Addr), Pe (X.blk s H scope (compEnvC scope cl C X.env) fp) xa WF elt f)
    (hv : ∀ i ∈ vs1, i ∈ own.map (·.2) := by decide) (hx : ∀ i ∈ t.ix, i ∈ own.map (·.2) := by decide) (hx1 : ∀ i ∈ t1.ix, i ∈ vs1 := by decide) (hs : ∀ x, foldedSetIterable iter X.env x = pure x := by intro _; rfl) (hs1 : ∀ env x, foldedSetIterable iter1 env x = pure x := by intro _ _; rfl) :
    Pe X xa W (.ListComp elt [⟨tg, iter, ifs, 0⟩, ⟨tg1, iter1, ifs1, 0⟩] scope pos) (ofL (lc2O it (own.map (·.2)) t c it1 vs1 t1 c1 f)) :=
  PE.imp (pe_lc2 (vs1 := vs1) (tt := tPT X.K xa WF c) (tt1 := tPT X.K xa WF c1) (te := tP X.K xa WF f) hc hN hi ok hv hg ht hi1 hg1 ht1 he hs hs1) fun σ H Q hq => t_lc2 hx hx1 (tO_of hq)
end
end Pu

namespace Pu
open PySem PySem.Spec PyProof.Rows L2 Evl
/-! ### tuples made by tuple(..): known by their object, so that methods may be asked of them -/
theorem flat_nums (ns : List Int) : (ns.map V.int).all flatV = true := by
  rw [List.all_map]
  exact List.all_eq_true.mpr fun _ _ => rfl
section
variable {X : Cx} {xa : Xa}
def rTupZ (K : PySem.W.Frag) : List V → Hp → VK → Prop := fun vs H Q => ∃ l xs, vs = [.ref l] ∧ SqL K H l xs ∧ ∀ q o, H q = none → o.dict = none → o.cls = Value.type "tuple" → Q (.ref q) (upd H q (.frz o (.tup xs)))
theorem cr_tupZ : CallR X (.type "tuple") (rTupZ X.K) := by
  intro pins s σ H vs us Q I r h
  obtain ⟨l, xs, rfl, hs, q⟩ := h
  rw [Vals.ref1 r]
  obtain ⟨items, rv, pl, small⟩ := I.list hs
  refine call_tuple_list pl.isList (fun hp kept => ?_) (by rw [List.size_toArray, ← rv.length]; exact small)
  have J : Inv X pins σ H { s with heap := hp } := I.kept (t' := s.toks) kept
  have J2 : Inv X pins σ (upd H hp.objs.size (.frz { cls := .type "tuple", data := .seq items.toArray } (.tup xs))) { s with heap := hp.push { cls := .type "tuple", data := .seq items.toArray } } :=
    J.laid (t' := s.toks) (fun b o e => Heap.get?_push_of_some _ e) (Nat.le_refl _) ⟨Heap.get?_push_size _ rfl, small, items, rv, IsTup.new _ _⟩
  exact ⟨.ref hp.objs.size, _, J2, rfl, q _ _ (J.hok.fresh (Nat.le_refl _)) rfl rfl⟩
def cTupZ : List D → Option D
  | [.lst ds] => some (.tpz ds)
  | _ => none
theorem c_tupZ : OpC X xa (.type "tuple") cTupZ := by
  intro pins s σ H vs us Q I r h
  obtain ⟨Hb, ds, z, le, rl, hz, q⟩ := h
  match ds, rl, hz with
  | [], _, hz => cases hz
  | a0 :: b0 :: r0, _, hz => cases a0 <;> cases hz
  | [d], rl, hz =>
    obtain ⟨v, rfl, r1⟩ := rl.one
    cases r1 with
    | lst h1 q1 =>
      cases hz
      exact cr_tupZ pins s σ H _ us Q I r ⟨_, _, rfl, SqL.of (le _ _ h1), fun p o hp hd hc => q _ _ _ (Gw.new le hp) (.tpz upd_same hd hc (q1.mono (Ex.new (fresh_back le hp))))⟩
    | _ => cases hz
end
section
variable {prog : Program} {w : World} {A : Around} {E : Value → Shared → Prop} {s : Shared} {l : Addr} {xs : Array (Int × Tok)}
theorem max_tupInts {Q : Value → Shared → Prop} (hh : A.handled = none) (hl : s.heap.IsTuple l (intItems xs)) (hne : 0 < xs.size)
    (h : ∀ v h' tk, (intItems xs)[argBest (fun i j => decide (numAt xs i > numAt xs j)) (xs.size - 1)]? = some v → (∀ b o, s.heap.get? b = some o → h'.get? b = some o) → Q v { s with heap := h', toks := tk }) :
    wpAny (model prog w) A (call (.builtin "max") [.ref l]) Q E s := by
  have below : l < s.heap.objs.size := by
    obtain ⟨ob, e, _⟩ := hl
    exact Heap.lt_size e
  refine call_max_walk (wpAny_pyIter_tuple hl ?_)
  refine ⟨_, [s.heap.objs.size, l], _, _, _, _, _, rfl, Walks.tuple (A := A.in1) hh _ l (Nat.ne_of_lt below) (intItems xs), ⟨⟨_, Heap.get?_push_size _ rfl, rfl, rfl⟩, hl.push _⟩, fun b hb => ?_, by simpa [intItems] using hne, CmpOf.ints_gt (numAt xs) (fun _ _ => intItems_at), fun v h' tk hP hk => ?_⟩
  · show b < (s.heap.push _).objs.size
    rw [Heap.size_push]
    rcases List.mem_cons.mp hb with e | e
    · rw [e]
      exact Nat.lt_succ_self _
    · rw [List.mem_singleton.mp e]
      exact Nat.lt_succ_of_lt below
  · refine h v h' tk (by simpa [intItems] using hP) fun b o e => hk b o (fun z => ?_) (Heap.get?_push_of_some _ e)
    have e1 := List.mem_singleton.mp z
    exact absurd (Heap.lt_size e) (by rw [e1]; exact Nat.lt_irrefl _)
theorem max_tupNums {its : List Value} {ns : List Int} {Q : Value → Shared → Prop} (hh : A.handled = none) (hl : s.heap.IsTuple l its.toArray) (hi : IntsAre its ns) (hne : 0 < ns.length)
    (h : ∀ h' tk M t', (∀ b o, s.heap.get? b = some o → h'.get? b = some o) → M ∈ ns → (∀ a, a ∈ ns → a ≤ M) → Q (.int M t') { s with heap := h', toks := tk }) : wpAny (model prog w) A (call (.builtin "max") [.ref l]) Q E s := by
  obtain ⟨xs, e⟩ := hi.allInts.items
  have hn : numsOf (intItems xs).toList = ns := (by rw [← e]; exact hi.numsOf : _)
  rw [nums_intItems] at hn
  subst hn
  rw [e] at hl
  have big : 0 < xs.size := by simpa using hne
  refine max_tupInts hh hl big fun v h' tk hv hk => ?_
  obtain ⟨t, rfl⟩ := intItems_at hv
  have best := argBest_gt (numAt xs) (xs.size - 1)
  refine h h' tk _ t hk ?_ fun a ha => ?_
  · rw [numAt_eq]
    exact PySem.getD_mem (by rw [List.length_map, Array.length_toList]; omega)
  · obtain ⟨j, hj, rfl⟩ := mem_getD ha
    rw [List.length_map, Array.length_toList] at hj
    rw [← numAt_eq]
    exact best.2 j (by omega)
end
section
variable {X : Cx} {xa : Xa}
/-- max of such a tuple of ints -/
def cMxT : List D → Option D
  | [.tpz ds] => (intsOf ds).bind fun ns => (lmax ns).map D.int
  | _ => none
theorem c_mxT (hc : X.calm = true) : OpC X xa (.builtin "max") cMxT := by
  intro pins s σ H vs us Q I r h
  obtain ⟨Hb, ds, z, le, rl, hz, q⟩ := h
  match ds, rl, hz with
  | [], _, hz => cases hz
  | a0 :: b0 :: r0, _, hz => cases a0 <;> cases hz
  | [d], rl, hz =>
    obtain ⟨v, rfl, r1⟩ := rl.one
    cases r1 with
    | tpz h1 _ _ q1 =>
      obtain ⟨ns, e1, e2⟩ := Option.bind_eq_some_iff.mp (show (intsOf _).bind _ = some z from hz)
      obtain ⟨m, e4, e5⟩ := Option.map_eq_some_iff.mp e2
      subst e5
      have e3 := q1.ints e1
      subst e3
      obtain ⟨m1, m2⟩ := lmax_spec e4
      obtain ⟨items, rv, pl, _⟩ := I.tuple (xs := ns.map V.int) (.inl (.inr ⟨_, le _ _ h1⟩))
      rw [Vals.ref1 r]
      refine max_tupNums (I.ok.hd hc) pl (ints_of_vals rv) (List.length_pos_of_mem m1) fun h' tk m' t' hk a b => ?_
      have e : m' = m := Int.le_antisymm (m2 m' a) (b m m1)
      subst e
      exact ⟨.int _, H, I.kept hk, ⟨_, rfl⟩, q _ Hb H (Gw.refl le) (.int _)⟩
    | _ => cases hz
def rTixZ : V → List V → Hp → VK → Prop := fun x xs H Q => ∃ (p : Addr) (o : Obj) (ns : List Int) (z : Int) (j : Nat), x = .ref p ∧ xs = [.int z] ∧ H p = some (.frz o (.tup (ns.map V.int))) ∧ ns[j]? = some z ∧ (∀ m, m < j → ns[m]? ≠ some z) ∧ Q (.int (j : Nat)) H
theorem mt_tixZ : MtR X "tuple.index" rTixZ := by
  intro pins s σ H x xs v us Q I rx rs h
  obtain ⟨p, ob, nums, z, j, rfl, rfl, hq, at_, before, q⟩ := h
  cases rx
  obtain ⟨u, rfl, t, rfl⟩ := vals1 rs
  obtain ⟨items, rel, pl, small⟩ := I.tuple (xs := nums.map V.int) (.inl (.inr ⟨_, hq⟩))
  obtain ⟨⟨cl, dc, da, so⟩, get, e1, k, e2⟩ := pl
  simp only at e1 e2
  subst e1
  subst e2
  have len : items.toArray.size = nums.length := (by rw [List.size_toArray, ← rel.length, List.length_map] : _)
  have hj : j < items.toArray.size := by
    rw [len]
    exact (List.getElem?_eq_some_iff.mp at_).1
  have look : ∀ (m : Nat) (hm : m < items.toArray.size), ∃ y t', nums[m]? = some y ∧ items.toArray[m] = Value.int y t' := fun m hm => by
    have hm2 : m < nums.length := by
      rw [← len]
      exact hm
    obtain ⟨w1, g1, t1, g2⟩ := rel.get (i := m) (x := .int nums[m]) (by simp [hm2])
    refine ⟨nums[m], t1, List.getElem?_eq_getElem hm2, ?_⟩
    have g3 := (List.getElem?_eq_some_iff.mp g1).2
    rw [← g2, ← g3]
    simp
  refine call_meets PySem.F.slot_tuple_index ⟨_, get, rfl⟩ PySem.F.entry_tuple_index (PySem.F.args_tuple_index_2 _ _) (_root_.TI.tuple_indexAt p items.toArray k dc so (.int z t) (eqU (.int z)) j hj ?_ ?_)
    ⟨get, fun y hy => mem_eqAt (x := .int z) ⟨t, rfl⟩ rfl rel (flat_nums nums) y (by simpa using hy), ⟨.int (j : Nat), H, I.tok _, ⟨_, rfl⟩, q⟩⟩
  · obtain ⟨y, t', g1, g2⟩ := look j hj
    rw [at_] at g1
    cases g1
    rw [g2]
    exact beq_self_eq_true z
  · intro m hm hmj
    obtain ⟨y, t', g1, g2⟩ := look m hm
    rw [g2]
    refine beq_eq_false_iff_ne.mpr fun e => before m hmj ?_
    rw [g1, e]
end
def tyTup : D → Bool
  | .tpz _ => true
  | _ => false
def dTIndex : D → D → Option D
  | .tpz ds, .int k => (intsOf ds).bind fun ns => (idx (.int k) (ns.map D.int)).map fun j => .int (j : Nat)
  | _, _ => none
theorem idx_int {k : Int} : ∀ {ns : List Int} {j : Nat}, idx (.int k) (ns.map D.int) = some j → ns[j]? = some k ∧ ∀ m, m < j → ns[m]? ≠ some k
  | [], _, h => nomatch h
  | n :: ns, j, h => by
    rw [List.map_cons, idx, eqd_int] at h
    by_cases c : n = k
    · rw [decide_eq_true c, if_pos rfl] at h
      cases h
      subst c
      exact ⟨rfl, fun m hm => absurd hm (Nat.not_lt_zero _)⟩
    · rw [decide_eq_false c, if_neg Bool.false_ne_true] at h
      obtain ⟨i, e1, e2⟩ := Option.map_eq_some_iff.mp h
      subst e2
      obtain ⟨h1, h2⟩ := idx_int e1
      refine ⟨h1, fun m hm => ?_⟩
      cases m with
      | zero => exact fun e => c (Option.some.inj e)
      | succ m => exact h2 m (by omega)
section
variable {X : Cx} {xa : Xa} {W : WX} {pos apos : Pos} {o e : Expr} {f g : F}
theorem p_tindex (ho : Pe X xa W o f) (he : Pe X xa W e g) (hbase : attributeBase o "index" X.env (eval o X.env) = eval o X.env := by rfl)
    (hfew : ((backTo pos (starEach [e] X.env)).all (fun x => !x.1) && (backToKw pos (keywordEach [] X.env)).all (fun x => x.1.isSome) && decide (([e] : List Expr).length + ([] : List Keyword).length + (if ([] : List Keyword).isEmpty then 0 else 1) < 30)) = true := by rfl)
    (hline : (apos.endLine == pos.line) = true := by rfl) (hs : starEach [e] X.env = [(false, eval e X.env)] := by rfl) : Pe X xa W (.Call (.Attribute o "index" apos) [e] [] pos) (mt1 tyTup dTIndex f g) := by
  refine ⟨fun pins s σ H Q I hq => ?_⟩
  obtain ⟨Hb, ρ, le, re, p⟩ := hq
  have ok : tP X.K xa W f σ H (fun x H1 => ∃ (a : Addr) (ob : Obj) (ws : List V) (ds : List D) (B1 : Hp), x = .ref a ∧ B1 a = some (.frz ob (.tup ws)) ∧ ob.dict = none ∧ ob.cls = .type "tuple" ∧ RL X.K xa B1 ws ds ∧ Ex B1 H1 ∧ RE X.K xa B1 σ ρ ∧ post X.K (R X.K xa) (WE W σ) B1 H1 Q ((g ρ).bind fun y => ofO (dTIndex (.tpz ds) y))) := by
    refine ⟨Hb, ρ, le, re, post_bind le p fun d v B1 H1 e1 g1 r1 p1 => ?_⟩
    cases r1 with
    | @tpz a ob ws ds h1 h2 h3 q1 => exact ⟨a, ob, ws, ds, B1, rfl, h1, h2, h3, q1, g1.le, re.mono g1.bup, p1⟩
    | _ => exact p1.elim
  refine wpAny_Call_method_late hbase hfew hline rfl (thn (ho.run pins s σ H _ I ok) fun v s1 ⟨x, H1, I1, r1, a, ob, ws, ds, B1, ex, h1, h2, h3, q1, le1, re1, p1⟩ => ?_)
  subst ex
  obtain rfl : v = Value.ref a := r1
  have got : s1.heap.get? a = some ob := (show ObjOk X.prog X.w H1 s1.heap a (.frz ob (.tup ws)) from I1.hok a _ (le1 _ _ h1)).1
  refine ⟨"tuple", "tuple.index", PySem.F.plainAttrs_tuple, PySem.F.slot_tuple_index, PySem.F.type_tuple_index, ⟨ob, got, h3⟩, fun b eb => by cases eb; exact ⟨ob, got, h2⟩, ?_⟩
  have arg : tP X.K xa W g σ H1 (fun y H2 => rTixZ (.ref a) [y] H2 Q) := by
    refine ⟨B1, ρ, le1, re1, post_bind le1 p1 fun d2 v2 B2 H2 e2 g2 r2 p2 => ?_⟩
    cases r2 with
    | int k =>
      have p2 : post X.K (R X.K xa) (WE W σ) B2 H2 Q (ofO ((intsOf ds).bind fun ns => (idx (.int k) (ns.map D.int)).map fun j => .int (j : Nat))) := p2
      cases hn : intsOf ds with
      | none => rw [hn] at p2; exact p2.elim
      | some ns =>
        rw [hn] at p2
        have p2 : post X.K (R X.K xa) (WE W σ) B2 H2 Q (ofO ((idx (.int k) (ns.map D.int)).map fun j => .int (j : Nat))) := p2
        have e3 := q1.ints hn
        subst e3
        cases hj : idx (.int k) (ns.map D.int) with
        | none => rw [hj] at p2; exact p2.elim
        | some j =>
          rw [hj] at p2
          obtain ⟨i1, i2⟩ := idx_int hj
          exact ⟨a, ob, ns, k, j, rfl, rfl, g2.up _ _ (le1 _ _ h1), i1, i2, post_here g2.le p2 (.int _)⟩
    | _ => exact p2.elim
  have hA := (pa_cons he pa_nil hs).run pos pins s1 σ H1 (fun vs H2 => rTixZ (.ref a) vs H2 Q) I1 arg
  rw [hs] at hA ⊢
  refine Calls.callWith_builtin rfl (Calls.evalArgs_plain ?_)
  exact thn hA fun us s2 ⟨vs, H2, I2, r2, q2⟩ => mt_tixZ pins s2 σ H2 (.ref a) vs (.ref a) us Q I2 rfl r2 q2
end
end Pu

namespace Pu
open PySem PySem.Spec PyProof.Rows L2 Evl PySem.SeqAt
/-! ### t = f(a, b), each argument looked at by itself -/
def atC (t : Tg) (m : List D → Res D) (z1 z2 : Zm) : SF := fun ρ => zRun z1 ρ fun s1 => zRun z2 ρ fun s2 => match s1, s2 with
  | .sh d1, .sh d2 => shB (m [d1, d2]) ρ fun d => match bnd t d with
    | some ps => .nx (setsS ρ ps)
    | none => .st
  | _, _ => .st
section
variable {X : Cx} {W : WX} {a b tg : Expr} {p pos spos : Pos} {z1 z2 : Zm}
theorem s_atC {x : Str} {k j n : Nat} {m : List D → Res D} {t : Tg} (F : Fn X.prog X.w X.K X.mg X.base k x n m) (hr : Room j X.A) (tk : L2.Takes X W) (h1 : Pz X none W a z1) (h2 : Pz X none W b z2) (hg : Pg X tg t) (hk : k ≤ j := by decide) (hgl : Gl X x := by rfl) (hdb : (x == ("__debug__" : Str)) = false := by decide)
    (he : starEach [a, b] X.env = (false, eval a X.env) :: starEach [b] X.env := by rfl) (he2 : starEach [b] X.env = (false, eval b X.env) :: starEach [] X.env := by rfl) (hpl : (backTo pos (starEach [b] X.env)).any (·.1) = false := by rfl)
    (hs : swapsWithSole [tg] (.Call (.Name x p) [a, b] [] pos) spos.line X.env = pure false := by rfl) (hw : swappedStores [tg] (.Call (.Name x p) [a, b] [] pos) X.env = pure none := by rfl) (hh : (assignEach [tg] X.env).map (·.2) = [assign tg X.env] := by rfl) :
    Ps X none W (.Assign [tg] (.Call (.Name x p) [a, b] [] pos) spos) (atC t m z1 z2) := by
  obtain ⟨f, fd, ps, F1, hm, hkp, hb⟩ := F.ex
  refine PS.imp (ps_asg (pe_callS F1 (hr.mono hk) hgl hm hkp hb (fun σ => passAt tk σ) (pa_cons h1 (pa_cons h2 pa_nil he2) he) hdb he hpl) hg hs hw hh) fun Dn σ H ⟨B0, H0, B, ρ, r, pp⟩ => ?_
  refine meetZ (τ := []) (pd := []) (by rw [List.append_nil, List.append_nil]; exact r) r.len pp fun s1 v1 B1 H1 r1 p1 => ?_
  refine meetZ r1 r.len p1 fun s2 v2 B2 H2 r2 p2 => ?_
  cases s1 with
  | no => exact p2.elim
  | own ds => exact p2.elim
  | sh d1 =>
    cases s2 with
    | no => exact p2.elim
    | own ds => exact p2.elim
    | sh d2 =>
      have p2 : pS X.K none W B0 H0 Dn (shB (m [d1, d2]) ρ fun d => match bnd t d with
        | some ps => .nx (setsS ρ ps)
        | none => .st) := p2
      have hl := r.len
      obtain ⟨w1, e1, q1⟩ := r2.sh ρ.length d1 (by rw [List.getElem?_append_right (Nat.le_refl _), Nat.sub_self]; rfl)
      obtain ⟨w2, e2, q2⟩ := r2.sh (ρ.length + 1) d2 (by rw [List.getElem?_append_right (by omega), Nat.add_sub_cancel_left]; rfl)
      rw [hl, List.getElem?_append_right (Nat.le_refl _), Nat.sub_self] at e1
      rw [hl, List.getElem?_append_right (by omega), Nat.add_sub_cancel_left] at e2
      cases e1
      cases e2
      have rp : RS X.K none B0 H0 B2 H2 σ ρ := r2.pre hl
      by_cases hn : [d1, d2].length = n
      · refine ⟨by rw [← hn]; rfl, B2, [d1, d2], r2.gw.le, .cons q1 (.cons q2 .nil), ?_⟩
        cases z : m [d1, d2] with
        | ok d =>
          rw [z] at p2
          intro v B3 H3 g3 rel
          have p2 : pS X.K none W B0 H0 Dn (match bnd t d with
            | some ps => .nx (setsS ρ ps)
            | none => .st) := p2
          cases y : bnd t d with
          | none => rw [y] at p2; exact p2.elim
          | some qs =>
            rw [y] at p2
            exact tg_meetS (rp.grow g3) rel y fun σ' r5 => p2 σ' B3 H3 r5
        | ex xx =>
          rw [z] at p2
          exact fun c dx B3 H3 g3 xr => p2 c dx σ B3 H3 (rp.grow g3) xr
        | st => rw [z] at p2; exact p2.elim
      · rw [F.st _ hn] at p2
        exact p2.elim
end
/-! ### min of a list of pairs of ints -/
def ltII (p q : P2) : Bool := decide (p.1 < q.1 ∨ (p.1 = q.1 ∧ p.2 < q.2))
def minII (x : P2) (xs : List P2) : P2 := xs.foldl (fun a y => if ltII y a = true then y else a) x
def cMinII : List D → Option D
  | [.lst ds] => (p2sOf ds).bind fun l => match l with
    | [] => none
    | x :: xs => some (pD (minII x xs))
  | _ => none
theorem lt_ii (p q : P2) : PySem.W.dataLt (py (pD p)) (py (pD q)) = ltII p q := by
  show PySem.W.dataLt (.tuple [.int p.1, .int p.2]) (.tuple [.int q.1, .int q.2]) = _
  rw [PySem.W.dataLt_ii]
  rfl
theorem minD_ii : ∀ (xs : List P2) (x : P2), PySem.W.minD (py (pD x)) (xs.map fun p => py (pD p)) = py (pD (minII x xs))
  | [], x => rfl
  | y :: xs, x => by
    have ih := minD_ii xs (if ltII y x = true then y else x)
    unfold PySem.W.minD minII at ih ⊢
    rw [List.map_cons, List.foldl_cons, List.foldl_cons, lt_ii]
    rw [← ih]
    congr 1
    split <;> rfl
theorem py_injI {p q : P2} (h : py (pD p) = py (pD q)) : p = q := by
  have h : PyData.tuple [.int p.1, .int p.2] = .tuple [.int q.1, .int q.2] := h
  injection h with h
  injection h with h1 h2
  injection h1 with h1
  injection h2 with h2 _
  injection h2 with h2
  exact Prod.ext h1 h2
theorem minII_mem : ∀ (l : List P2) (y : P2), minII y l ∈ y :: l
  | [], y => List.mem_cons_self
  | b :: l, y => by
    have h9 := minII_mem l (if ltII b y = true then b else y)
    show minII (if ltII b y = true then b else y) l ∈ _
    rcases List.mem_cons.mp h9 with e | e
    · rw [e]
      split
      · exact List.mem_cons_of_mem _ List.mem_cons_self
      · exact List.mem_cons_self
    · exact List.mem_cons_of_mem _ (List.mem_cons_of_mem _ e)
section
variable {X : Cx} {xa : Xa}
theorem c_minII (hc : X.calm = true) (hu : X.A.units + 64 < cLine) : OpC X xa (.builtin "min") cMinII := by
  intro pins s σ H vs us Q I r h
  obtain ⟨Hb, ds, z, le, rl, hz, q⟩ := h
  match ds, rl, hz with
  | [], _, hz => cases hz
  | a0 :: b0 :: r0, _, hz => cases a0 <;> cases hz
  | [d], rl, hz =>
    obtain ⟨v, rfl, r1⟩ := rl.one
    cases r1 with
    | @lst a ws es h1 q1 =>
      obtain ⟨l, e1, e2⟩ := Option.bind_eq_some_iff.mp (show (p2sOf es).bind _ = some z from hz)
      have ee := p2sOf_eq e1
      subst ee
      cases l with
      | nil => cases e2
      | cons x xs =>
        cases e2
        have dl : depL ((x :: xs).map pD) ≤ 1 := depL_map fun p _ => by unfold pD; simp
        obtain ⟨da, dc, dd⟩ := RL.dp (q1.mono le) (by omega)
        obtain ⟨its, rv, hl, _⟩ := I.list (SqL.of (K := X.K) (le _ _ h1))
        obtain ⟨as, hr⟩ := Dp.readsAll I _ _ its da rv
        have ep : pyL ((x :: xs).map pD) = py (pD x) :: xs.map fun p => py (pD p) := by
          rw [pyL_map, List.map_map]
          rfl
        rw [Vals.ref1 r]
        rw [ep] at hr dd dc
        have al : PySem.W.AlikeAll (py (pD x) :: xs.map fun p => py (pD p)) := by
          have form : ∀ y ∈ (py (pD x) :: xs.map fun p => py (pD p)), ∃ p : P2, y = py (pD p) := fun y hy => by
            rcases List.mem_cons.mp hy with e | e
            · exact ⟨x, e⟩
            · obtain ⟨p, _, e⟩ := List.mem_map.mp e
              exact ⟨p, e.symm⟩
          refine ⟨fun y hy w hw => ?_, fun y hy => ?_⟩
          · obtain ⟨p, rfl⟩ := form y hy
            obtain ⟨p', rfl⟩ := form w hw
            show PySem.W.alike (.tuple [.int p.1, .int p.2]) (.tuple [.int p'.1, .int p'.2]) = true
            simp [PySem.W.alike, PySem.W.alikeAll]
          · obtain ⟨p, rfl⟩ := form y hy
            intro e
            cases e
        refine PySem.W.min_list_data (I.ok.hd hc) hl.isList (show ReadsAll s.heap its.toArray.toList _ as from hr) al (by omega) fun i u h' tk bs hv hrd hk => ?_
        have hv : its[i]? = some u := by simpa using hv
        have hi : i < its.length := (List.getElem?_eq_some_iff.mp hv).1
        have hw : ws.length = its.length := rv.length
        have hx : ws.length = (x :: xs).length := by rw [q1.length, List.length_map]
        have hil : i < (x :: xs).length := by omega
        obtain ⟨wv, hwv, rw_⟩ := q1.get (i := i) (d := pD (x :: xs)[i]) (by rw [List.getElem?_map, List.getElem?_eq_getElem hil]; rfl)
        obtain ⟨u', hu', ru⟩ := rv.get hwv
        rw [hv] at hu'
        cases hu'
        obtain ⟨bs', r', hlt, _, _⟩ := PySem.W.readsAll_at hr i u hv
        have eg : (py (pD x) :: xs.map fun p => py (pD p)).getD i .none = py (pD (x :: xs)[i]) := by
          have e9 : (py (pD x) :: xs.map fun p => py (pD p)) = (x :: xs).map fun p => py (pD p) := rfl
          rw [e9, List.getD_eq_getElem?_getD, List.getElem?_map, List.getElem?_eq_getElem hil]
          rfl
        rw [eg] at r'
        rw [minD_ii] at hrd
        have lay : ∀ p : P2, (py (pD p)).canLay0 = true := fun p => rfl
        have k1 := SeqAt.readOf_eq (lay (x :: xs)[i]) (PySem.W.reads_keeps hk r')
        have k2 := SeqAt.readOf_eq (lay (minII x xs)) hrd
        have ek : (x :: xs)[i] = minII x xs := py_injI (k1.symm.trans k2)
        rw [ek] at rw_
        exact ⟨wv, H, I.kept hk, ru, q wv Hb H (Gw.refl le) rw_⟩
    | _ => cases hz
end
end Pu

namespace Pu
open PySem PySem.Spec PyProof.Rows L2 Evl PySem.SeqAt
/-! ### min of a list of triples of ints -/
abbrev P3 := Int × Int × Int
def tD3 (p : P3) : D := .tup [.int p.1, .int p.2.1, .int p.2.2]
def p3Of : D → Option P3
  | .tup [.int a, .int b, .int c] => some (a, b, c)
  | _ => none
def p3sOf : List D → Option (List P3)
  | [] => some []
  | d :: ds => (p3Of d).bind fun p => (p3sOf ds).map (p :: ·)
theorem p3Of_eq {d : D} {p : P3} (h : p3Of d = some p) : d = tD3 p := by
  unfold p3Of at h
  split at h
  · cases h; rfl
  · cases h
theorem p3sOf_map : ∀ l : List P3, p3sOf (l.map tD3) = some l
  | [] => rfl
  | p :: l => by
    show (p3Of (tD3 p)).bind _ = _
    rw [p3sOf_map l]
    rfl
theorem p3sOf_eq : ∀ {ds : List D} {l : List P3}, p3sOf ds = some l → ds = l.map tD3
  | [], l, h => by cases h; rfl
  | d :: ds, l, h => by
    obtain ⟨p, e1, e2⟩ := Option.bind_eq_some_iff.mp (show (p3Of d).bind (fun p => (p3sOf ds).map (p :: ·)) = some l from h)
    obtain ⟨l', e3, e4⟩ := Option.map_eq_some_iff.mp e2
    rw [← e4, p3Of_eq e1, p3sOf_eq e3] <;> rfl
def ltT3 (p q : P3) : Bool := decide (p.1 < q.1 ∨ (p.1 = q.1 ∧ (p.2.1 < q.2.1 ∨ (p.2.1 = q.2.1 ∧ p.2.2 < q.2.2))))
def minT3 (x : P3) (xs : List P3) : P3 := xs.foldl (fun a y => if ltT3 y a = true then y else a) x
def cMinT3 : List D → Option D
  | [.lst ds] => (p3sOf ds).bind fun l => match l with
    | [] => none
    | x :: xs => some (tD3 (minT3 x xs))
  | _ => none
theorem lt_t3 (p q : P3) : PySem.W.dataLt (py (tD3 p)) (py (tD3 q)) = ltT3 p q := by
  show PySem.W.dataLt (.tuple [.int p.1, .int p.2.1, .int p.2.2]) (.tuple [.int q.1, .int q.2.1, .int q.2.2]) = _
  rw [PySem.W.dataLt_tuple, PySem.W.dataLt_cons (by simp [PySem.W.alike]), PySem.W.dataLt_cons (by simp [PySem.W.alike]), PySem.W.dataLt_cons (by simp [PySem.W.alike]), PySem.W.dataLt_int, PySem.W.dataLt_int, PySem.W.dataLt_int, lex_irrefl]
  unfold ltT3
  simp only [PyData.eqv, beq_iff_eq]
  by_cases h1 : p.1 = q.1 <;> by_cases h2 : p.2.1 = q.2.1 <;> by_cases h3 : p.2.2 = q.2.2 <;> simp [h1, h2, h3]
theorem minD_t3 : ∀ (xs : List P3) (x : P3), PySem.W.minD (py (tD3 x)) (xs.map fun p => py (tD3 p)) = py (tD3 (minT3 x xs))
  | [], x => rfl
  | y :: xs, x => by
    have ih := minD_t3 xs (if ltT3 y x = true then y else x)
    unfold PySem.W.minD minT3 at ih ⊢
    rw [List.map_cons, List.foldl_cons, List.foldl_cons, lt_t3]
    rw [← ih]
    congr 1
    split <;> rfl
theorem py_injT3 {p q : P3} (h : py (tD3 p) = py (tD3 q)) : p = q := by
  have h : PyData.tuple [.int p.1, .int p.2.1, .int p.2.2] = .tuple [.int q.1, .int q.2.1, .int q.2.2] := h
  injection h with h
  injection h with h1 h2
  injection h1 with h1
  injection h2 with h2 h3
  injection h2 with h2
  injection h3 with h3 _
  injection h3 with h3
  exact Prod.ext h1 (Prod.ext h2 h3)
theorem minT3_mem : ∀ (l : List P3) (y : P3), minT3 y l ∈ y :: l
  | [], y => List.mem_cons_self
  | b :: l, y => by
    have h9 := minT3_mem l (if ltT3 b y = true then b else y)
    show minT3 (if ltT3 b y = true then b else y) l ∈ _
    rcases List.mem_cons.mp h9 with e | e
    · rw [e]
      split
      · exact List.mem_cons_of_mem _ List.mem_cons_self
      · exact List.mem_cons_self
    · exact List.mem_cons_of_mem _ (List.mem_cons_of_mem _ e)
section
variable {X : Cx} {xa : Xa}
theorem c_minT3 (hc : X.calm = true) (hu : X.A.units + 64 < cLine) : OpC X xa (.builtin "min") cMinT3 := by
  intro pins s σ H vs us Q I r h
  obtain ⟨Hb, ds, z, le, rl, hz, q⟩ := h
  match ds, rl, hz with
  | [], _, hz => cases hz
  | a0 :: b0 :: r0, _, hz => cases a0 <;> cases hz
  | [d], rl, hz =>
    obtain ⟨v, rfl, r1⟩ := rl.one
    cases r1 with
    | @lst a ws es h1 q1 =>
      obtain ⟨l, e1, e2⟩ := Option.bind_eq_some_iff.mp (show (p3sOf es).bind _ = some z from hz)
      have ee := p3sOf_eq e1
      subst ee
      cases l with
      | nil => cases e2
      | cons x xs =>
        cases e2
        have dl : depL ((x :: xs).map tD3) ≤ 1 := depL_map fun p _ => by unfold tD3; simp
        obtain ⟨da, dc, dd⟩ := RL.dp (q1.mono le) (by omega)
        obtain ⟨its, rv, hl, _⟩ := I.list (SqL.of (K := X.K) (le _ _ h1))
        obtain ⟨as, hr⟩ := Dp.readsAll I _ _ its da rv
        have ep : pyL ((x :: xs).map tD3) = py (tD3 x) :: xs.map fun p => py (tD3 p) := by
          rw [pyL_map, List.map_map]
          rfl
        rw [Vals.ref1 r]
        rw [ep] at hr dd dc
        have al : PySem.W.AlikeAll (py (tD3 x) :: xs.map fun p => py (tD3 p)) := by
          have form : ∀ y ∈ (py (tD3 x) :: xs.map fun p => py (tD3 p)), ∃ p : P3, y = py (tD3 p) := fun y hy => by
            rcases List.mem_cons.mp hy with e | e
            · exact ⟨x, e⟩
            · obtain ⟨p, _, e⟩ := List.mem_map.mp e
              exact ⟨p, e.symm⟩
          refine ⟨fun y hy w hw => ?_, fun y hy => ?_⟩
          · obtain ⟨p, rfl⟩ := form y hy
            obtain ⟨p', rfl⟩ := form w hw
            show PySem.W.alike (.tuple [.int p.1, .int p.2.1, .int p.2.2]) (.tuple [.int p'.1, .int p'.2.1, .int p'.2.2]) = true
            simp [PySem.W.alike, PySem.W.alikeAll]
          · obtain ⟨p, rfl⟩ := form y hy
            intro e
            cases e
        refine PySem.W.min_list_data (I.ok.hd hc) hl.isList (show ReadsAll s.heap its.toArray.toList _ as from hr) al (by omega) fun i u h' tk bs hv hrd hk => ?_
        have hv : its[i]? = some u := by simpa using hv
        have hi : i < its.length := (List.getElem?_eq_some_iff.mp hv).1
        have hw : ws.length = its.length := rv.length
        have hx : ws.length = (x :: xs).length := by rw [q1.length, List.length_map]
        have hil : i < (x :: xs).length := by omega
        obtain ⟨wv, hwv, rw_⟩ := q1.get (i := i) (d := tD3 (x :: xs)[i]) (by rw [List.getElem?_map, List.getElem?_eq_getElem hil]; rfl)
        obtain ⟨u', hu', ru⟩ := rv.get hwv
        rw [hv] at hu'
        cases hu'
        obtain ⟨bs', r', hlt, _, _⟩ := PySem.W.readsAll_at hr i u hv
        have eg : (py (tD3 x) :: xs.map fun p => py (tD3 p)).getD i .none = py (tD3 (x :: xs)[i]) := by
          have e9 : (py (tD3 x) :: xs.map fun p => py (tD3 p)) = (x :: xs).map fun p => py (tD3 p) := rfl
          rw [e9, List.getD_eq_getElem?_getD, List.getElem?_map, List.getElem?_eq_getElem hil]
          rfl
        rw [eg] at r'
        rw [minD_t3] at hrd
        have lay : ∀ p : P3, (py (tD3 p)).canLay0 = true := fun p => rfl
        have k1 := SeqAt.readOf_eq (lay (x :: xs)[i]) (PySem.W.reads_keeps hk r')
        have k2 := SeqAt.readOf_eq (lay (minT3 x xs)) hrd
        have ek : (x :: xs)[i] = minT3 x xs := py_injT3 (k1.symm.trans k2)
        rw [ek] at rw_
        exact ⟨wv, H, I.kept hk, ru, q wv Hb H (Gw.refl le) rw_⟩
    | _ => cases hz
end
end Pu

namespace Pu
open PySem L2
/-! ### a walk with a stack that may end early -/
section
variable {S N : Type} (stop : S → N → Option D) (nx : S → N → S) (kids : S → N → List N)
def ffE (g : S → N → S ⊕ D) : List N → S → S ⊕ D
  | [], s => .inl s
  | n :: r, s => match g s n with
    | .inl s' => ffE g r s'
    | .inr d => .inr d
def goE : Nat → S → N → S ⊕ D
  | 0, s, n => match stop s n with
    | some d => .inr d
    | none => .inl (nx s n)
  | k + 1, s, n => match stop s n with
    | some d => .inr d
    | none => ffE (goE k) (kids s n) (nx s n)
end
section
variable {S N J : Type} {E : S → List N → J → SEnv} {c : T} {f : SF} {stop : S → N → Option D} {nx : S → N → S} {kids : S → N → List N} {dp : N → Nat} {b : Nat} {P : N → Prop} {w : S → Nat}
structure DfsE (E : S → List N → J → SEnv) (c : T) (f : SF) (stop : S → N → Option D) (nx : S → N → S) (kids : S → N → List N) (dp : N → Nat) (b : Nat) (P : N → Prop) (w : S → Nat) : Prop where
  more : ∀ s st n x, c (pkv (E s (st ++ [n]) x)) = .ok true
  body : ∀ s st n x, P n → stop s n = none → w s ≤ 100000 → st.length ≤ 5000 → ∃ x', f (E s (st ++ [n]) x) = .nx (E (nx s n) (st ++ (kids s n).reverse) x')
  halt : ∀ s st n x d, P n → stop s n = some d → w s ≤ 100000 → st.length ≤ 5000 → f (E s (st ++ [n]) x) = .rt d
  wle : ∀ s n, w (nx s n) ≤ w s + 1
  few : ∀ s n, (kids s n).length ≤ b
  down : ∀ s n m, P n → stop s n = none → m ∈ kids s n → P m ∧ dp m + 1 ≤ dp n
def EndE (E : S → List N → J → SEnv) (c : T) (f : SF) (w : S → Nat) (st : List N) (s : S) (F z : Nat) (o : Out) : S ⊕ D → Prop
  | .inl s' => ∃ x' F', F ≤ F' + z ∧ w s' + F' ≤ w s + F ∧ o = whGo c f F' (E s' st x')
  | .inr d => o = .rt d
theorem wh_rt {n : Nat} {ρ : SEnv} {d : D} (h1 : c (pkv ρ) = .ok true) (h2 : f ρ = .rt d) : whGo c f (n + 1) ρ = .rt d := by
  rw [whGo, h1]
  show (if true = true then (match f ρ with
      | .nx ρ' => whGo c f n ρ'
      | .ct ρ' => whGo c f n ρ'
      | .bk ρ' => .nx ρ'
      | o => o) else .nx ρ) = _
  rw [if_pos rfl, h2]
theorem DfsE.list {k : Nat} (one : ∀ (s : S) (n : N) (st : List N) (x : J) (F : Nat), P n → dp n ≤ k → w s + F ≤ 100000 → st.length + b * (k + 1) ≤ 5000 → sz b k ≤ F →
      EndE E c f w st s F (sz b k) (whGo c f F (E s (st ++ [n]) x)) (goE stop nx kids k s n)) :
    ∀ (ns : List N) (s : S) (st : List N) (x : J) (F : Nat), (∀ n ∈ ns, P n ∧ dp n ≤ k) → w s + F ≤ 100000 → st.length + ns.length + b * (k + 1) ≤ 5000 → ns.length * sz b k ≤ F →
      EndE E c f w st s F (ns.length * sz b k) (whGo c f F (E s (st ++ ns.reverse) x)) (ffE (goE stop nx kids k) ns s)
  | [], s, st, x, F, _, _, _, _ => ⟨x, F, by omega, Nat.le_refl _, by rw [List.reverse_nil, List.append_nil]⟩
  | n :: r, s, st, x, F, hp, hw, hl, hf => by
    have hl : st.length + (r.length + 1) + b * (k + 1) ≤ 5000 := hl
    have hf : (r.length + 1) * sz b k ≤ F := hf
    rw [Nat.add_mul, Nat.one_mul] at hf
    have h := one s n (st ++ r.reverse) x F (hp n List.mem_cons_self).1 (hp n List.mem_cons_self).2 hw (by rw [List.length_append, List.length_reverse]; omega) (by omega)
    have ex : st ++ (n :: r).reverse = st ++ r.reverse ++ [n] := by rw [List.reverse_cons, ← List.append_assoc]
    have e0 : ffE (goE stop nx kids k) (n :: r) s = match goE stop nx kids k s n with
      | .inl s' => ffE (goE stop nx kids k) r s'
      | .inr d => .inr d := rfl
    rw [ex, e0]
    cases z : goE stop nx kids k s n with
    | inr d =>
      rw [z] at h
      exact h
    | inl s' =>
      rw [z] at h
      obtain ⟨x1, F1, h1, h2, h3⟩ := h
      have g := DfsE.list one r s' st x1 F1 (fun m hm => hp m (List.mem_cons_of_mem _ hm)) (by omega) (by omega) (by omega)
      rw [h3]
      show EndE E c f w st s F _ _ (ffE (goE stop nx kids k) r s')
      cases y : ffE (goE stop nx kids k) r s' with
      | inr d =>
        rw [y] at g
        exact g
      | inl s'' =>
        rw [y] at g
        obtain ⟨x2, F2, g1, g2, g3⟩ := g
        refine ⟨x2, F2, ?_, by omega, g3⟩
        show F ≤ F2 + (r.length + 1) * sz b k
        rw [Nat.add_mul, Nat.one_mul]
        omega
theorem DfsE.one (D : DfsE E c f stop nx kids dp b P w) : ∀ (k : Nat) (s : S) (n : N) (st : List N) (x : J) (F : Nat), P n → dp n ≤ k → w s + F ≤ 100000 → st.length + b * (k + 1) ≤ 5000 → sz b k ≤ F →
      EndE E c f w st s F (sz b k) (whGo c f F (E s (st ++ [n]) x)) (goE stop nx kids k s n)
  | 0, s, n, st, x, F, hp, hd, hw, hl, hf => by
    have hf : 1 ≤ F := hf
    obtain ⟨G, rfl⟩ : ∃ G, F = G + 1 := ⟨F - 1, by omega⟩
    have e0 : goE stop nx kids 0 s n = match stop s n with
      | some d => .inr d
      | none => .inl (nx s n) := rfl
    rw [e0]
    cases z : stop s n with
    | some d => exact wh_rt (D.more s st n x) (D.halt s st n x d hp z (by omega) (by omega))
    | none =>
      obtain ⟨x', e⟩ := D.body s st n x hp z (by omega) (by omega)
      have ek : kids s n = [] := by
        cases y : kids s n with
        | nil => rfl
        | cons m r =>
          have := (D.down s n m hp z (by rw [y]; exact List.mem_cons_self)).2
          omega
      rw [ek, List.reverse_nil, List.append_nil] at e
      have := D.wle s n
      exact ⟨x', G, Nat.le_refl _, by omega, wh_yes (D.more s st n x) e⟩
  | k + 1, s, n, st, x, F, hp, hd, hw, hl, hf => by
    have hf : 1 + b * sz b k ≤ F := hf
    obtain ⟨G, rfl⟩ : ∃ G, F = G + 1 := ⟨F - 1, by omega⟩
    have e0 : goE stop nx kids (k + 1) s n = match stop s n with
      | some d => .inr d
      | none => ffE (goE stop nx kids k) (kids s n) (nx s n) := rfl
    rw [e0]
    cases z : stop s n with
    | some d => exact wh_rt (D.more s st n x) (D.halt s st n x d hp z (by omega) (by omega))
    | none =>
      obtain ⟨x1, e⟩ := D.body s st n x hp z (by omega) (by omega)
      have hb := D.few s n
      have hm : (kids s n).length * sz b k ≤ b * sz b k := Nat.mul_le_mul_right _ hb
      have hw1 := D.wle s n
      have hl2 : b * (k + 1 + 1) = b * (k + 1) + b := Nat.mul_succ _ _
      have g := DfsE.list (D.one k) (kids s n) (nx s n) st x1 G (fun m h => ⟨(D.down s n m hp z h).1, by have := (D.down s n m hp z h).2; omega⟩) (by omega) (by omega) (by omega)
      rw [wh_yes (D.more s st n x) e]
      show EndE E c f w st s (G + 1) _ _ (ffE (goE stop nx kids k) (kids s n) (nx s n))
      cases y : ffE (goE stop nx kids k) (kids s n) (nx s n) with
      | inr d =>
        rw [y] at g
        exact g
      | inl s'' =>
        rw [y] at g
        obtain ⟨x2, F2, g1, g2, g3⟩ := g
        refine ⟨x2, F2, ?_, by omega, g3⟩
        show G + 1 ≤ F2 + (1 + b * sz b k)
        omega
/-- the whole loop, from one node -/
theorem DfsE.run (D : DfsE E c f stop nx kids dp b P w) (no : ∀ s x, c (pkv (E s [] x)) = .ok false) {k F : Nat} {s : S} {n : N} (x : J) (hp : P n) (hd : dp n ≤ k) (hw : w s + F ≤ 100000) (hl : b * (k + 1) ≤ 5000) (hf : sz b k < F) :
    (∀ s', goE stop nx kids k s n = .inl s' → ∃ x', whGo c f F (E s [n] x) = .nx (E s' [] x')) ∧ (∀ d, goE stop nx kids k s n = .inr d → whGo c f F (E s [n] x) = .rt d) := by
  have h := D.one k s n [] x F hp hd hw (by show 0 + _ ≤ _; omega) (by omega)
  refine ⟨fun s' e => ?_, fun d e => ?_⟩
  · rw [e] at h
    obtain ⟨x', F', h1, _, h3⟩ := h
    obtain ⟨G, rfl⟩ : ∃ G, F' = G + 1 := ⟨F' - 1, by omega⟩
    exact ⟨x', (show whGo c f F (E s ([] ++ [n]) x) = _ from h3).trans (wh_no (no _ _))⟩
  · rw [e] at h
    exact h
end
end Pu

namespace Pu
open PySem L2
/-! ### mirrors of defs that laws share -/
def m_is_alphabet : List D → Res D := dfM 1 3 (sqS (ifS (orT (noT (tst (op1 (isiD "str") (vr 0)))) (orT (noT (tst (chF dLe dLe (cst (.int 2)) (opN cLen (argC (vr 0) argN)) (cst (.int 6))))) (noT (tst (opN cAll (argC (ofL (lcO (itF (vr 0)) [3] (.nm 3) yesT (op2 dIn (vr 3) (cst (.str [97, 98, 99, 100, 101, 102, 103, 104, 105, 106, 107, 108, 109, 110, 111, 112, 113, 114, 115, 116, 117, 118, 119, 120, 121, 122]))))) argN)))))) (reS (cst (.bl false))) nxS) (reS (opN cAll (argC (ofL (lcO (ziF (vr 0) (slF (vr 0) (soP (cst (.int 1))) noP)) [1, 2] (.tp [1, 2]) yesT (op2 dLt (vr 1) (vr 2)))) argN))))
def m_need_alphabet : List D → Res D := dfM 1 0 (ifS (noT (tst (calF m_is_alphabet (argC (vr 0) argN)))) (raS 1) nxS)
def m_is_word : List D → Res D := dfM 2 1 (sqS (exS (calF m_need_alphabet (argC (vr 1) argN))) (reS (anF (calF m_is_plain (argC (vr 0) argN)) (opN cAll (argC (ofL (lcO (itF (vr 0)) [2] (.nm 2) yesT (op2 dIn (vr 2) (vr 1)))) argN)))))
def m_need_texts : List D → Res D := dfM 2 1 (sqS (exS (calF m_need_alphabet (argC (vr 1) argN))) (sqS (ifS (orT (noT (tst (op1 (isiD "list") (vr 0)))) (noT (tst (chF dLe dLe (cst (.int 1)) (opN cLen (argC (vr 0) argN)) (cst (.int 12)))))) (raS 3) nxS) (ifS (noT (tst (opN cAll (argC (ofL (lcO (itF (vr 0)) [2] (.nm 2) yesT (calF m_is_word (argC (vr 2) (argC (vr 1) argN))))) argN)))) (raS 3) nxS)))
def gi_Ask : IM := (iQ (iE (calF m_need_texts (argC (vr 1) (argC (vr 4) argN)))) (iQ (iE (kwF (kg 1 3 [(0, 0), (2, 0), (2, 1), (2, 2)] []) m_need_number (argC (vr 2) argN) (argC (cst (.str [108, 101, 110, 103, 116, 104])) (argC (cst (.int 1)) (argC (cst (.int 8)) argN))))) (iQ (iE (kwF (kg 1 2 [(0, 0), (2, 0), (1, 0), (2, 1)] [.int 0]) m_need_number (argC (vr 3) argN) (argC (cst (.str [109, 97, 110, 121])) (argC (vr 2) argN)))) (iQ (iS "texts" (vr 1)) (iQ (iS "length" (vr 2)) (iQ (iS "many" (vr 3)) (iQ (iS "alphabet" (vr 4)) (iQ (iS "quorum" (ifF (tst (op2 dIs (vr 5) (cst .non))) (opN cLen (argC (vr 1) argN)) (vr 5))) (iL "Ask" (ifS (noT (tst (calF m_is_number (argC (op1 (getD' "Ask" "quorum") (vr 0)) (argC (cst (.int 1)) (argC (opN cLen (argC (vr 1) argN)) argN)))))) (raX 4 (cst (.str [113, 117, 111, 114, 117, 109]))) nxS))))))))))
def mi_Ask : List D → Res (List (Str × D)) := fun ds => gi_Ask (none :: ds.map some) []
def m_Ask_further : List D → Res D := dfM 4 5 (sqS (aoS 4 (lnO argN)) (sqS (forS (itF (vr 1)) (.nm 5) (sqS (asS 6 (ofL (lcO (itF (vr 5)) [7, 8] (.tp [7, 8]) yesT (tupF (argC (vr 7) (argC (op2 dAdd (vr 8) (opN cInt (argC (op2 dNe (op2 dIx (vr 7) (vr 2)) (vr 3)) argN))) argN)))))) (apS 4 (ofL (lcO (itF (vr 6)) [7, 8] (.tp [7, 8]) (tst (op2 dLe (vr 8) (op1 (getD' "Ask" "many") (vr 0)))) (tupF (argC (vr 7) (argC (vr 8) argN)))))))) (reS (vr 4))))
def m_Ask_lost : List D → Res D := dfM 2 2 (reS (opN cTuple (argC (ofL (lcO (enF (vr 1)) [2, 3] (.tp [2, 3]) (tst (op2 dEq (vr 3) (lstF argN))) (vr 2))) argN)))
def m_Ask_is_cut : List D → Res D := dfM 2 0 (reS (op2 dLt (op2 dSub (opN cLen (argC (op1 (getD' "Ask" "texts") (vr 0)) argN)) (opN cLen (argC (metF "Ask" "lost" m_Ask_lost (vr 0) (argC (vr 1) argN)) argN))) (op1 (getD' "Ask" "quorum") (vr 0))))
def m_Ask_rows : List D → Res D := dfM 1 2 (reS (ofL (lcO (itF (op1 (getD' "Ask" "texts") (vr 0))) [1] (.nm 1) yesT (ofL (lcO (rgF (op2 dAdd (op2 dSub (opN cLen (argC (vr 1) argN)) (op1 (getD' "Ask" "length") (vr 0))) (cst (.int 1)))) [2] (.nm 2) yesT (tupF (argC (slF (vr 1) (soP (vr 2)) (soP (op2 dAdd (vr 2) (op1 (getD' "Ask" "length") (vr 0))))) (argC (cst (.int 0)) argN))))))))
def m__law_all : List D → Res D := dfM 2 5 (sqS (asS 2 (lstF (argC (cst (.str [])) argN))) (sqS (forS (rgF (vr 1)) (.nm 3) (sqS (asS 4 (lstF argN)) (sqS (forS (itF (vr 2)) (.nm 5) (asS 4 (op2 dAdd (vr 4) (ofL (lcO (itF (vr 0)) [6] (.nm 6) yesT (op2 dAdd (vr 5) (vr 6))))))) (asS 2 (vr 4))))) (reS (vr 2))))
abbrev m__law_drawn : List D → Res D := m_drawn
abbrev m__law_alphabet : List D → Res D := m_alpha
def m__law_case : List D → Res D := dfM 2 2 (sqS (paS 2 3 (.s (op2 dIx (lstF (argC (cst (.str [97, 98])) (argC (cst (.str [97, 99])) (argC (cst (.str [97, 98, 99])) argN)))) (calF m__law_drawn (argC (vr 0) (argC (vr 1) (argC (cst (.int 3)) argN)))))) (.s (op2 dAdd (cst (.int 1)) (calF m__law_drawn (argC (vr 0) (argC (op2 dAdd (vr 1) (cst (.int 1))) (argC (cst (.int 3)) argN))))))) (reS (tupF (argC (vr 2) (argC (vr 3) (argC (calF m__law_drawn (argC (vr 0) (argC (op2 dAdd (vr 1) (cst (.int 2))) (argC (op2 dAdd (vr 3) (cst (.int 1))) argN)))) argN))))))
abbrev m__law_word : List D → Res D := m_word
def m__law_deed : List D → Res D := dfM 3 0 (sqS (ifS (tst (op2 dEq (calF m__law_drawn (argC (vr 0) (argC (vr 1) (argC (cst (.int 3)) argN)))) (cst (.int 0)))) (reS (tupF (argC (cst (.str [114, 101, 109, 111, 118, 101])) (argC (calF m__law_drawn (argC (vr 0) (argC (op2 dAdd (vr 1) (cst (.int 1))) (argC (cst (.int 5)) argN)))) argN)))) nxS) (reS (tupF (argC (cst (.str [97, 100, 100])) (argC (calF m__law_word (argC (vr 0) (argC (op2 dAdd (vr 1) (cst (.int 3))) (argC (vr 2) (argC (op2 dAdd (cst (.int 1)) (calF m__law_drawn (argC (vr 0) (argC (op2 dAdd (vr 1) (cst (.int 2))) (argC (cst (.int 8)) argN))))) argN))))) argN)))))
def m__law_edits : List D → Res D := dfM 2 5 (sqS (asS 2 (lrF (op2 dAdd (opN cLen (argC (vr 1) argN)) (cst (.int 1))))) (sqS (forS (itF (vr 0)) (.nm 3) (sqS (aoS 4 (lnO (argC (op2 dAdd (op2 dIx (vr 2) (cst (.int 0))) (cst (.int 1))) argN))) (sqS (forS (enF (vr 1)) (.tp [5, 6]) (apI 4 (opN cMin (argC (op2 dAdd (op2 dIx (vr 2) (vr 5)) (opN cInt (argC (op2 dNe (vr 3) (vr 6)) argN))) (argC (op2 dAdd (op2 dIx (vr 2) (op2 dAdd (vr 5) (cst (.int 1)))) (cst (.int 1))) (argC (op2 dAdd (op2 dIx (vr 4) (vr 5)) (cst (.int 1))) argN)))))) (fzS [4] (asS 2 (vr 4)))))) (reS (op2 dIx (vr 2) (op1 dNeg (cst (.int 1)))))))
def m__law_power : List D → Res D := dfM 2 2 (sqS (asS 2 (cst (.int 1))) (sqS (forS (rgF (vr 1)) (.nm 3) (asS 2 (op2 dMul (vr 2) (vr 0)))) (reS (vr 2))))
abbrev m__law_slips : List D → Res D := m_unlike
def m__law_stands : List D → Res D := dfM 3 3 (sqS (asS 3 (ofL (lcO (rgF (op2 dAdd (op2 dSub (opN cLen (argC (vr 0) argN)) (opN cLen (argC (vr 1) argN))) (cst (.int 1)))) [4] (.nm 4) yesT (calF m__law_slips (argC (slF (vr 0) (soP (vr 4)) (soP (op2 dAdd (vr 4) (opN cLen (argC (vr 1) argN))))) (argC (vr 1) argN)))))) (reS (op2 dNe (ofL (lcO (itF (vr 3)) [5] (.nm 5) (tst (op2 dLe (vr 5) (vr 2))) (vr 5))) (lstF argN))))
abbrev m__law_texts : List D → Res D := m_texts
def m__wall : List D → Res D := dfM 1 0 (whS 1000 (tst (cst (.bl true))) nxS)
def m_against_itself : List D → Res D := dfM 1 1 (sqS (exS (calF m_need_plain (argC (vr 0) argN))) (reS (ofL (lcO (rg2F (cst (.int 1)) (opN cLen (argC (vr 0) argN))) [1] (.nm 1) yesT (calF m_unlike (argC (slF (vr 0) (soP (vr 1)) noP) (argC (vr 0) argN)))))))
def m_is_pieces : List D → Res D := dfM 2 2 (sqS (ifS (orT (noT (tst (op1 (isiD "list") (vr 0)))) (tst (op2 dEq (vr 0) (lstF argN)))) (reS (cst (.bl false))) nxS) (sqS (ifS (noT (tst (opN cAll (argC (ofL (lcO (itF (vr 0)) [2] (.nm 2) yesT (anF (op1 (isiD "str") (vr 2)) (anF (op2 dNe (vr 2) (cst (.str []))) (opN cAll (argC (ofL (lcO (itF (vr 2)) [3] (.nm 3) yesT (op2 dIn (vr 3) (vr 1)))) argN)))))) argN)))) (reS (cst (.bl false))) nxS) (reS (opN cAll (argC (ofL (lcO (itF (vr 0)) [2] (.nm 2) yesT (op2 dEq (opN cLen (argC (vr 2) argN)) (opN cLen (argC (op2 dIx (vr 0) (cst (.int 0))) argN))))) argN)))))
def m_need_pieces : List D → Res D := dfM 2 0 (sqS (exS (calF m_need_alphabet (argC (vr 1) argN))) (ifS (noT (tst (calF m_is_pieces (argC (vr 0) (argC (vr 1) argN))))) (raS 5) nxS))
def m_columns : List D → Res D := dfM 2 5 (sqS (exS (calF m_need_pieces (argC (vr 0) (argC (vr 1) argN)))) (sqS (aoS 2 (lnO argN)) (sqS (forS (rgF (opN cLen (argC (op2 dIx (vr 0) (cst (.int 0))) argN))) (.nm 3) (sqS (asS 4 (ofL (lcO (itF (vr 0)) [5] (.nm 5) yesT (op2 dIx (vr 5) (vr 3))))) (apS 2 (opN cTupZ (argC (ofL (lcO (itF (vr 1)) [6] (.nm 6) yesT (mt1 tyLst dCount (vr 4) (vr 6)))) argN))))) (reS (vr 2)))))
def m_agreement : List D → Res D := dfM 2 1 (reS (opN cSum (argC (ofL (lcO (itF (calF m_columns (argC (vr 0) (argC (vr 1) argN)))) [2] (.nm 2) yesT (opN cMxT (argC (vr 2) argN)))) argN)))
def m_power : List D → Res D := dfM 2 2 (sqS (asS 2 (cst (.int 1))) (sqS (forS (rgF (vr 1)) (.nm 3) (asS 2 (op2 dMul (vr 2) (vr 0)))) (reS (vr 2))))
def m_are_all : List D → Res D := dfM 3 4 (sqS (forS (enF (vr 0)) (.tp [3, 4]) (ifS (tst (opN cAny (argC (ofL (lcO (itF (slF (vr 0) (soP (op2 dAdd (vr 3) (cst (.int 1)))) noP)) [5] (.nm 5) yesT (orF (mt1 tyStr dStarts (vr 4) (vr 5)) (mt1 tyStr dStarts (vr 5) (vr 4))))) argN))) (reS (cst (.bl false))) nxS)) (reS (op2 dEq (opN cSum (argC (ofL (lcO (itF (vr 0)) [6] (.nm 6) yesT (calF m_power (argC (opN cLen (argC (vr 2) argN)) (argC (op2 dSub (vr 1) (opN cLen (argC (vr 6) argN))) argN))))) argN)) (calF m_power (argC (opN cLen (argC (vr 2) argN)) (argC (vr 1) argN))))))
def m_longer : List D → Res D := dfM 3 3 (sqS (aoS 3 (lnO (argC (op2 dAdd (op2 dIx (vr 1) (cst (.int 0))) (cst (.int 1))) argN))) (sqS (forS (enF (vr 0)) (.tp [4, 5]) (apI 3 (opN cMin (argC (op2 dAdd (op2 dIx (vr 1) (vr 4)) (opN cInt (argC (op2 dNe (vr 5) (vr 2)) argN))) (argC (op2 dAdd (op2 dIx (vr 1) (op2 dAdd (vr 4) (cst (.int 1)))) (cst (.int 1))) (argC (op2 dAdd (op2 dIx (vr 3) (op1 dNeg (cst (.int 1)))) (cst (.int 1))) argN)))))) (reS (vr 3))))
def m_lost : List D → Res D := dfM 2 2 (reS (opN cTuple (argC (ofL (lcO (enF (vr 0)) [2, 3] (.tp [2, 3]) (tst (op2 dGt (opN cMin (argC (vr 3) argN)) (vr 1))) (vr 2))) argN)))
def m_row_of : List D → Res D := dfM 2 3 (sqS (asS 2 (ofL (lcO (rgF (op2 dAdd (opN cLen (argC (vr 0) argN)) (cst (.int 1)))) [4] (.nm 4) yesT (cst (.int 0))))) (sqS (forS (itF (vr 1)) (.nm 3) (asS 2 (calF m_longer (argC (vr 0) (argC (vr 2) (argC (vr 3) argN)))))) (reS (vr 2))))
def m_bend_walk : List D → Res D := dfM 5 8 (sqS (paS 6 7 (.o (lnO argN)) (.o (lnO argN))) (sqS (aoS 5 (lnO (argC (tupF (argC (cst (.str [])) (argC (ofL (lcO (itF (vr 0)) [11] (.nm 11) yesT (calF m_row_of (argC (vr 11) (argC (cst (.str [])) argN))))) argN))) argN))) (sqS (whS 10000 (tst (op2 dNe (vr 5) (lstF argN))) (sqS (poT (.tp [8, 9]) 5) (ifS (tst (op2 dLt (op2 dSub (opN cLen (argC (vr 0) argN)) (opN cLen (argC (calF m_lost (argC (vr 9) (argC (vr 2) argN))) argN))) (vr 4))) (apS 7 (tupF (argC (vr 8) (argC (calF m_lost (argC (vr 9) (argC (vr 2) argN))) argN)))) (ifS (tst (op2 dEq (opN cLen (argC (vr 8) argN)) (vr 1))) (apS 6 (vr 8)) (forS (itF (op1 dRev (vr 3))) (.nm 10) (apS 5 (tupF (argC (op2 dAdd (vr 8) (vr 10)) (argC (ofL (lcO (ziF (vr 0) (vr 9)) [11, 12] (.tp [11, 12]) yesT (calF m_longer (argC (vr 11) (argC (vr 12) (argC (vr 10) argN)))))) argN))))))))) (reS (tupF (argC (vr 6) (argC (vr 7) argN)))))))
def m_need_word : List D → Res D := dfM 2 0 (ifS (noT (tst (calF m_is_word (argC (vr 0) (argC (vr 1) argN))))) (raS 2) nxS)
def m_places : List D → Res D := dfM 2 1 (reS (ofL (lcO (rgF (op2 dAdd (op2 dSub (opN cLen (argC (vr 0) argN)) (opN cLen (argC (vr 1) argN))) (cst (.int 1)))) [2] (.nm 2) yesT (calF m_unlike (argC (slF (vr 0) (soP (vr 2)) (soP (op2 dAdd (vr 2) (opN cLen (argC (vr 1) argN))))) (argC (vr 1) argN))))))
def m_best_pieces : List D → Res D := dfM 3 4 (sqS (exS (calF m_need_texts (argC (vr 0) (argC (vr 2) argN)))) (sqS (exS (calF m_need_word (argC (vr 1) (argC (vr 2) argN)))) (sqS (ifS (tst (opN cAny (argC (ofL (lcO (itF (vr 0)) [4] (.nm 4) yesT (op2 dLt (opN cLen (argC (vr 4) argN)) (opN cLen (argC (vr 1) argN))))) argN))) (raX 4 (cst (.str [108, 101, 110, 103, 116, 104]))) nxS) (sqS (aoS 3 (lnO argN)) (sqS (forS (itF (vr 0)) (.nm 4) (sqS (asS 5 (calF m_places (argC (vr 4) (argC (vr 1) argN)))) (sqS (asS 6 (mt1 tyLst dIndex (vr 5) (opN cMin (argC (vr 5) argN)))) (apS 3 (slF (vr 4) (soP (vr 6)) (soP (op2 dAdd (vr 6) (opN cLen (argC (vr 1) argN))))))))) (reS (vr 3)))))))
def m_best_spot : List D → Res D := dfM 2 1 (sqS (exS (calF m_need_plain (argC (vr 0) argN))) (sqS (exS (calF m_need_plain (argC (vr 1) argN))) (sqS (asS 2 (calF m_places (argC (vr 0) (argC (vr 1) argN)))) (reS (ifF (tst (op2 dEq (vr 2) (lstF argN))) (cst .non) (tupF (argC (opN cMin (argC (vr 2) argN)) (argC (mt1 tyLst dIndex (vr 2) (opN cMin (argC (vr 2) argN))) argN))))))))
def m_need_lot : List D → Res D := dfM 2 0 (sqS (exS (calF m_need_pieces (argC (vr 0) (argC (vr 1) argN)))) (ifS (orT (tst (op2 dGt (opN cLen (argC (op2 dIx (vr 0) (cst (.int 0))) argN)) (cst (.int 8)))) (tst (op2 dGt (opN cLen (argC (vr 0) argN)) (cst (.int 12))))) (raS 5) nxS))
def m_far : List D → Res D := dfM 2 1 (reS (ofL (lcO (itF (vr 0)) [2] (.nm 2) yesT (calF m_unlike (argC (slF (vr 2) noP (soP (opN cLen (argC (vr 1) argN)))) (argC (vr 1) argN))))))
def m_within : List D → Res D := dfM 3 5 (sqS (paS 3 4 (.o (lnO argN)) (.o (lnO (argC (cst (.str [])) argN)))) (sqS (whS 10000 (tst (op2 dNe (vr 4) (lstF argN))) (sqS (poS 5 4) (sqS (asS 6 (calF m_far (argC (vr 0) (argC (vr 5) argN)))) (ifS (tst (op2 dGt (opN cMax (argC (vr 6) argN)) (vr 1))) (apS 3 (tupF (argC (vr 5) (argC (mt1 tyLst dIndex (vr 6) (opN cMax (argC (vr 6) argN))) argN)))) (ifS (tst (op2 dEq (opN cLen (argC (vr 5) argN)) (opN cLen (argC (op2 dIx (vr 0) (cst (.int 0))) argN)))) (reS (tupF (argC (vr 5) (argC (vr 3) argN)))) (fzS [4] (aoS 4 (catO (vr 4) (ofL (lcO (itF (op1 dRev (vr 2))) [7] (.nm 7) yesT (op2 dAdd (vr 5) (vr 7)))))))))))) (reS (tupF (argC (cst .non) (argC (vr 3) argN))))))
def m_center : List D → Res D := dfM 2 2 (sqS (exS (calF m_need_lot (argC (vr 0) (argC (vr 1) argN)))) (sqS (forS (rgF (op2 dAdd (opN cLen (argC (op2 dIx (vr 0) (cst (.int 0))) argN)) (cst (.int 1)))) (.nm 2) (sqS (asS 3 (op2 dIx (calF m_within (argC (vr 0) (argC (vr 2) (argC (vr 1) argN)))) (cst (.int 0)))) (ifS (tst (op2 dIsNot (vr 3) (cst .non))) (reS (tupF (argC (vr 2) (argC (vr 3) argN)))) nxS))) (reS (cst .non))))
def m_center_paper : List D → Res D := dfM 2 1 (sqS (asS 2 (op2 dIx (calF m_center (argC (vr 0) (argC (vr 1) argN))) (cst (.int 0)))) (reS (ifF (tst (op2 dEq (vr 2) (cst (.int 0)))) (lstF (argC (tupF (argC (cst (.str [])) (argC (cst (.int 0)) argN))) argN)) (op2 dIx (calF m_within (argC (vr 0) (argC (op2 dSub (vr 2) (cst (.int 1))) (argC (vr 1) argN)))) (cst (.int 1))))))
def m_walk : List D → Res D := dfM 1 6 (sqS (pa3S 1 2 3 (.o (lnO argN)) (.o (lnO argN)) (.o (lnO (argC (tupF (argC (cst (.str [])) (argC (metF "Ask" "rows" m_Ask_rows (vr 0) argN) argN))) argN)))) (sqS (whS 10000 (tst (op2 dNe (vr 3) (lstF argN))) (sqS (poT (.tp [4, 5]) 3) (ifS (tst (metF "Ask" "is_cut" m_Ask_is_cut (vr 0) (argC (vr 5) argN))) (apS 2 (tupF (argC (vr 4) (argC (metF "Ask" "lost" m_Ask_lost (vr 0) (argC (vr 5) argN)) argN)))) (ifS (tst (op2 dEq (opN cLen (argC (vr 4) argN)) (op1 (getD' "Ask" "length") (vr 0)))) (apS 1 (vr 4)) (forS (itF (op1 dRev (op1 (getD' "Ask" "alphabet") (vr 0)))) (.nm 6) (apS 3 (tupF (argC (op2 dAdd (vr 4) (vr 6)) (argC (metF "Ask" "further" m_Ask_further (vr 0) (argC (vr 5) (argC (opN cLen (argC (vr 4) argN)) (argC (vr 6) argN)))) argN))))))))) (reS (tupF (argC (vr 1) (argC (vr 2) argN))))))
def m_common : List D → Res D := dfM 5 0 (reS (op2 dIx (calF m_walk (argC (calF (newM "Ask" 5 mi_Ask) (argC (vr 0) (argC (vr 1) (argC (vr 2) (argC (vr 3) (argC (vr 4) argN)))))) argN)) (cst (.int 0))))
def m_need_ask : List D → Res D := dfM 5 1 (sqS (exS (calF m_need_texts (argC (vr 0) (argC (vr 3) argN)))) (sqS (exS (kwF (kg 1 3 [(0, 0), (2, 0), (2, 1), (2, 2)] []) m_need_number (argC (vr 1) argN) (argC (cst (.str [108, 101, 110, 103, 116, 104])) (argC (cst (.int 1)) (argC (cst (.int 8)) argN))))) (sqS (exS (kwF (kg 1 2 [(0, 0), (2, 0), (1, 0), (2, 1)] [.int 0]) m_need_number (argC (vr 2) argN) (argC (cst (.str [109, 97, 110, 121])) (argC (op2 dSub (vr 1) (cst (.int 1))) argN)))) (sqS (asS 5 (ifF (tst (op2 dIs (vr 4) (cst .non))) (opN cLen (argC (vr 0) argN)) (vr 4))) (sqS (ifS (noT (tst (calF m_is_number (argC (vr 5) (argC (cst (.int 1)) (argC (opN cLen (argC (vr 0) argN)) argN)))))) (raX 4 (cst (.str [113, 117, 111, 114, 117, 109]))) nxS) (reS (vr 5)))))))
def m_common_by_edits : List D → Res D := dfM 5 1 (sqS (asS 5 (calF m_need_ask (argC (vr 0) (argC (vr 1) (argC (vr 2) (argC (vr 3) (argC (vr 4) argN))))))) (reS (op2 dIx (calF m_bend_walk (argC (vr 0) (argC (vr 1) (argC (vr 2) (argC (vr 3) (argC (vr 5) argN)))))) (cst (.int 0)))))
def m_cut_up : List D → Res D := dfM 2 4 (sqS (paS 3 4 (.o (lnO argN)) (.s (cst (.int 0)))) (sqS (forS (rgF (op2 dAdd (vr 1) (cst (.int 1)))) (.nm 2) (sqS (asS 5 (op2 dFdiv (op2 dSub (op2 dAdd (opN cLen (argC (vr 0) argN)) (vr 1)) (vr 2)) (op2 dAdd (vr 1) (cst (.int 1))))) (sqS (apS 3 (tupF (argC (vr 4) (argC (slF (vr 0) (soP (vr 4)) (soP (op2 dAdd (vr 4) (vr 5)))) argN)))) (auS 4 iAdd (vr 5))))) (reS (vr 3))))
def m_edit_rows : List D → Res D := dfM 2 7 (sqS (aoS 2 (lnO (argC (lrF (op2 dAdd (opN cLen (argC (vr 1) argN)) (cst (.int 1)))) argN))) (sqS (forS (enF (vr 0)) (.tp [3, 4]) (sqS (aoS 5 (lnO (argC (op2 dAdd (vr 3) (cst (.int 1))) argN))) (sqS (forS (enF (vr 1)) (.tp [6, 7]) (sqS (aiS 8 (opN cMin (argC (op2 dAdd (op2 dIx (op2 dIx (vr 2) (op1 dNeg (cst (.int 1)))) (vr 6)) (opN cInt (argC (op2 dNe (vr 4) (vr 7)) argN))) (argC (op2 dAdd (op2 dIx (op2 dIx (vr 2) (op1 dNeg (cst (.int 1)))) (op2 dAdd (vr 6) (cst (.int 1)))) (cst (.int 1))) (argC (op2 dAdd (op2 dIx (vr 5) (op1 dNeg (cst (.int 1)))) (cst (.int 1))) argN))))) (apS 5 (vr 8)))) (fzS [5] (apS 2 (vr 5)))))) (reS (vr 2))))
def m_edit_steps : List D → Res D := dfM 2 7 (sqS (exS (calF m_need_plain (argC (vr 0) argN))) (sqS (exS (calF m_need_plain (argC (vr 1) argN))) (sqS (asS 2 (calF m_edit_rows (argC (op1 dRev (vr 0)) (argC (op1 dRev (vr 1)) argN)))) (sqS (pa3S 3 4 5 (.o (lnO argN)) (.s (cst (.int 0))) (.s (cst (.int 0)))) (sqS (whS 1000 (orT (tst (op2 dLt (vr 4) (opN cLen (argC (vr 0) argN)))) (tst (op2 dLt (vr 5) (opN cLen (argC (vr 1) argN))))) (sqS (paS 7 8 (.s (op2 dSub (opN cLen (argC (vr 0) argN)) (vr 4))) (.s (op2 dSub (opN cLen (argC (vr 1) argN)) (vr 5)))) (sqS (asS 6 (op2 dIx (op2 dIx (vr 2) (vr 7)) (vr 8))) (ifS (anT (tst (op2 dGt (vr 7) (cst (.int 0)))) (anT (tst (op2 dGt (vr 8) (cst (.int 0)))) (tst (op2 dEq (op2 dAdd (op2 dIx (op2 dIx (vr 2) (op2 dSub (vr 7) (cst (.int 1)))) (op2 dSub (vr 8) (cst (.int 1)))) (opN cInt (argC (op2 dNe (op2 dIx (vr 0) (vr 4)) (op2 dIx (vr 1) (vr 5))) argN))) (vr 6))))) (sqS (apS 3 (tupF (argC (ifF (tst (op2 dEq (op2 dIx (vr 0) (vr 4)) (op2 dIx (vr 1) (vr 5)))) (cst (.str [107, 101, 101, 112])) (cst (.str [116, 117, 114, 110]))) (argC (op2 dIx (vr 0) (vr 4)) (argC (op2 dIx (vr 1) (vr 5)) argN))))) (paS 4 5 (.s (op2 dAdd (vr 4) (cst (.int 1)))) (.s (op2 dAdd (vr 5) (cst (.int 1)))))) (ifS (anT (tst (op2 dGt (vr 7) (cst (.int 0)))) (tst (op2 dEq (op2 dAdd (op2 dIx (op2 dIx (vr 2) (op2 dSub (vr 7) (cst (.int 1)))) (vr 8)) (cst (.int 1))) (vr 6)))) (sqS (apS 3 (tupF (argC (cst (.str [111, 117, 116])) (argC (op2 dIx (vr 0) (vr 4)) (argC (cst (.str [])) argN))))) (auS 4 iAdd (cst (.int 1)))) (sqS (apS 3 (tupF (argC (cst (.str [105, 110])) (argC (cst (.str [])) (argC (op2 dIx (vr 1) (vr 5)) argN))))) (auS 5 iAdd (cst (.int 1))))))))) (reS (vr 3)))))))
def m_edits : List D → Res D := dfM 2 0 (sqS (exS (calF m_need_plain (argC (vr 0) argN))) (sqS (exS (calF m_need_plain (argC (vr 1) argN))) (reS (op2 dIx (op2 dIx (calF m_edit_rows (argC (vr 0) (argC (vr 1) argN))) (op1 dNeg (cst (.int 1)))) (op1 dNeg (cst (.int 1)))))))
def m_ends : List D → Res D := dfM 3 7 (sqS (exS (calF m_need_plain (argC (vr 0) argN))) (sqS (exS (calF m_need_plain (argC (vr 1) argN))) (sqS (exS (kwF (kg 1 2 [(0, 0), (2, 0), (1, 0), (2, 1)] [.int 0]) m_need_number (argC (vr 2) argN) (argC (cst (.str [109, 97, 110, 121])) (argC (op2 dSub (opN cLen (argC (vr 1) argN)) (cst (.int 1))) argN)))) (sqS (asS 3 (lrF (op2 dAdd (opN cLen (argC (vr 1) argN)) (cst (.int 1))))) (sqS (aoS 4 (lnO argN)) (sqS (forS (enF (vr 0)) (.tp [5, 6]) (sqS (aoS 7 (lnO (argC (cst (.int 0)) argN))) (sqS (forS (enF (vr 1)) (.tp [8, 9]) (apI 7 (opN cMin (argC (op2 dAdd (op2 dIx (vr 3) (vr 8)) (opN cInt (argC (op2 dNe (vr 6) (vr 9)) argN))) (argC (op2 dAdd (op2 dIx (vr 3) (op2 dAdd (vr 8) (cst (.int 1)))) (cst (.int 1))) (argC (op2 dAdd (op2 dIx (vr 7) (op1 dNeg (cst (.int 1)))) (cst (.int 1))) argN)))))) (sqS (fzS [7] (asS 3 (vr 7))) (ifS (tst (op2 dLe (op2 dIx (vr 3) (op1 dNeg (cst (.int 1)))) (vr 2))) (apS 4 (tupF (argC (op2 dAdd (vr 5) (cst (.int 1))) (argC (op2 dIx (vr 3) (op1 dNeg (cst (.int 1)))) argN)))) nxS))))) (reS (vr 4))))))))
def m_laid : List D → Res D := dfM 2 2 (reS (mt1 tyStr dJoin (cst (.str [])) (ofL (lcO (ziF (vr 0) (vr 1)) [2, 3] (.tp [2, 3]) yesT (ifF (tst (vr 3)) (cst (.str [46])) (vr 2))))))
def m_shapes : List D → Res D := dfM 2 4 (sqS (asS 2 (lstF (argC (tupF argN) argN))) (sqS (forS (rgF (vr 0)) (.nm 3) (asS 2 (ofL (lc2O (itF (vr 2)) [4, 5] (.nm 4) yesT (itF (tupF (argC (cst (.bl true)) (argC (cst (.bl false)) argN)))) [5] (.nm 5) (orT (noT (tst (vr 5))) (tst (chF dLt dLt (cst (.int 0)) (vr 3) (op2 dSub (vr 0) (cst (.int 1)))))) (op2 dAdd (vr 4) (tupF (argC (vr 5) argN))))))) (reS (ofL (lcO (itF (vr 2)) [4] (.nm 4) (tst (op2 dEq (mt1 tyLst dCount (vr 4) (cst (.bl true))) (vr 1))) (vr 4))))))
def m_fits : List D → Res D := dfM 2 2 (reS (opN cAll (argC (ofL (lcO (ziF (vr 1) (vr 0)) [2, 3] (.tp [2, 3]) yesT (op2 dIn (vr 2) (tupF (argC (cst (.str [46])) (argC (vr 3) argN)))))) argN)))
def m_floor_of : List D → Res D := dfM 3 7 (sqS (asS 3 (cst (.int 0))) (sqS (forS (itF (vr 0)) (.nm 4) (sqS (asS 5 (ofL (lcO (rgF (op2 dAdd (op2 dSub (opN cLen (argC (vr 4) argN)) (vr 2)) (cst (.int 1)))) [6] (.nm 6) yesT (slF (vr 4) (soP (vr 6)) (soP (op2 dAdd (vr 6) (opN cLen (argC (vr 1) argN)))))))) (auS 3 iAdd (opN cMin (argC (ofL (lcO (itF (vr 5)) [7] (.nm 7) yesT (opN cLen (argC (ofL (lcO (ziF (vr 7) (vr 1)) [8, 9] (.tp [8, 9]) (tst (op2 dNe (vr 8) (vr 9))) (cst (.int 1)))) argN)))) argN))))) (reS (vr 3))))
def m_has_none : List D → Res D := dfM 3 2 (reS (opN cAll (argC (ofL (lc2O (itF (vr 0)) [3, 4] (.nm 3) yesT (itF (calF m_places (argC (vr 3) (argC (vr 1) argN)))) [4] (.nm 4) yesT (op2 dGt (vr 4) (vr 2)))) argN)))
def m_how_many : List D → Res D := dfM 3 3 (sqS (atS (.tp [4, 5]) (tupF (argC (cst (.int 0)) (argC (cst (.int 1)) argN)))) (sqS (forS (rgF (op2 dAdd (vr 1) (cst (.int 1)))) (.nm 3) (sqS (auS 4 iAdd (vr 5)) (asS 5 (op2 dFdiv (op2 dMul (op2 dMul (vr 5) (op2 dSub (vr 0) (vr 3))) (op2 dSub (vr 2) (cst (.int 1)))) (op2 dAdd (vr 3) (cst (.int 1))))))) (reS (vr 4))))
def m_how_many_within : List D → Res D := dfM 3 0 (sqS (exS (kwF (kg 1 2 [(0, 0), (2, 0), (2, 1), (1, 0)] [.int 40]) m_need_number (argC (vr 0) argN) (argC (cst (.str [108, 101, 110, 103, 116, 104])) (argC (cst (.int 1)) argN)))) (sqS (exS (kwF (kg 1 2 [(0, 0), (2, 0), (1, 0), (2, 1)] [.int 0]) m_need_number (argC (vr 1) argN) (argC (cst (.str [109, 97, 110, 121])) (argC (vr 0) argN)))) (sqS (exS (kwF (kg 1 3 [(0, 0), (2, 0), (2, 1), (2, 2)] []) m_need_number (argC (vr 2) argN) (argC (cst (.str [108, 101, 116, 116, 101, 114, 115])) (argC (cst (.int 2)) (argC (cst (.int 26)) argN))))) (reS (calF m_how_many (argC (vr 0) (argC (vr 1) (argC (vr 2) argN))))))))
def m_is_start : List D → Res D := dfM 3 1 (reS (anF (op1 (isiD "str") (vr 0)) (anF (op2 dLe (opN cLen (argC (vr 0) argN)) (vr 1)) (opN cAll (argC (ofL (lcO (itF (vr 0)) [3] (.nm 3) yesT (op2 dIn (vr 3) (vr 2)))) argN)))))
def m_is_center_cut : List D → Res D := dfM 4 0 (sqS (ifS (orT (noT (tst (op1 (isiD "tuple") (vr 0)))) (orT (tst (op2 dNe (opN cLen (argC (vr 0) argN)) (cst (.int 2)))) (noT (tst (calF m_is_start (argC (op2 dIx (vr 0) (cst (.int 0))) (argC (opN cLen (argC (op2 dIx (vr 1) (cst (.int 0))) argN)) (argC (vr 3) argN)))))))) (reS (cst (.bl false))) nxS) (sqS (ifS (noT (tst (calF m_is_number (argC (op2 dIx (vr 0) (cst (.int 1))) (argC (cst (.int 0)) (argC (op2 dSub (opN cLen (argC (vr 1) argN)) (cst (.int 1))) argN)))))) (reS (cst (.bl false))) nxS) (reS (op2 dGe (calF m_unlike (argC (slF (op2 dIx (vr 1) (op2 dIx (vr 0) (cst (.int 1)))) noP (soP (opN cLen (argC (op2 dIx (vr 0) (cst (.int 0))) argN)))) (argC (op2 dIx (vr 0) (cst (.int 0))) argN))) (vr 2)))))
def m_is_center_paper : List D → Res D := dfM 4 1 (sqS (exS (calF m_need_lot (argC (vr 1) (argC (vr 3) argN)))) (sqS (exS (kwF (kg 1 2 [(0, 0), (2, 0), (1, 0), (2, 1)] [.int 0]) m_need_number (argC (vr 2) argN) (argC (cst (.str [108, 101, 97, 115, 116])) (argC (opN cLen (argC (op2 dIx (vr 1) (cst (.int 0))) argN)) argN)))) (sqS (ifS (orT (noT (tst (op1 (isiD "list") (vr 0)))) (noT (tst (opN cAll (argC (ofL (lcO (itF (vr 0)) [4] (.nm 4) yesT (calF m_is_center_cut (argC (vr 4) (argC (vr 1) (argC (vr 2) (argC (vr 3) argN))))))) argN))))) (reS (cst (.bl false))) nxS) (reS (calF m_are_all (argC (ofL (lcO (itF (vr 0)) [4] (.nm 4) yesT (op2 dIx (vr 4) (cst (.int 0))))) (argC (opN cLen (argC (op2 dIx (vr 1) (cst (.int 0))) argN)) (argC (vr 3) argN))))))))
def m_is_deed : List D → Res D := dfM 1 0 (sqS (ifS (orT (noT (tst (op1 (isiD "tuple") (vr 0)))) (orT (tst (op2 dNe (opN cLen (argC (vr 0) argN)) (cst (.int 2)))) (noT (tst (op1 (isiD "str") (op2 dIx (vr 0) (cst (.int 0)))))))) (reS (cst (.bl false))) nxS) (sqS (ifS (tst (op2 dEq (op2 dIx (vr 0) (cst (.int 0))) (cst (.str [97, 100, 100])))) (reS (calF m_is_plain (argC (op2 dIx (vr 0) (cst (.int 1))) argN))) nxS) (reS (anF (op2 dEq (op2 dIx (vr 0) (cst (.int 0))) (cst (.str [114, 101, 109, 111, 118, 101]))) (calF m_is_number (argC (op2 dIx (vr 0) (cst (.int 1))) (argC (cst (.int 0)) (argC (cst (.int 999)) argN))))))))
def m_is_spaced : List D → Res D := dfM 1 1 (sqS (ifS (orT (noT (tst (op1 (isiD "str") (vr 0)))) (orT (noT (tst (chF dLe dLe (cst (.int 1)) (opN cLen (argC (vr 0) argN)) (cst (.int 40))))) (noT (tst (opN cAll (argC (ofL (lcO (itF (vr 0)) [1] (.nm 1) yesT (op2 dIn (vr 1) (op2 dAdd (cst (.str [97, 98, 99, 100, 101, 102, 103, 104, 105, 106, 107, 108, 109, 110, 111, 112, 113, 114, 115, 116, 117, 118, 119, 120, 121, 122])) (cst (.str [46])))))) argN)))))) (reS (cst (.bl false))) nxS) (reS (anF (op2 dNe (op2 dIx (vr 0) (cst (.int 0))) (cst (.str [46]))) (op2 dNe (op2 dIx (vr 0) (op1 dNeg (cst (.int 1)))) (cst (.str [46]))))))
def m_need_spaced : List D → Res D := dfM 1 0 (ifS (noT (tst (calF m_is_spaced (argC (vr 0) argN)))) (raS 2) nxS)
def m_is_finer : List D → Res D := dfM 2 2 (sqS (exS (calF m_need_spaced (argC (vr 0) argN))) (sqS (exS (calF m_need_spaced (argC (vr 1) argN))) (sqS (ifS (orT (tst (op2 dNe (opN cLen (argC (vr 0) argN)) (opN cLen (argC (vr 1) argN)))) (tst (op2 dEq (vr 0) (vr 1)))) (reS (cst (.bl false))) nxS) (reS (opN cAll (argC (ofL (lcO (ziF (vr 0) (vr 1)) [2, 3] (.tp [2, 3]) yesT (op2 dIn (vr 3) (tupF (argC (cst (.str [46])) (argC (vr 2) argN)))))) argN))))))
def m_is_lost : List D → Res D := dfM 3 3 (sqS (asS 3 (op2 dIx (op1 (getD' "Ask" "texts") (vr 0)) (vr 2))) (sqS (asS 4 (op2 dAdd (op2 dSub (opN cLen (argC (vr 3) argN)) (op1 (getD' "Ask" "length") (vr 0))) (cst (.int 1)))) (reS (opN cAll (argC (ofL (lcO (rgF (vr 4)) [5] (.nm 5) yesT (op2 dGt (calF m_unlike (argC (slF (vr 3) (soP (vr 5)) (soP (op2 dAdd (vr 5) (opN cLen (argC (vr 1) argN))))) (argC (vr 1) argN))) (op1 (getD' "Ask" "many") (vr 0))))) argN)))))
def m_is_found : List D → Res D := dfM 2 3 (sqS (ifS (orT (noT (tst (op1 (isiD "str") (vr 1)))) (orT (tst (op2 dNe (opN cLen (argC (vr 1) argN)) (op1 (getD' "Ask" "length") (vr 0)))) (noT (tst (opN cAll (argC (ofL (lcO (itF (vr 1)) [4] (.nm 4) yesT (op2 dIn (vr 4) (op1 (getD' "Ask" "alphabet") (vr 0))))) argN)))))) (reS (cst (.bl false))) nxS) (sqS (asS 2 (ofL (lcO (rgF (opN cLen (argC (op1 (getD' "Ask" "texts") (vr 0)) argN))) [3] (.nm 3) (noT (tst (calF m_is_lost (argC (vr 0) (argC (vr 1) (argC (vr 3) argN)))))) (vr 3)))) (reS (op2 dGe (opN cLen (argC (vr 2) argN)) (op1 (getD' "Ask" "quorum") (vr 0))))))
def m_is_standing : List D → Res D := dfM 6 1 (sqS (ifS (orT (noT (tst (calF m_is_start (argC (vr 0) (argC (vr 2) (argC (vr 4) argN)))))) (tst (op2 dNe (opN cLen (argC (vr 0) argN)) (vr 2)))) (reS (cst (.bl false))) nxS) (reS (op2 dGe (opN cLen (argC (ofL (lcO (itF (vr 1)) [6] (.nm 6) (tst (op2 dLe (opN cMin (argC (calF m_row_of (argC (vr 6) (argC (vr 0) argN))) argN)) (vr 3))) (vr 6))) argN)) (vr 5))))
def m_need_case : List D → Res D := dfM 4 0 (sqS (exS (calF m_need_alphabet (argC (vr 3) argN))) (sqS (exS (calF m_need_word (argC (vr 0) (argC (vr 3) argN)))) (sqS (ifS (tst (op2 dGt (opN cLen (argC (vr 0) argN)) (cst (.int 5)))) (raX 4 (cst (.str [119, 111, 114, 100]))) nxS) (sqS (exS (kwF (kg 1 2 [(0, 0), (2, 0), (1, 0), (2, 1)] [.int 0]) m_need_number (argC (vr 1) argN) (argC (cst (.str [109, 97, 110, 121])) (argC (opN cLen (argC (vr 0) argN)) argN)))) (exS (kwF (kg 1 3 [(0, 0), (2, 0), (2, 1), (2, 2)] []) m_need_number (argC (vr 2) argN) (argC (cst (.str [108, 101, 110, 103, 116, 104])) (argC (cst (.int 1)) (argC (cst (.int 60)) argN)))))))))
def m_words_of : List D → Res D := dfM 2 4 (sqS (asS 2 (lstF (argC (cst (.str [])) argN))) (sqS (forS (rgF (vr 1)) (.nm 3) (asS 2 (ofL (lc2O (itF (vr 2)) [4, 5] (.nm 4) yesT (itF (vr 0)) [5] (.nm 5) yesT (op2 dAdd (vr 4) (vr 5)))))) (reS (vr 2))))
def m_lexicode : List D → Res D := dfM 3 3 (sqS (exS (calF m_need_case (argC (vr 0) (argC (vr 1) argN)))) (sqS (exS (kwF (kg 1 3 [(0, 0), (2, 0), (2, 1), (2, 2)] []) m_need_number (argC (vr 2) argN) (argC (cst (.str [97, 112, 97, 114, 116])) (argC (cst (.int 1)) (argC (vr 1) argN))))) (sqS (aoS 3 (lnO argN)) (sqS (forS (itF (calF m_words_of (argC (vr 0) (argC (vr 1) argN)))) (.nm 4) (ifS (tst (opN cAll (argC (ofL (lcO (itF (vr 3)) [5] (.nm 5) yesT (op2 dGe (calF m_unlike (argC (vr 4) (argC (vr 5) argN))) (vr 2)))) argN))) (apS 3 (vr 4)) nxS)) (reS (vr 3))))))
def m_pairs : List D → Res D := dfM 3 4 (sqS (exS (calF m_need_plain (argC (vr 0) argN))) (sqS (exS (kwF (kg 1 2 [(0, 0), (2, 0), (2, 1), (1, 0)] [.int 40]) m_need_number (argC (vr 1) argN) (argC (cst (.str [108, 101, 110, 103, 116, 104])) (argC (cst (.int 1)) argN)))) (sqS (exS (kwF (kg 1 2 [(0, 0), (2, 0), (1, 0), (2, 1)] [.int 0]) m_need_number (argC (vr 2) argN) (argC (cst (.str [109, 97, 110, 121])) (argC (vr 1) argN)))) (sqS (aoS 3 (lnO argN)) (sqS (forS (rgF (op2 dAdd (op2 dSub (opN cLen (argC (vr 0) argN)) (vr 1)) (cst (.int 1)))) (.nm 4) (forS (rg2F (op2 dAdd (vr 4) (vr 1)) (op2 dAdd (op2 dSub (opN cLen (argC (vr 0) argN)) (vr 1)) (cst (.int 1)))) (.nm 5) (sqS (asS 6 (calF m_unlike (argC (slF (vr 0) (soP (vr 4)) (soP (op2 dAdd (vr 4) (vr 1)))) (argC (slF (vr 0) (soP (vr 5)) (soP (op2 dAdd (vr 5) (vr 1)))) argN)))) (ifS (tst (op2 dLe (vr 6) (vr 2))) (apS 3 (tupF (argC (vr 4) (argC (vr 5) (argC (vr 6) argN))))) nxS)))) (reS (vr 3)))))))
def m_longest_twice : List D → Res D := dfM 2 2 (sqS (exS (calF m_need_plain (argC (vr 0) argN))) (sqS (ifS (noT (tst (calF m_is_number (argC (vr 1) (argC (cst (.int 0)) (argC (opN cLen (argC (vr 0) argN)) argN)))))) (raX 4 (cst (.str [109, 97, 110, 121]))) nxS) (sqS (forS (rg3F (op2 dFdiv (opN cLen (argC (vr 0) argN)) (cst (.int 2))) (cst (.int 0)) (op1 dNeg (cst (.int 1)))) (.nm 2) (sqS (asS 3 (calF m_pairs (argC (vr 0) (argC (vr 2) (argC (opN cMin (argC (vr 1) (argC (vr 2) argN))) argN))))) (ifS (tst (op2 dNe (vr 3) (lstF argN))) (reS (tupF (argC (vr 2) (argC (op2 dIx (op2 dIx (vr 3) (cst (.int 0))) (cst (.int 0))) (argC (op2 dIx (op2 dIx (vr 3) (cst (.int 0))) (cst (.int 1))) argN))))) nxS))) (reS (cst .non)))))
def m_middle : List D → Res D := dfM 2 1 (reS (mt1 tyStr dJoin (cst (.str [])) (ofL (lcO (itF (calF m_columns (argC (vr 0) (argC (vr 1) argN)))) [2] (.nm 2) yesT (op2 dIx (vr 1) (mt1 tyTup dTIndex (vr 2) (opN cMxT (argC (vr 2) argN))))))))
def m_most_apart : List D → Res D := dfM 3 0 (sqS (exS (calF m_need_case (argC (vr 0) (argC (vr 1) argN)))) (sqS (exS (kwF (kg 1 3 [(0, 0), (2, 0), (2, 1), (2, 2)] []) m_need_number (argC (vr 2) argN) (argC (cst (.str [97, 112, 97, 114, 116])) (argC (cst (.int 1)) (argC (vr 1) argN))))) (reS (op2 dFdiv (calF m_power (argC (opN cLen (argC (vr 0) argN)) (argC (vr 1) argN))) (calF m_how_many (argC (vr 1) (argC (op2 dFdiv (op2 dSub (vr 2) (cst (.int 1))) (cst (.int 2))) (argC (opN cLen (argC (vr 0) argN)) argN))))))))
def m_near : List D → Res D := dfM 3 6 (sqS (asS 3 (lstF (argC (tupF (argC (cst (.str [])) (argC (vr 1) argN))) argN))) (sqS (forS (itF (vr 0)) (.nm 4) (sqS (aoS 5 (lnO argN)) (sqS (forS (itF (vr 3)) (.tp [6, 7]) (forS (itF (vr 2)) (.nm 8) (ifS (orT (tst (op2 dEq (vr 8) (vr 4))) (tst (op2 dGt (vr 7) (cst (.int 0))))) (apS 5 (tupF (argC (op2 dAdd (vr 6) (vr 8)) (argC (op2 dSub (vr 7) (opN cInt (argC (op2 dNe (vr 8) (vr 4)) argN))) argN)))) nxS))) (fzS [5] (asS 3 (vr 5)))))) (reS (ofL (lcO (itF (vr 3)) [6, 7] (.tp [6, 7]) yesT (vr 6))))))
def m_need_length : List D → Res D := dfM 2 1 (ifS (noT (tst (calF m_is_number (argC (vr 1) (argC (cst (.int 1)) (argC (opN cMin (argC (op2 dAdd (lstF (argC (cst (.int 8)) argN)) (ofL (lcO (itF (vr 0)) [2] (.nm 2) yesT (opN cLen (argC (vr 2) argN))))) argN)) argN)))))) (raX 4 (cst (.str [108, 101, 110, 103, 116, 104]))) nxS)
def m_nearest : List D → Res D := dfM 3 7 (sqS (exS (calF m_need_texts (argC (vr 0) (argC (vr 2) argN)))) (sqS (exS (calF m_need_length (argC (vr 0) (argC (vr 1) argN)))) (sqS (pa3S 3 4 5 (.s (opN cSum (argC (ofL (lcO (itF (vr 0)) [8] (.nm 8) yesT (vr 1))) argN))) (.s (lstF argN)) (.o (lnO (argC (cst (.str [])) argN)))) (sqS (whS 10000 (tst (op2 dNe (vr 5) (lstF argN))) (sqS (poS 6 5) (sqS (asS 7 (calF m_floor_of (argC (vr 0) (argC (vr 6) (argC (vr 1) argN))))) (ifS (tst (op2 dLe (vr 7) (vr 3))) (ifS (tst (op2 dEq (opN cLen (argC (vr 6) argN)) (vr 1))) (sqS (asS 4 (ifF (tst (op2 dEq (vr 7) (vr 3))) (op2 dAdd (vr 4) (lstF (argC (vr 6) argN))) (lstF (argC (vr 6) argN)))) (asS 3 (vr 7))) (fzS [5] (aoS 5 (catO (vr 5) (ofL (lcO (itF (op1 dRev (vr 2))) [9] (.nm 9) yesT (op2 dAdd (vr 6) (vr 9)))))))) nxS)))) (reS (tupF (argC (vr 3) (argC (vr 4) argN))))))))
def m_need_deeds : List D → Res D := dfM 1 1 (ifS (orT (noT (tst (op1 (isiD "list") (vr 0)))) (noT (tst (opN cAll (argC (ofL (lcO (itF (vr 0)) [1] (.nm 1) yesT (calF m_is_deed (argC (vr 1) argN)))) argN))))) (raS 6) nxS)
def m_paper : List D → Res D := dfM 5 0 (reS (op2 dIx (calF m_walk (argC (calF (newM "Ask" 5 mi_Ask) (argC (vr 0) (argC (vr 1) (argC (vr 2) (argC (vr 3) (argC (vr 4) argN)))))) argN)) (cst (.int 1))))
def m_paper_by_edits : List D → Res D := dfM 5 1 (sqS (asS 5 (calF m_need_ask (argC (vr 0) (argC (vr 1) (argC (vr 2) (argC (vr 3) (argC (vr 4) argN))))))) (reS (op2 dIx (calF m_bend_walk (argC (vr 0) (argC (vr 1) (argC (vr 2) (argC (vr 3) (argC (vr 5) argN)))))) (cst (.int 1)))))
def m_parting : List D → Res D := dfM 5 1 (sqS (exS (calF m_need_texts (argC (vr 0) (argC (vr 4) argN)))) (sqS (exS (calF m_need_texts (argC (vr 1) (argC (vr 4) argN)))) (reS (ofL (lcO (itF (kwF (kg 4 0 [(0, 0), (0, 1), (0, 2), (0, 3), (1, 0)] [.non]) m_common (argC (vr 0) (argC (vr 2) (argC (vr 3) (argC (vr 4) argN)))) argN)) [5] (.nm 5) (tst (calF m_has_none (argC (vr 1) (argC (vr 5) (argC (vr 3) argN))))) (vr 5))))))
def m_periods : List D → Res D := dfM 2 2 (sqS (exS (calF m_need_plain (argC (vr 0) argN))) (sqS (exS (kwF (kg 1 2 [(0, 0), (2, 0), (1, 0), (2, 1)] [.int 0]) m_need_number (argC (vr 1) argN) (argC (cst (.str [109, 97, 110, 121])) (argC (opN cLen (argC (vr 0) argN)) argN)))) (reS (ofL (lcO (enF (calF m_against_itself (argC (vr 0) argN))) [2, 3] (.tp [2, 3]) (tst (op2 dLe (vr 3) (vr 1))) (op2 dAdd (vr 2) (cst (.int 1))))))))
def m_standing : List D → Res D := dfM 3 5 (sqS (asS 3 (ofL (lcO (enF (vr 0)) [5, 6] (.tp [5, 6]) yesT (tupF (argC (vr 5) (argC (opN cMin (argC (op2 dAdd (calF m_places (argC (vr 6) (argC (vr 1) argN))) (lstF (argC (op2 dAdd (vr 2) (cst (.int 1))) argN))) argN)) argN)))))) (sqS (asS 4 (ofL (lcO (itF (vr 3)) [5, 7] (.tp [5, 7]) (tst (op2 dLe (vr 7) (vr 2))) (tupF (argC (vr 5) (argC (vr 7) argN)))))) (reS (tupF (argC (ofL (lcO (itF (vr 4)) [5, 7] (.tp [5, 7]) yesT (vr 5))) (argC (opN cSum (argC (ofL (lcO (itF (vr 4)) [5, 7] (.tp [5, 7]) yesT (vr 7))) argN)) argN))))))
def m_sum_of : List D → Res D := dfM 2 1 (reS (opN cSum (argC (ofL (lcO (itF (vr 0)) [2] (.nm 2) yesT (opN cMin (argC (calF m_places (argC (vr 2) (argC (vr 1) argN))) argN)))) argN)))
def m_refined : List D → Res D := dfM 3 3 (sqS (aoS 3 (lnO (argC (vr 1) argN))) (sqS (asS 4 (calF m_best_pieces (argC (vr 0) (argC (vr 1) (argC (vr 2) argN))))) (sqS (asS 5 (calF m_middle (argC (vr 4) (argC (vr 2) argN)))) (sqS (whS 1000 (tst (op2 dLt (calF m_sum_of (argC (vr 0) (argC (vr 5) argN))) (calF m_sum_of (argC (vr 0) (argC (op2 dIx (vr 3) (op1 dNeg (cst (.int 1)))) argN))))) (sqS (apS 3 (vr 5)) (asS 5 (calF m_middle (argC (calF m_best_pieces (argC (vr 0) (argC (vr 5) (argC (vr 2) argN)))) (argC (vr 2) argN)))))) (reS (vr 3))))))
def m_runs : List D → Res D := dfM 2 3 (sqS (exS (calF m_need_plain (argC (vr 0) argN))) (sqS (ifS (noT (tst (calF m_is_number (argC (vr 1) (argC (cst (.int 1)) (argC (opN cLen (argC (vr 0) argN)) argN)))))) (raX 4 (cst (.str [115, 104, 105, 102, 116]))) nxS) (sqS (paS 3 4 (.o (lnO argN)) (.s (cst (.int 0)))) (sqS (forS (rgF (op2 dAdd (op2 dSub (opN cLen (argC (vr 0) argN)) (vr 1)) (cst (.int 1)))) (.nm 2) (ifS (orT (tst (op2 dEq (vr 2) (op2 dSub (opN cLen (argC (vr 0) argN)) (vr 1)))) (tst (op2 dNe (op2 dIx (vr 0) (vr 2)) (op2 dIx (vr 0) (op2 dAdd (vr 2) (vr 1)))))) (sqS (ifS (tst (op2 dGe (op2 dSub (op2 dAdd (vr 2) (vr 1)) (vr 4)) (op2 dMul (cst (.int 2)) (vr 1)))) (apS 3 (tupF (argC (vr 4) (argC (op2 dAdd (vr 2) (vr 1)) argN)))) nxS) (asS 4 (op2 dAdd (vr 2) (cst (.int 1))))) nxS)) (reS (vr 3))))))
def m_seeded : List D → Res D := dfM 3 4 (sqS (exS (calF m_need_plain (argC (vr 0) argN))) (sqS (exS (calF m_need_plain (argC (vr 1) argN))) (sqS (exS (kwF (kg 1 2 [(0, 0), (2, 0), (1, 0), (2, 1)] [.int 0]) m_need_number (argC (vr 2) argN) (argC (cst (.str [109, 97, 110, 121])) (argC (op2 dSub (opN cLen (argC (vr 1) argN)) (cst (.int 1))) argN)))) (sqS (aoS 3 (lnO argN)) (sqS (forS (rgF (op2 dAdd (op2 dSub (opN cLen (argC (vr 0) argN)) (opN cLen (argC (vr 1) argN))) (cst (.int 1)))) (.nm 4) (ifS (tst (opN cAny (argC (ofL (lcO (itF (calF m_cut_up (argC (vr 1) (argC (vr 2) argN)))) [5, 6] (.tp [5, 6]) yesT (op2 dEq (slF (vr 0) (soP (op2 dAdd (vr 4) (vr 5))) (soP (op2 dAdd (op2 dAdd (vr 4) (vr 5)) (opN cLen (argC (vr 6) argN))))) (vr 6)))) argN))) (apS 3 (vr 4)) nxS)) (reS (vr 3)))))))
def m_seeds : List D → Res D := dfM 2 0 (sqS (exS (calF m_need_plain (argC (vr 0) argN))) (sqS (exS (kwF (kg 1 2 [(0, 0), (2, 0), (1, 0), (2, 1)] [.int 0]) m_need_number (argC (vr 1) argN) (argC (cst (.str [109, 97, 110, 121])) (argC (op2 dSub (opN cLen (argC (vr 0) argN)) (cst (.int 1))) argN)))) (reS (calF m_cut_up (argC (vr 0) (argC (vr 1) argN))))))
def m_shortest_parting : List D → Res D := dfM 4 2 (sqS (exS (calF m_need_texts (argC (vr 0) (argC (vr 3) argN)))) (sqS (exS (calF m_need_texts (argC (vr 1) (argC (vr 3) argN)))) (sqS (ifS (noT (tst (calF m_is_number (argC (vr 2) (argC (cst (.int 0)) (argC (cst (.int 6)) argN)))))) (raX 4 (cst (.str [109, 97, 110, 121]))) nxS) (sqS (forS (rg2F (opN cMax (argC (cst (.int 1)) (argC (vr 2) argN))) (cst (.int 7))) (.nm 4) (sqS (asS 5 (calF m_parting (argC (vr 0) (argC (vr 1) (argC (vr 4) (argC (vr 2) (argC (vr 3) argN))))))) (ifS (tst (op2 dNe (vr 5) (lstF argN))) (reS (op2 dIx (vr 5) (cst (.int 0)))) nxS))) (reS (cst .non))))))
def m_slips : List D → Res D := dfM 2 0 (sqS (exS (calF m_need_plain (argC (vr 0) argN))) (sqS (exS (calF m_need_plain (argC (vr 1) argN))) (sqS (ifS (tst (op2 dNe (opN cLen (argC (vr 0) argN)) (opN cLen (argC (vr 1) argN)))) (raX 8 (tupF (argC (opN cLen (argC (vr 0) argN)) (argC (opN cLen (argC (vr 1) argN)) argN)))) nxS) (reS (calF m_unlike (argC (vr 0) (argC (vr 1) argN)))))))
def m_spaced_places : List D → Res D := dfM 2 1 (sqS (exS (calF m_need_plain (argC (vr 0) argN))) (sqS (exS (calF m_need_spaced (argC (vr 1) argN))) (reS (ofL (lcO (rgF (op2 dAdd (op2 dSub (opN cLen (argC (vr 0) argN)) (opN cLen (argC (vr 1) argN))) (cst (.int 1)))) [2] (.nm 2) (tst (calF m_fits (argC (slF (vr 0) (soP (vr 2)) (soP (op2 dAdd (vr 2) (opN cLen (argC (vr 1) argN))))) (argC (vr 1) argN)))) (vr 2))))))
def m_spots : List D → Res D := dfM 3 2 (sqS (exS (calF m_need_plain (argC (vr 0) argN))) (sqS (exS (calF m_need_plain (argC (vr 1) argN))) (sqS (exS (kwF (kg 1 2 [(0, 0), (2, 0), (1, 0), (2, 1)] [.int 0]) m_need_number (argC (vr 2) argN) (argC (cst (.str [109, 97, 110, 121])) (argC (opN cLen (argC (vr 1) argN)) argN)))) (reS (ofL (lcO (enF (calF m_places (argC (vr 0) (argC (vr 1) argN)))) [3, 4] (.tp [3, 4]) (tst (op2 dLe (vr 4) (vr 2))) (tupF (argC (vr 3) (argC (vr 4) argN)))))))))
def m_total : List D → Res D := dfM 3 1 (sqS (exS (calF m_need_texts (argC (vr 0) (argC (vr 2) argN)))) (sqS (exS (calF m_need_word (argC (vr 1) (argC (vr 2) argN)))) (sqS (ifS (tst (opN cAny (argC (ofL (lcO (itF (vr 0)) [3] (.nm 3) yesT (op2 dLt (opN cLen (argC (vr 3) argN)) (opN cLen (argC (vr 1) argN))))) argN))) (reS (cst .non)) nxS) (reS (calF m_sum_of (argC (vr 0) (argC (vr 1) argN)))))))
def m_uncovered : List D → Res D := dfM 4 2 (sqS (exS (calF m_need_case (argC (vr 3) (argC (vr 1) argN)))) (sqS (exS (kwF (kg 1 2 [(0, 0), (2, 0), (1, 0), (2, 1)] [.int 0]) m_need_number (argC (vr 2) argN) (argC (cst (.str [109, 97, 110, 121])) (argC (vr 1) argN)))) (sqS (ifS (orT (noT (tst (op1 (isiD "list") (vr 0)))) (noT (tst (opN cAll (argC (ofL (lcO (itF (vr 0)) [5] (.nm 5) yesT (anF (op1 (isiD "str") (vr 5)) (op2 dEq (opN cLen (argC (vr 5) argN)) (vr 1))))) argN))))) (raX 4 (cst (.str [119, 111, 114, 100, 115]))) nxS) (reS (ofL (lcO (itF (calF m_words_of (argC (vr 3) (argC (vr 1) argN)))) [4] (.nm 4) (tst (opN cAll (argC (ofL (lcO (itF (vr 0)) [5] (.nm 5) yesT (op2 dGt (calF m_unlike (argC (vr 4) (argC (vr 5) argN))) (vr 2)))) argN))) (vr 4)))))))
def m_widest : List D → Res D := dfM 2 4 (sqS (exS (calF m_need_lot (argC (vr 0) (argC (vr 1) argN)))) (sqS (asS 2 (cst .non)) (sqS (forS (rgF (opN cLen (argC (vr 0) argN))) (.nm 3) (forS (rg2F (op2 dAdd (vr 3) (cst (.int 1))) (opN cLen (argC (vr 0) argN))) (.nm 4) (sqS (asS 5 (calF m_unlike (argC (op2 dIx (vr 0) (vr 3)) (argC (op2 dIx (vr 0) (vr 4)) argN)))) (asS 2 (ifF (orT (tst (op2 dIs (vr 2) (cst .non))) (tst (op2 dGt (vr 5) (op2 dIx (vr 2) (cst (.int 0)))))) (tupF (argC (vr 5) (argC (vr 3) (argC (vr 4) argN)))) (vr 2)))))) (reS (vr 2)))))
def m_words_within : List D → Res D := dfM 3 0 (sqS (exS (calF m_need_alphabet (argC (vr 2) argN))) (sqS (exS (calF m_need_word (argC (vr 0) (argC (vr 2) argN)))) (sqS (exS (kwF (kg 1 2 [(0, 0), (2, 0), (1, 0), (2, 1)] [.int 0]) m_need_number (argC (vr 1) argN) (argC (cst (.str [109, 97, 110, 121])) (argC (opN cLen (argC (vr 0) argN)) argN)))) (sqS (ifS (tst (op2 dGt (calF m_how_many (argC (opN cLen (argC (vr 0) argN)) (argC (vr 1) (argC (opN cLen (argC (vr 2) argN)) argN)))) (cst (.int 5000)))) (raX 4 (cst (.str [109, 97, 110, 121]))) nxS) (reS (calF m_near (argC (vr 0) (argC (vr 1) (argC (vr 2) argN)))))))))
end Pu

namespace Pu
open PySem L2
/-! ### plain facts that laws share -/
theorem eLn {fs : Fs} {ε : Pu.Env} {ds : List D} (h1 : fs ε = .ok ds) (h2 : ds.length ≤ 1000) : lnO fs ε = .ok ds := by
  unfold lnO
  rw [h1, Res.bind_ok, if_pos h2]
theorem rowAt {l : List Int} {j : Nat} (h : j < l.length) : dIx (.lst (l.map .int)) (.int (j : Nat)) = some (.int (l.getD j 0)) := by
  show atI (l.map D.int) ((j : Nat) : Int) = _
  rw [atI_nat (by rw [List.length_map]; exact h), List.getElem_map, List.getD_eq_getElem?_getD, List.getElem?_eq_getElem h]
  rfl
theorem rowAt1 {l : List Int} {j : Nat} (h : j + 1 < l.length) : dIx (.lst (l.map .int)) (.int (((j : Nat) : Int) + 1)) = some (.int (l.getD (j + 1) 0)) := by
  have e : (((j : Nat) : Int) + 1) = ((j + 1 : Nat) : Int) := by omega
  rw [e]
  exact rowAt h
theorem lastAt {l : List Int} {j : Nat} (h : l.length = j + 1) : dIx (.lst (l.map .int)) (.int (-1)) = some (.int (l.getD j 0)) := by
  have e : dIx (.lst (l.map .int)) (.int (-1)) = dIx (.lst (l.map .int)) (.int (j : Nat)) := by
    show atI (l.map D.int) (-1) = atI (l.map D.int) ((j : Nat) : Int)
    unfold atI
    have e1 : ixN (l.map D.int).length (-1) = some j := by
      unfold ixN
      rw [if_neg (by decide), if_pos (by rw [List.length_map, h]; omega), List.length_map, h]
      congr 1
      omega
    have e2 : ixN (l.map D.int).length ((j : Nat) : Int) = some j := by
      unfold ixN
      rw [if_pos (by omega), List.length_map, h]
      have : ((j : Nat) : Int).toNat = j := by omega
      rw [this]
      exact if_pos (by omega)
    rw [e1, e2]
  rw [e]
  exact rowAt (by omega)
theorem intNe (s c : Nat) : (opN cInt (argC (cst (.bl (!eqd (.str [s]) (.str [c])))) argN)) [] = .ok (.int (if s = c then 0 else 1)) := by
  refine eN rfl ?_
  show some (D.int (if (!eqd (.str [s]) (.str [c])) = true then 1 else 0)) = _
  rw [eqd_str]
  by_cases h : s = c
  · subst h
    simp
  · simp [h]
theorem intNe' {a b : F} {ε : Pu.Env} {s c : Nat} (h1 : a ε = .ok (.str [s])) (h2 : b ε = .ok (.str [c])) : (opN cInt (argC (op2 dNe a b) argN)) ε = .ok (.int (if s = c then 0 else 1)) := by
  have e : (opN cInt (argC (op2 dNe a b) argN)) ε = (opN cInt (argC (cst (.bl (!eqd (.str [s]) (.str [c])))) argN)) [] := by
    unfold opN
    rw [eC (e2 h1 h2 (neq (by simp) (by simp))) rfl]
    rfl
  rw [e]
  exact intNe s c
theorem al_ok : ∀ a ∈ A4, m_is_alphabet [.str a] = .ok (.bl true) := by
  intro a h
  simp only [A4, List.mem_cons, List.not_mem_nil, or_false] at h
  rcases h with rfl | rfl | rfl | rfl <;> rfl
theorem al_q : ∀ a ∈ A4, 113 ∉ a := by decide
theorem al_one : ∀ a ∈ A4, ∀ s ∈ a, (a.filter fun c => decide (c = s)).length = 1 := by decide
theorem al_len : ∀ a ∈ A4, a.length = 2 ∨ a.length = 3 ∨ a.length = 4 := by decide
theorem need_al {a : List Nat} (ha : a ∈ A4) : m_need_alphabet [.str a] = .ok .non :=
  dm rfl (congrArg outR (if_no (tNo (tB ((eK (eC rfl rfl)).trans (al_ok a ha))))))
theorem is_word_str {a w : List Nat} (ha : a ∈ A4) (hw : plainB (.str w) = true) : m_is_word [.str w, .str a] = .ok (.bl ((w.map fun c => decide (c ∈ a)).all id)) := by
  refine dm rfl (sq_to (ex_nx ((eK (eC rfl rfl)).trans (need_al ha))) (re_to ?_))
  refine (eAn (x := true) (y := (w.map fun c => decide (c ∈ a)).all id) ((eK (eC rfl rfl)).trans ((is_plain_ok (plain_ok hw)).trans (by rw [hw]))) fun _ => ?_)
  refine eN (eC (eO (eLc (eI rfl rfl) (by rw [List.length_map]; have := plain_len hw; omega) (lcGo_im (g := fun c => .bl (decide (c ∈ a))) (ps := fun c => [(2, .str [c])]) fun c _ => ⟨rfl, e2 rfl rfl rfl⟩))) rfl) ?_
  show (blsOf _).map _ = _
  rw [bls_map]
  rfl
theorem all_in {a w : List Nat} (h : ∀ c ∈ w, c ∈ a) : (w.map fun c => decide (c ∈ a)).all id = true := by
  rw [List.all_map]
  exact List.all_eq_true.mpr fun c hc => decide_eq_true (h c hc)
def allw (al : List Nat) : Nat → List (List Nat)
  | 0 => [[]]
  | n + 1 => (allw al n).flatMap fun r => al.map fun c => r ++ [c]
theorem allw_len {al : List Nat} : ∀ {n : Nat} {u : List Nat}, u ∈ allw al n → u.length = n
  | 0, u, h => by rw [List.mem_singleton.mp h]; rfl
  | n + 1, u, h => by
    obtain ⟨r, hr, h2⟩ := List.mem_flatMap.mp h
    obtain ⟨c, _, rfl⟩ := List.mem_map.mp h2
    rw [List.length_append, allw_len hr]
    rfl
theorem allw_many {al : List Nat} (ha : al.length ≤ 4) : ∀ n, (allw al n).length ≤ 4 ^ n
  | 0 => Nat.le_refl _
  | n + 1 => by
    have key : ∀ L : List (List Nat), (L.flatMap fun r => al.map fun c => r ++ [c]).length ≤ L.length * 4 := by
      intro L
      induction L with
      | nil => exact Nat.le_refl _
      | cons r L ih =>
        rw [List.flatMap_cons, List.length_append, List.length_map]
        show _ ≤ (L.length + 1) * 4
        omega
    have h1 := key (allw al n)
    have h2 := allw_many ha n
    show ((allw al n).flatMap fun r => al.map fun c => r ++ [c]).length ≤ _
    rw [Nat.pow_succ]
    omega
theorem all_in_loop {al : List Nat} {n rows k : Sl} (ha : al.length ≤ 4) : ∀ (rs : List (List Nat)) (acc : List D) (x y : Sl), (∀ r ∈ rs, r.length ≤ 900) → acc.length + (rs.flatMap fun r => al.map fun c => r ++ [c]).length ≤ 100000 → ∃ x' y', forGo (.nm 5) (asS 4 (op2 dAdd (vr 4) (ofL (lcO (itF (vr 0)) [6] (.nm 6) yesT (op2 dAdd (vr 5) (vr 6))))))
    (rs.map .str) [.sh (.str al), n, rows, k, .sh (.lst acc), x, y] = .nx [.sh (.str al), n, rows, k, .sh (.lst (acc ++ (rs.flatMap fun r => al.map fun c => r ++ [c]).map .str)), x', y']
  | [], acc, x, y, _, _ => ⟨x, y, by simp [forGo]⟩
  | r :: rs, acc, x, y, hr, hl => by
    have en : ((r :: rs).flatMap fun r => al.map fun c => r ++ [c]) = (al.map fun c => r ++ [c]) ++ rs.flatMap fun r => al.map fun c => r ++ [c] := List.flatMap_cons
    rw [en, List.length_append, List.length_map] at hl
    obtain ⟨x', y', e⟩ := all_in_loop (n := n) (rows := rows) (k := k) ha rs (acc ++ (al.map fun c => r ++ [c]).map .str) (.sh (.str r)) y (fun q hq => hr q (List.mem_cons_of_mem _ hq)) (by rw [List.length_append, List.length_map, List.length_map]; omega)
    have lr := hr r List.mem_cons_self
    refine ⟨x', y', ?_⟩
    rw [List.map_cons, for_cons (ps := [(5, .str r)]) (ρ' := [.sh (.str al), n, rows, k, .sh (.lst (acc ++ (al.map fun c => r ++ [c]).map .str)), .sh (.str r), y]) rfl, e, en, List.map_append, List.append_assoc]
    refine as_nx (e2 rfl (eO (eLc (ds := al.map fun c => D.str [c]) rfl (by rw [List.length_map]; omega) (lcGo_im (g := fun c => .str (r ++ [c])) (ps := fun c => [(6, .str [c])]) fun c _ => ⟨rfl, e2 rfl rfl (if_pos (by show r.length + 1 ≤ _; omega))⟩))) ?_)
    rw [List.map_map]
    exact if_pos (by rw [List.length_map]; omega)
theorem all_loop {al : List Nat} {n : Sl} (ha : al.length ≤ 4) : ∀ (l : List Nat) (j : Nat) (a b c d : Sl), j + l.length ≤ 6 → ∃ a' b' c' d', forGo (.nm 3) (sqS (asS 4 (lstF argN)) (sqS (forS (itF (vr 2)) (.nm 5) (asS 4 (op2 dAdd (vr 4) (ofL (lcO (itF (vr 0)) [6] (.nm 6) yesT (op2 dAdd (vr 5) (vr 6))))))) (asS 2 (vr 4))))
    (l.map fun i => D.int (i : Nat)) [.sh (.str al), n, .sh (.lst ((allw al j).map .str)), a, b, c, d] = .nx [.sh (.str al), n, .sh (.lst ((allw al (j + l.length)).map .str)), a', b', c', d']
  | [], j, a, b, c, d, _ => ⟨a, b, c, d, rfl⟩
  | i :: l, j, a, b, c, d, hj => by
    have hj : j + (l.length + 1) ≤ 6 := hj
    have big : (allw al (j + 1)).length ≤ 5000 := by
      have := allw_many ha (j + 1)
      have h2 : 4 ^ (j + 1) ≤ 4 ^ 6 := Nat.pow_le_pow_right (by decide) (by omega)
      have h3 : (4 : Nat) ^ 6 = 4096 := rfl
      omega
    obtain ⟨x1, y1, ei⟩ := all_in_loop (n := n) (rows := .sh (.lst ((allw al j).map .str))) (k := .sh (.int (i : Nat))) ha (allw al j) [] c d (fun r hr => by rw [allw_len hr]; omega) (by show 0 + (allw al (j + 1)).length ≤ _; omega)
    obtain ⟨a', b', c', d', e⟩ := all_loop (n := n) ha l (j + 1) (.sh (.int (i : Nat))) (.sh (.lst ((allw al (j + 1)).map .str))) x1 y1 (by omega)
    refine ⟨a', b', c', d', ?_⟩
    have ej : j + (i :: l).length = j + 1 + l.length := by show j + (l.length + 1) = _; omega
    rw [List.map_cons, for_cons (ps := [(3, .int (i : Nat))]) (ρ' := [.sh (.str al), n, .sh (.lst ((allw al (j + 1)).map .str)), .sh (.int (i : Nat)), .sh (.lst ((allw al (j + 1)).map .str)), x1, y1]) rfl, e, ej]
    refine (sq_nx (as_nx (d := .lst []) rfl)).trans ?_
    refine (sq_nx ((for_go (ds := (allw al j).map .str) rfl).trans ei)).trans ?_
    rw [List.nil_append]
    rfl
theorem all_ok {al : List Nat} {n : Nat} (ha : al.length ≤ 4) (hn : n ≤ 6) : m__law_all [.str al, .int n] = .ok (.lst ((allw al n).map .str)) := by
  obtain ⟨a', b', c', d', e⟩ := all_loop (n := .sh (.int (n : Nat))) ha (List.range n) 0 .no .no .no .no (by rw [List.length_range]; omega)
  rw [List.length_range, Nat.zero_add] at e
  exact dm rfl (sq_to (as_nx (d := .lst [.str []]) rfl) (sq_to ((for_go (ds := rgD 0 ((n : Nat) : Int)) (eR rfl (by omega))).trans ((congrArg (fun l => forGo _ _ l _) (rgD_nat n)).trans e)) (re_to rfl)))
theorem is_word_in {a t : List Nat} {most : Nat} (ha : a ∈ A4) (h : Tx a most t) (hm : most ≤ 40) : m_is_word [.str t, .str a] = .ok (.bl true) := by
  have pt := wd_plain (n := t.length) (a4_let a ha).1 ⟨rfl, h.2⟩ h.1.1 (Nat.le_trans h.1.2 hm)
  rw [is_word_str ha pt, all_in h.2]
theorem need_texts_ok {a : List Nat} {ts : List (List Nat)} {most : Nat} (ha : a ∈ A4) (h1 : 1 ≤ ts.length) (h2 : ts.length ≤ 12) (ht : ∀ t ∈ ts, Tx a most t) (hm : most ≤ 40) : m_need_texts [.lst (ts.map .str), .str a] = .ok .non := by
  refine dm rfl (sq_to (ex_nx ((eK rfl).trans (need_al ha))) (sq_to (if_nx (tOr (x := false) (y := false) (tNo (x := true) (tB rfl)) fun _ => tNo (x := true) (tB (eCh (s := true) rfl (eN (eC rfl rfl) rfl) (congrArg (fun b => some (D.bl b)) (decide_eq_true ?_)) (fun _ => ⟨_, rfl, congrArg (fun b => some (D.bl b)) (decide_eq_true ?_)⟩) (fun z => nomatch z))))) ?_))
  · rw [List.length_map]; omega
  · rw [List.length_map]; omega
  · refine congrArg outR (if_no (tNo (x := true) (tB (eN (eC (eO (eLc rfl (by rw [List.length_map]; omega) (lcGo_im (h := .str) (g := fun _ => .bl true) (ps := fun t => [(2, .str t)]) fun t h => ⟨rfl, (eK rfl).trans (is_word_in ha (ht t h) hm)⟩))) rfl) ?_))))
    show (blsOf _).map _ = _
    rw [bls_map]
    refine congrArg (fun b => some (D.bl b)) ?_
    rw [List.all_map]
    exact List.all_eq_true.mpr fun _ _ => rfl
theorem num_in {lo hi i : Int} (h1 : lo ≤ i) (h2 : i ≤ hi) : numB lo hi (.int i) = true := by
  show (decide (lo ≤ i) && decide (i ≤ hi)) = true
  rw [decide_eq_true h1, decide_eq_true h2]
  rfl
theorem pot_nx {ρ : SEnv} {s i j : Nat} {l : List D} {x y : D} (h : ρ[s]? = some (.ow (l ++ [.tup [x, y]]))) : poT (.tp [i, j]) s ρ = .nx (setsS (ρ.set s (.ow l)) [(i, x), (j, y)]) := by
  have e1 : (l ++ [D.tup [x, y]])[(l ++ [D.tup [x, y]]).length - 1]? = some (.tup [x, y]) := by simp
  have e2 : (l ++ [D.tup [x, y]]).dropLast = l := List.dropLast_concat
  unfold poT
  rw [h]
  show (match (l ++ [D.tup [x, y]])[(l ++ [D.tup [x, y]]).length - 1]? with | some d => _ | none => _) = _
  rw [e1, e2]
  rfl
theorem zip_two {α : Type} (f g : α → D) : ∀ l : List α, ziD (l.map f) (l.map g) = l.map fun x => .tup [f x, g x]
  | [] => rfl
  | x :: l => by
    have := zip_two f g l
    unfold ziD at this ⊢
    rw [List.map_cons, List.map_cons, List.zipWith_cons_cons, this] <;> rfl
theorem cut_pcs {t : List Nat} {i l : Nat} (h : i + l ≤ t.length) : cut t (some ((i : Nat) : Int)) (some (((i : Nat) : Int) + ((l : Nat) : Int))) = pcs t i l := by
  have e : (((i : Nat) : Int) + ((l : Nat) : Int)) = ((i + l : Nat) : Int) := by omega
  unfold cut pcs
  rw [e, HT.sIx_nat, HT.sIx_nat, Nat.min_eq_left h, Nat.min_eq_left (show i ≤ t.length by omega), Nat.add_sub_cancel_left]
theorem cnt_nilR (p : List Nat) : cnt p [] = 0 := by
  unfold cnt
  rw [List.zip_nil_right]
  rfl
/-- one letter more -/
theorem cnt_more : ∀ (p u : List Nat) (c : Nat), u.length < p.length → cnt p (u ++ [c]) = cnt p u + (if p.getD u.length 0 = c then 0 else 1)
  | [], u, c, h => absurd h (Nat.not_lt_zero _)
  | a :: p, [], c, _ => by
    have e := cnt_app (a := [a]) (c := [c]) p [] rfl
    have e1 : cnt [a] [c] = if a = c then 0 else 1 := by
      unfold cnt
      by_cases z : a = c
      · simp [z]
      · simp [z]
    show cnt (a :: p) [c] = cnt (a :: p) [] + (if a = c then 0 else 1)
    rw [cnt_nilR, Nat.zero_add, ← e1]
    rw [List.singleton_append, List.append_nil, cnt_nilR] at e
    exact e
  | a :: p, b :: u, c, h => by
    have ih := cnt_more p u c (by simpa using h)
    have e1 := cnt_app (a := [a]) (c := [b]) p (u ++ [c]) rfl
    have e2 := cnt_app (a := [a]) (c := [b]) p u rfl
    rw [List.singleton_append, List.singleton_append] at e1 e2
    show cnt (a :: p) (b :: (u ++ [c])) = cnt (a :: p) (b :: u) + (if p.getD u.length 0 = c then 0 else 1)
    omega
theorem cnt_cut : ∀ (p u : List Nat), cnt (p.take u.length) u = cnt p u
  | [], u => by rw [List.take_nil]
  | a :: p, [] => by rw [cnt_nilR, cnt_nilR]
  | a :: p, b :: u => by
    have ih := cnt_cut p u
    have e1 := cnt_app (a := [a]) (c := [b]) (p.take u.length) u rfl
    have e2 := cnt_app (a := [a]) (c := [b]) p u rfl
    rw [List.singleton_append, List.singleton_append] at e1 e2
    show cnt (a :: p.take u.length) (b :: u) = _
    omega
def pz (L : Nat) (t : List Nat) : List (List Nat) := (List.range (t.length + 1 - L)).map fun i => pcs t i L
theorem pz_len {L : Nat} {t p : List Nat} (h : p ∈ pz L t) : p.length = L := by
  obtain ⟨i, hi, rfl⟩ := List.mem_map.mp h
  have := List.mem_range.mp hi
  exact pcs_len (by omega)
theorem at_sign {p : List Nat} {k : Nat} (h : k < p.length) (hl : p.length ≤ 1000) : dIx (.str p) (.int (k : Nat)) = some (.str [p.getD k 0]) := by
  show (if p.length ≤ 16777216 then (atI p ((k : Nat) : Int)).map fun c => D.str [c] else none) = _
  rw [if_pos (by omega), atI_nat h, List.getD_eq_getElem?_getD, List.getElem?_eq_getElem h]
  rfl
theorem par3_nx {i j l : Nat} {z1 z2 z3 : Zm} {ρ : SEnv} {s t u : Sl} (h1 : ∀ k, zRun z1 ρ k = k s) (h2 : ∀ k, zRun z2 ρ k = k t) (h3 : ∀ k, zRun z3 ρ k = k u) : pa3S i j l z1 z2 z3 ρ = .nx (((ρ.set i s).set j t).set l u) := by
  unfold pa3S
  rw [h1, h2, h3]
theorem kw41 {m : List D → Res D} {as ks : Fs} {ε : Pu.Env} {x0 x1 x2 x3 z : D} (h1 : as ε = .ok [x0, x1, x2, x3]) (h2 : ks ε = .ok [z]) : kwF (kg 4 1 [(0, 0), (0, 1), (0, 2), (0, 3), (2, 0)] []) m as ks ε = m [x0, x1, x2, x3, z] := (eKw h1 h2).trans rfl
theorem kw40 {m : List D → Res D} {as : Fs} {ε : Pu.Env} {x0 x1 x2 x3 : D} (h1 : as ε = .ok [x0, x1, x2, x3]) : kwF (kg 4 0 [(0, 0), (0, 1), (0, 2), (0, 3), (1, 0)] [.non]) m as argN ε = m [x0, x1, x2, x3, .non] := (eKw h1 rfl).trans rfl
theorem alpha3 {r : Nat} (h : r < 3) : ∃ a ∈ A4, a.length ≤ 3 ∧ dIx (.lst [.str [97, 98], .str [97, 99], .str [97, 98, 99]]) (.int r) = some (.str a) := by
  match r, h with
  | 0, _ => exact ⟨[97, 98], by decide, by decide, rfl⟩
  | 1, _ => exact ⟨[97, 99], by decide, by decide, rfl⟩
  | 2, _ => exact ⟨[97, 98, 99], by decide, by decide, rfl⟩
theorem filter_len_le {α : Type} {p q : α → Bool} (h : ∀ x, p x = true → q x = true) : ∀ l : List α, (l.filter p).length ≤ (l.filter q).length
  | [] => Nat.le_refl _
  | x :: l => by
    have ih := filter_len_le h l
    by_cases c : p x = true
    · rw [List.filter_cons_of_pos c, List.filter_cons_of_pos (h x c), List.length_cons, List.length_cons]
      omega
    · rw [List.filter_cons_of_neg c]
      by_cases d : q x = true
      · rw [List.filter_cons_of_pos d, List.length_cons]
        omega
      · rw [List.filter_cons_of_neg d]
        exact ih
theorem cnt_up : ∀ (p u : List Nat) (c : Nat), cnt p u ≤ cnt p (u ++ [c])
  | [], u, c => by
    unfold cnt
    rw [List.zip_nil_left]
    exact Nat.zero_le _
  | a :: p, [], c => by
    rw [cnt_nilR]
    exact Nat.zero_le _
  | a :: p, b :: u, c => by
    have ih := cnt_up p u c
    have e1 := cnt_app (a := [a]) (c := [b]) p (u ++ [c]) rfl
    have e2 := cnt_app (a := [a]) (c := [b]) p u rfl
    rw [List.singleton_append, List.singleton_append] at e1 e2
    show cnt (a :: p) (b :: u) ≤ cnt (a :: p) (b :: (u ++ [c]))
    omega
theorem allw_cons (al : List Nat) : ∀ n, allw al (n + 1) = al.flatMap fun c => (allw al n).map fun r => c :: r
  | 0 => by
    show ([[]] : List (List Nat)).flatMap (fun r => al.map fun c => r ++ [c]) = al.flatMap fun c => ([[]] : List (List Nat)).map fun r => c :: r
    rw [List.flatMap_singleton, List.map_eq_flatMap]
    rfl
  | n + 1 => by
    show (allw al (n + 1)).flatMap (fun r => al.map fun c => r ++ [c]) = al.flatMap fun c => ((allw al n).flatMap fun r => al.map fun c => r ++ [c]).map fun r => c :: r
    rw [allw_cons al n, List.flatMap_assoc]
    refine congrArg (fun f => al.flatMap f) (funext fun c => ?_)
    rw [List.flatMap_map, List.map_flatMap]
    refine congrArg (fun f => (allw al n).flatMap f) (funext fun r => ?_)
    rw [List.map_map]
    rfl
theorem filter_parts {α : Type} (p : α → Bool) : ∀ l : List α, (l.filter p).length + (l.filter fun x => !p x).length = l.length
  | [] => rfl
  | x :: l => by
    have ih := filter_parts p l
    by_cases c : p x = true
    · rw [List.filter_cons_of_pos c, List.filter_cons_of_neg (by simp [c]), List.length_cons, List.length_cons]
      omega
    · rw [List.filter_cons_of_neg c, List.filter_cons_of_pos (by simp [c]), List.length_cons, List.length_cons]
      omega
theorem eq_slips : m__law_slips = Pu.m_unlike := rfl
theorem dep_strs (l : List (List Nat)) : dep (.lst (l.map .str)) ≤ 60 := by
  rw [dep_lst]
  have : depL (l.map D.str) ≤ 0 := depL_map fun _ _ => Nat.le_refl _
  omega
theorem pz_cut {L : Nat} {t u : List Nat} (hu : u.length ≤ L) : ((List.range (t.length + 1 - L)).map fun i => D.int ((cnt (cut t (some (0 + ((i : Nat) : Int))) (some (0 + ((i : Nat) : Int) + ((u.length : Nat) : Int)))) u : Nat) : Int)) = (pz L t).map fun p => D.int ((cnt p u : Nat) : Int) := by
  unfold pz
  rw [List.map_map]
  refine List.map_congr_left fun i hi => ?_
  have := List.mem_range.mp hi
  show D.int ((cnt (cut t (some (0 + ((i : Nat) : Int))) (some (0 + ((i : Nat) : Int) + ((u.length : Nat) : Int)))) u : Nat) : Int) = D.int ((cnt (pcs t i L) u : Nat) : Int)
  have e : pcs t i u.length = (pcs t i L).take u.length := by
    unfold pcs
    rw [List.take_take, Nat.min_eq_left hu]
  rw [Int.zero_add, cut_pcs (by omega), e, cnt_cut]
theorem places_ok {t w : List Nat} (hw : w.length ≤ 900) (t2 : t.length ≤ 900) : m_places [.str t, .str w] = .ok (.lst ((pz w.length t).map fun p => D.int ((cnt p w : Nat) : Int))) := by
  have ek : ((((t.length : Nat) : Int) - ((w.length : Nat) : Int) + 1) - 0).toNat = t.length + 1 - w.length := by omega
  refine dm rfl (re_to (eO (eLc (ds := rgD 0 (((t.length : Nat) : Int) - ((w.length : Nat) : Int) + 1)) (eR (e2 (e2 (eN (eC rfl rfl) (lenq (by omega))) (eN (eC rfl rfl) (lenq (by omega))) rfl) rfl rfl) (by omega)) (by unfold rgD; rw [List.length_map, List.length_range]; omega) ?_)))
  unfold rgD
  rw [ek, ← pz_cut (u := w) (Nat.le_refl _)]
  exact lcGo_im (ps := fun i => [(2, D.int (0 + (i : Nat)))]) fun i _ => ⟨rfl, (eK (eC (eS rfl (eP rfl) (eP (e2 rfl (eN (eC rfl rfl) (lenq (by omega))) rfl)) (slq (by omega))) (eC rfl rfl))).trans (unlike_ok (by have := cut_len t (some (0 + ((i : Nat) : Int))) (some (0 + ((i : Nat) : Int) + ((w.length : Nat) : Int))); omega))⟩
theorem need_al_no : m_need_alphabet [.str [98, 97]] = .ex ⟨1, none⟩ := rfl
theorem texts_no1 {d : D} : m_need_texts [d, .str [98, 97]] = .ex ⟨1, none⟩ := dm rfl (congrArg outR (sq_ex (ex_ex ((eK rfl).trans need_al_no))))
theorem is_word_bad {a w : List Nat} (ha : a ∈ A4) (pw : plainB (.str w) = false) (lw : okD (.str w)) : m_is_word [.str w, .str a] = .ok (.bl false) := by
  refine dm rfl (sq_to (ex_nx ((eK (eC rfl rfl)).trans (need_al ha))) (re_to ?_))
  exact eAn (x := false) (y := false) ((eK (eC rfl rfl)).trans ((is_plain_ok lw).trans (by rw [pw]))) fun z => nomatch z
theorem ix0 (d : D) (ds : List D) : dIx (.lst (d :: ds)) (.int 0) = some d := atI_nat (xs := d :: ds) (m := 0) (Nat.succ_pos _)
theorem eq_unlike : m_unlike = Pu.m_unlike := rfl
theorem eLc2 {it it1 : Fs} {vs vs1 : List Nat} {t t1 : Tg} {c c1 : T} {a : F} {ε : Pu.Env} {ds zs : List D} (h1 : it ε = .ok ds) (h2 : ds.length ≤ 16777216) (h3 : lc2Go (wipeE ε vs) t c it1 vs1 t1 c1 a ds = .ok zs) (h4 : zs.length ≤ 1000000) : lc2O it vs t c it1 vs1 t1 c1 a ε = .ok zs := by
  unfold lc2O
  rw [h1, Res.bind_ok, if_pos h2, h3]
  exact if_pos h4
theorem lc2_im {α : Type} {ρ : Pu.Env} {t t1 : Tg} {it1 : Fs} {vs1 : List Nat} {f : F} {h : α → D} {ps : α → List (Nat × D)} {es : α → List D} {g : α → List D} : ∀ {l : List α}, (∀ a ∈ l, bnd t (h a) = some (ps a) ∧ it1 (setsE ρ (ps a)) = .ok (es a) ∧ (es a).length ≤ 16777216 ∧ lcGo (wipeE (setsE ρ (ps a)) vs1) t1 yesT f (es a) = .ok (g a)) → lc2Go ρ t yesT it1 vs1 t1 yesT f (l.map h) = .ok (l.flatMap g)
  | [], _ => rfl
  | a :: l, k => by
    obtain ⟨k1, k2, k3, k4⟩ := k a List.mem_cons_self
    have ih := lc2_im (l := l) fun b hb => k b (List.mem_cons_of_mem _ hb)
    rw [List.map_cons]
    unfold lc2Go
    rw [k1]
    show (it1 (setsE ρ (ps a))).pur.bind _ = _
    rw [k2]
    show (if (es a).length ≤ 16777216 then lcGo (wipeE (setsE ρ (ps a)) vs1) t1 yesT f (es a) else .st).pur.bind _ = _
    rw [if_pos k3, k4]
    show (lc2Go ρ t yesT it1 vs1 t1 yesT f (l.map h)).bind _ = _
    rw [ih]
    rfl
theorem flat_lenP (L : Nat) (f : List Nat → D) : ∀ ts : List (List Nat), (∀ t ∈ ts, t.length ≤ 900) → (ts.flatMap fun t => (pz L t).map f).length ≤ ts.length * 901
  | [], _ => Nat.zero_le _
  | t :: ts, h => by
    have ih := flat_lenP L f ts fun s hs => h s (List.mem_cons_of_mem _ hs)
    have := h t List.mem_cons_self
    have pl : (pz L t).length ≤ 901 := by
      unfold pz
      rw [List.length_map, List.length_range]
      omega
    rw [List.flatMap_cons, List.length_append, List.length_map, List.length_cons, Nat.add_mul]
    omega
theorem for_rt {t : Tg} {ps : List (Nat × D)} {f : SF} {ρ : SEnv} {d e : D} {ds : List D} (h1 : bnd t d = some ps) (h2 : f (setsS ρ ps) = .rt e) : forGo t f (d :: ds) ρ = .rt e := by
  unfold forGo
  rw [h1]
  show (match f (setsS ρ ps) with | .nx ρ' => _ | .ct ρ' => _ | .bk ρ' => _ | o => o) = _
  rw [h2]
theorem al_113 : ∀ a ∈ A4, 113 ∉ a := by decide
theorem ex_ix {f b : F} {ε : Pu.Env} {x : Xc} {m : List D → Res D} {as : Fs} {g : D → D → Option D} (h : f ε = .ex x) : (op2 g (calF m (argC f as)) b) ε = .ex x := by
  unfold op2 calF argC
  rw [h]
  rfl
theorem ex_lc {f g : F} {ε : Pu.Env} {x : Xc} {vs : List Nat} {t : Tg} {c : T} (h : f ε = .ex x) : (ofL (lcO (itF f) vs t c g)) ε = .ex x := by
  unfold ofL lcO itF
  rw [h]
  rfl
theorem need_word_ok {a w : List Nat} (ha : a ∈ A4) (hw : plainB (.str w) = true) (hi : ∀ c ∈ w, c ∈ a) : m_need_word [.str w, .str a] = .ok .non :=
  dm rfl (congrArg outR (if_no (tNo (tB ((eK (eC rfl (eC rfl rfl))).trans ((is_word_str ha hw).trans (by rw [all_in hi])))))))
theorem need_word_no {a w : List Nat} (ha : a ∈ A4) (hw : plainB (.str w) = true) {q : Nat} (h1 : q ∈ w) (h2 : q ∉ a) : m_need_word [.str w, .str a] = .ex ⟨2, none⟩ := by
  have e : (w.map fun c => decide (c ∈ a)).all id = false := by
    rw [List.all_map]
    exact Bool.eq_false_iff.mpr fun z => h2 (of_decide_eq_true (List.all_eq_true.mp z q h1))
  exact dm rfl (congrArg outR (if_yes (tNo (tB ((eK (eC rfl (eC rfl rfl))).trans ((is_word_str ha hw).trans (by rw [e])))))))
theorem allw_in {al : List Nat} : ∀ {n : Nat} {u : List Nat}, u ∈ allw al n → ∀ c ∈ u, c ∈ al
  | 0, u, h => by rw [List.mem_singleton.mp h]; intro c hc; cases hc
  | n + 1, u, h => by
    obtain ⟨r, hr, h2⟩ := List.mem_flatMap.mp h
    obtain ⟨c, hc, rfl⟩ := List.mem_map.mp h2
    intro q hq
    rcases List.mem_append.mp hq with z | z
    · exact allw_in hr q z
    · rw [List.mem_singleton.mp z]
      exact hc
theorem lmin_is {l : List Int} {m : Int} (h1 : m ∈ l) (h2 : ∀ y ∈ l, m ≤ y) : lmin l = some m := by
  obtain ⟨v, hv⟩ := lmin_some (l := l) (fun z => by rw [z] at h1; cases h1)
  obtain ⟨a, b⟩ := lmin_spec hv
  have e : v = m := by
    have := b m h1
    have := h2 v a
    omega
  rw [hv, e]
theorem po_nx {ρ : SEnv} {s i : Nat} {l : List D} {d : D} (h : ρ[s]? = some (.ow (l ++ [d]))) : poS i s ρ = .nx ((ρ.set s (.ow l)).set i (.sh d)) := by
  have e1 : (l ++ [d])[(l ++ [d]).length - 1]? = some d := by simp
  have e2 : (l ++ [d]).dropLast = l := List.dropLast_concat
  unfold poS
  rw [h]
  show (match (l ++ [d])[(l ++ [d]).length - 1]? with | some d => _ | none => _) = _
  rw [e1, e2]
theorem minIS_le : ∀ (l : List IS) (x : IS), (minIS x l).1 ≤ x.1 ∧ (∀ y ∈ l, (minIS x l).1 ≤ y.1) ∧ minIS x l ∈ x :: l
  | [], x => ⟨Int.le_refl _, fun _ h => (nomatch h), List.mem_cons_self⟩
  | y :: l, x => by
    obtain ⟨h1, h2, h3⟩ := minIS_le l (if ltIS y x = true then y else x)
    have e : minIS x (y :: l) = minIS (if ltIS y x = true then y else x) l := rfl
    rw [e]
    by_cases c : ltIS y x = true
    · rw [if_pos c] at h1 h2 h3 ⊢
      have q : y.1 ≤ x.1 := by
        unfold ltIS at c
        split at c
        · omega
        · have := of_decide_eq_true c
          omega
      refine ⟨by omega, fun z hz => ?_, List.mem_cons_of_mem _ h3⟩
      rcases List.mem_cons.mp hz with w | w
      · rw [w]; exact h1
      · exact h2 z w
    · rw [if_neg c] at h1 h2 h3 ⊢
      have q : x.1 ≤ y.1 := by
        unfold ltIS at c
        split at c
        · omega
        · have := of_decide_eq_false (Bool.eq_false_iff.mpr c)
          omega
      refine ⟨h1, fun z hz => ?_, ?_⟩
      · rcases List.mem_cons.mp hz with w | w
        · rw [w]; omega
        · exact h2 z w
      · rcases List.mem_cons.mp h3 with w | w
        · rw [w]; exact List.mem_cons_self
        · exact List.mem_cons_of_mem _ (List.mem_cons_of_mem _ w)
theorem allw_ne {a : List Nat} (h : 0 < a.length) : ∀ n, allw a n ≠ []
  | 0 => by intro z; cases z
  | n + 1 => by
    intro z
    rw [allw_cons] at z
    have z2 := List.flatMap_eq_nil_iff.mp z
    cases a with
    | nil => cases h
    | cons c r =>
      have := z2 c List.mem_cons_self
      exact allw_ne h n (List.map_eq_nil_iff.mp this)
theorem cut_map {α β : Type} (f : α → β) (l : List α) (lo hi : Option Int) : cut (l.map f) lo hi = (cut l lo hi).map f := by
  unfold cut
  rw [List.length_map, List.map_take, List.map_drop]
theorem same_loop {α : Type} {c : T} {r : SF} {h : α → D} {ps : α → List (Nat × D)} {t : Tg} {J : Type} (E : J → SEnv) (nxt : α → J → J) (hb : ∀ a, bnd t (h a) = some (ps a)) (hs : ∀ a j, setsS (E j) (ps a) = E (nxt a j)) : ∀ (l : List α) (j : J), (∀ a ∈ l, ∀ j, c (pkv (E (nxt a j))) = .ok false) → ∃ j', forGo t (ifS c r nxS) (l.map h) (E j) = .nx (E j')
  | [], j, _ => ⟨j, rfl⟩
  | a :: l, j, hc => by
    obtain ⟨j', e⟩ := same_loop E nxt hb hs l (nxt a j) fun b hb' => hc b (List.mem_cons_of_mem _ hb')
    refine ⟨j', ?_⟩
    rw [List.map_cons, for_cons (hb a) (ρ' := E (nxt a j)), e]
    rw [hs]
    exact if_nx (hc a List.mem_cons_self j)
theorem par4_nx {i j l n : Nat} {z1 z2 z3 z4 : Zm} {ρ : SEnv} {s t u v : Sl} (h1 : ∀ k, zRun z1 ρ k = k s) (h2 : ∀ k, zRun z2 ρ k = k t) (h3 : ∀ k, zRun z3 ρ k = k u) (h4 : ∀ k, zRun z4 ρ k = k v) : pa4S i j l n z1 z2 z3 z4 ρ = .nx ((((ρ.set i s).set j t).set l u).set n v) := by
  unfold pa4S
  rw [h1, h2, h3, h4]
theorem strs_of {P : List Nat → Prop} : ∀ ys : List D, (∀ y ∈ ys, ∃ w, y = .str w ∧ P w) → ∃ ps : List (List Nat), ys = ps.map .str ∧ ∀ p ∈ ps, P p
  | [], _ => ⟨[], rfl, fun _ h => nomatch h⟩
  | y :: ys, h => by
    obtain ⟨w, e, pw⟩ := h y List.mem_cons_self
    obtain ⟨ps, e2, h2⟩ := strs_of ys fun q hq => h q (List.mem_cons_of_mem _ hq)
    refine ⟨w :: ps, by rw [e, e2]; rfl, fun p hp => ?_⟩
    rcases List.mem_cons.mp hp with z | z
    · rw [z]; exact pw
    · exact h2 p z
theorem map_loop {α : Type} {k s : Nat} {f : F} {hh G : α → D} (E : Sl → List D → SEnv) (p1 : ∀ x acc d, setsS (E x acc) [(k, d)] = E (.sh d) acc) (p2 : ∀ x acc, (E x acc)[s]? = some (.ow acc)) (p3 : ∀ x acc acc', (E x acc).set s (.ow acc') = E x acc') :
    ∀ (l : List α) (x : Sl) (acc : List D), (∀ a ∈ l, ∀ acc, f (shv (E (.sh (hh a)) acc)) = .ok (G a)) → acc.length + l.length ≤ 100000 → ∃ x', forGo (.nm k) (apS s f) (l.map hh) (E x acc) = .nx (E x' (acc ++ l.map G))
  | [], x, acc, _, _ => ⟨x, by rw [List.map_nil, List.map_nil, List.append_nil]; rfl⟩
  | a :: l, x, acc, hf, hl => by
    have hl : acc.length + (l.length + 1) ≤ 100000 := hl
    obtain ⟨x', e⟩ := map_loop E p1 p2 p3 l (.sh (hh a)) (acc ++ [G a]) (fun b hb => hf b (List.mem_cons_of_mem _ hb)) (by rw [List.length_append]; show acc.length + 1 + _ ≤ _; omega)
    refine ⟨x', ?_⟩
    rw [List.map_cons, for_cons (ps := [(k, hh a)]) (ρ' := E (.sh (hh a)) (acc ++ [G a])) rfl, e, List.map_cons, List.append_assoc]
    · rfl
    · rw [p1, ap_nx (p2 _ _) (by omega) (hf a List.mem_cons_self acc), p3]
theorem allw_sorted {a : List Nat} (ha : a.Pairwise (· < ·)) : ∀ n, (allw a n).Pairwise (· < ·)
  | 0 => List.pairwise_singleton _ _
  | n + 1 => by
    rw [allw_cons, List.pairwise_flatMap]
    refine ⟨fun c _ => List.pairwise_map.mpr ((allw_sorted ha n).imp fun h => List.cons_lt_cons_iff.mpr (.inr ⟨rfl, h⟩)), ha.imp fun h x hx y hy => ?_⟩
    obtain ⟨r, _, rfl⟩ := List.mem_map.mp hx
    obtain ⟨q, _, rfl⟩ := List.mem_map.mp hy
    exact List.cons_lt_cons_iff.mpr (.inl h)
theorem allw_all {a : List Nat} : ∀ {u : List Nat}, (∀ c ∈ u, c ∈ a) → u ∈ allw a u.length
  | [], _ => List.mem_singleton.mpr rfl
  | c :: r, h => by
    rw [List.length_cons, allw_cons]
    exact List.mem_flatMap.mpr ⟨c, h c List.mem_cons_self, List.mem_map.mpr ⟨r, allw_all fun d hd => h d (List.mem_cons_of_mem _ hd), rfl⟩⟩
theorem a4_sorted : ∀ a ∈ A4, a.Pairwise (· < ·) := by decide
theorem min_first {r : Int} {p : IS} : ∀ (xs : List IS) (x : IS), (x :: xs).Pairwise (fun p q => p.2 < q.2) → (∀ y ∈ x :: xs, r ≤ y.1) → (x :: xs).find? (fun p => decide (p.1 ≤ r)) = some p → minIS x xs = p
  | [], x, _, _, h => by
    rw [List.find?_cons] at h
    split at h
    · exact Option.some.inj h
    · cases h
  | y :: ys, x, hs, hr, h => by
    have hxy : x.2 < y.2 := (List.pairwise_cons.mp hs).1 y List.mem_cons_self
    have lt : ltIS y x = decide (y.1 < x.1) := by
      unfold ltIS
      by_cases e : y.1 = x.1
      · have n1 : y.2 ≠ x.2 := fun z => by
          rw [z] at hxy
          exact List.lt_irrefl _ hxy
        have n2 : ¬ y.2 < x.2 := fun z => List.lt_irrefl _ (List.lt_trans z hxy)
        rw [if_pos e, if_neg n1, decide_eq_false n2, decide_eq_false (by omega)]
      · rw [if_neg e]
    have st : minIS x (y :: ys) = minIS (if y.1 < x.1 then y else x) ys := by
      unfold minIS
      rw [List.foldl_cons, lt]
      congr 1
      by_cases q : y.1 < x.1
      · rw [if_pos q, if_pos (decide_eq_true q)]
      · rw [if_neg q, if_neg (by simpa using q)]
    rw [st]
    have hx := hr x List.mem_cons_self
    have hy := hr y (List.mem_cons_of_mem _ List.mem_cons_self)
    have sx : (x :: ys).Pairwise (fun p q : IS => p.2 < q.2) := List.pairwise_cons.mpr ⟨fun z hz => (List.pairwise_cons.mp hs).1 z (List.mem_cons_of_mem _ hz), (List.pairwise_cons.mp (List.pairwise_cons.mp hs).2).2⟩
    have rx : ∀ z ∈ x :: ys, r ≤ z.1 := fun z hz => by
      rcases List.mem_cons.mp hz with e | e
      · rw [e]; exact hx
      · exact hr z (List.mem_cons_of_mem _ (List.mem_cons_of_mem _ e))
    by_cases cx : x.1 ≤ r
    · rw [List.find?_cons, decide_eq_true cx] at h
      rw [if_neg (by omega)]
      exact min_first ys x sx rx (by rw [List.find?_cons, decide_eq_true cx]; exact h)
    · rw [List.find?_cons, decide_eq_false cx] at h
      by_cases q : y.1 < x.1
      · rw [if_pos q]
        exact min_first ys y (List.pairwise_cons.mp hs).2 (fun z hz => hr z (List.mem_cons_of_mem _ hz)) h
      · rw [if_neg q]
        refine min_first ys x sx rx ?_
        rw [List.find?_cons, decide_eq_false (show ¬ y.1 ≤ r by omega)] at h
        rw [List.find?_cons, decide_eq_false cx]
        exact h
theorem rgD_from (i n : Nat) : rgD ((i : Nat) : Int) ((n : Nat) : Int) = (List.range' i (n - i)).map fun k => D.int (k : Nat) := by
  unfold rgD
  have e : (((n : Nat) : Int) - ((i : Nat) : Int)).toNat = n - i := by omega
  rw [e, List.range'_eq_map_range, List.map_map]
  exact List.map_congr_left fun k _ => by
    show D.int _ = D.int _
    congr 1
theorem cutL_from {α : Type} {x : List α} {p : Nat} (h : p ≤ x.length) : cut x (some ((p : Nat) : Int)) none = x.drop p := by
  unfold cut
  rw [HT.sIx_nat, Nat.min_eq_left h]
  show (x.drop p).take (x.length - p) = x.drop p
  exact List.take_of_length_le (by rw [List.length_drop]; omega)
theorem cutL_to {α : Type} {x : List α} {p : Nat} (h : p ≤ x.length) : cut x none (some ((p : Nat) : Int)) = x.take p := by
  unfold cut
  rw [HT.sIx_nat, Nat.min_eq_left h]
  rfl
theorem nodup_le {α : Type} [DecidableEq α] : ∀ {l m : List α}, l.Nodup → (∀ x ∈ l, x ∈ m) → l.length ≤ m.length
  | [], _, _, _ => Nat.zero_le _
  | x :: l, m, h, s => by
    have hx := s x List.mem_cons_self
    have ih := nodup_le (l := l) (m := m.erase x) (List.nodup_cons.mp h).2 fun y hy => (List.mem_erase_of_ne (fun z => (List.nodup_cons.mp h).1 (by rw [← z]; exact hy))).mpr (s y (List.mem_cons_of_mem _ hy))
    rw [List.length_erase_of_mem hx] at ih
    have : 0 < m.length := List.length_pos_of_mem hx
    rw [List.length_cons]
    omega
theorem asx {i : Nat} {f : F} {ρ : SEnv} {x : Xc} (h : f (shv ρ) = .ex x) : asS i f ρ = .ex x ρ := by
  unfold asS
  rw [h]
  rfl
end Pu

namespace Pu.Cm
open PySem L2 Pu
/-! ### common words, papers, words that part -/
def keep (m : Nat) (u p : List Nat) : Bool := decide (((cnt p u : Nat) : Int) ≤ ((m : Nat) : Int))
theorem keep_less {m L : Nat} {u p : List Nat} {c : Nat} (hp : p.length = L) (hu : u.length < L) (h : keep m (u ++ [c]) p = true) : keep m u p = true := by
  have h := of_decide_eq_true h
  have e := cnt_more p u c (by omega)
  refine decide_eq_true ?_
  have : (0 : Nat) ≤ (if p.getD u.length 0 = c then 0 else 1) := Nat.zero_le _
  omega
abbrev pieD (u p : List Nat) : D := .tup [.str p, .int (cnt p u : Nat)]
abbrev rwD (L m : Nat) (u t : List Nat) : D := .lst (((pz L t).filter (keep m u)).map (pieD u))
def gb (L m : Nat) (u t : List Nat) : Bool := ((pz L t).filter (keep m u)).isEmpty
def gn (ts : List (List Nat)) (L m : Nat) (u : List Nat) : List D := (ts.zipIdx.filter fun p => gb L m u p.1).map fun p => D.int (p.2 : Nat)
theorem gn_len (ts : List (List Nat)) (L m : Nat) (u : List Nat) : (gn ts L m u).length = (ts.filter (gb L m u)).length := by
  unfold gn
  rw [List.length_map, zip_pick]
abbrev rsD (ts : List (List Nat)) (L m : Nat) (u : List Nat) : D := .lst (ts.map (rwD L m u))
abbrev oA (ts : List (List Nat)) (L m : Nat) (a : List Nat) (q : Nat) : D := .obj "Ask" [("texts", .lst (ts.map .str)), ("length", .int (L : Nat)), ("many", .int (m : Nat)), ("alphabet", .str a), ("quorum", .int (q : Nat))]
theorem eMet {c m : Str} {mm : List D → Res D} {f : F} {as : Fs} {ε : Pu.Env} {o d : D} {xs : List D} (h1 : f ε = .ok o) (h2 : isO c m o = true) (h3 : as ε = .ok xs) (h4 : mm (o :: xs) = .ok d) : metF c m mm f as ε = .ok d := by
  unfold metF
  rw [h1, Res.bind_ok, if_pos h2, h3, Res.bind_ok, h4]
  rfl
theorem iq_ok {g h : IM} {ρ : Pu.Env} {fs fs' : List (Str × D)} {r : Res (List (Str × D))} (h1 : g ρ fs = .ok fs') (h2 : h ρ fs' = r) : iQ g h ρ fs = r := by
  unfold iQ
  rw [h1]
  exact h2
theorem ie_ok {f : F} {ρ : Pu.Env} {fs : List (Str × D)} {d : D} (h : f ρ = .ok d) : iE f ρ fs = .ok fs := by
  unfold iE
  rw [h]
  rfl
theorem is_ok {n : Str} {f : F} {ρ : Pu.Env} {fs fs' : List (Str × D)} {d : D} (h : f ρ = .ok d) (hl : fs.length < 900) (hp : putD n d fs = fs') : iS n f ρ fs = .ok fs' := by
  unfold iS
  rw [h]
  show (if fs.length < 900 then Res.ok (putD n d fs) else .st) = _
  rw [if_pos hl, hp]
theorem il_ok {c : Str} {g : SF} {ρ : Pu.Env} {fs : List (Str × D)} {ρ' : SEnv} (h : g (.sh (.obj c fs) :: ρ.tail.map toS) = .nx ρ') : iL c g ρ fs = .ok fs := by
  unfold iL
  rw [h]
theorem new_ok {a : List Nat} {ts : List (List Nat)} {most L m q : Nat} {qd : D} (ha : a ∈ A4) (h1 : 1 ≤ ts.length) (h2 : ts.length ≤ 12) (ht : ∀ t ∈ ts, Tx a most t) (hm : most ≤ 40) (hL : 1 ≤ L ∧ L ≤ 8) (hmL : m ≤ L) (hq : 1 ≤ q ∧ q ≤ ts.length) (hd : qd = .int (q : Nat) ∨ (qd = .non ∧ q = ts.length)) :
    newM "Ask" 5 mi_Ask [.lst (ts.map .str), .int L, .int m, .str a, qd] = .ok (oA ts L m a q) := by
  have key : mi_Ask [.lst (ts.map .str), .int L, .int m, .str a, qd] = .ok [("texts", .lst (ts.map .str)), ("length", .int (L : Nat)), ("many", .int (m : Nat)), ("alphabet", .str a), ("quorum", .int (q : Nat))] := by
    refine iq_ok (ie_ok ((eK rfl).trans (need_texts_ok ha h1 h2 ht hm))) ?_
    refine iq_ok (ie_ok ((nn3 rfl rfl).trans (need_number_ok (d := .int L) trivial (num_in (by omega) (by omega))))) ?_
    refine iq_ok (ie_ok ((nn2 rfl rfl).trans (need_number_ok (d := .int m) trivial (num_in (by omega) (by omega))))) ?_
    refine iq_ok (is_ok (d := .lst (ts.map .str)) rfl (by decide) rfl) ?_
    refine iq_ok (is_ok (d := .int L) rfl (Nat.le_of_ble_eq_true rfl) (by rfl)) ?_
    refine iq_ok (is_ok (d := .int m) rfl (Nat.le_of_ble_eq_true rfl) (by rfl)) ?_
    refine iq_ok (is_ok (d := .str a) rfl (Nat.le_of_ble_eq_true rfl) (by rfl)) ?_
    have eq_ : (ifF (tst (op2 dIs (vr 5) (cst .non))) (opN cLen (argC (vr 1) argN)) (vr 5)) (none :: [D.lst (ts.map .str), .int L, .int m, .str a, qd].map some) = .ok (.int (q : Nat)) := by
      rcases hd with rfl | ⟨rfl, rfl⟩
      · exact eIf (x := false) (tB (e2 rfl rfl rfl)) (fun z => nomatch z) fun _ => rfl
      · refine eIf (x := true) (tB (e2 rfl rfl rfl)) (fun _ => eN (eC rfl rfl) ?_) fun z => nomatch z
        show some (D.int (((ts.map D.str).length : Nat) : Int)) = _
        rw [List.length_map]
    refine iq_ok (is_ok (d := .int q) eq_ (Nat.le_of_ble_eq_true rfl) (by rfl)) ?_
    refine il_ok (if_nx (tNo (x := true) (tB ((eK (eC (e1 rfl (by rfl)) (eC rfl (eC (eN (eC rfl rfl) rfl) rfl)))).trans ((is_number_ok (d := .int q) trivial).trans ?_)))))
    rw [num_in (by omega) (by rw [List.length_map]; omega)]
  refine (if_pos rfl).trans ?_
  rw [key]
  rfl
theorem rows_ok {ts : List (List Nat)} {L m q : Nat} {a : List Nat} (hn : ts.length ≤ 1000) (htl : ∀ t ∈ ts, t.length ≤ 900) (hL : 1 ≤ L ∧ L ≤ 900) : m_Ask_rows [oA ts L m a q] = .ok (rsD ts L m []) := by
  refine dm rfl (re_to (eO (eLc (eI (e1 rfl (by rfl)) rfl) (by rw [List.length_map]; omega) (lcGo_im (h := .str) (g := rwD L m []) (ps := fun t => [(1, .str t)]) fun t ht => ⟨rfl, ?_⟩))))
  have lt := htl t ht
  have ek : ((((t.length : Nat) : Int) - ((L : Nat) : Int) + 1) - 0).toNat = t.length + 1 - L := by omega
  refine eO (eLc (ds := rgD 0 (((t.length : Nat) : Int) - ((L : Nat) : Int) + 1)) (eR (e2 (e2 (eN (eC rfl rfl) (lenq (by omega))) (e1 rfl (by rfl)) rfl) rfl rfl) (by omega)) (by unfold rgD; rw [List.length_map, List.length_range]; omega) ?_)
  unfold rgD
  rw [ek]
  refine (lcGo_im (g := fun i => D.tup [.str (cut t (some (0 + ((i : Nat) : Int))) (some (0 + ((i : Nat) : Int) + ((L : Nat) : Int)))), .int 0]) (ps := fun i => [(2, D.int (0 + (i : Nat)))]) fun i _ => ⟨rfl, eTu (eC (eS rfl (eP rfl) (eP (e2 rfl (e1 rfl (by rfl)) rfl)) (slq (by omega))) rfl) (Nat.le_of_ble_eq_true rfl)⟩).trans ?_
  refine congrArg Res.ok ?_
  have ef : (pz L t).filter (keep m []) = pz L t := List.filter_eq_self.mpr fun p _ => decide_eq_true (by rw [cnt_nilR]; omega)
  rw [ef]
  unfold pz
  rw [List.map_map]
  refine List.map_congr_left fun i hi => ?_
  have := List.mem_range.mp hi
  show D.tup [.str (cut t (some (0 + ((i : Nat) : Int))) (some (0 + ((i : Nat) : Int) + ((L : Nat) : Int)))), .int 0] = D.tup [.str (pcs t i L), .int ((cnt (pcs t i L) [] : Nat) : Int)]
  rw [Int.zero_add, cut_pcs (by omega), cnt_nilR]
  rfl
theorem filter_pair {α : Type} {p q : α → Bool} {l : List α} (h : ∀ x ∈ l, q x = true → p x = true) : (l.filter p).filter q = l.filter q := by
  rw [List.filter_filter]
  refine List.filter_congr fun x hx => ?_
  cases z : q x with
  | false => rfl
  | true => rw [h x hx z]; rfl
abbrev furB : SF := (sqS (asS 6 (ofL (lcO (itF (vr 5)) [7, 8] (.tp [7, 8]) yesT (tupF (argC (vr 7) (argC (op2 dAdd (vr 8) (opN cInt (argC (op2 dNe (op2 dIx (vr 7) (vr 2)) (vr 3)) argN))) argN)))))) (apS 4 (ofL (lcO (itF (vr 6)) [7, 8] (.tp [7, 8]) (tst (op2 dLe (vr 8) (op1 (getD' "Ask" "many") (vr 0)))) (tupF (argC (vr 7) (argC (vr 8) argN)))))))
theorem fur_loop {ts : List (List Nat)} {L m q c : Nat} {a u : List Nat} {r0 : Sl} (hL : L ≤ 900) (hu : u.length < L) : ∀ (l : List (List Nat)) (acc : List D) (x y : Sl), (∀ t ∈ l, t.length ≤ 900) → acc.length + l.length ≤ 5000 → ∃ x' y', forGo (.nm 5) furB (l.map (rwD L m u)) [.sh (oA ts L m a q), r0, .sh (.int (u.length : Nat)), .sh (.str [c]), .ow acc, x, y, .no, .no] = .nx [.sh (oA ts L m a q), r0, .sh (.int (u.length : Nat)), .sh (.str [c]), .ow (acc ++ l.map (rwD L m (u ++ [c]))), x', y', .no, .no]
  | [], acc, x, y, _, _ => ⟨x, y, by rw [List.map_nil, List.map_nil, List.append_nil]; rfl⟩
  | t :: l, acc, x, y, ht, hl => by
    have hl : acc.length + (l.length + 1) ≤ 5000 := hl
    have lt := ht t List.mem_cons_self
    have pl : (pz L t).length ≤ 1000 := by
      unfold pz
      rw [List.length_map, List.length_range]
      omega
    have fl := List.length_filter_le (keep m u) (pz L t)
    have some_ : ((pz L t).filter (keep m u)).map (pieD (u ++ [c])) = ((pz L t).filter (keep m u)).map fun p => D.tup [.str p, .int (((cnt p u : Nat) : Int) + (if p.getD u.length 0 = c then 0 else 1))] := List.map_congr_left fun p hp => by
      have lp := pz_len (List.mem_filter.mp hp).1
      show D.tup [.str p, .int ((cnt p (u ++ [c]) : Nat) : Int)] = _
      rw [cnt_more p u c (by omega)]
      by_cases z : p.getD u.length 0 = c
      · rw [if_pos z, if_pos z]
        rfl
      · rw [if_neg z, if_neg z]
        rfl
    obtain ⟨x', y', e⟩ := fur_loop (ts := ts) (q := q) (a := a) (r0 := r0) (m := m) (c := c) hL hu l (acc ++ [rwD L m (u ++ [c]) t]) (.sh (rwD L m u t)) (.sh (.lst (((pz L t).filter (keep m u)).map (pieD (u ++ [c]))))) (fun s hs => ht s (List.mem_cons_of_mem _ hs)) (by rw [List.length_append]; show acc.length + 1 + _ ≤ _; omega)
    refine ⟨x', y', ?_⟩
    rw [List.map_cons, for_cons (ps := [(5, rwD L m u t)]) (ρ' := [.sh (oA ts L m a q), r0, .sh (.int (u.length : Nat)), .sh (.str [c]), .ow (acc ++ [rwD L m (u ++ [c]) t]), .sh (rwD L m u t), .sh (.lst (((pz L t).filter (keep m u)).map (pieD (u ++ [c])))), .no, .no]) rfl, e, List.map_cons, List.append_assoc]
    · rfl
    · refine (sq_nx (as_nx (d := .lst (((pz L t).filter (keep m u)).map (pieD (u ++ [c])))) (eO (eLc rfl (by rw [List.length_map]; omega) ((lcGo_im (h := pieD u) (g := fun p => D.tup [.str p, .int (((cnt p u : Nat) : Int) + (if p.getD u.length 0 = c then 0 else 1))]) (ps := fun p => [(7, .str p), (8, .int (cnt p u : Nat))]) fun p hp => ⟨rfl, ?_⟩).trans (by rw [some_])))))).trans ?_
      · have lp := pz_len (List.mem_filter.mp hp).1
        exact eTu (eC rfl (eC (e2 rfl (intNe' (e2 rfl rfl (at_sign (by omega) (by omega))) rfl) rfl) rfl)) (Nat.le_of_ble_eq_true rfl)
      · refine ap_nx (ds := acc) rfl (by omega) (eO (eLc rfl (by rw [List.length_map]; omega) ((lcGo_imf (h := pieD (u ++ [c])) (g := pieD (u ++ [c])) (b := keep m (u ++ [c])) (ps := fun p => [(7, .str p), (8, .int (cnt p (u ++ [c]) : Nat))]) fun p _ => ⟨rfl, tB (e2 rfl (e1 rfl (by rfl)) rfl), fun _ => eTu rfl (Nat.le_of_ble_eq_true rfl)⟩).trans ?_)))
        rw [filter_pair fun p hp h => keep_less (pz_len hp) hu h]
theorem further_ok {ts : List (List Nat)} {L m q c : Nat} {a u : List Nat} (hn : ts.length ≤ 1000) (htl : ∀ t ∈ ts, t.length ≤ 900) (hL : L ≤ 900) (hu : u.length < L) : m_Ask_further [oA ts L m a q, rsD ts L m u, .int (u.length : Nat), .str [c]] = .ok (rsD ts L m (u ++ [c])) := by
  obtain ⟨x', y', e⟩ := fur_loop (ts := ts) (q := q) (a := a) (r0 := .sh (rsD ts L m u)) (m := m) (c := c) hL hu ts [] .no .no htl (by show 0 + _ ≤ _; omega)
  exact dm rfl (sq_to (ao_nx (ds := []) rfl) (sq_to ((for_go (ds := ts.map (rwD L m u)) rfl).trans e) (re_to rfl)))
theorem dep_rw (L m : Nat) (u t : List Nat) : dep (rwD L m u t) ≤ 2 := by
  rw [dep_lst]
  have : depL (((pz L t).filter (keep m u)).map (pieD u)) ≤ 1 := depL_map fun p _ => by simp
  omega
theorem empty_eq (l : List (List Nat)) (u : List Nat) : eqd (.lst (l.map (pieD u))) (.lst []) = l.isEmpty := by
  cases l with
  | nil => rfl
  | cons p l => rw [eqd_lst, List.map_cons, eqdL_cn]; rfl
theorem lost_ok {ts : List (List Nat)} {L m q : Nat} {a u : List Nat} (hn : ts.length ≤ 1000) : m_Ask_lost [oA ts L m a q, rsD ts L m u] = .ok (.tup (gn ts L m u)) := by
  refine dm rfl (re_to (eN (eC (eO (eLc ((eE rfl rfl).trans (by rw [enD_zip])) (by rw [List.length_map, List.length_zipIdx]; omega) (lcGo_imf (g := fun p => D.int (p.2 : Nat)) (b := fun p : List Nat × Nat => gb L m u p.1) (ps := fun p => [(2, .int (p.2 : Nat)), (3, rwD L m u p.1)]) fun p _ => ⟨rfl, (tB (e2 rfl (eL rfl (by decide)) (eqq (by have := dep_rw L m u p.1; omega) (by decide)))).trans (by rw [empty_eq]; rfl), fun _ => rfl⟩))) rfl) rfl))
section
variable (ts : List (List Nat)) (L m q : Nat) (a : List Nat)
def cutB (u : List Nat) : Bool := decide (((ts.length : Nat) : Int) - (((gn ts L m u).length : Nat) : Int) < ((q : Nat) : Int))
end
theorem is_cut_ok {ts : List (List Nat)} {L m q : Nat} {a u : List Nat} (hn : ts.length ≤ 1000) : m_Ask_is_cut [oA ts L m a q, rsD ts L m u] = .ok (.bl (cutB ts L m q u)) := by
  refine dm rfl (re_to ((e2 (e2 (eN (eC (e1 rfl (by rfl)) rfl) rfl) (eN (eC (eMet rfl (by rfl) rfl (lost_ok hn)) rfl) rfl) rfl) (e1 rfl (by rfl)) rfl).trans ?_))
  rw [List.length_map]
  rfl
abbrev nd (ts : List (List Nat)) (L m : Nat) (u : List Nat) : D := .tup [.str u, rsD ts L m u]
abbrev cd (ts : List (List Nat)) (L m : Nat) (u : List Nat) : D := .tup [.str u, .tup (gn ts L m u)]
abbrev St2 := List (List Nat) × List (List Nat)
section
variable (ts : List (List Nat)) (L m q : Nat) (a : List Nat)
def nxW (s : St2) (u : List Nat) : St2 := if cutB ts L m q u = true then (s.1, s.2 ++ [u]) else if u.length = L then (s.1 ++ [u], s.2) else s
def kidW (_ : St2) (u : List Nat) : List (List Nat) := if cutB ts L m q u = true then [] else if u.length = L then [] else a.map fun c => u ++ [c]
def EW (s : St2) (st : List (List Nat)) (x : Sl × Sl × Sl) : SEnv := [.sh (oA ts L m a q), .ow (s.1.map .str), .ow (s.2.map (cd ts L m)), .ow (st.map (nd ts L m)), x.1, x.2.1, x.2.2]
end
abbrev pushB : SF := (apS 3 (tupF (argC (op2 dAdd (vr 4) (vr 6)) (argC (metF "Ask" "further" m_Ask_further (vr 0) (argC (vr 5) (argC (opN cLen (argC (vr 4) argN)) (argC (vr 6) argN)))) argN))))
abbrev walkB : SF := (sqS (poT (.tp [4, 5]) 3) (ifS (tst (metF "Ask" "is_cut" m_Ask_is_cut (vr 0) (argC (vr 5) argN))) (apS 2 (tupF (argC (vr 4) (argC (metF "Ask" "lost" m_Ask_lost (vr 0) (argC (vr 5) argN)) argN)))) (ifS (tst (op2 dEq (opN cLen (argC (vr 4) argN)) (op1 (getD' "Ask" "length") (vr 0)))) (apS 1 (vr 4)) (forS (itF (op1 dRev (op1 (getD' "Ask" "alphabet") (vr 0)))) (.nm 6) pushB))))
abbrev walkC : T := (tst (op2 dNe (vr 3) (lstF argN)))
theorem push_loop {ts : List (List Nat)} {L m q : Nat} {a u : List Nat} {s : St2} (hL : L ≤ 900) (hu : u.length < L) (hn : ts.length ≤ 1000) (htl : ∀ t ∈ ts, t.length ≤ 900) : ∀ (l : List Nat) (st : List (List Nat)) (z : Sl), st.length + l.length ≤ 9000 → ∃ z', forGo (.nm 6) pushB (l.map fun c => D.str [c]) (EW ts L m q a s st (.sh (.str u), .sh (rsD ts L m u), z)) = .nx (EW ts L m q a s (st ++ l.map fun c => u ++ [c]) (.sh (.str u), .sh (rsD ts L m u), z'))
  | [], st, z, _ => ⟨z, by rw [List.map_nil, List.map_nil, List.append_nil]; rfl⟩
  | c :: l, st, z, hl => by
    have hl : st.length + (l.length + 1) ≤ 9000 := hl
    obtain ⟨z', e⟩ := push_loop (L := L) (m := m) (q := q) (a := a) (s := s) hL hu hn htl l (st ++ [u ++ [c]]) (.sh (.str [c])) (by rw [List.length_append]; show st.length + 1 + _ ≤ _; omega)
    refine ⟨z', ?_⟩
    have ad : dAdd (.str u) (.str [c]) = some (.str (u ++ [c])) := if_pos (by show u.length + 1 ≤ _; omega)
    rw [List.map_cons, for_cons (ps := [(6, .str [c])]) (ρ' := EW ts L m q a s (st ++ [u ++ [c]]) (.sh (.str u), .sh (rsD ts L m u), .sh (.str [c]))) rfl, e, List.map_cons, List.append_assoc]
    · rfl
    · refine (ap_nx (ds := st.map (nd ts L m)) (d := nd ts L m (u ++ [c])) rfl (by rw [List.length_map]; omega) (eTu (eC (e2 rfl rfl ad) (eC (eMet rfl (by rfl) (eC rfl (eC (eN (eC rfl rfl) (lenq (by omega))) (eC rfl rfl))) (further_ok hn htl hL hu)) rfl)) (Nat.le_of_ble_eq_true rfl))).trans ?_
      show Out.nx _ = Out.nx _
      unfold EW
      rw [List.map_append]
      rfl
theorem dep_nd (ts : List (List Nat)) (L m : Nat) (st : List (List Nat)) : dep (.lst (st.map (nd ts L m))) ≤ 60 := by
  rw [dep_lst]
  have : depL (st.map (nd ts L m)) ≤ 4 := depL_map fun u _ => by
    have e : depL (ts.map (rwD L m u)) ≤ 2 := depL_map fun t _ => dep_rw L m u t
    simp only [dep_tup, depL_cons, dep_str, dep_lst, depL_nil]
    omega
  omega
theorem walk_dfs {ts : List (List Nat)} {L m q : Nat} {a : List Nat} (hn : ts.length ≤ 1000) (htl : ∀ t ∈ ts, t.length ≤ 900) (hL : L ≤ 800) (hal : a.length ≤ 6) :
    Dfs (EW ts L m q a) walkC walkB (nxW ts L m q) (kidW ts L m q a) (fun u => L - u.length) a.length (fun u => u.length ≤ L) (fun s => s.1.length + s.2.length) where
  more := fun s st n x => by
    refine (tB (e2 rfl (eL rfl (by decide)) (neq (dep_nd ts L m (st ++ [n])) (by decide)))).trans ?_
    rw [eqd_lst, List.map_append]
    cases st with
    | nil => rfl
    | cons w st => rw [List.map_cons, List.cons_append, eqdL_cn]; rfl
  body := fun s st u x hu hw hs => by
    have lost := lost_ok (ts := ts) (L := L) (m := m) (q := q) (a := a) (u := u) hn
    have pop : poT (.tp [4, 5]) 3 (EW ts L m q a s (st ++ [u]) x) = .nx (EW ts L m q a s st (.sh (.str u), .sh (rsD ts L m u), x.2.2)) := by
      refine (pot_nx (l := st.map (nd ts L m)) (x := .str u) (y := rsD ts L m u) ?_).trans rfl
      show some (Sl.ow ((st ++ [u]).map (nd ts L m))) = _
      rw [List.map_append]
      rfl
    have tt : (tst (metF "Ask" "is_cut" m_Ask_is_cut (vr 0) (argC (vr 5) argN))) (pkv (EW ts L m q a s st (.sh (.str u), .sh (rsD ts L m u), x.2.2))) = .ok (cutB ts L m q u) := tB (eMet rfl (by rfl) rfl (is_cut_ok hn))
    by_cases hc : cutB ts L m q u = true
    · refine ⟨(.sh (.str u), .sh (rsD ts L m u), x.2.2), ?_⟩
      refine (sq_nx pop).trans ((if_yes (tt.trans (congrArg Res.ok hc))).trans ((ap_nx (ds := s.2.map (cd ts L m)) (d := cd ts L m u) rfl (by rw [List.length_map]; omega) (eTu (eC rfl (eC (eMet rfl (by rfl) rfl lost) rfl)) (Nat.le_of_ble_eq_true rfl))).trans ?_))
      unfold nxW kidW
      rw [if_pos hc, if_pos hc, List.reverse_nil, List.append_nil]
      show Out.nx _ = Out.nx _
      unfold EW
      rw [List.map_append]
      rfl
    · have t2 : (tst (op2 dEq (opN cLen (argC (vr 4) argN)) (op1 (getD' "Ask" "length") (vr 0)))) (pkv (EW ts L m q a s st (.sh (.str u), .sh (rsD ts L m u), x.2.2))) = .ok (decide (((u.length : Nat) : Int) = ((L : Nat) : Int))) := (tB (e2 (eN (eC rfl rfl) (lenq (by omega))) (e1 rfl (by rfl)) (eqq (by simp) (by simp)))).trans (by rw [eqd_int])
      by_cases hl : u.length = L
      · refine ⟨(.sh (.str u), .sh (rsD ts L m u), x.2.2), ?_⟩
        refine (sq_nx pop).trans ((if_no (tt.trans (congrArg Res.ok (Bool.eq_false_iff.mpr hc)))).trans ((if_yes (t2.trans (congrArg Res.ok (decide_eq_true (by omega))))).trans ((ap_nx (ds := s.1.map .str) (d := .str u) rfl (by rw [List.length_map]; omega) rfl).trans ?_)))
        unfold nxW kidW
        rw [if_neg hc, if_neg hc, if_pos hl, if_pos hl, List.reverse_nil, List.append_nil]
        show Out.nx _ = Out.nx _
        unfold EW
        rw [List.map_append]
        rfl
      · obtain ⟨z', e⟩ := push_loop (ts := ts) (L := L) (m := m) (q := q) (a := a) (u := u) (s := s) (by omega) (by omega) hn htl a.reverse st x.2.2 (by rw [List.length_reverse]; omega)
        refine ⟨(.sh (.str u), .sh (rsD ts L m u), z'), ?_⟩
        refine (sq_nx pop).trans ((if_no (tt.trans (congrArg Res.ok (Bool.eq_false_iff.mpr hc)))).trans ((if_no (t2.trans (congrArg Res.ok (decide_eq_false (by omega))))).trans ((for_go (ds := a.reverse.map fun c => D.str [c]) ?_).trans (e.trans ?_))))
        · refine eI (e1 (d := .str a) (z := .str a.reverse) (e1 rfl (by rfl)) (show dRev (.str a) = _ from if_pos (by omega))) rfl
        · unfold nxW kidW
          rw [if_neg hc, if_neg hc, if_neg hl, if_neg hl, List.map_reverse]
  wle := fun s n => by
    unfold nxW
    split
    · show s.1.length + (s.2 ++ [n]).length ≤ _
      rw [List.length_append]
      show s.1.length + (s.2.length + 1) ≤ _
      omega
    · split
      · show (s.1 ++ [n]).length + s.2.length ≤ _
        rw [List.length_append]
        show s.1.length + 1 + s.2.length ≤ _
        omega
      · omega
  few := fun s n => by
    unfold kidW
    split
    · exact Nat.zero_le _
    · split
      · exact Nat.zero_le _
      · rw [List.length_map]
        exact Nat.le_refl _
  down := fun s n w hp hw => by
    unfold kidW at hw
    split at hw
    · cases hw
    · split at hw
      · cases hw
      · rename_i h1 h2
        obtain ⟨c, _, rfl⟩ := List.mem_map.mp hw
        have e : (n ++ [c]).length = n.length + 1 := by rw [List.length_append]; rfl
        rw [e]
        omega
section
variable (ts : List (List Nat)) (L m q : Nat) (a : List Nat)
def fF : Nat → List Nat → List (List Nat)
  | 0, u => if cutB ts L m q u = true then [] else [u]
  | k + 1, u => if cutB ts L m q u = true then [] else a.flatMap fun c => fF k (u ++ [c])
def fC : Nat → List Nat → List (List Nat)
  | 0, u => if cutB ts L m q u = true then [u] else []
  | k + 1, u => if cutB ts L m q u = true then [u] else a.flatMap fun c => fC k (u ++ [c])
end
theorem go_eq {ts : List (List Nat)} {L m q : Nat} {a : List Nat} : ∀ (k : Nat) (s : St2) (u : List Nat), u.length + k = L → goD (nxW ts L m q) (kidW ts L m q a) k s u = (s.1 ++ fF ts L m q a k u, s.2 ++ fC ts L m q a k u)
  | 0, s, u, h => by
    show nxW ts L m q s u = _
    unfold nxW fF fC
    by_cases c : cutB ts L m q u = true
    · rw [if_pos c, if_pos c, if_pos c, List.append_nil]
    · rw [if_neg c, if_neg c, if_neg c, if_pos (by omega), List.append_nil]
  | k + 1, s, u, h => by
    show (kidW ts L m q a s u).foldl (goD (nxW ts L m q) (kidW ts L m q a) k) (nxW ts L m q s u) = _
    unfold fF fC
    by_cases c : cutB ts L m q u = true
    · rw [if_pos c, if_pos c]
      unfold kidW nxW
      rw [if_pos c, if_pos c, List.append_nil]
      rfl
    · rw [if_neg c, if_neg c]
      have e1 : kidW ts L m q a s u = a.map fun c => u ++ [c] := by
        unfold kidW
        rw [if_neg c, if_neg (by omega)]
      have e2 : nxW ts L m q s u = s := by
        unfold nxW
        rw [if_neg c, if_neg (by omega)]
      rw [e1, e2]
      have key : ∀ (l : List Nat) (s : St2), (l.map fun c => u ++ [c]).foldl (goD (nxW ts L m q) (kidW ts L m q a) k) s = (s.1 ++ l.flatMap fun c => fF ts L m q a k (u ++ [c]), s.2 ++ l.flatMap fun c => fC ts L m q a k (u ++ [c])) := by
        intro l
        induction l with
        | nil =>
          intro s
          rw [List.flatMap_nil, List.flatMap_nil, List.append_nil, List.append_nil]
          rfl
        | cons c l ih =>
          intro s
          rw [List.map_cons, List.foldl_cons, go_eq k s (u ++ [c]) (by rw [List.length_append]; show u.length + 1 + k = _; omega), ih, List.flatMap_cons, List.flatMap_cons, List.append_assoc, List.append_assoc]
      exact key a s
theorem walk_ok {ts : List (List Nat)} {L m q : Nat} {a : List Nat} (hn : ts.length ≤ 1000) (htl : ∀ t ∈ ts, t.length ≤ 900) (h1 : 1 ≤ L) (hL : L ≤ 6) (h3 : a.length ≤ 4) :
    m_walk [oA ts L m a q] = .ok (.tup [.lst ((fF ts L m q a L []).map .str), .lst ((fC ts L m q a L []).map (cd ts L m))]) := by
  have hsz : sz a.length L < 10000 := by
    have f : ∀ b, b ≤ 4 → ∀ l, l ≤ 6 → sz b l < 10000 := by decide
    exact f _ h3 _ hL
  have h15 : a.length * (L + 1) ≤ 5000 := Nat.le_trans (Nat.mul_le_mul h3 (show L + 1 ≤ 7 by omega)) (by decide)
  obtain ⟨x', e⟩ := (walk_dfs (ts := ts) (L := L) (m := m) (q := q) (a := a) hn htl (by omega) (by omega)).run (fun s x => by
      refine (tB (e2 rfl (eL rfl (by decide)) (neq (dep_nd ts L m []) (by decide)))).trans rfl) (k := L) (F := 10000) (s := ([], [])) (n := []) (.no, .no, .no) (Nat.zero_le _) (Nat.le_refl _) (by decide) h15 hsz
  rw [go_eq L ([], []) [] (by show 0 + L = L; omega)] at e
  refine dm rfl (sq_to (par3_nx (zo_ok (d := []) rfl) (zo_ok (d := []) rfl) (zo_ok (d := [nd ts L m []]) (eLn (eC (eTu (eC rfl (eC (eMet rfl (by rfl) rfl (rows_ok hn htl (by omega))) rfl)) (Nat.le_of_ble_eq_true rfl)) rfl) (Nat.le_of_ble_eq_true rfl)))) (sq_to e (re_to (eTu rfl (Nat.le_of_ble_eq_true rfl)))))
theorem gb_up {L m : Nat} {u t : List Nat} {c : Nat} (h : gb L m u t = true) : gb L m (u ++ [c]) t = true := by
  unfold gb at h ⊢
  rw [List.isEmpty_iff] at h ⊢
  refine List.filter_eq_nil_iff.mpr fun p hp z => ?_
  refine List.filter_eq_nil_iff.mp h p hp (decide_eq_true ?_)
  have z := of_decide_eq_true z
  have := cnt_up p u c
  omega
theorem cut_snoc {ts : List (List Nat)} {L m q : Nat} {u : List Nat} {c : Nat} (h : cutB ts L m q u = true) : cutB ts L m q (u ++ [c]) = true := by
  have h := of_decide_eq_true h
  refine decide_eq_true ?_
  rw [gn_len] at h ⊢
  have := filter_len_le (p := gb L m u) (q := gb L m (u ++ [c])) (fun t ht => gb_up ht) ts
  omega
theorem cut_app {ts : List (List Nat)} {L m q : Nat} {u : List Nat} (h : cutB ts L m q u = true) (v : List Nat) : cutB ts L m q (u ++ v) = true := by
  induction v using snoc_ind with
  | h0 => rw [List.append_nil]; exact h
  | h1 v c ih => rw [← List.append_assoc]; exact cut_snoc ih
theorem fF_eq {ts : List (List Nat)} {L m q : Nat} {a : List Nat} : ∀ (k : Nat) (u : List Nat), fF ts L m q a k u = ((allw a k).map fun r => u ++ r).filter fun w => !cutB ts L m q w
  | 0, u => by
    show (if cutB ts L m q u = true then [] else [u]) = List.filter _ [u ++ []]
    rw [List.append_nil]
    by_cases c : cutB ts L m q u = true
    · rw [if_pos c]
      exact (List.filter_cons_of_neg (p := fun w => !cutB ts L m q w) (a := u) (l := []) (by simp [c])).symm
    · rw [if_neg c]
      exact (List.filter_cons_of_pos (p := fun w => !cutB ts L m q w) (a := u) (l := []) (by simp [c])).symm
  | k + 1, u => by
    show (if cutB ts L m q u = true then [] else a.flatMap fun c => fF ts L m q a k (u ++ [c])) = _
    by_cases c : cutB ts L m q u = true
    · rw [if_pos c]
      refine (List.filter_eq_nil_iff.mpr fun w hw => ?_).symm
      obtain ⟨r, _, rfl⟩ := List.mem_map.mp hw
      rw [cut_app c r]
      exact Bool.false_ne_true
    · rw [if_neg c, allw_cons, List.map_flatMap, List.filter_flatMap]
      refine congrArg (fun f => a.flatMap f) (funext fun d => ?_)
      rw [fF_eq k (u ++ [d]), List.map_map]
      refine congrArg (fun f => ((allw a k).map f).filter _) (funext fun r => ?_)
      show u ++ [d] ++ r = u ++ (d :: r)
      rw [List.append_assoc]
      rfl
theorem stands_ok {t w : List Nat} {m : Nat} (ht : t.length ≤ 900) (hw : w.length ≤ 900) : m__law_stands [.str t, .str w, .int m] = .ok (.bl (!gb w.length m w t)) := by
  have ek : ((((t.length : Nat) : Int) - ((w.length : Nat) : Int) + 1) - 0).toNat = t.length + 1 - w.length := by omega
  have rows : (ofL (lcO (rgF (op2 dAdd (op2 dSub (opN cLen (argC (vr 0) argN)) (opN cLen (argC (vr 1) argN))) (cst (.int 1)))) [4] (.nm 4) yesT (calF m__law_slips (argC (slF (vr 0) (soP (vr 4)) (soP (op2 dAdd (vr 4) (opN cLen (argC (vr 1) argN))))) (argC (vr 1) argN))))) (shv ([D.str t, .str w, .int m].map Sl.sh ++ noS 3)) = .ok (.lst ((pz w.length t).map fun p => D.int (cnt p w : Nat))) := by
    refine eO (eLc (ds := rgD 0 (((t.length : Nat) : Int) - ((w.length : Nat) : Int) + 1)) (eR (e2 (e2 (eN (eC rfl rfl) (lenq (by omega))) (eN (eC rfl rfl) (lenq (by omega))) rfl) rfl rfl) (by omega)) (by unfold rgD; rw [List.length_map, List.length_range]; omega) ?_)
    unfold rgD
    rw [ek]
    refine (lcGo_im (g := fun i => D.int (cnt (cut t (some (0 + ((i : Nat) : Int))) (some (0 + ((i : Nat) : Int) + ((w.length : Nat) : Int)))) w : Nat)) (ps := fun i => [(4, D.int (0 + (i : Nat)))]) fun i _ => ⟨rfl, (eK (eC (eS rfl (eP rfl) (eP (e2 rfl (eN (eC rfl rfl) (lenq (by omega))) rfl)) (slq (by omega))) (eC rfl rfl))).trans (unlike_ok (by have := cut_len t (some (0 + ((i : Nat) : Int))) (some (0 + ((i : Nat) : Int) + ((w.length : Nat) : Int))); omega))⟩).trans ?_
    refine congrArg Res.ok ?_
    unfold pz
    rw [List.map_map]
    refine List.map_congr_left fun i hi => ?_
    have := List.mem_range.mp hi
    show D.int ((cnt (cut t (some (0 + ((i : Nat) : Int))) (some (0 + ((i : Nat) : Int) + ((w.length : Nat) : Int)))) w : Nat) : Int) = D.int ((cnt (pcs t i w.length) w : Nat) : Int)
    rw [Int.zero_add, cut_pcs (by omega)]
  have pl : (pz w.length t).length ≤ 1000 := by
    unfold pz
    rw [List.length_map, List.length_range]
    omega
  refine dm rfl (sq_to (as_nx rows) (re_to ((e2 (eO (eLc rfl (by rw [List.length_map]; omega) (lcGo_imf (h := fun p => D.int (cnt p w : Nat)) (g := fun p => D.int (cnt p w : Nat)) (b := keep m w) (ps := fun p => [(5, D.int (cnt p w : Nat))]) fun p _ => ⟨rfl, tB (e2 rfl rfl rfl), fun _ => rfl⟩))) (eL rfl (by decide)) (neq ?_ (by decide))).trans ?_)))
  · rw [dep_lst]
    have : depL (((pz w.length t).filter (keep m w)).map fun p => D.int (cnt p w : Nat)) ≤ 0 := depL_map fun _ _ => Nat.le_refl _
    omega
  · refine congrArg (fun b => Res.ok (D.bl b)) ?_
    unfold gb
    cases (pz w.length t).filter (keep m w) with
    | nil => rfl
    | cons p l => rw [eqd_lst, List.map_cons, eqdL_cn]; rfl
theorem common_ok {a : List Nat} {ts : List (List Nat)} {most L m q : Nat} {qd : D} (ha : a ∈ A4) (h1 : 1 ≤ ts.length) (h2 : ts.length ≤ 12) (ht : ∀ t ∈ ts, Tx a most t) (hm : most ≤ 40) (hL : 1 ≤ L ∧ L ≤ 6) (hmL : m ≤ L) (hq : 1 ≤ q ∧ q ≤ ts.length) (hd : qd = .int (q : Nat) ∨ (qd = .non ∧ q = ts.length)) (a3 : a.length ≤ 4) :
    m_common [.lst (ts.map .str), .int L, .int m, .str a, qd] = .ok (.lst (((allw a L).filter fun u => !cutB ts L m q u).map .str)) := by
  have ef : fF ts L m q a L [] = (allw a L).filter fun u => !cutB ts L m q u := by
    rw [fF_eq]
    refine congrArg (List.filter _) ?_
    exact (List.map_congr_left fun r _ => List.nil_append r).trans (List.map_id _)
  rw [← ef]
  exact dm rfl (re_to (e2 ((eK (eC ((eK rfl).trans (new_ok ha h1 h2 ht hm (by omega) hmL hq hd)) rfl)).trans (walk_ok (by omega) (fun t h => by have := (ht t h).1.2; omega) hL.1 hL.2 a3)) rfl rfl))
def nonB (ts : List (List Nat)) (L m : Nat) (u : List Nat) : Bool := ts.all fun t => gb L m u t
theorem all_flat (L m : Nat) (u : List Nat) : ∀ ts : List (List Nat), (ts.flatMap fun t => (pz L t).map fun p => decide (((cnt p u : Nat) : Int) > ((m : Nat) : Int))).all id = nonB ts L m u
  | [] => rfl
  | t :: ts => by
    have ih := all_flat L m u ts
    have e : ((pz L t).map fun p => decide (((cnt p u : Nat) : Int) > ((m : Nat) : Int))).all id = gb L m u t := by
      rw [List.all_map]
      unfold gb
      by_cases c : (pz L t).filter (keep m u) = []
      · rw [c]
        refine List.all_eq_true.mpr fun p hp => ?_
        have := List.filter_eq_nil_iff.mp c p hp
        show decide (((cnt p u : Nat) : Int) > ((m : Nat) : Int)) = true
        refine decide_eq_true ?_
        have z : ¬ ((cnt p u : Nat) : Int) ≤ ((m : Nat) : Int) := fun z => this (decide_eq_true z)
        omega
      · have e2 : ((pz L t).filter (keep m u)).isEmpty = false := Bool.eq_false_iff.mpr fun z => c (List.isEmpty_iff.mp z)
        rw [e2]
        refine Bool.eq_false_iff.mpr fun z => c (List.filter_eq_nil_iff.mpr fun p hp k => ?_)
        have z := of_decide_eq_true (List.all_eq_true.mp z p hp)
        have k := of_decide_eq_true k
        omega
    unfold nonB at ih ⊢
    rw [List.flatMap_cons, List.all_append, List.all_cons, e, ih]
theorem has_none_ok {ts : List (List Nat)} {w : List Nat} {m : Nat} (hn : ts.length ≤ 100) (htl : ∀ t ∈ ts, t.length ≤ 900) (hw : w.length ≤ 900) : m_has_none [.lst (ts.map .str), .str w, .int m] = .ok (.bl (nonB ts w.length m w)) := by
  have fl := flat_lenP w.length (fun p => D.bl (decide (((cnt p w : Nat) : Int) > ((m : Nat) : Int)))) ts htl
  refine dm rfl (re_to (eN (eC (eO (eLc2 (ds := ts.map .str) (zs := ts.flatMap fun t => (pz w.length t).map fun p => D.bl (decide (((cnt p w : Nat) : Int) > ((m : Nat) : Int)))) rfl (by rw [List.length_map]; omega) (lc2_im (h := .str) (ps := fun t => [(3, .str t)]) (es := fun t => (pz w.length t).map fun p => D.int ((cnt p w : Nat) : Int)) fun t ht => ⟨rfl, eI ((eK rfl).trans (places_ok hw (htl t ht))) rfl, ?_, lcGo_im (ps := fun p => [(4, D.int ((cnt p w : Nat) : Int))]) fun p _ => ⟨rfl, e2 rfl rfl rfl⟩⟩) (by omega))) rfl) ?_))
  · have := htl t ht
    unfold pz
    rw [List.length_map, List.length_map, List.length_range]
    omega
  · show (blsOf _).map _ = _
    have e9 : (ts.flatMap fun t => (pz w.length t).map fun p => D.bl (decide (((cnt p w : Nat) : Int) > ((m : Nat) : Int)))) = (ts.flatMap fun t => (pz w.length t).map fun p => decide (((cnt p w : Nat) : Int) > ((m : Nat) : Int))).map D.bl := by
      rw [List.map_flatMap]
      refine congrArg (fun f => ts.flatMap f) (funext fun t => ?_)
      rw [List.map_map]
      rfl
    rw [e9, bls_map (ts.flatMap fun t => (pz w.length t).map fun p => decide (((cnt p w : Nat) : Int) > ((m : Nat) : Int))) (fun b => b), List.map_id']
    show some (D.bl _) = _
    rw [all_flat]
/-- a word parts two lots -/
def prtB (t1 t2 : List (List Nat)) (L m : Nat) (u : List Nat) : Bool := (t1.filter (gb L m u)).isEmpty && nonB t2 L m u
theorem cut_all {ts : List (List Nat)} {L m : Nat} (u : List Nat) : (!cutB ts L m ts.length u) = (ts.filter (gb L m u)).isEmpty := by
  unfold cutB
  rw [gn_len]
  cases z : ts.filter (gb L m u) with
  | nil =>
    rw [decide_eq_false (by show ¬ _ - 0 < _; omega)]
    rfl
  | cons t l =>
    rw [decide_eq_true (by rw [List.length_cons]; omega)]
    rfl
theorem parting_ok {a : List Nat} {t1 t2 : List (List Nat)} {L m k1 k2 : Nat} (ha : a ∈ A4) (h1 : 1 ≤ t1.length ∧ t1.length ≤ 12) (h2 : 1 ≤ t2.length ∧ t2.length ≤ 12) (x1 : ∀ t ∈ t1, Tx a k1 t) (x2 : ∀ t ∈ t2, Tx a k2 t) (j1 : k1 ≤ 40) (j2 : k2 ≤ 40) (hL : 1 ≤ L ∧ L ≤ 6) (hmL : m ≤ L) (a2 : a.length ≤ 4) :
    m_parting [.lst (t1.map .str), .lst (t2.map .str), .int L, .int m, .str a] = .ok (.lst (((allw a L).filter (prtB t1 t2 L m)).map .str)) := by
  have cm := common_ok (L := L) (m := m) (q := t1.length) (qd := .non) ha h1.1 h1.2 x1 j1 hL hmL ⟨h1.1, Nat.le_refl _⟩ (.inr ⟨rfl, rfl⟩) a2
  have aw := allw_many (show a.length ≤ 4 by omega) L
  have p6 : 4 ^ L ≤ 4 ^ 6 := Nat.pow_le_pow_right (by decide) hL.2
  have p7 : (4 : Nat) ^ 6 = 4096 := rfl
  have fl := List.length_filter_le (fun u => !cutB t1 L m t1.length u) (allw a L)
  refine dm rfl (sq_to (ex_nx ((eK rfl).trans (need_texts_ok ha h1.1 h1.2 x1 j1))) (sq_to (ex_nx ((eK rfl).trans (need_texts_ok ha h2.1 h2.2 x2 j2))) (re_to (eO (eLc (eI ((kw40 rfl).trans cm) rfl) (by rw [List.length_map]; omega) ((lcGo_imf (h := .str) (g := .str) (b := fun u => nonB t2 L m u) (ps := fun u => [(5, .str u)]) fun u hu => ⟨rfl, ?_, fun _ => rfl⟩).trans ?_))))))
  · have lu := allw_len (List.mem_filter.mp hu).1
    exact tB ((eK rfl).trans ((has_none_ok (by omega) (fun t ht => by have := (x2 t ht).1.2; omega) (by omega)).trans (by rw [lu])))
  · rw [List.filter_filter]
    refine congrArg (fun f => Res.ok ((List.filter f (allw a L)).map D.str)) (funext fun u => ?_)
    unfold prtB
    rw [← cut_all, Bool.and_comm]
theorem fC_len {ts : List (List Nat)} {L m q : Nat} {a : List Nat} (h3 : a.length ≤ 4) : ∀ (k : Nat) (u : List Nat), (fC ts L m q a k u).length ≤ 4 ^ k
  | 0, u => by
    unfold fC
    split
    · exact Nat.le_refl _
    · exact Nat.zero_le _
  | k + 1, u => by
    have pos : 0 < 4 ^ k := Nat.pow_pos (by decide)
    have e4 : 4 ^ (k + 1) = 4 ^ k * 4 := Nat.pow_succ ..
    unfold fC
    split
    · show 1 ≤ _
      omega
    · have key : ∀ l : List Nat, (l.flatMap fun c => fC ts L m q a k (u ++ [c])).length ≤ l.length * 4 ^ k := by
        intro l
        induction l with
        | nil => exact Nat.zero_le _
        | cons c l ih =>
          have := fC_len (ts := ts) (L := L) (m := m) (q := q) h3 k (u ++ [c])
          rw [List.flatMap_cons, List.length_append, List.length_cons, Nat.add_mul, Nat.one_mul]
          omega
      have := key a
      have := Nat.mul_le_mul_right (4 ^ k) h3
      omega
theorem dep_cuts (ts : List (List Nat)) (L m : Nat) (l : List (List Nat)) : dep (.lst (l.map (cd ts L m))) ≤ 60 := by
  rw [dep_lst]
  have : depL (l.map (cd ts L m)) ≤ 2 := depL_map fun u _ => by
    have e : depL (gn ts L m u) ≤ 0 := depL_map fun _ _ => Nat.le_refl _
    simp only [dep_tup, depL_cons, dep_str, depL_nil]
    omega
  omega
theorem paper_ok {a : List Nat} {ts : List (List Nat)} {most L m q : Nat} {qd : D} (ha : a ∈ A4) (h1 : 1 ≤ ts.length) (h2 : ts.length ≤ 12) (ht : ∀ t ∈ ts, Tx a most t) (hm : most ≤ 40) (hL : 1 ≤ L ∧ L ≤ 6) (hmL : m ≤ L) (hq : 1 ≤ q ∧ q ≤ ts.length) (hd : qd = .int (q : Nat) ∨ (qd = .non ∧ q = ts.length)) (a3 : a.length ≤ 4) :
    m_paper [.lst (ts.map .str), .int L, .int m, .str a, qd] = .ok (.lst ((fC ts L m q a L []).map (cd ts L m))) :=
  dm rfl (re_to (e2 ((eK (eC ((eK rfl).trans (new_ok ha h1 h2 ht hm (by omega) hmL hq hd)) rfl)).trans (walk_ok (by omega) (fun t h => by have := (ht t h).1.2; omega) hL.1 hL.2 a3)) rfl rfl))
end Pu.Cm

namespace Pu.Nr
open PySem L2 Pu
/-! ### nearest words, totals -/
def fl (L : Nat) (u t : List Nat) : Int := (lmin ((pz L t).map fun p => ((cnt p u : Nat) : Int))).getD 0
theorem pz_ne {L : Nat} {t : List Nat} (h : L ≤ t.length) : pz L t ≠ [] := by
  intro z
  have : (pz L t).length = 0 := by rw [z]; rfl
  unfold pz at this
  rw [List.length_map, List.length_range] at this
  omega
theorem fl_ok {L : Nat} {t : List Nat} (h : L ≤ t.length) (u : List Nat) : lmin ((pz L t).map fun p => ((cnt p u : Nat) : Int)) = some (fl L u t) := by
  obtain ⟨m, e⟩ := lmin_some (l := (pz L t).map fun p => ((cnt p u : Nat) : Int)) (fun z => pz_ne h (List.map_eq_nil_iff.mp z))
  unfold fl
  rw [e]
  rfl
theorem fl_up {L : Nat} {t : List Nat} (h : L ≤ t.length) (u : List Nat) (c : Nat) : fl L u t ≤ fl L (u ++ [c]) t := by
  obtain ⟨p, hp, e⟩ := List.mem_map.mp (lmin_spec (fl_ok h (u ++ [c]))).1
  have q := (lmin_spec (fl_ok h u)).2 _ (List.mem_map.mpr ⟨p, hp, rfl⟩)
  have := cnt_up p u c
  omega
theorem fl_le {L : Nat} {t : List Nat} (h : L ≤ t.length) (u : List Nat) : fl L u t ≤ ((u.length : Nat) : Int) := by
  obtain ⟨p, hp, e⟩ := List.mem_map.mp (lmin_spec (fl_ok h u)).1
  have := cnt_le_r p u
  omega
def tot (L : Nat) (ts : List (List Nat)) (u : List Nat) : Int := (ts.map (fl L u)).sum
theorem tot_up {L : Nat} (u : List Nat) (c : Nat) : ∀ {ts : List (List Nat)}, (∀ t ∈ ts, L ≤ t.length) → tot L ts u ≤ tot L ts (u ++ [c])
  | [], _ => Int.le_refl _
  | t :: ts, h => by
    have h1 := fl_up (h t List.mem_cons_self) u c
    have h2 := tot_up u c (ts := ts) fun s hs => h s (List.mem_cons_of_mem _ hs)
    unfold tot at h2 ⊢
    rw [List.map_cons, List.map_cons, List.sum_cons, List.sum_cons]
    omega
theorem tot_app {L : Nat} {ts : List (List Nat)} (h : ∀ t ∈ ts, L ≤ t.length) (u v : List Nat) : tot L ts u ≤ tot L ts (u ++ v) := by
  induction v using snoc_ind with
  | h0 => rw [List.append_nil]; exact Int.le_refl _
  | h1 v c ih =>
    rw [← List.append_assoc]
    exact Int.le_trans ih (tot_up _ c h)
theorem tot_le {L : Nat} (u : List Nat) (hu : u.length = L) : ∀ {ts : List (List Nat)}, (∀ t ∈ ts, L ≤ t.length) → tot L ts u ≤ (ts.map fun _ => ((L : Nat) : Int)).sum
  | [], _ => Int.le_refl _
  | t :: ts, h => by
    have h1 := fl_le (h t List.mem_cons_self) u
    have h2 := tot_le u hu (ts := ts) fun s hs => h s (List.mem_cons_of_mem _ hs)
    unfold tot at h2 ⊢
    rw [List.map_cons, List.map_cons, List.sum_cons, List.sum_cons]
    omega
/-- the rows of slips of a word's beginning, however they are cut out -/
theorem min_cnt {L : Nat} {t u : List Nat} (h : L ≤ t.length) {ds : List D} (e : ds = (pz L t).map fun p => D.int ((cnt p u : Nat) : Int)) : cMin [.lst ds] = some (.int (fl L u t)) := by
  have e2 : ((pz L t).map fun p => D.int ((cnt p u : Nat) : Int)) = ((pz L t).map fun p => ((cnt p u : Nat) : Int)).map D.int := by
    rw [List.map_map]
    rfl
  rw [e, e2]
  show (intsOf _).bind _ = _
  rw [intsOf_map]
  show (lmin _).map D.int = _
  rw [fl_ok h u]
  rfl
theorem cnt_in {ε : Pu.Env} {f g : F} {i j : Nat} {p u : List Nat} (hp : p.length ≤ 1000) (h1 : f ε = .ok (.str p)) (h2 : g ε = .ok (.str u)) (v1 : ∀ x y, vr i (setsE (wipeE ε [i, j]) [(i, x), (j, y)]) = .ok x) (v2 : ∀ x y, vr j (setsE (wipeE ε [i, j]) [(i, x), (j, y)]) = .ok y) :
    (opN cLen (argC (ofL (lcO (ziF f g) [i, j] (.tp [i, j]) (tst (op2 dNe (vr i) (vr j))) (cst (.int 1)))) argN)) ε = .ok (.int ((cnt p u : Nat) : Int)) := by
  refine (eN (eC (eO (eLc ((eZ h1 h2 rfl rfl).trans (by rw [zi_map])) (by rw [List.length_map, List.length_zip]; omega) (lcGo_imf (g := fun _ => .int 1) (b := fun q : Nat × Nat => !decide (q.1 = q.2)) (ps := fun q => [(i, .str [q.1]), (j, .str [q.2])]) fun q _ => ⟨rfl, (tB (e2 (v1 _ _) (v2 _ _) (neq (by simp) (by simp)))).trans ?_, fun _ => rfl⟩))) rfl) rfl).trans ?_
  · rw [eqd_str]
    refine congrArg (fun b => Res.ok (!b)) (decide_eq_decide.mpr ⟨fun z => (List.cons.inj z).1, fun z => by rw [z]⟩)
  · rw [List.length_map]
    rfl
theorem floor_loop {L : Nat} {u : List Nat} {r0 : Sl} (hL : L ≤ 900) (hu : u.length ≤ L) : ∀ (l : List (List Nat)) (s : Int) (x y : Sl), (∀ t ∈ l, L ≤ t.length ∧ t.length ≤ 900) → ∃ x' y', forGo (.nm 4) (sqS (asS 5 (ofL (lcO (rgF (op2 dAdd (op2 dSub (opN cLen (argC (vr 4) argN)) (vr 2)) (cst (.int 1)))) [6] (.nm 6) yesT (slF (vr 4) (soP (vr 6)) (soP (op2 dAdd (vr 6) (opN cLen (argC (vr 1) argN)))))))) (auS 3 iAdd (opN cMin (argC (ofL (lcO (itF (vr 5)) [7] (.nm 7) yesT (opN cLen (argC (ofL (lcO (ziF (vr 7) (vr 1)) [8, 9] (.tp [8, 9]) (tst (op2 dNe (vr 8) (vr 9))) (cst (.int 1)))) argN)))) argN))))
    (l.map .str) [r0, .sh (.str u), .sh (.int L), .sh (.int s), x, y, .no, .no, .no, .no] = .nx [r0, .sh (.str u), .sh (.int L), .sh (.int (s + (l.map (fl L u)).sum)), x', y', .no, .no, .no, .no]
  | [], s, x, y, _ => ⟨x, y, by rw [List.map_nil, List.map_nil, List.sum_nil, Int.add_zero]; rfl⟩
  | t :: l, s, x, y, ht => by
    obtain ⟨t1, t2⟩ := ht t List.mem_cons_self
    have ek : ((((t.length : Nat) : Int) - ((L : Nat) : Int) + 1) - 0).toNat = t.length + 1 - L := by omega
    obtain ⟨x', y', e⟩ := floor_loop (r0 := r0) hL hu l (s + fl L u t) (.sh (.str t)) (.sh (.lst ((List.range (t.length + 1 - L)).map fun i => D.str (cut t (some (0 + ((i : Nat) : Int))) (some (0 + ((i : Nat) : Int) + ((u.length : Nat) : Int))))))) fun q hq => ht q (List.mem_cons_of_mem _ hq)
    refine ⟨x', y', ?_⟩
    rw [List.map_cons, for_cons (ps := [(4, .str t)]) (ρ' := [r0, .sh (.str u), .sh (.int L), .sh (.int (s + fl L u t)), .sh (.str t), .sh (.lst ((List.range (t.length + 1 - L)).map fun i => D.str (cut t (some (0 + ((i : Nat) : Int))) (some (0 + ((i : Nat) : Int) + ((u.length : Nat) : Int)))))), .no, .no, .no, .no]) rfl, e, List.map_cons, List.sum_cons, Int.add_assoc]
    refine (sq_nx (as_nx (d := .lst ((List.range (t.length + 1 - L)).map fun i => D.str (cut t (some (0 + ((i : Nat) : Int))) (some (0 + ((i : Nat) : Int) + ((u.length : Nat) : Int)))))) (eO (eLc (ds := rgD 0 (((t.length : Nat) : Int) - ((L : Nat) : Int) + 1)) (eR (e2 (e2 (eN (eC rfl rfl) (lenq (by omega))) rfl rfl) rfl rfl) (by omega)) (by unfold rgD; rw [List.length_map, List.length_range]; omega) ?_)))).trans ?_
    · unfold rgD
      rw [ek]
      exact lcGo_im (ps := fun i => [(6, D.int (0 + (i : Nat)))]) fun i _ => ⟨rfl, eS rfl (eP rfl) (eP (e2 rfl (eN (eC rfl rfl) (lenq (by omega))) rfl)) (slq (by omega))⟩
    · refine au_nx rfl (eN (eC (eO (eLc rfl (by rw [List.length_map, List.length_range]; omega) (lcGo_im (h := fun i : Nat => D.str (cut t (some (0 + ((i : Nat) : Int))) (some (0 + ((i : Nat) : Int) + ((u.length : Nat) : Int))))) (g := fun i => D.int ((cnt (cut t (some (0 + ((i : Nat) : Int))) (some (0 + ((i : Nat) : Int) + ((u.length : Nat) : Int)))) u : Nat) : Int)) (ps := fun i => [(7, D.str (cut t (some (0 + ((i : Nat) : Int))) (some (0 + ((i : Nat) : Int) + ((u.length : Nat) : Int)))))]) fun i _ => ⟨rfl, cnt_in (by have := cut_len t (some (0 + ((i : Nat) : Int))) (some (0 + ((i : Nat) : Int) + ((u.length : Nat) : Int))); omega) rfl rfl (fun _ _ => rfl) (fun _ _ => rfl)⟩))) rfl) (min_cnt t1 (pz_cut hu))) rfl
theorem floor_ok {ts : List (List Nat)} {L : Nat} {u : List Nat} (hL : L ≤ 900) (hu : u.length ≤ L) (ht : ∀ t ∈ ts, L ≤ t.length ∧ t.length ≤ 900) : m_floor_of [.lst (ts.map .str), .str u, .int L] = .ok (.int (tot L ts u)) := by
  obtain ⟨x', y', e⟩ := floor_loop (r0 := .sh (.lst (ts.map .str))) hL hu ts 0 .no .no ht
  refine dm rfl (sq_to (as_nx (d := .int 0) rfl) (sq_to ((for_go (ds := ts.map .str) rfl).trans e) ((re_to rfl).trans ?_)))
  unfold tot
  rw [Int.zero_add]
theorem sum_of_ok {ts : List (List Nat)} {w : List Nat} (hn : ts.length ≤ 1000) (hw : w.length ≤ 900) (ht : ∀ t ∈ ts, w.length ≤ t.length ∧ t.length ≤ 900) : m_sum_of [.lst (ts.map .str), .str w] = .ok (.int (tot w.length ts w)) := by
  refine dm rfl (re_to (eN (eC (eO (eLc rfl (by rw [List.length_map]; omega) (lcGo_im (h := .str) (g := fun t => .int (fl w.length w t)) (ps := fun t => [(2, .str t)]) fun t h => ⟨rfl, eN (eC ((eK rfl).trans (places_ok hw (ht t h).2)) rfl) (min_cnt (ht t h).1 rfl)⟩))) rfl) ?_))
  show (intsOf _).map _ = _
  rw [ints_map]
  rfl
/-! nearest -/
abbrev StN := Int × List (List Nat)
section
variable (ts : List (List Nat)) (L : Nat) (a : List Nat)
def nxN (s : StN) (u : List Nat) : StN := if tot L ts u ≤ s.1 then (if u.length = L then (tot L ts u, if tot L ts u = s.1 then s.2 ++ [u] else [u]) else s) else s
def kidN (s : StN) (u : List Nat) : List (List Nat) := if tot L ts u ≤ s.1 then (if u.length = L then [] else a.map fun c => u ++ [c]) else []
def EN (s : StN) (st : List (List Nat)) (x : Sl × Sl) : SEnv := [.sh (.lst (ts.map .str)), .sh (.int L), .sh (.str a), .sh (.int s.1), .sh (.lst (s.2.map .str)), .ow (st.map .str), x.1, x.2, .no, .no]
def leaf (s : StN) (w : List Nat) : StN := if tot L ts w ≤ s.1 then (tot L ts w, if tot L ts w = s.1 then s.2 ++ [w] else [w]) else s
end
abbrev nearC : T := (tst (op2 dNe (vr 5) (lstF argN)))
abbrev nearB : SF := (sqS (poS 6 5) (sqS (asS 7 (calF m_floor_of (argC (vr 0) (argC (vr 6) (argC (vr 1) argN))))) (ifS (tst (op2 dLe (vr 7) (vr 3))) (ifS (tst (op2 dEq (opN cLen (argC (vr 6) argN)) (vr 1))) (sqS (asS 4 (ifF (tst (op2 dEq (vr 7) (vr 3))) (op2 dAdd (vr 4) (lstF (argC (vr 6) argN))) (lstF (argC (vr 6) argN)))) (asS 3 (vr 7))) (fzS [5] (aoS 5 (catO (vr 5) (ofL (lcO (itF (op1 dRev (vr 2))) [9] (.nm 9) yesT (op2 dAdd (vr 6) (vr 9)))))))) nxS)))
theorem near_dfs {ts : List (List Nat)} {L : Nat} {a : List Nat} (ht : ∀ t ∈ ts, L ≤ t.length ∧ t.length ≤ 900) (hL : L ≤ 800) (hal : a.length ≤ 6) :
    Dfs (EN ts L a) nearC nearB (nxN ts L) (kidN ts L a) (fun u => L - u.length) a.length (fun u => u.length ≤ L) (fun s => s.2.length) where
  more := fun s st n x => by
    refine (tB (e2 rfl (eL rfl (by decide)) (neq (dep_strs (st ++ [n])) (by decide)))).trans ?_
    rw [eqd_lst, List.map_append]
    cases st with
    | nil => rfl
    | cons w st => rw [List.map_cons, List.cons_append, eqdL_cn]; rfl
  body := fun s st u x hu hw hs => by
    have fl := floor_ok (ts := ts) (L := L) (u := u) (by omega) hu ht
    have e0 : ∀ g : SF, (sqS (poS 6 5) (sqS (asS 7 (calF m_floor_of (argC (vr 0) (argC (vr 6) (argC (vr 1) argN))))) g)) (EN ts L a s (st ++ [u]) x) = g (EN ts L a s st (.sh (.str u), .sh (.int (tot L ts u)))) := fun g => by
      refine (sq_nx ((po_nx (l := st.map .str) (d := .str u) ?_).trans (show _ = Out.nx (EN ts L a s st (.sh (.str u), x.2)) from rfl))).trans ((sq_nx (as_nx ((eK rfl).trans fl))).trans rfl)
      show some (Sl.ow ((st ++ [u]).map .str)) = _
      rw [List.map_append]
      rfl
    have t1 : (tst (op2 dLe (vr 7) (vr 3))) (pkv (EN ts L a s st (.sh (.str u), .sh (.int (tot L ts u))))) = .ok (decide (tot L ts u ≤ s.1)) := tB (e2 rfl rfl rfl)
    have t2 : (tst (op2 dEq (opN cLen (argC (vr 6) argN)) (vr 1))) (pkv (EN ts L a s st (.sh (.str u), .sh (.int (tot L ts u))))) = .ok (decide (((u.length : Nat) : Int) = ((L : Nat) : Int))) := (tB (e2 (eN (eC rfl rfl) (lenq (by omega))) rfl (eqq (by simp) (by simp)))).trans (by rw [eqd_int])
    refine ⟨(.sh (.str u), .sh (.int (tot L ts u))), (e0 _).trans ?_⟩
    unfold nxN kidN
    by_cases c : tot L ts u ≤ s.1
    · rw [if_pos c, if_pos c]
      refine (if_yes (t1.trans (congrArg Res.ok (decide_eq_true c)))).trans ?_
      by_cases l : u.length = L
      · rw [if_pos l, if_pos l, List.reverse_nil, List.append_nil]
        refine (if_yes (t2.trans (congrArg Res.ok (decide_eq_true (by omega))))).trans ?_
        have t3 : (tst (op2 dEq (vr 7) (vr 3))) (shv (EN ts L a s st (.sh (.str u), .sh (.int (tot L ts u))))) = .ok (decide (tot L ts u = s.1)) := (tB (e2 rfl rfl (eqq (by simp) (by simp)))).trans (by rw [eqd_int])
        refine (sq_nx (as_nx (d := .lst ((if tot L ts u = s.1 then s.2 ++ [u] else [u]).map .str)) (eIf t3 (fun z => ?_) fun z => ?_))).trans rfl
        · have z := of_decide_eq_true z
          rw [if_pos z, List.map_append]
          exact e2 rfl (eL rfl (Nat.le_of_ble_eq_true rfl)) (if_pos (by rw [List.length_map]; show s.2.length + 1 ≤ _; omega))
        · have z := of_decide_eq_false z
          rw [if_neg z]
          exact eL rfl (Nat.le_of_ble_eq_true rfl)
      · rw [if_neg l, if_neg l]
        refine (if_no (t2.trans (congrArg Res.ok (decide_eq_false (by omega))))).trans ?_
        refine (show _ = aoS 5 _ [.sh (.lst (ts.map .str)), .sh (.int L), .sh (.str a), .sh (.int s.1), .sh (.lst (s.2.map .str)), .sh (.lst (st.map .str)), .sh (.str u), .sh (.int (tot L ts u)), .no, .no] from rfl).trans ?_
        have kd : (ofL (lcO (itF (op1 dRev (vr 2))) [9] (.nm 9) yesT (op2 dAdd (vr 6) (vr 9)))) (shv [.sh (.lst (ts.map .str)), .sh (.int L), .sh (.str a), .sh (.int s.1), .sh (.lst (s.2.map .str)), .sh (.lst (st.map .str)), .sh (.str u), .sh (.int (tot L ts u)), .no, .no]) = .ok (.lst (a.reverse.map fun c => D.str (u ++ [c]))) :=
          eO (eLc (eI (e1 (d := .str a) (z := .str a.reverse) rfl (show dRev (.str a) = _ from if_pos (by omega))) rfl) (by rw [List.length_map, List.length_reverse]; omega) (lcGo_im (h := fun c => D.str [c]) (g := fun c => D.str (u ++ [c])) (ps := fun c => [(9, .str [c])]) fun c _ => ⟨rfl, e2 rfl rfl (if_pos (by show u.length + 1 ≤ _; omega))⟩))
        refine (ao_nx (ds := st.map .str ++ a.reverse.map fun c => D.str (u ++ [c])) ?_).trans ?_
        · show ((vr 5) _).bind _ = _
          have v5 : (vr 5) (shv [.sh (.lst (ts.map .str)), .sh (.int L), .sh (.str a), .sh (.int s.1), .sh (.lst (s.2.map .str)), .sh (.lst (st.map .str)), .sh (.str u), .sh (.int (tot L ts u)), .no, .no]) = .ok (.lst (st.map .str)) := rfl
          rw [v5, Res.bind_ok, kd, Res.bind_ok]
          show ofO (if _ then _ else _) = _
          rw [if_pos (by rw [List.length_map, List.length_map, List.length_reverse]; omega)]
          rfl
        · show Out.nx _ = Out.nx _
          unfold EN
          rw [List.map_append, ← List.map_reverse, List.map_map]
          rfl
    · rw [if_neg c, if_neg c, List.reverse_nil, List.append_nil]
      exact if_nx (t1.trans (congrArg Res.ok (decide_eq_false c)))
  wle := fun s n => by
    unfold nxN
    split
    · split
      · show (if tot L ts n = s.1 then s.2 ++ [n] else [n]).length ≤ _
        split
        · rw [List.length_append]
          exact Nat.le_refl _
        · show 1 ≤ _
          omega
      · omega
    · omega
  few := fun s n => by
    unfold kidN
    split
    · split
      · exact Nat.zero_le _
      · rw [List.length_map]
        exact Nat.le_refl _
    · exact Nat.zero_le _
  down := fun s n w hp hw => by
    unfold kidN at hw
    split at hw
    · split at hw
      · cases hw
      · rename_i h1 h2
        obtain ⟨c, _, rfl⟩ := List.mem_map.mp hw
        have e : (n ++ [c]).length = n.length + 1 := by rw [List.length_append]; rfl
        rw [e]
        omega
    · cases hw
/-- what is cut off would have changed nothing -/
theorem leaf_skip {ts : List (List Nat)} {L : Nat} {s : StN} : ∀ {l : List (List Nat)}, (∀ w ∈ l, ¬ tot L ts w ≤ s.1) → l.foldl (leaf ts L) s = s
  | [], _ => rfl
  | w :: l, h => by
    have e : leaf ts L s w = s := by
      unfold leaf
      rw [if_neg (h w List.mem_cons_self)]
    rw [List.foldl_cons, e]
    exact leaf_skip fun q hq => h q (List.mem_cons_of_mem _ hq)
theorem go_near {ts : List (List Nat)} {L : Nat} {a : List Nat} (ht : ∀ t ∈ ts, L ≤ t.length) : ∀ (k : Nat) (s : StN) (u : List Nat), u.length + k = L → goD (nxN ts L) (kidN ts L a) k s u = ((allw a k).map fun r => u ++ r).foldl (leaf ts L) s
  | 0, s, u, h => by
    show nxN ts L s u = leaf ts L s (u ++ [])
    rw [List.append_nil]
    unfold nxN leaf
    by_cases c : tot L ts u ≤ s.1
    · rw [if_pos c, if_pos c, if_pos (by omega)]
    · rw [if_neg c, if_neg c]
  | k + 1, s, u, h => by
    show (kidN ts L a s u).foldl (goD (nxN ts L) (kidN ts L a) k) (nxN ts L s u) = _
    by_cases c : tot L ts u ≤ s.1
    · have e1 : kidN ts L a s u = a.map fun c => u ++ [c] := by
        unfold kidN
        rw [if_pos c, if_neg (by omega)]
      have e2 : nxN ts L s u = s := by
        unfold nxN
        rw [if_pos c, if_neg (by omega)]
      rw [e1, e2, allw_cons, List.map_flatMap]
      have key : ∀ (l : List Nat) (s : StN), (l.map fun c => u ++ [c]).foldl (goD (nxN ts L) (kidN ts L a) k) s = (l.flatMap fun c => ((allw a k).map fun r => c :: r).map fun r => u ++ r).foldl (leaf ts L) s := by
        intro l
        induction l with
        | nil => intro s; rfl
        | cons c l ih =>
          intro s
          rw [List.map_cons, List.foldl_cons, go_near ht k s (u ++ [c]) (by rw [List.length_append]; show u.length + 1 + k = _; omega), ih, List.flatMap_cons, List.foldl_append]
          refine congrArg (fun z => List.foldl (leaf ts L) (List.foldl (leaf ts L) s z) _) ?_
          rw [List.map_map]
          refine List.map_congr_left fun r _ => ?_
          show u ++ [c] ++ r = u ++ (c :: r)
          rw [List.append_assoc]
          rfl
      exact key a s
    · have e1 : kidN ts L a s u = [] := by
        unfold kidN
        rw [if_neg c]
      have e2 : nxN ts L s u = s := by
        unfold nxN
        rw [if_neg c]
      rw [e1, e2]
      show s = _
      refine (leaf_skip (s := s) fun w hw z => ?_).symm
      obtain ⟨r, _, rfl⟩ := List.mem_map.mp hw
      have := tot_app ht u r
      omega
/-- the least, from b on -/
def mnF (ts : List (List Nat)) (L : Nat) : Int → List (List Nat) → Int
  | b, [] => b
  | b, w :: l => mnF ts L (if tot L ts w ≤ b then tot L ts w else b) l
theorem mnF_spec {ts : List (List Nat)} {L : Nat} : ∀ (l : List (List Nat)) (b : Int), (mnF ts L b l ≤ b ∧ ∀ w ∈ l, mnF ts L b l ≤ tot L ts w) ∧ (mnF ts L b l = b ∨ ∃ w ∈ l, mnF ts L b l = tot L ts w)
  | [], b => ⟨⟨Int.le_refl _, fun _ h => nomatch h⟩, .inl rfl⟩
  | w :: l, b => by
    obtain ⟨⟨h1, h2⟩, h3⟩ := mnF_spec (ts := ts) (L := L) l (if tot L ts w ≤ b then tot L ts w else b)
    unfold mnF
    by_cases c : tot L ts w ≤ b
    · rw [if_pos c] at h1 h2 h3 ⊢
      refine ⟨⟨Int.le_trans h1 c, fun q hq => ?_⟩, ?_⟩
      · rcases List.mem_cons.mp hq with e | e
        · rw [e]; exact h1
        · exact h2 q e
      · rcases h3 with e | ⟨q, hq, e⟩
        · exact .inr ⟨w, List.mem_cons_self, e⟩
        · exact .inr ⟨q, List.mem_cons_of_mem _ hq, e⟩
    · rw [if_neg c] at h1 h2 h3 ⊢
      refine ⟨⟨h1, fun q hq => ?_⟩, ?_⟩
      · rcases List.mem_cons.mp hq with e | e
        · rw [e]; omega
        · exact h2 q e
      · rcases h3 with e | ⟨q, hq, e⟩
        · exact .inl e
        · exact .inr ⟨q, List.mem_cons_of_mem _ hq, e⟩
theorem leaf_all {ts : List (List Nat)} {L : Nat} : ∀ (l : List (List Nat)) (b : Int) (F : List (List Nat)), l.foldl (leaf ts L) (b, F) = (mnF ts L b l, (if mnF ts L b l = b then F else []) ++ l.filter fun w => decide (tot L ts w = mnF ts L b l))
  | [], b, F => by
    show (b, F) = (b, (if b = b then F else []) ++ [])
    rw [if_pos rfl, List.append_nil]
  | w :: l, b, F => by
    rw [List.foldl_cons]
    unfold mnF
    by_cases c : tot L ts w ≤ b
    · have e : leaf ts L (b, F) w = (tot L ts w, if tot L ts w = b then F ++ [w] else [w]) := by
        unfold leaf
        rw [if_pos c]
      rw [e, leaf_all l, if_pos c]
      have h1 := (mnF_spec (ts := ts) (L := L) l (tot L ts w)).1.1
      generalize mnF ts L (tot L ts w) l = b' at *
      refine Prod.ext rfl ?_
      show (if b' = tot L ts w then (if tot L ts w = b then F ++ [w] else [w]) else []) ++ l.filter (fun w => decide (tot L ts w = b')) = (if b' = b then F else []) ++ (w :: l).filter fun w => decide (tot L ts w = b')
      by_cases d : b' = tot L ts w
      · rw [if_pos d, List.filter_cons_of_pos (p := fun w => decide (tot L ts w = b')) (decide_eq_true d.symm)]
        by_cases f : tot L ts w = b
        · rw [if_pos f, if_pos (by omega), List.append_assoc]
          rfl
        · rw [if_neg f, if_neg (by omega)]
          rfl
      · rw [if_neg d, List.filter_cons_of_neg (p := fun w => decide (tot L ts w = b')) (by simp; omega), if_neg (by omega)]
    · have e : leaf ts L (b, F) w = (b, F) := by
        unfold leaf
        rw [if_neg c]
      rw [e, leaf_all l, if_neg c]
      have h1 := (mnF_spec (ts := ts) (L := L) l b).1.1
      generalize mnF ts L b l = b' at *
      rw [List.filter_cons_of_neg (p := fun w => decide (tot L ts w = b')) (by simp; omega)]
theorem need_length_hi {ts : List (List Nat)} (hn : ts.length ≤ 1000) (htl : ∀ t ∈ ts, t.length ≤ 900) : ∃ hi : Int, lmin (8 :: ts.map fun t => ((t.length : Nat) : Int)) = some hi ∧ ∀ d : D, okD d → m_need_length [.lst (ts.map .str), d] = if numB 1 hi d = true then .ok .non else .ex ⟨4, some (.str [108, 101, 110, 103, 116, 104])⟩ := by
  obtain ⟨hi, e⟩ := lmin_some (l := 8 :: ts.map fun t => ((t.length : Nat) : Int)) (by simp)
  refine ⟨hi, e, fun d hd => ?_⟩
  have mn : (opN cMin (argC (op2 dAdd (lstF (argC (cst (.int 8)) argN)) (ofL (lcO (itF (vr 0)) [2] (.nm 2) yesT (opN cLen (argC (vr 2) argN))))) argN)) (pkv ([D.lst (ts.map .str), d].map Sl.sh ++ noS 1)) = .ok (.int hi) := by
    refine eN (eC (e2 (eL rfl (Nat.le_of_ble_eq_true rfl)) (eO (eLc rfl (by rw [List.length_map]; omega) (lcGo_im (h := .str) (g := fun t => D.int ((t.length : Nat) : Int)) (ps := fun t => [(2, .str t)]) fun t h => ⟨rfl, eN (eC rfl rfl) (lenq (by have := htl t h; omega))⟩))) (if_pos (by rw [List.length_map]; show 1 + _ ≤ _; omega))) rfl) ?_
    show (intsOf _).bind _ = _
    have e9 : [D.int 8] ++ (ts.map fun t => D.int ((t.length : Nat) : Int)) = (8 :: ts.map fun t => ((t.length : Nat) : Int)).map D.int := by
      rw [List.map_cons, List.map_map]
      rfl
    rw [e9, intsOf_map]
    show (lmin _).map D.int = _
    rw [e]
    rfl
  have tt : (noT (tst (calF m_is_number (argC (vr 1) (argC (cst (.int 1)) (argC (opN cMin (argC (op2 dAdd (lstF (argC (cst (.int 8)) argN)) (ofL (lcO (itF (vr 0)) [2] (.nm 2) yesT (opN cLen (argC (vr 2) argN))))) argN)) argN)))))) (pkv ([D.lst (ts.map .str), d].map Sl.sh ++ noS 1)) = .ok (!numB 1 hi d) := tNo (tB ((eK (eC rfl (eC rfl (eC mn rfl)))).trans (is_number_ok hd)))
  cases z : numB 1 hi d with
  | true =>
    rw [if_pos rfl]
    exact dm rfl (congrArg outR (if_no (tt.trans (by rw [z]; rfl))))
  | false =>
    rw [if_neg Bool.false_ne_true]
    exact dm rfl ((congrArg outR (if_yes (tt.trans (by rw [z]; rfl)))).trans rfl)
theorem sums_const (L : Nat) (ts : List (List Nat)) : cSum [.lst (ts.map fun _ => D.int (L : Nat))] = some (.int ((ts.map fun _ => ((L : Nat) : Int)).sum)) := by
  show (intsOf _).map _ = _
  rw [ints_map]
  rfl
theorem nearest_ok {a : List Nat} {ts : List (List Nat)} {most L : Nat} (ha : a ∈ A4) (h1 : 1 ≤ ts.length) (h2 : ts.length ≤ 12) (ht : ∀ t ∈ ts, Tx a most t) (hm : most ≤ 40) (hL : 1 ≤ L ∧ L ≤ 4) (hlen : ∀ t ∈ ts, L ≤ t.length) (a3 : a.length ≤ 4) :
    m_nearest [.lst (ts.map .str), .int L, .str a] = .ok (.tup [.int (mnF ts L (ts.map fun _ => ((L : Nat) : Int)).sum (allw a L)), .lst (((allw a L).filter fun w => decide (tot L ts w = mnF ts L (ts.map fun _ => ((L : Nat) : Int)).sum (allw a L))).map .str)]) := by
  have htl : ∀ t ∈ ts, L ≤ t.length ∧ t.length ≤ 900 := fun t h => ⟨hlen t h, by have := (ht t h).1.2; omega⟩
  obtain ⟨hi, eh, nl⟩ := need_length_hi (ts := ts) (by omega) (fun t h => (htl t h).2)
  have hLi : ((L : Nat) : Int) ≤ hi := by
    rcases List.mem_cons.mp (lmin_spec eh).1 with e | e
    · omega
    · obtain ⟨t, h, e⟩ := List.mem_map.mp e
      have := hlen t h
      omega
  have nl2 := nl (.int L) trivial
  rw [if_pos (num_in (by omega) hLi)] at nl2
  have hsz : sz a.length L < 10000 := by
    have f : ∀ b, b ≤ 4 → ∀ l, l ≤ 4 → sz b l < 10000 := by decide
    exact f _ a3 _ hL.2
  have h15 : a.length * (L + 1) ≤ 5000 := Nat.le_trans (Nat.mul_le_mul a3 (show L + 1 ≤ 5 by omega)) (by decide)
  obtain ⟨x', e⟩ := (near_dfs (ts := ts) (L := L) (a := a) htl (by omega) (by omega)).run (fun s x => by
      refine (tB (e2 rfl (eL rfl (by decide)) (neq (dep_strs []) (by decide)))).trans rfl) (k := L) (F := 10000) (s := ((ts.map fun _ => ((L : Nat) : Int)).sum, [])) (n := []) (.no, .no) (Nat.zero_le _) (Nat.le_refl _) (by show 0 + 10000 ≤ _; omega) h15 hsz
  have em : ((allw a L).map fun r => ([] : List Nat) ++ r) = allw a L := (List.map_congr_left fun r _ => List.nil_append r).trans (List.map_id _)
  rw [go_near hlen L _ [] (by show 0 + L = L; omega), em, leaf_all] at e
  have ei : (if mnF ts L (ts.map fun _ => ((L : Nat) : Int)).sum (allw a L) = (ts.map fun _ => ((L : Nat) : Int)).sum then ([] : List (List Nat)) else []) = [] := by split <;> rfl
  rw [ei, List.nil_append] at e
  refine dm rfl (sq_to (ex_nx ((eK rfl).trans (need_texts_ok ha h1 h2 ht hm))) (sq_to (ex_nx ((eK rfl).trans nl2)) (sq_to (par3_nx (zs_ok (eN (eC (eO (eLc rfl (by rw [List.length_map]; omega) (lcGo_im (h := .str) (g := fun _ => D.int (L : Nat)) (ps := fun t => [(8, .str t)]) fun t _ => ⟨rfl, rfl⟩))) rfl) (sums_const L ts))) (zs_ok (eL rfl (by decide))) (zo_ok (d := [.str []]) (eLn rfl (Nat.le_of_ble_eq_true rfl)))) (sq_to e (re_to (eTu rfl (Nat.le_of_ble_eq_true rfl)))))))
theorem total_ok {a : List Nat} {ts : List (List Nat)} {most : Nat} {w : List Nat} (ha : a ∈ A4) (h1 : 1 ≤ ts.length) (h2 : ts.length ≤ 12) (ht : ∀ t ∈ ts, Tx a most t) (hm : most ≤ 40) (pw : plainB (.str w) = true) (hi : ∀ c ∈ w, c ∈ a) :
    m_total [.lst (ts.map .str), .str w, .str a] = if (ts.map fun t => decide (((t.length : Nat) : Int) < ((w.length : Nat) : Int))).any id = true then .ok .non else m_sum_of [.lst (ts.map .str), .str w] := by
  have lw := plain_ok pw
  have tt : (tst (opN cAny (argC (ofL (lcO (itF (vr 0)) [3] (.nm 3) yesT (op2 dLt (opN cLen (argC (vr 3) argN)) (opN cLen (argC (vr 1) argN))))) argN))) (pkv ([D.lst (ts.map .str), .str w, .str a].map Sl.sh ++ noS 1)) = .ok ((ts.map fun t => decide (((t.length : Nat) : Int) < ((w.length : Nat) : Int))).any id) := by
    refine tB (eN (eC (eO (eLc rfl (by rw [List.length_map]; omega) (lcGo_im (h := .str) (g := fun t => D.bl (decide (((t.length : Nat) : Int) < ((w.length : Nat) : Int)))) (ps := fun t => [(3, .str t)]) fun t h => ⟨rfl, e2 (eN (eC rfl rfl) (lenq (by have := (ht t h).1.2; omega))) (eN (eC rfl rfl) (lenq lw)) rfl⟩))) rfl) ?_)
    show (blsOf _).map _ = _
    rw [bls_map]
    rfl
  have nt := need_texts_ok ha h1 h2 ht hm
  have nw := need_word_ok ha pw hi
  cases z : (ts.map fun t => decide (((t.length : Nat) : Int) < ((w.length : Nat) : Int))).any id with
  | true =>
    rw [if_pos rfl]
    exact dm rfl (sq_to (ex_nx ((eK rfl).trans nt)) (sq_to (ex_nx ((eK rfl).trans nw)) (congrArg outR (sq_rt ((if_yes (tt.trans (by rw [z]))).trans (re_rt rfl))))))
  | false =>
    rw [if_neg Bool.false_ne_true]
    refine dm rfl (sq_to (ex_nx ((eK rfl).trans nt)) (sq_to (ex_nx ((eK rfl).trans nw)) (sq_to (if_nx (tt.trans (by rw [z]))) ?_)))
    show outR (shB _ _ _) = _
    have e : (calF m_sum_of (argC (vr 0) (argC (vr 1) argN))) (pkv ([D.lst (ts.map .str), .str w, .str a].map Sl.sh ++ noS 1)) = m_sum_of [.lst (ts.map .str), .str w] := eK rfl
    cases y : m_sum_of [.lst (ts.map .str), .str w] with
    | ok d => exact re_to (e.trans y)
    | ex x => exact congrArg outR (re_ex (e.trans y))
    | st =>
      rw [e, y]
      rfl
/-! what is refused -/
end Pu.Nr

namespace Pu.Co
open PySem L2 Pu
/-! ### pieces of one length, columns, middles -/
def gP (a : List Nat) : D → Bool
  | .str w => (!decide (w = [])) && (w.map fun c => decide (c ∈ a)).all id
  | _ => false
def okP : D → Prop
  | .str w => w.length ≤ 1000
  | .non => True
  | _ => False
abbrev gE : F := (anF (op1 (isiD "str") (vr 2)) (anF (op2 dNe (vr 2) (cst (.str []))) (opN cAll (argC (ofL (lcO (itF (vr 2)) [3] (.nm 3) yesT (op2 dIn (vr 3) (vr 1)))) argN))))
theorem gE_ok {ds : List D} {a : List Nat} {d : D} (h : okP d) : gE [some (.lst ds), some (.str a), some d, none] = .ok (.bl (gP a d)) := by
  match d, h with
  | .non, _ => exact eAn (x := false) (y := false) rfl fun z => nomatch z
  | .str w, h =>
    have h : w.length ≤ 1000 := h
    refine eAn (x := true) (y := gP a (.str w)) rfl fun _ => ?_
    refine eAn (x := !decide (w = [])) (y := (w.map fun c => decide (c ∈ a)).all id) ((e2 rfl rfl (neq (by simp) (by simp))).trans (by rw [eqd_str])) fun _ => ?_
    refine eN (eC (eO (eLc rfl (by rw [List.length_map]; omega) (lcGo_im (h := fun c => D.str [c]) (g := fun c => .bl (decide (c ∈ a))) (ps := fun c => [(3, .str [c])]) fun c _ => ⟨rfl, e2 rfl rfl rfl⟩))) rfl) ?_
    show (blsOf _).map _ = _
    rw [bls_map]
    rfl
theorem okP_dep {ds : List D} (h : ∀ d ∈ ds, okP d) : depL ds ≤ 0 := depL_le fun d hd => by
  have := h d hd
  match d, this with
  | .non, _ => exact Nat.le_refl _
  | .str w, _ => exact Nat.le_refl _
abbrev c1T : T := (orT (noT (tst (op1 (isiD "list") (vr 0)))) (tst (op2 dEq (vr 0) (lstF argN))))
theorem c1_no {ds : List D} {a : List Nat} (ne : ds ≠ []) (hk : ∀ d ∈ ds, okP d) : c1T (pkv ([D.lst ds, .str a].map Sl.sh ++ noS 2)) = .ok false := by
  have dp := okP_dep hk
  refine tOr (x := false) (y := false) (tNo (x := true) (tB rfl)) fun _ => (tB (e2 rfl (eL rfl (by decide)) (eqq (by rw [dep_lst]; omega) (by decide)))).trans ?_
  cases ds with
  | nil => exact absurd rfl ne
  | cons d ds => rw [eqd_lst, eqdL_cn]
theorem c2_is {ds : List D} {a : List Nat} (hn : ds.length ≤ 1000) (hk : ∀ d ∈ ds, okP d) : (noT (tst (opN cAll (argC (ofL (lcO (itF (vr 0)) [2] (.nm 2) yesT gE)) argN)))) (pkv ([D.lst ds, .str a].map Sl.sh ++ noS 2)) = .ok (!(ds.map (gP a)).all id) := by
  refine tNo (tB (eN (eC (eO (eLc (ds := ds) rfl (by omega) (lcGo_map (ps := fun d => [(2, d)]) (g := fun d => .bl (gP a d)) fun d hd => ⟨rfl, gE_ok (hk d hd)⟩))) rfl) ?_))
  show (blsOf _).map _ = _
  rw [bls_map]
  rfl
theorem ip_no {ds : List D} {a : List Nat} (ne : ds ≠ []) (hn : ds.length ≤ 1000) (hk : ∀ d ∈ ds, okP d) (hf : (ds.map (gP a)).all id = false) : m_is_pieces [.lst ds, .str a] = .ok (.bl false) :=
  dm rfl (sq_to (if_nx (c1_no ne hk)) (congrArg outR (sq_rt ((if_yes ((c2_is hn hk).trans (by rw [hf]; rfl))).trans (re_rt rfl)))))
theorem ip_yes {p0 : List Nat} {ps : List (List Nat)} {a : List Nat} (hn : (p0 :: ps).length ≤ 1000) (hk : ∀ p ∈ p0 :: ps, p.length ≤ 1000) (hg : ((p0 :: ps).map fun p => gP a (.str p)).all id = true) : m_is_pieces [.lst ((p0 :: ps).map .str), .str a] = .ok (.bl (((p0 :: ps).map fun p => decide (((p.length : Nat) : Int) = ((p0.length : Nat) : Int))).all id)) := by
  have hk2 : ∀ d ∈ (p0 :: ps).map D.str, okP d := fun d hd => by
    obtain ⟨p, hp, rfl⟩ := List.mem_map.mp hd
    exact hk p hp
  have hg2 : (((p0 :: ps).map D.str).map (gP a)).all id = true := by
    rw [List.map_map]
    exact hg
  have ix : dIx (.lst ((p0 :: ps).map D.str)) (.int 0) = some (.str p0) := Pu.atI_nat (xs := (p0 :: ps).map D.str) (m := 0) (by rw [List.length_map]; exact Nat.succ_pos _)
  refine dm rfl (sq_to (if_nx (c1_no (by intro z; cases z) hk2)) (sq_to (if_nx ((c2_is (by rw [List.length_map]; exact hn) hk2).trans (by rw [hg2]; rfl))) (re_to (eN (eC (eO (eLc rfl (by rw [List.length_map]; omega) (lcGo_im (h := .str) (g := fun p => D.bl (decide (((p.length : Nat) : Int) = ((p0.length : Nat) : Int)))) (ps := fun p => [(2, .str p)]) fun p hp => ⟨rfl, (e2 (eN (eC rfl rfl) (lenq (hk p hp))) (eN (eC (e2 rfl rfl ix) rfl) (lenq (hk p0 List.mem_cons_self))) (eqq (by simp) (by simp))).trans (by rw [eqd_int])⟩))) rfl) ?_))))
  show (blsOf _).map _ = _
  rw [bls_map]
  rfl
/-- pieces of one length, letters of a -/
structure Pcs (a : List Nat) (L : Nat) (ps : List (List Nat)) : Prop where
  ne : ps ≠ []
  few : ps.length ≤ 100
  len : ∀ p ∈ ps, p.length = L
  le : ∀ p ∈ ps, ∀ c ∈ p, c ∈ a
  one : 1 ≤ L ∧ L ≤ 900
theorem gP_ok {a : List Nat} {L : Nat} {ps : List (List Nat)} (P : Pcs a L ps) : ∀ p ∈ ps, gP a (.str p) = true := fun p hp => by
  show ((!decide (p = [])) && (p.map fun c => decide (c ∈ a)).all id) = true
  have h1 : p ≠ [] := fun z => by
    have := P.len p hp
    have := P.one.1
    rw [z] at *
    simp at *
    omega
  rw [decide_eq_false h1, List.all_map]
  exact List.all_eq_true.mpr fun c hc => decide_eq_true (P.le p hp c hc)
theorem is_pieces_ok {a : List Nat} {L : Nat} {ps : List (List Nat)} (P : Pcs a L ps) : m_is_pieces [.lst (ps.map .str), .str a] = .ok (.bl true) := by
  cases ps with
  | nil => exact absurd rfl P.ne
  | cons p0 r =>
    have := P.few
    have o := P.one
    rw [ip_yes (by omega) (fun p hp => by rw [P.len p hp]; omega) (by rw [List.all_map]; exact List.all_eq_true.mpr fun p hp => gP_ok P p hp)]
    refine congrArg (fun b => Res.ok (D.bl b)) ?_
    rw [List.all_map]
    exact List.all_eq_true.mpr fun p hp => decide_eq_true (by rw [P.len p hp, P.len p0 List.mem_cons_self])
theorem need_pieces_ok {a : List Nat} {L : Nat} {ps : List (List Nat)} (ha : a ∈ A4) (P : Pcs a L ps) : m_need_pieces [.lst (ps.map .str), .str a] = .ok .non :=
  dm rfl (sq_to (ex_nx ((eK rfl).trans (need_al ha))) (congrArg outR (if_no (tNo (x := true) (tB ((eK rfl).trans (is_pieces_ok P)))))))
theorem need_pieces_no {a : List Nat} {d : D} (ha : a ∈ A4) (h : m_is_pieces [d, .str a] = .ok (.bl false)) : m_need_pieces [d, .str a] = .ex ⟨5, none⟩ :=
  dm rfl (sq_to (ex_nx ((eK rfl).trans (need_al ha))) ((congrArg outR (if_yes (tNo (x := false) (tB ((eK rfl).trans h))))).trans rfl))
def cc (ps : List (List Nat)) (k c : Nat) : Nat := (ps.filter fun p => decide (p.getD k 0 = c)).length
theorem count_cc (ps : List (List Nat)) (k c : Nat) : (ps.map fun p => [p.getD k 0]).count [c] = cc ps k c := by
  induction ps with
  | nil => rfl
  | cons p ps ih =>
    unfold cc at ih ⊢
    rw [List.map_cons, List.count_cons, ih]
    by_cases h : p.getD k 0 = c
    · rw [List.filter_cons_of_pos (p := fun p : List Nat => decide (p.getD k 0 = c)) (decide_eq_true h), List.length_cons, h, if_pos (beq_self_eq_true _)]
    · rw [List.filter_cons_of_neg (p := fun p : List Nat => decide (p.getD k 0 = c)) (by simpa using h), if_neg (by simpa using h)]
      rfl
abbrev rowD (ps : List (List Nat)) (a : List Nat) (k : Nat) : List D := a.map fun c => D.int ((cc ps k c : Nat) : Int)
def row (ps : List (List Nat)) (a : List Nat) (k : Nat) : List Int := a.map fun c => ((cc ps k c : Nat) : Int)
theorem rowD_eq (ps : List (List Nat)) (a : List Nat) (k : Nat) : rowD ps a k = (row ps a k).map D.int := by
  unfold row
  rw [List.map_map]
  rfl
theorem cntq {ps : List (List Nat)} {k c : Nat} : dCount (.lst (ps.map fun p => D.str [p.getD k 0])) (.str [c]) = some (.int ((cc ps k c : Nat) : Int)) := by
  show (strsOf _).map _ = _
  rw [strs_map]
  show some (D.int (((ps.map fun p => [p.getD k 0]).count [c] : Nat) : Int)) = _
  rw [count_cc]
abbrev colB : SF := (sqS (asS 4 (ofL (lcO (itF (vr 0)) [5] (.nm 5) yesT (op2 dIx (vr 5) (vr 3))))) (apS 2 (opN cTupZ (argC (ofL (lcO (itF (vr 1)) [6] (.nm 6) yesT (mt1 tyLst dCount (vr 4) (vr 6)))) argN))))
theorem col_loop {a : List Nat} {L : Nat} {ps : List (List Nat)} (hal : a.length ≤ 100) (P : Pcs a L ps) : ∀ (l : List Nat) (acc : List D) (x y : Sl), (∀ k ∈ l, k < L) → acc.length + l.length ≤ 5000 → ∃ x' y', forGo (.nm 3) colB (l.map fun i => D.int (i : Nat)) [.sh (.lst (ps.map .str)), .sh (.str a), .ow acc, x, y, .no, .no] = .nx [.sh (.lst (ps.map .str)), .sh (.str a), .ow (acc ++ l.map fun k => D.tpz (rowD ps a k)), x', y', .no, .no]
  | [], acc, x, y, _, _ => ⟨x, y, by rw [List.map_nil, List.map_nil, List.append_nil]; rfl⟩
  | k :: l, acc, x, y, hk, hl => by
    have hl : acc.length + (l.length + 1) ≤ 5000 := hl
    have k1 := hk k List.mem_cons_self
    have few := P.few
    have one := P.one
    obtain ⟨x', y', e⟩ := col_loop hal P l (acc ++ [.tpz (rowD ps a k)]) (.sh (.int (k : Nat))) (.sh (.lst (ps.map fun p => D.str [p.getD k 0]))) (fun q hq => hk q (List.mem_cons_of_mem _ hq)) (by rw [List.length_append]; show acc.length + 1 + _ ≤ _; omega)
    refine ⟨x', y', ?_⟩
    rw [List.map_cons, for_cons (ps := [(3, .int (k : Nat))]) (ρ' := [.sh (.lst (ps.map .str)), .sh (.str a), .ow (acc ++ [.tpz (rowD ps a k)]), .sh (.int (k : Nat)), .sh (.lst (ps.map fun p => D.str [p.getD k 0])), .no, .no]) rfl, e, List.map_cons, List.append_assoc]
    · rfl
    · refine (sq_nx (as_nx (d := .lst (ps.map fun p => D.str [p.getD k 0])) (eO (eLc rfl (by rw [List.length_map]; omega) (lcGo_im (h := .str) (g := fun p => D.str [p.getD k 0]) (ps := fun p => [(5, .str p)]) fun p hp => ⟨rfl, e2 rfl rfl (at_sign (by rw [P.len p hp]; exact k1) (by rw [P.len p hp]; omega))⟩))))).trans ?_
      exact ap_nx (ds := acc) rfl (by omega) (eN (eC (eO (eLc (ds := a.map fun c => D.str [c]) rfl (by rw [List.length_map]; omega) (lcGo_im (h := fun c => D.str [c]) (g := fun c => D.int ((cc ps k c : Nat) : Int)) (ps := fun c => [(6, .str [c])]) fun c _ => ⟨rfl, eM rfl rfl rfl cntq⟩))) rfl) rfl)
theorem columns_ok {a : List Nat} {L : Nat} {ps : List (List Nat)} (ha : a ∈ A4) (P : Pcs a L ps) : m_columns [.lst (ps.map .str), .str a] = .ok (.lst ((List.range L).map fun k => D.tpz (rowD ps a k))) := by
  have la := (a4_let a ha).2.2
  have one := P.one
  obtain ⟨x', y', e⟩ := col_loop (by omega) P (List.range L) [] .no .no (fun k hk => List.mem_range.mp hk) (by rw [List.length_range]; show 0 + _ ≤ _; omega)
  obtain ⟨p0, r, ep⟩ : ∃ p0 r, ps = p0 :: r := by
    cases ps with
    | nil => exact absurd rfl P.ne
    | cons p0 r => exact ⟨p0, r, rfl⟩
  have l0 : p0.length = L := P.len p0 (by rw [ep]; exact List.mem_cons_self)
  have ix : dIx (.lst (ps.map D.str)) (.int 0) = some (.str p0) := by
    rw [ep]
    exact Pu.atI_nat (xs := (p0 :: r).map D.str) (m := 0) (by rw [List.length_map]; exact Nat.succ_pos _)
  refine dm rfl (sq_to (ex_nx ((eK rfl).trans (need_pieces_ok ha P))) (sq_to (ao_nx (ds := []) rfl) (sq_to ((for_go (ds := rgD 0 ((L : Nat) : Int)) ((eR (eN (eC (e2 rfl rfl ix) rfl) (lenq (by omega))) (by omega)).trans (by rw [l0]))).trans ((congrArg (fun l => forGo _ _ l _) (rgD_nat L)).trans e)) (re_to rfl))))
/-! the most frequent letter -/
theorem first_at {f : Nat → Int} {M : Int} : ∀ (a : List Nat) (j : Nat), idx (.int M) ((a.map f).map D.int) = some j → ∃ c r, a[j]? = some c ∧ (a.filter fun c => decide (f c = M)) = c :: r
  | [], _, h => nomatch h
  | c :: a, j, h => by
    rw [List.map_cons, List.map_cons, idx, eqd_int] at h
    by_cases z : f c = M
    · rw [decide_eq_true z, if_pos rfl] at h
      cases h
      exact ⟨c, a.filter fun c => decide (f c = M), rfl, List.filter_cons_of_pos (decide_eq_true z)⟩
    · rw [decide_eq_false z, if_neg Bool.false_ne_true] at h
      obtain ⟨i, e1, e2⟩ := Option.map_eq_some_iff.mp h
      subst e2
      obtain ⟨d, r, g1, g2⟩ := first_at a i e1
      exact ⟨d, r, g1, (List.filter_cons_of_neg (by simpa using z)).trans g2⟩
def bM (ps : List (List Nat)) (a : List Nat) (k : Nat) : Int := (lmax (row ps a k)).getD 0
def bc (ps : List (List Nat)) (a : List Nat) (k : Nat) : Nat := ((a.filter fun c => decide (((cc ps k c : Nat) : Int) = bM ps a k)).head?).getD 0
theorem bM_ok {ps : List (List Nat)} {a : List Nat} {k : Nat} (h : a ≠ []) : lmax (row ps a k) = some (bM ps a k) := by
  obtain ⟨m, e⟩ := lmax_some (l := row ps a k) fun z => h (List.map_eq_nil_iff.mp z)
  unfold bM
  rw [e]
  rfl
theorem bc_ok {ps : List (List Nat)} {a : List Nat} {k : Nat} (h : a ≠ []) : ∃ j r, idx (.int (bM ps a k)) ((row ps a k).map D.int) = some j ∧ a[j]? = some (bc ps a k) ∧ (a.filter fun c => decide (((cc ps k c : Nat) : Int) = bM ps a k)) = bc ps a k :: r := by
  obtain ⟨j, hj⟩ := idx_mem (lmax_spec (bM_ok (ps := ps) (k := k) h)).1
  obtain ⟨c, r, h1, h2⟩ := first_at a j hj
  have e : bc ps a k = c := by
    unfold bc
    rw [h2]
    rfl
  rw [e]
  exact ⟨j, r, hj, h1, h2⟩
theorem max_row {ps : List (List Nat)} {a : List Nat} {k : Nat} (h : a ≠ []) : cMxT [.tpz (rowD ps a k)] = some (.int (bM ps a k)) := by
  rw [rowD_eq]
  show (intsOf _).bind _ = _
  rw [intsOf_map]
  show (lmax _).map D.int = _
  rw [bM_ok h]
  rfl
theorem max_lst {ps : List (List Nat)} {a : List Nat} {k : Nat} (h : a ≠ []) : cMax [.lst (rowD ps a k)] = some (.int (bM ps a k)) := by
  rw [rowD_eq]
  show (intsOf _).bind _ = _
  rw [intsOf_map]
  show (lmax _).map D.int = _
  rw [bM_ok h]
  rfl
theorem ix_row {ps : List (List Nat)} {a : List Nat} {k j : Nat} (h : idx (.int (bM ps a k)) ((row ps a k).map D.int) = some j) : dTIndex (.tpz (rowD ps a k)) (.int (bM ps a k)) = some (.int (j : Nat)) := by
  rw [rowD_eq]
  show (intsOf _).bind _ = _
  rw [intsOf_map]
  show (idx _ _).map _ = _
  rw [h]
  rfl
theorem ix_let {a : List Nat} {j c : Nat} (h : a[j]? = some c) (hl : a.length ≤ 1000) : dIx (.str a) (.int (j : Nat)) = some (.str [c]) := by
  obtain ⟨h1, h2⟩ := List.getElem?_eq_some_iff.mp h
  show (if a.length ≤ 16777216 then (atI a ((j : Nat) : Int)).map fun c => D.str [c] else none) = _
  rw [if_pos (by omega), Pu.atI_nat h1, h2]
  rfl
theorem middle_ok {a : List Nat} {L : Nat} {ps : List (List Nat)} (ha : a ∈ A4) (P : Pcs a L ps) : m_middle [.lst (ps.map .str), .str a] = .ok (.str ((List.range L).map (bc ps a))) := by
  obtain ⟨_, a0, a6⟩ := a4_let a ha
  have ne : a ≠ [] := fun z => by rw [z] at a0; cases a0
  have one := P.one
  refine dm rfl (re_to (eM rfl rfl (eO (eLc (eI ((eK rfl).trans (columns_ok ha P)) rfl) (by rw [List.length_map, List.length_range]; omega) (lcGo_im (h := fun k => D.tpz (rowD ps a k)) (g := fun k => D.str [bc ps a k]) (ps := fun k => [(2, D.tpz (rowD ps a k))]) fun k _ => ⟨rfl, ?_⟩))) ?_))
  · obtain ⟨j, r, h1, h2, _⟩ := bc_ok (ps := ps) (k := k) ne
    exact e2 rfl (eM rfl rfl (eN (eC rfl rfl) (max_row ne)) (ix_row h1)) (ix_let h2 (by omega))
  · show (strsOf _).bind _ = _
    rw [strs_map]
    show jn [] ((List.range L).map fun k => [bc ps a k]) = _
    have e : ((List.range L).map fun k => [bc ps a k]) = ((List.range L).map (bc ps a)).map fun c => [c] := by
      rw [List.map_map]
      rfl
    unfold jn
    rw [e, joinL_one]
    refine if_pos ?_
    have e3 : ((((List.range L).map (bc ps a)).map fun c => [c]).map List.length).sum = L := by
      rw [List.map_map, List.map_map]
      have : ∀ l : List Nat, (l.map ((List.length ∘ fun c => [c]) ∘ bc ps a)).sum = l.length := fun l => by
        induction l with
        | nil => rfl
        | cons x l ih =>
          rw [List.map_cons, List.sum_cons, ih, List.length_cons]
          show 1 + _ = _
          omega
      rw [this, List.length_range]
    rw [e3]
    show L + _ * 0 ≤ _
    omega
theorem agreement_ok {a : List Nat} {L : Nat} {ps : List (List Nat)} (ha : a ∈ A4) (P : Pcs a L ps) : m_agreement [.lst (ps.map .str), .str a] = .ok (.int ((List.range L).map (bM ps a)).sum) := by
  obtain ⟨_, a0, a6⟩ := a4_let a ha
  have ne : a ≠ [] := fun z => by rw [z] at a0; cases a0
  have one := P.one
  refine dm rfl (re_to (eN (eC (eO (eLc (eI ((eK rfl).trans (columns_ok ha P)) rfl) (by rw [List.length_map, List.length_range]; omega) (lcGo_im (h := fun k => D.tpz (rowD ps a k)) (g := fun k => D.int (bM ps a k)) (ps := fun k => [(2, D.tpz (rowD ps a k))]) fun k _ => ⟨rfl, eN (eC rfl rfl) (max_row ne)⟩))) rfl) ?_))
  show (intsOf _).map _ = _
  rw [ints_map]
  rfl
theorem dep_rows (ps : List (List Nat)) (a : List Nat) (l : List Nat) : dep (.lst (l.map fun k => D.tpz (rowD ps a k))) ≤ 60 := by
  rw [dep_lst]
  have : depL (l.map fun k => D.tpz (rowD ps a k)) ≤ 1 := depL_map fun k _ => by
    have e : depL (rowD ps a k) ≤ 0 := depL_map fun _ _ => Nat.le_refl _
    rw [dep_tpz]
    omega
  omega
end Pu.Co

namespace Pu.Ce
open PySem L2 Pu
open Pu.Co
/-! ### centers -/
theorem need_lot_ok {a : List Nat} {L : Nat} {ps : List (List Nat)} (ha : a ∈ A4) (P : Pcs a L ps) (hL : L ≤ 8) (hn : ps.length ≤ 12) : m_need_lot [.lst (ps.map .str), .str a] = .ok .non := by
  obtain ⟨p0, r, ep⟩ : ∃ p0 r, ps = p0 :: r := by
    cases ps with
    | nil => exact absurd rfl P.ne
    | cons p0 r => exact ⟨p0, r, rfl⟩
  have l0 : p0.length = L := P.len p0 (by rw [ep]; exact List.mem_cons_self)
  have ix : dIx (.lst (ps.map D.str)) (.int 0) = some (.str p0) := by
    rw [ep]
    exact Pu.atI_nat (xs := (p0 :: r).map D.str) (m := 0) (by rw [List.length_map]; exact Nat.succ_pos _)
  refine dm rfl (sq_to (ex_nx ((eK rfl).trans (need_pieces_ok ha P))) (congrArg outR (if_no ((tOr (x := false) (y := false) ?_ fun _ => ?_).trans rfl))))
  · refine (tB (e2 (eN (eC (e2 rfl rfl ix) rfl) (lenq (by omega))) rfl rfl)).trans ?_
    exact congrArg Res.ok (decide_eq_false (by omega))
  · refine (tB (e2 (d := .int ((ps.map D.str).length : Nat)) (eN (eC rfl rfl) rfl) rfl rfl)).trans ?_
    exact congrArg Res.ok (decide_eq_false (by rw [List.length_map]; omega))
def sl (ps : List (List Nat)) (u : List Nat) : List Int := ps.map fun p => ((cnt p u : Nat) : Int)
def mx (ps : List (List Nat)) (u : List Nat) : Int := (lmax (sl ps u)).getD 0
theorem sl_ne {ps : List (List Nat)} {u : List Nat} (h : ps ≠ []) : sl ps u ≠ [] := fun z => h (List.map_eq_nil_iff.mp z)
theorem mx_ok {ps : List (List Nat)} {u : List Nat} (h : ps ≠ []) : lmax (sl ps u) = some (mx ps u) := by
  obtain ⟨m, e⟩ := lmax_some (sl_ne (u := u) h)
  unfold mx
  rw [e]
  rfl
theorem mx_mem {ps : List (List Nat)} {u : List Nat} (h : ps ≠ []) : ∃ p ∈ ps, mx ps u = ((cnt p u : Nat) : Int) := by
  obtain ⟨p, hp, e⟩ := List.mem_map.mp (lmax_spec (mx_ok (u := u) h)).1
  exact ⟨p, hp, e.symm⟩
theorem mx_ge {ps : List (List Nat)} {u p : List Nat} (h : p ∈ ps) : ((cnt p u : Nat) : Int) ≤ mx ps u :=
  (lmax_spec (mx_ok (u := u) (fun z => by rw [z] at h; cases h))).2 _ (List.mem_map.mpr ⟨p, h, rfl⟩)
theorem mx_le {ps : List (List Nat)} {u : List Nat} {m : Int} (h : ps ≠ []) (k : ∀ p ∈ ps, ((cnt p u : Nat) : Int) ≤ m) : mx ps u ≤ m := by
  obtain ⟨p, hp, e⟩ := mx_mem (u := u) h
  rw [e]
  exact k p hp
theorem mx_nn {ps : List (List Nat)} {u : List Nat} (h : ps ≠ []) : 0 ≤ mx ps u := by
  obtain ⟨p, _, e⟩ := mx_mem (u := u) h
  omega
theorem mx_up {ps : List (List Nat)} (h : ps ≠ []) (u : List Nat) (c : Nat) : mx ps u ≤ mx ps (u ++ [c]) :=
  mx_le h fun p hp => by
    have := mx_ge (u := u ++ [c]) hp
    have := cnt_up p u c
    omega
theorem mx_app {ps : List (List Nat)} (h : ps ≠ []) (u : List Nat) : ∀ v, mx ps u ≤ mx ps (u ++ v) := by
  intro v
  induction v generalizing u with
  | nil => rw [List.append_nil]; exact Int.le_refl _
  | cons c v ih =>
    have h1 := mx_up h u c
    have h2 := ih (u ++ [c])
    rw [List.append_assoc] at h2
    exact Int.le_trans h1 h2
theorem mx_len {ps : List (List Nat)} (h : ps ≠ []) (u : List Nat) : mx ps u ≤ ((u.length : Nat) : Int) :=
  mx_le h fun p _ => by
    have := cnt_le_r p u
    omega
def ixm (ps : List (List Nat)) (u : List Nat) : Nat := (idx (.int (mx ps u)) ((sl ps u).map D.int)).getD 0
theorem ixm_ok {ps : List (List Nat)} {u : List Nat} (h : ps ≠ []) : idx (.int (mx ps u)) ((sl ps u).map D.int) = some (ixm ps u) := by
  obtain ⟨j, hj⟩ := idx_mem (lmax_spec (mx_ok (u := u) h)).1
  unfold ixm
  rw [hj]
  rfl
abbrev cD (ps : List (List Nat)) (u : List Nat) : D := .tup [.str u, .int (ixm ps u : Nat)]
abbrev slD (ps : List (List Nat)) (u : List Nat) : D := .lst (ps.map fun p => D.int ((cnt p u : Nat) : Int))
theorem slD_eq (ps : List (List Nat)) (u : List Nat) : slD ps u = .lst ((sl ps u).map D.int) := by
  unfold sl
  rw [List.map_map]
  rfl
theorem far_ok {ps : List (List Nat)} {u : List Nat} {L : Nat} (hn : ps.length ≤ 1000) (hp : ∀ p ∈ ps, p.length = L) (hL : L ≤ 900) (hu : u.length ≤ L) : m_far [.lst (ps.map .str), .str u] = .ok (slD ps u) := by
  refine dm rfl (re_to (eO (eLc rfl (by rw [List.length_map]; omega) (lcGo_im (h := .str) (g := fun p => D.int ((cnt p u : Nat) : Int)) (ps := fun p => [(2, .str p)]) fun p h => ⟨rfl, ?_⟩))))
  have lp := hp p h
  refine (eK (eC (eS rfl rfl (eP (eN (eC rfl rfl) (lenq (by omega)))) (slq (by omega))) (eC rfl rfl))).trans ?_
  rw [cut_to (by omega)]
  refine (unlike_ok (by rw [List.length_take]; omega)).trans ?_
  rw [cnt_cut]
theorem max_sl {ps : List (List Nat)} {u : List Nat} (h : ps ≠ []) : cMax [slD ps u] = some (.int (mx ps u)) := by
  rw [slD_eq]
  show (intsOf _).bind _ = _
  rw [intsOf_map]
  show (lmax _).map D.int = _
  rw [mx_ok h]
  rfl
theorem ix_sl {ps : List (List Nat)} {u : List Nat} (h : ps ≠ []) : dIndex (slD ps u) (.int (mx ps u)) = some (.int (ixm ps u : Nat)) := by
  rw [slD_eq]
  show (if _ then _ else _) = _
  have dp : depL ((sl ps u).map D.int) ≤ 0 := depL_map fun _ _ => Nat.le_refl _
  rw [if_pos ⟨by rw [dep_lst]; omega, by simp⟩, ixm_ok h]
  rfl
section
variable (ps : List (List Nat)) (L : Nat) (m : Int) (a : List Nat)
def bdB (u : List Nat) : Bool := decide (mx ps u > m)
def stC (s : List (List Nat)) (u : List Nat) : Option D := if mx ps u > m then none else if u.length = L then some (.tup [.str u, .lst (s.map (cD ps))]) else none
def nxC (s : List (List Nat)) (u : List Nat) : List (List Nat) := if mx ps u > m then s ++ [u] else s
def kidC (_ : List (List Nat)) (u : List Nat) : List (List Nat) := if mx ps u > m then [] else if u.length = L then [] else a.map fun c => u ++ [c]
def EC (s : List (List Nat)) (st : List (List Nat)) (x : Sl × Sl) : SEnv := [.sh (.lst (ps.map .str)), .sh (.int m), .sh (.str a), .ow (s.map (cD ps)), .ow (st.map .str), x.1, x.2, .no]
end
abbrev wiC : T := (tst (op2 dNe (vr 4) (lstF argN)))
abbrev wiB : SF := (sqS (poS 5 4) (sqS (asS 6 (calF m_far (argC (vr 0) (argC (vr 5) argN)))) (ifS (tst (op2 dGt (opN cMax (argC (vr 6) argN)) (vr 1))) (apS 3 (tupF (argC (vr 5) (argC (mt1 tyLst dIndex (vr 6) (opN cMax (argC (vr 6) argN))) argN)))) (ifS (tst (op2 dEq (opN cLen (argC (vr 5) argN)) (opN cLen (argC (op2 dIx (vr 0) (cst (.int 0))) argN)))) (reS (tupF (argC (vr 5) (argC (vr 3) argN)))) (fzS [4] (aoS 4 (catO (vr 4) (ofL (lcO (itF (op1 dRev (vr 2))) [7] (.nm 7) yesT (op2 dAdd (vr 5) (vr 7)))))))))))
section
variable {ps : List (List Nat)} {L : Nat} {m : Int} {a : List Nat}
theorem wi_body (P : Pcs a L ps) (hL : L ≤ 800) {s st : List (List Nat)} {u : List Nat} {x : Sl × Sl} (hu : u.length ≤ L) (g : SF) : (sqS (poS 5 4) (sqS (asS 6 (calF m_far (argC (vr 0) (argC (vr 5) argN)))) g)) (EC ps m a s (st ++ [u]) x) = g (EC ps m a s st (.sh (.str u), .sh (slD ps u))) := by
  have fw := P.few
  have fo := far_ok (ps := ps) (u := u) (by omega) P.len (by omega) hu
  refine (sq_nx ((po_nx (l := st.map .str) (d := .str u) ?_).trans (show _ = Out.nx (EC ps m a s st (.sh (.str u), x.2)) from rfl))).trans ((sq_nx (as_nx ((eK rfl).trans fo))).trans rfl)
  show some (Sl.ow ((st ++ [u]).map .str)) = _
  rw [List.map_append]
  rfl
theorem wi_t1 (P : Pcs a L ps) {s st : List (List Nat)} {u : List Nat} : (tst (op2 dGt (opN cMax (argC (vr 6) argN)) (vr 1))) (pkv (EC ps m a s st (.sh (.str u), .sh (slD ps u)))) = .ok (decide (mx ps u > m)) :=
  tB (e2 (eN (eC rfl rfl) (max_sl P.ne)) rfl rfl)
theorem wi_t2 (P : Pcs a L ps) (hL : L ≤ 800) {s st : List (List Nat)} {u : List Nat} (hu : u.length ≤ L) : (tst (op2 dEq (opN cLen (argC (vr 5) argN)) (opN cLen (argC (op2 dIx (vr 0) (cst (.int 0))) argN)))) (pkv (EC ps m a s st (.sh (.str u), .sh (slD ps u)))) = .ok (decide (((u.length : Nat) : Int) = ((L : Nat) : Int))) := by
  obtain ⟨p0, r, ep⟩ : ∃ p0 r, ps = p0 :: r := by
    cases ps with
    | nil => exact absurd rfl P.ne
    | cons p0 r => exact ⟨p0, r, rfl⟩
  have l0 : p0.length = L := P.len p0 (by rw [ep]; exact List.mem_cons_self)
  have ix : dIx (.lst (ps.map D.str)) (.int 0) = some (.str p0) := by
    rw [ep]
    exact Pu.atI_nat (xs := (p0 :: r).map D.str) (m := 0) (by rw [List.length_map]; exact Nat.succ_pos _)
  exact (tB (e2 (eN (eC rfl rfl) (lenq (by omega))) (eN (eC (e2 rfl rfl ix) rfl) (lenq (by omega))) (eqq (by simp) (by simp)))).trans (by rw [eqd_int, l0])
theorem wi_dfs (P : Pcs a L ps) (hL : L ≤ 800) (hal : a.length ≤ 6) : DfsE (EC ps m a) wiC wiB (stC ps L m) (nxC ps m) (kidC ps L m a) (fun u => L - u.length) a.length (fun u => u.length ≤ L) (fun s => s.length) where
  more := fun s st n x => by
    refine (tB (e2 rfl (eL rfl (by decide)) (neq (dep_strs (st ++ [n])) (by decide)))).trans ?_
    rw [eqd_lst, List.map_append]
    cases st with
    | nil => rfl
    | cons w st => rw [List.map_cons, List.cons_append, eqdL_cn]; rfl
  body := fun s st u x hu hq hw hs => by
    refine ⟨(.sh (.str u), .sh (slD ps u)), (wi_body P hL hu _).trans ?_⟩
    unfold nxC kidC
    unfold stC at hq
    by_cases c : mx ps u > m
    · rw [if_pos c, if_pos c, List.reverse_nil, List.append_nil]
      refine (if_yes ((wi_t1 P).trans (congrArg Res.ok (decide_eq_true c)))).trans ((ap_nx (ds := s.map (cD ps)) rfl (by rw [List.length_map]; omega) (eTu (eC rfl (eC (eM rfl rfl (eN (eC rfl rfl) (max_sl P.ne)) (ix_sl P.ne)) rfl)) (Nat.le_of_ble_eq_true rfl))).trans ?_)
      show Out.nx _ = Out.nx _
      unfold EC
      rw [List.map_append]
      rfl
    · rw [if_neg c] at hq ⊢
      rw [if_neg c]
      refine (if_no ((wi_t1 P).trans (congrArg Res.ok (decide_eq_false c)))).trans ?_
      by_cases l : u.length = L
      · rw [if_pos l] at hq
        cases hq
      · rw [if_neg l]
        refine (if_no ((wi_t2 P hL hu).trans (congrArg Res.ok (decide_eq_false (by omega))))).trans ?_
        refine (show _ = aoS 4 _ [.sh (.lst (ps.map .str)), .sh (.int m), .sh (.str a), .ow (s.map (cD ps)), .sh (.lst (st.map .str)), .sh (.str u), .sh (slD ps u), .no] from rfl).trans ?_
        have kd : (ofL (lcO (itF (op1 dRev (vr 2))) [7] (.nm 7) yesT (op2 dAdd (vr 5) (vr 7)))) (shv [.sh (.lst (ps.map .str)), .sh (.int m), .sh (.str a), .ow (s.map (cD ps)), .sh (.lst (st.map .str)), .sh (.str u), .sh (slD ps u), .no]) = .ok (.lst (a.reverse.map fun c => D.str (u ++ [c]))) :=
          eO (eLc (eI (e1 (d := .str a) (z := .str a.reverse) rfl (show dRev (.str a) = _ from if_pos (by omega))) rfl) (by rw [List.length_map, List.length_reverse]; omega) (lcGo_im (h := fun c => D.str [c]) (g := fun c => D.str (u ++ [c])) (ps := fun c => [(7, .str [c])]) fun c _ => ⟨rfl, e2 rfl rfl (if_pos (by show u.length + 1 ≤ _; omega))⟩))
        refine (ao_nx (ds := st.map .str ++ a.reverse.map fun c => D.str (u ++ [c])) ?_).trans ?_
        · show ((vr 4) _).bind _ = _
          have v5 : (vr 4) (shv [.sh (.lst (ps.map .str)), .sh (.int m), .sh (.str a), .ow (s.map (cD ps)), .sh (.lst (st.map .str)), .sh (.str u), .sh (slD ps u), .no]) = .ok (.lst (st.map .str)) := rfl
          rw [v5, Res.bind_ok, kd, Res.bind_ok]
          show ofO (if _ then _ else _) = _
          rw [if_pos (by rw [List.length_map, List.length_map, List.length_reverse]; omega)]
          rfl
        · show Out.nx _ = Out.nx _
          unfold EC
          rw [List.map_append, ← List.map_reverse, List.map_map]
          rfl
  halt := fun s st u x d hu hq hw hs => by
    refine (wi_body P hL hu _).trans ?_
    unfold stC at hq
    by_cases c : mx ps u > m
    · rw [if_pos c] at hq
      cases hq
    · rw [if_neg c] at hq
      by_cases l : u.length = L
      · rw [if_pos l] at hq
        cases hq
        refine (if_no ((wi_t1 P).trans (congrArg Res.ok (decide_eq_false c)))).trans ?_
        refine (if_yes ((wi_t2 P hL hu).trans (congrArg Res.ok (decide_eq_true (by omega))))).trans ?_
        exact re_rt (eTu rfl (Nat.le_of_ble_eq_true rfl))
      · rw [if_neg l] at hq
        cases hq
  wle := fun s n => by
    unfold nxC
    split
    · rw [List.length_append]
      exact Nat.le_refl _
    · omega
  few := fun s n => by
    unfold kidC
    split
    · exact Nat.zero_le _
    · split
      · exact Nat.zero_le _
      · rw [List.length_map]
        exact Nat.le_refl _
  down := fun s n w hp _ hw => by
    unfold kidC at hw
    split at hw
    · cases hw
    · split at hw
      · cases hw
      · rename_i h1 h2
        obtain ⟨c, _, rfl⟩ := List.mem_map.mp hw
        have e : (n ++ [c]).length = n.length + 1 := by rw [List.length_append]; rfl
        rw [e]
        omega
end
section
variable (B : List Nat → Bool) (a : List Nat)
/-- the cuts of a beginning -/
def fK : Nat → List Nat → List (List Nat)
  | 0, u => if B u = true then [u] else []
  | k + 1, u => if B u = true then [u] else a.flatMap fun c => fK k (u ++ [c])
end
theorem allw_from (a : List Nat) (k : Nat) (u : List Nat) : ((allw a (k + 1)).map fun r => u ++ r) = a.flatMap fun c => (allw a k).map fun r => (u ++ [c]) ++ r := by
  rw [allw_cons, List.map_flatMap]
  refine congrArg (fun f => List.flatMap f a) (funext fun c => ?_)
  rw [List.map_map]
  exact List.map_congr_left fun r _ => by
    show u ++ (c :: r) = _
    rw [List.append_assoc]
    rfl
theorem ffE_inl {S N : Type} {g : S → N → S ⊕ D} {n : N} {r : List N} {s s' : S} (h : g s n = .inl s') : ffE g (n :: r) s = ffE g r s' := by
  rw [ffE, h]
theorem ffE_inr {S N : Type} {g : S → N → S ⊕ D} {n : N} {r : List N} {s : S} {d : D} (h : g s n = .inr d) : ffE g (n :: r) s = .inr d := by
  rw [ffE, h]
theorem go_ce {ps : List (List Nat)} {L : Nat} {m : Int} {a : List Nat} (hne : ps ≠ []) : ∀ (k : Nat) (s : List (List Nat)) (u : List Nat), u.length + k = L →
    (∀ w, ((allw a k).map fun r => u ++ r).find? (fun w => !bdB ps m w) = some w → ∃ s' : List (List Nat), goE (stC ps L m) (nxC ps m) (kidC ps L m a) k s u = .inr (.tup [.str w, .lst (s'.map (cD ps))])) ∧
    (((allw a k).map fun r => u ++ r).find? (fun w => !bdB ps m w) = none → goE (stC ps L m) (nxC ps m) (kidC ps L m a) k s u = .inl (s ++ fK (bdB ps m) a k u))
  | 0, s, u, h => by
    have e : ((allw a 0).map fun r => u ++ r) = [u] := by
      show [u ++ []] = _
      rw [List.append_nil]
    have e0 : goE (stC ps L m) (nxC ps m) (kidC ps L m a) 0 s u = match stC ps L m s u with
      | some d => .inr d
      | none => .inl (nxC ps m s u) := rfl
    rw [e, e0]
    unfold stC nxC fK bdB
    by_cases c : mx ps u > m
    · rw [if_pos c, if_pos c, decide_eq_true c, if_pos rfl, List.find?_cons, decide_eq_true c]
      exact ⟨fun w hw => (by cases hw), fun _ => rfl⟩
    · rw [if_neg c, if_neg c, decide_eq_false c, if_neg Bool.false_ne_true, if_pos (by omega), List.find?_cons, decide_eq_false c]
      exact ⟨fun w hw => (by cases hw; exact ⟨s, rfl⟩), fun hw => (by cases hw)⟩
  | k + 1, s, u, h => by
    have e0 : goE (stC ps L m) (nxC ps m) (kidC ps L m a) (k + 1) s u = match stC ps L m s u with
      | some d => .inr d
      | none => ffE (goE (stC ps L m) (nxC ps m) (kidC ps L m a) k) (kidC ps L m a s u) (nxC ps m s u) := rfl
    rw [e0, allw_from]
    by_cases c : mx ps u > m
    · have no : (a.flatMap fun c => (allw a k).map fun r => (u ++ [c]) ++ r).find? (fun w => !bdB ps m w) = none := by
        rw [List.find?_eq_none]
        intro w hw
        obtain ⟨d, _, h2⟩ := List.mem_flatMap.mp hw
        obtain ⟨r, _, rfl⟩ := List.mem_map.mp h2
        have := mx_app hne u ([d] ++ r)
        rw [← List.append_assoc] at this
        unfold bdB
        rw [decide_eq_true (by omega)]
        simp
      rw [no]
      unfold stC nxC kidC fK bdB
      rw [if_pos c, if_pos c, if_pos c, decide_eq_true c, if_pos rfl]
      exact ⟨fun w hw => (by cases hw), fun _ => rfl⟩
    · have e1 : stC ps L m s u = none := by
        unfold stC
        rw [if_neg c, if_neg (by omega)]
      have e2 : kidC ps L m a s u = a.map fun c => u ++ [c] := by
        unfold kidC
        rw [if_neg c, if_neg (by omega)]
      have e3 : nxC ps m s u = s := if_neg c
      have e4 : fK (bdB ps m) a (k + 1) u = a.flatMap fun c => fK (bdB ps m) a k (u ++ [c]) := by
        rw [fK]
        unfold bdB
        rw [decide_eq_false c, if_neg Bool.false_ne_true]
      rw [e1, e2, e3, e4]
      have key : ∀ (l : List Nat) (s : List (List Nat)),
          (∀ w, (l.flatMap fun c => (allw a k).map fun r => (u ++ [c]) ++ r).find? (fun w => !bdB ps m w) = some w → ∃ s' : List (List Nat), ffE (goE (stC ps L m) (nxC ps m) (kidC ps L m a) k) (l.map fun c => u ++ [c]) s = .inr (.tup [.str w, .lst (s'.map (cD ps))])) ∧
          ((l.flatMap fun c => (allw a k).map fun r => (u ++ [c]) ++ r).find? (fun w => !bdB ps m w) = none → ffE (goE (stC ps L m) (nxC ps m) (kidC ps L m a) k) (l.map fun c => u ++ [c]) s = .inl (s ++ l.flatMap fun c => fK (bdB ps m) a k (u ++ [c]))) := by
        intro l
        induction l with
        | nil =>
          intro s
          refine ⟨fun w hw => (by cases hw), fun _ => ?_⟩
          rw [List.flatMap_nil, List.append_nil]
          rfl
        | cons d l ih =>
          intro s
          have g := go_ce (L := L) (m := m) (a := a) hne k s (u ++ [d]) (by rw [List.length_append, List.length_singleton]; omega)
          rw [List.flatMap_cons, List.flatMap_cons, List.find?_append, List.map_cons]
          cases z : ((allw a k).map fun r => (u ++ [d]) ++ r).find? (fun w => !bdB ps m w) with
          | some w0 =>
            obtain ⟨s', e⟩ := g.1 w0 z
            rw [ffE_inr e]
            exact ⟨fun w hw => (by cases hw; exact ⟨s', rfl⟩), fun hw => (by cases hw)⟩
          | none =>
            rw [ffE_inl (g.2 z), Option.none_or]
            have := ih (s ++ fK (bdB ps m) a k (u ++ [d]))
            rw [List.append_assoc] at this
            exact this
      exact key a s
section
variable {ps : List (List Nat)} {L : Nat} {a : List Nat}
theorem within_ok (P : Pcs a L ps) (hL : L ≤ 6) (ha4 : a.length ≤ 4) (m : Int) :
    (∀ w, (allw a L).find? (fun w => !bdB ps m w) = some w → ∃ s', m_within [.lst (ps.map .str), .int m, .str a] = .ok (.tup [.str w, .lst s'])) ∧
    ((allw a L).find? (fun w => !bdB ps m w) = none → m_within [.lst (ps.map .str), .int m, .str a] = .ok (.tup [.non, .lst ((fK (bdB ps m) a L []).map (cD ps))])) := by
  have hsz : sz a.length L < 10000 := by
    have f : ∀ b, b ≤ 4 → ∀ l, l ≤ 6 → sz b l < 10000 := by decide
    exact f _ ha4 _ hL
  have h15 : a.length * (L + 1) ≤ 5000 := Nat.le_trans (Nat.mul_le_mul ha4 (show L + 1 ≤ 7 by omega)) (by decide)
  have run := (wi_dfs (ps := ps) (L := L) (m := m) (a := a) P (by omega) (by omega)).run (fun s x => by
      refine (tB (e2 rfl (eL rfl (by decide)) (neq (dep_strs []) (by decide)))).trans rfl) (k := L) (F := 10000) (s := []) (n := []) (.no, .no) (Nat.zero_le _) (Nat.le_refl _) (by show 0 + 10000 ≤ _; omega) h15 hsz
  have em : ((allw a L).map fun r => ([] : List Nat) ++ r) = allw a L := (List.map_congr_left fun r _ => List.nil_append r).trans (List.map_id _)
  have g := go_ce (m := m) (a := a) P.ne L [] [] (by show 0 + L = L; omega)
  rw [em] at g
  refine ⟨fun w hw => ?_, fun hw => ?_⟩
  · obtain ⟨s', e⟩ := g.1 w hw
    exact ⟨s'.map (cD ps), dm rfl (sq_to (par_nx (zo_ok (d := []) rfl) (zo_ok (d := [.str []]) rfl)) (congrArg outR (sq_rt (run.2 _ e))))⟩
  · obtain ⟨x', e⟩ := run.1 _ (g.2 hw)
    exact dm rfl (sq_to (par_nx (zo_ok (d := []) rfl) (zo_ok (d := [.str []]) rfl)) (sq_to e (re_to (eTu rfl (Nat.le_of_ble_eq_true rfl)))))
abbrev ceB : SF := (sqS (asS 3 (op2 dIx (calF m_within (argC (vr 0) (argC (vr 2) (argC (vr 1) argN)))) (cst (.int 0)))) (ifS (tst (op2 dIsNot (vr 3) (cst .non))) (reS (tupF (argC (vr 2) (argC (vr 3) argN)))) nxS))
/-- the least radius, and the first word with it -/
structure Cen (ps : List (List Nat)) (a : List Nat) (L r : Nat) (w : List Nat) : Prop where
  le : r ≤ L
  first : (allw a L).find? (fun w => !bdB ps r w) = some w
  least : ∀ v ∈ allw a L, ((r : Nat) : Int) ≤ mx ps v
theorem Cen.mem {r : Nat} {w : List Nat} (C : Cen ps a L r w) : w ∈ allw a L := List.mem_of_find?_eq_some C.first
theorem Cen.eq {r : Nat} {w : List Nat} (C : Cen ps a L r w) : mx ps w = ((r : Nat) : Int) := by
  have h1 := C.least w C.mem
  have h2 := List.find?_some C.first
  unfold bdB at h2
  have h3 : ¬ mx ps w > ((r : Nat) : Int) := by simpa using h2
  omega
theorem ce_loop (P : Pcs a L ps) (hL : L ≤ 6) (ha4 : a.length ≤ 4) (a0 : 0 < a.length) : ∀ (n j : Nat) (x y : Sl), 1 ≤ n → j + n = L + 1 → (∀ v ∈ allw a L, ((j : Nat) : Int) ≤ mx ps v) →
    ∃ r w, Cen ps a L r w ∧ forGo (.nm 2) ceB ((List.range' j n).map fun i => D.int (i : Nat)) [.sh (.lst (ps.map .str)), .sh (.str a), x, y] = .rt (.tup [.int (r : Nat), .str w])
  | 0, _, _, _, h, _, _ => absurd h (by decide)
  | n + 1, j, x, y, _, hj, hv => by
    have wi := within_ok P hL ha4 ((j : Nat) : Int)
    rw [List.range'_succ, List.map_cons]
    cases z : (allw a L).find? (fun w => !bdB ps ((j : Nat) : Int) w) with
    | some w =>
      obtain ⟨s', e⟩ := wi.1 w z
      refine ⟨j, w, ⟨by omega, z, hv⟩, for_rt (ps := [(2, .int (j : Nat))]) rfl ?_⟩
      refine (sq_nx (as_nx (d := .str w) (e2 ((eK rfl).trans e) rfl rfl))).trans ?_
      exact (if_yes (tB (e2 rfl rfl rfl))).trans (re_rt (eTu rfl (Nat.le_of_ble_eq_true rfl)))
    | none =>
      have e := wi.2 z
      have up : ∀ v ∈ allw a L, ((j + 1 : Nat) : Int) ≤ mx ps v := fun v h => by
        have := List.find?_eq_none.mp z v h
        unfold bdB at this
        have h3 : mx ps v > ((j : Nat) : Int) := by simpa using this
        omega
      have n1 : 1 ≤ n := by
        cases n with
        | zero =>
          have ne := allw_ne a0 L
          cases q : allw a L with
          | nil => exact absurd q ne
          | cons v r =>
            have hm : v ∈ allw a L := by rw [q]; exact List.mem_cons_self
            have h1 := up v hm
            have h2 := mx_len P.ne v
            rw [allw_len hm] at h2
            omega
        | succ n => omega
      obtain ⟨r, w, C, e2_⟩ := ce_loop P hL ha4 a0 n (j + 1) (.sh (.int (j : Nat))) (.sh .non) n1 (by omega) up
      refine ⟨r, w, C, ?_⟩
      rw [for_cons (ps := [(2, .int (j : Nat))]) (ρ' := [.sh (.lst (ps.map .str)), .sh (.str a), .sh (.int (j : Nat)), .sh .non]) rfl, e2_]
      refine (sq_nx (as_nx (d := .non) (e2 ((eK rfl).trans e) rfl rfl))).trans ?_
      exact if_nx (tB (e2 rfl rfl rfl))
theorem len0' (P : Pcs a L ps) : ∃ p0 r, ps = p0 :: r ∧ p0.length = L ∧ dIx (.lst (ps.map D.str)) (.int 0) = some (.str p0) := by
  obtain ⟨p0, r, ep⟩ : ∃ p0 r, ps = p0 :: r := by
    cases ps with
    | nil => exact absurd rfl P.ne
    | cons p0 r => exact ⟨p0, r, rfl⟩
  refine ⟨p0, r, ep, P.len p0 (by rw [ep]; exact List.mem_cons_self), ?_⟩
  rw [ep]
  exact Pu.atI_nat (xs := (p0 :: r).map D.str) (m := 0) (by rw [List.length_map]; exact Nat.succ_pos _)
theorem len0 (P : Pcs a L ps) (_ : L ≤ 800) : ∃ p0 r, ps = p0 :: r ∧ p0.length = L ∧ dIx (.lst (ps.map D.str)) (.int 0) = some (.str p0) := len0' P
theorem center_ok (ha : a ∈ A4) (P : Pcs a L ps) (hL : L ≤ 6) (hn : ps.length ≤ 12) : ∃ r w, Cen ps a L r w ∧ m_center [.lst (ps.map .str), .str a] = .ok (.tup [.int (r : Nat), .str w]) := by
  have al := al_len a ha
  obtain ⟨r, w, C, e⟩ := ce_loop P hL (by omega) (by omega) (L + 1) 0 .no .no (by omega) (by omega) (fun v _ => mx_nn P.ne)
  obtain ⟨p0, pr, ep, l0, ix⟩ := len0 P (by omega)
  refine ⟨r, w, C, dm rfl (sq_to (ex_nx ((eK rfl).trans (need_lot_ok ha P (by omega) hn))) ?_)⟩
  have c1 : ((L : Nat) : Int) + 1 = ((L + 1 : Nat) : Int) := by omega
  refine congrArg outR (sq_rt ((for_go (ds := rgD 0 ((L + 1 : Nat) : Int)) ((eR (e2 (eN (eC (e2 rfl rfl ix) rfl) (lenq (by omega))) rfl rfl) (by omega)).trans (by rw [l0, c1]))).trans ((congrArg (fun l => forGo _ _ l _) ((rgD_nat (L + 1)).trans (by rw [List.range_eq_range']))).trans e)))
theorem Cen.uniq {r r' : Nat} {w w' : List Nat} (C : Cen ps a L r w) (C' : Cen ps a L r' w') : r = r' ∧ w = w' := by
  have h1 := C.least w' C'.mem
  have h2 := C'.least w C.mem
  have e1 := C.eq
  have e2 := C'.eq
  have e : r = r' := by omega
  subst e
  have := C.first.symm.trans C'.first
  exact ⟨rfl, Option.some.inj this⟩
theorem cD0 (P : Pcs a L ps) : cD ps [] = .tup [.str [], .int 0] := by
  have e : sl ps [] = ps.map fun _ => (0 : Int) := List.map_congr_left fun p _ => by
    rw [cnt_nilR]
    rfl
  have m0 : mx ps [] = 0 := by
    obtain ⟨p, _, h⟩ := mx_mem (u := []) P.ne
    rw [h, cnt_nilR]
    rfl
  have i0 : ixm ps [] = 0 := by
    unfold ixm
    rw [m0, e]
    cases q : ps with
    | nil => exact absurd q P.ne
    | cons p r =>
      rw [List.map_cons, List.map_cons, idx, eqd_int, decide_eq_true rfl, if_pos rfl]
      rfl
  show D.tup [.str [], .int ((ixm ps [] : Nat) : Int)] = _
  rw [i0]
  rfl
/-- told: the cuts with fewer slips than the center's, or the empty beginning -/
theorem center_paper_ok (ha : a ∈ A4) (P : Pcs a L ps) (hL : L ≤ 6) (hn : ps.length ≤ 12) {r : Nat} {w : List Nat} (C : Cen ps a L r w) : m_center_paper [.lst (ps.map .str), .str a] = .ok (.lst ((fK (fun u => decide (mx ps u ≥ ((r : Nat) : Int))) a L []).map (cD ps))) := by
  have al := al_len a ha
  obtain ⟨r', w', C', e⟩ := center_ok ha P hL hn
  obtain ⟨rfl, rfl⟩ := C.uniq C'
  refine dm rfl (sq_to (as_nx (d := .int (r : Nat)) (e2 ((eK rfl).trans e) rfl rfl)) (re_to (eIf (x := decide (((r : Nat) : Int) = 0)) ((tB (e2 rfl rfl (eqq (by simp) (by simp)))).trans (by rw [eqd_int])) (fun z => ?_) fun z => ?_)))
  · have z := of_decide_eq_true z
    have e0 : fK (fun u => decide (mx ps u ≥ ((r : Nat) : Int))) a L [] = [[]] := by
      have h0 : decide (mx ps [] ≥ ((r : Nat) : Int)) = true := decide_eq_true (by have := mx_nn (u := []) P.ne; omega)
      cases L with
      | zero => exact if_pos h0
      | succ k => exact if_pos h0
    rw [e0]
    show _ = Res.ok (D.lst [cD ps []])
    rw [cD0 P]
    exact eL (eC (eTu rfl (Nat.le_of_ble_eq_true rfl)) rfl) (Nat.le_of_ble_eq_true rfl)
  · have z := of_decide_eq_false z
    have wi := (within_ok P hL (by omega) (((r : Nat) : Int) - 1)).2 (by
      rw [List.find?_eq_none]
      intro v hv
      have := C.least v hv
      unfold bdB
      rw [decide_eq_true (by omega)]
      simp)
    have eb : bdB ps (((r : Nat) : Int) - 1) = fun u => decide (mx ps u ≥ ((r : Nat) : Int)) := funext fun u => by
      unfold bdB
      exact decide_eq_decide.mpr (by omega)
    rw [eb] at wi
    exact e2 ((eK (eC rfl (eC (e2 rfl rfl rfl) (eC rfl rfl)))).trans wi) rfl rfl
end
/-! ### the widest two -/
def prs (n : Nat) : List (Nat × Nat) := (List.range n).flatMap fun i => (List.range' (i + 1) (n - (i + 1))).map fun j => (i, j)
def wv (ps : List (List Nat)) (p : Nat × Nat) : Int := ((cnt (ps.getD p.1 []) (ps.getD p.2 []) : Nat) : Int)
abbrev WB := Option (Int × Nat × Nat)
def bst (ps : List (List Nat)) : WB → Nat × Nat → WB
  | none, p => some (wv ps p, p)
  | some (s, q), p => if wv ps p > s then some (wv ps p, p) else some (s, q)
def bD : WB → D
  | none => .non
  | some (s, q) => .tup [.int s, .int (q.1 : Nat), .int (q.2 : Nat)]
theorem prs_mem {n : Nat} {p : Nat × Nat} : p ∈ prs n ↔ p.1 < p.2 ∧ p.2 < n := by
  unfold prs
  rw [List.mem_flatMap]
  constructor
  · rintro ⟨i, h1, h2⟩
    obtain ⟨j, h3, rfl⟩ := List.mem_map.mp h2
    have h1 := List.mem_range.mp h1
    have h3 := List.mem_range'_1.mp h3
    exact ⟨by show i < j; omega, by show j < n; omega⟩
  · intro h
    refine ⟨p.1, List.mem_range.mpr (by omega), List.mem_map.mpr ⟨p.2, List.mem_range'_1.mpr (by omega), rfl⟩⟩
theorem prs_sorted (n : Nat) : (prs n).Pairwise fun p q => p.1 < q.1 ∨ (p.1 = q.1 ∧ p.2 < q.2) := by
  unfold prs
  rw [List.pairwise_flatMap]
  refine ⟨fun i _ => List.pairwise_map.mpr ((List.pairwise_lt_range').imp fun h => .inr ⟨rfl, h⟩), List.pairwise_lt_range.imp fun h x hx y hy => ?_⟩
  obtain ⟨r, _, rfl⟩ := List.mem_map.mp hx
  obtain ⟨q, _, rfl⟩ := List.mem_map.mp hy
  exact .inl h
theorem ix_pc {ps : List (List Nat)} {i : Nat} (h : i < ps.length) : dIx (.lst (ps.map D.str)) (.int (i : Nat)) = some (.str (ps.getD i [])) := by
  show atI (ps.map D.str) ((i : Nat) : Int) = _
  rw [Pu.atI_nat (by rw [List.length_map]; exact h), List.getElem_map, List.getD_eq_getElem?_getD, List.getElem?_eq_getElem h]
  rfl
theorem get_mem {ps : List (List Nat)} {i : Nat} (h : i < ps.length) : ps.getD i [] ∈ ps := by
  rw [List.getD_eq_getElem?_getD, List.getElem?_eq_getElem h]
  exact List.getElem_mem h
abbrev wdB : SF := (sqS (asS 5 (calF m_unlike (argC (op2 dIx (vr 0) (vr 3)) (argC (op2 dIx (vr 0) (vr 4)) argN)))) (asS 2 (ifF (orT (tst (op2 dIs (vr 2) (cst .non))) (tst (op2 dGt (vr 5) (op2 dIx (vr 2) (cst (.int 0)))))) (tupF (argC (vr 5) (argC (vr 3) (argC (vr 4) argN)))) (vr 2))))
section
variable {ps : List (List Nat)} {a : List Nat}
theorem wd_in (hp : ∀ p ∈ ps, p.length ≤ 900) {i : Nat} (hi : i < ps.length) : ∀ (l : List Nat) (b : WB) (x y : Sl), (∀ j ∈ l, j < ps.length) →
    ∃ x' y', forGo (.nm 4) wdB (l.map fun j => D.int (j : Nat)) [.sh (.lst (ps.map .str)), .sh (.str a), .sh (bD b), .sh (.int (i : Nat)), x, y] = .nx [.sh (.lst (ps.map .str)), .sh (.str a), .sh (bD ((l.map fun j => (i, j)).foldl (bst ps) b)), .sh (.int (i : Nat)), x', y']
  | [], b, x, y, _ => ⟨x, y, rfl⟩
  | j :: l, b, x, y, h => by
    have hj := h j List.mem_cons_self
    obtain ⟨x', y', e⟩ := wd_in hp hi l (bst ps b (i, j)) (.sh (.int (j : Nat))) (.sh (.int (wv ps (i, j)))) fun k hk => h k (List.mem_cons_of_mem _ hk)
    refine ⟨x', y', ?_⟩
    rw [List.map_cons, for_cons (ps := [(4, .int (j : Nat))]) (ρ' := [.sh (.lst (ps.map .str)), .sh (.str a), .sh (bD (bst ps b (i, j))), .sh (.int (i : Nat)), .sh (.int (j : Nat)), .sh (.int (wv ps (i, j)))]) rfl, e, List.map_cons, List.foldl_cons]
    have u : m_unlike [.str (ps.getD i []), .str (ps.getD j [])] = .ok (.int (wv ps (i, j))) := unlike_ok (by have := hp _ (get_mem hi); omega)
    refine (sq_nx (as_nx ((eK (eC (e2 rfl rfl (ix_pc hi)) (eC (e2 rfl rfl (ix_pc hj)) rfl))).trans u))).trans ?_
    refine as_nx ?_
    cases b with
    | none => exact eIf (x := true) (tOr (x := true) (y := true) (tB rfl) fun z => nomatch z) (fun _ => eTu rfl (Nat.le_of_ble_eq_true rfl)) fun z => nomatch z
    | some sq =>
      obtain ⟨s, q⟩ := sq
      refine eIf (x := decide (wv ps (i, j) > s)) ((tOr (x := false) (y := decide (wv ps (i, j) > s)) (tB rfl) fun _ => tB (e2 rfl (e2 rfl rfl rfl) rfl)).trans (by rw [Bool.false_or])) (fun z => ?_) fun z => ?_
      · have e1 : bst ps (some (s, q)) (i, j) = some (wv ps (i, j), (i, j)) := if_pos (of_decide_eq_true z)
        rw [e1]
        exact eTu rfl (Nat.le_of_ble_eq_true rfl)
      · have e1 : bst ps (some (s, q)) (i, j) = some (s, q) := if_neg (of_decide_eq_false z)
        rw [e1]
        rfl
theorem wd_out (hn : ps.length ≤ 1000) (hp : ∀ p ∈ ps, p.length ≤ 900) : ∀ (l : List Nat) (b : WB) (x y z : Sl), (∀ j ∈ l, j < ps.length) →
    ∃ x' y' z', forGo (.nm 3) (forS (rg2F (op2 dAdd (vr 3) (cst (.int 1))) (opN cLen (argC (vr 0) argN))) (.nm 4) wdB) (l.map fun j => D.int (j : Nat)) [.sh (.lst (ps.map .str)), .sh (.str a), .sh (bD b), z, x, y] = .nx [.sh (.lst (ps.map .str)), .sh (.str a), .sh (bD ((l.flatMap fun i => (List.range' (i + 1) (ps.length - (i + 1))).map fun j => (i, j)).foldl (bst ps) b)), z', x', y']
  | [], b, x, y, z, _ => ⟨x, y, z, rfl⟩
  | i :: l, b, x, y, z, h => by
    have hi := h i List.mem_cons_self
    obtain ⟨x1, y1, e1⟩ := wd_in (a := a) hp hi (List.range' (i + 1) (ps.length - (i + 1))) b x y (fun j hj => by have := List.mem_range'_1.mp hj; omega)
    obtain ⟨x', y', z', e⟩ := wd_out hn hp l (((List.range' (i + 1) (ps.length - (i + 1))).map fun j => (i, j)).foldl (bst ps) b) x1 y1 (.sh (.int (i : Nat))) fun k hk => h k (List.mem_cons_of_mem _ hk)
    refine ⟨x', y', z', ?_⟩
    rw [List.map_cons, for_cons (ps := [(3, .int (i : Nat))]) (ρ' := [.sh (.lst (ps.map .str)), .sh (.str a), .sh (bD (((List.range' (i + 1) (ps.length - (i + 1))).map fun j => (i, j)).foldl (bst ps) b)), .sh (.int (i : Nat)), x1, y1]) rfl, e, List.flatMap_cons, List.foldl_append]
    have c1 : ((i : Nat) : Int) + 1 = ((i + 1 : Nat) : Int) := by omega
    refine (for_go (ds := (List.range' (i + 1) (ps.length - (i + 1))).map fun j => D.int (j : Nat)) ((eR2 (m := ((i + 1 : Nat) : Int)) (n := ((ps.length : Nat) : Int)) ((e2 rfl rfl rfl).trans (by rw [c1])) ((eN (eC rfl rfl) rfl).trans (by rw [List.length_map])) (by omega)).trans (by rw [rgD_from]))).trans e1
theorem widest_ok {L : Nat} (ha : a ∈ A4) (P : Pcs a L ps) (hL : L ≤ 8) (hn : ps.length ≤ 12) : m_widest [.lst (ps.map .str), .str a] = .ok (bD ((prs ps.length).foldl (bst ps) none)) := by
  obtain ⟨x', y', z', e⟩ := wd_out (a := a) (by omega) (fun p h => by rw [P.len p h]; omega) (List.range ps.length) none .no .no .no fun j hj => List.mem_range.mp hj
  refine dm rfl (sq_to (ex_nx ((eK rfl).trans (need_lot_ok ha P hL hn))) (sq_to (as_nx (d := .non) rfl) (sq_to ((for_go (ds := (List.range ps.length).map fun j => D.int (j : Nat)) ((eR (n := ((ps.length : Nat) : Int)) ((eN (eC rfl rfl) rfl).trans (by rw [List.length_map])) (by omega)).trans (by rw [rgD_nat]))).trans e) (re_to rfl))))
theorem bst_min : ∀ (l : List (Nat × Nat)) (s : Int) (q : Nat × Nat), (q :: l).Pairwise (fun p q => p.1 < q.1 ∨ (p.1 = q.1 ∧ p.2 < q.2)) →
    ∃ s' q', l.foldl (bst ps) (some (s, q)) = some (s', q') ∧ minT3 (0 - s, ((q.1 : Nat) : Int), ((q.2 : Nat) : Int)) (l.map fun p => (0 - wv ps p, ((p.1 : Nat) : Int), ((p.2 : Nat) : Int))) = (0 - s', ((q'.1 : Nat) : Int), ((q'.2 : Nat) : Int))
  | [], s, q, _ => ⟨s, q, rfl, rfl⟩
  | p :: l, s, q, h => by
    have hq := (List.pairwise_cons.mp h).1 p List.mem_cons_self
    have lt : ltT3 (0 - wv ps p, ((p.1 : Nat) : Int), ((p.2 : Nat) : Int)) (0 - s, ((q.1 : Nat) : Int), ((q.2 : Nat) : Int)) = decide (wv ps p > s) := by
      unfold ltT3
      refine decide_eq_decide.mpr ?_
      dsimp only
      omega
    have st : minT3 (0 - s, ((q.1 : Nat) : Int), ((q.2 : Nat) : Int)) ((p :: l).map fun p => (0 - wv ps p, ((p.1 : Nat) : Int), ((p.2 : Nat) : Int))) = minT3 (if ltT3 (0 - wv ps p, ((p.1 : Nat) : Int), ((p.2 : Nat) : Int)) (0 - s, ((q.1 : Nat) : Int), ((q.2 : Nat) : Int)) = true then (0 - wv ps p, ((p.1 : Nat) : Int), ((p.2 : Nat) : Int)) else (0 - s, ((q.1 : Nat) : Int), ((q.2 : Nat) : Int))) (l.map fun p => (0 - wv ps p, ((p.1 : Nat) : Int), ((p.2 : Nat) : Int))) := rfl
    rw [List.foldl_cons, st, lt]
    by_cases c : wv ps p > s
    · have e1 : bst ps (some (s, q)) p = some (wv ps p, p) := if_pos c
      rw [e1, if_pos (decide_eq_true c)]
      exact bst_min l (wv ps p) p (List.pairwise_cons.mp h).2
    · have e1 : bst ps (some (s, q)) p = some (s, q) := if_neg c
      rw [e1, if_neg (by simpa using c)]
      exact bst_min l s q (List.pairwise_cons.mpr ⟨fun z hz => (List.pairwise_cons.mp h).1 z (List.mem_cons_of_mem _ hz), (List.pairwise_cons.mp (List.pairwise_cons.mp h).2).2⟩)
end
end Pu.Ce

namespace Pu.Sp
open PySem L2 Pu
/-! ### spots; words within so many slips -/
def iPl (t w : List Nat) : List Int := (List.range ((((t.length : Nat) : Int) - ((w.length : Nat) : Int) + 1) - 0).toNat).map fun i => ((cnt (cut t (some (0 + (i : Nat))) (some (0 + (i : Nat) + ((w.length : Nat) : Int)))) w : Nat) : Int)
theorem cut_len {α : Type} (t : List α) (lo hi : Option Int) : (cut t lo hi).length ≤ t.length := by
  unfold cut
  rw [List.length_take, List.length_drop]
  omega
/-- the comprehension over the places -/
theorem at_each {ρ : Pu.Env} {i j k : Nat} {t w : List Nat} (ht : t.length ≤ 1000) (hw : w.length ≤ 1000) (n : Nat) (e1' : ∀ d, vr i (setsE ρ [(k, d)]) = .ok (.str t)) (e2' : ∀ d, vr j (setsE ρ [(k, d)]) = .ok (.str w)) (e3' : ∀ d, vr k (setsE ρ [(k, d)]) = .ok d) :
    lcGo ρ (.nm k) yesT (calF m_unlike (argC (slF (vr i) (soP (vr k)) (soP (op2 dAdd (vr k) (opN cLen (argC (vr j) argN))))) (argC (vr j) argN))) ((List.range n).map fun i => D.int (0 + (i : Nat))) = .ok ((List.range n).map fun i => D.int ((cnt (cut t (some (0 + (i : Nat))) (some (0 + (i : Nat) + ((w.length : Nat) : Int)))) w : Nat) : Int)) := by
  refine lcGo_im (ps := fun i => [(k, D.int (0 + (i : Nat)))]) fun q _ => ⟨rfl, ?_⟩
  have sl : dSl (.str t) (some (0 + (q : Nat))) (some (0 + (q : Nat) + ((w.length : Nat) : Int))) = some (.str (cut t (some (0 + (q : Nat))) (some (0 + (q : Nat) + ((w.length : Nat) : Int))))) := if_pos (by omega)
  refine (eK (eC (eS (e1' _) (eP (e3' _)) (eP (e2 (e3' _) (eN (eC (e2' _) rfl) (lenq hw)) rfl)) sl) (eC (e2' _) rfl))).trans (unlike_ok ?_)
  have := cut_len t (some (0 + ((q : Nat) : Int))) (some (0 + (q : Nat) + ((w.length : Nat) : Int)))
  omega
theorem places_ok {t w : List Nat} (ht : t.length ≤ 1000) (hw : w.length ≤ 1000) : m_places [.str t, .str w] = .ok (.lst ((iPl t w).map .int)) := by
  refine dm rfl (re_to (eO (eLc (ds := rgD 0 (((t.length : Nat) : Int) - ((w.length : Nat) : Int) + 1)) (eR (e2 (e2 (eN (eC rfl rfl) (lenq ht)) (eN (eC rfl rfl) (lenq hw)) rfl) rfl rfl) (by omega)) ?_ ?_)))
  · unfold rgD
    rw [List.length_map, List.length_range]
    omega
  · unfold iPl
    rw [List.map_map]
    exact at_each ht hw _ (fun _ => rfl) (fun _ => rfl) (fun _ => rfl)
def bq (m : Int) : D → Bool
  | .tup [_, .int v] => decide (v ≤ m)
  | _ => false
def psq (i j : Nat) : D → List (Nat × D)
  | .tup [x, y] => [(i, x), (j, y)]
  | _ => []
theorem picked {ρ : Pu.Env} {i j k : Nat} {m : Int} {l : List Int} (e1' : ∀ x y, vr i (setsE ρ [(i, x), (j, y)]) = .ok x) (e2' : ∀ x y, vr j (setsE ρ [(i, x), (j, y)]) = .ok y) (e3' : ∀ x y, vr k (setsE ρ [(i, x), (j, y)]) = .ok (.int m)) :
    lcGo ρ (.tp [i, j]) (tst (op2 dLe (vr j) (vr k))) (tupF (argC (vr i) (argC (vr j) argN))) (enD (l.map .int)) = .ok (((enD (l.map .int)).filter (bq m)).map id) := by
  refine lcGo_fil (ps := psq i j) fun d hd => ?_
  obtain ⟨q, e, he, rfl⟩ := mem_enD hd
  obtain ⟨v, _, rfl⟩ := List.mem_map.mp he
  exact ⟨rfl, tB (e2 (e2' _ _) (e3' _ _) rfl), fun _ => eTu (eC (e1' _ _) (eC (e2' _ _) rfl)) (Nat.le_of_ble_eq_true rfl)⟩
theorem enD_len (ds : List D) : (enD ds).length = ds.length := by
  unfold enD
  rw [List.length_mapIdx]
theorem iPl_len {t w : List Nat} (ht : t.length ≤ 1000) : (iPl t w).length ≤ 1001 := by
  unfold iPl
  rw [List.length_map, List.length_range]
  omega
theorem spots_ok {t w : List Nat} {m : Int} (ht : plainB (.str t) = true) (hw : plainB (.str w) = true) (hm : 0 ≤ m ∧ m ≤ w.length) : m_spots [.str t, .str w, .int m] = .ok (.lst (((enD ((iPl t w).map .int)).filter (bq m)).map id)) := by
  have lt := plain_ok ht
  have lw := plain_ok hw
  have num : numB 0 w.length (.int m) = true := by
    show (decide (0 ≤ m) && decide (m ≤ w.length)) = true
    rw [decide_eq_true hm.1, decide_eq_true hm.2]
    rfl
  refine dm rfl (sq_to (ex_nx ((eK rfl).trans (need_plain_ok lt ht))) (sq_to (ex_nx ((eK rfl).trans (need_plain_ok lw hw))) (sq_to (ex_nx ((nn2 rfl (eC rfl (eC (eN (eC rfl rfl) (lenq lw)) rfl))).trans (need_number_ok (d := .int m) trivial num))) (re_to (eO (eLc (eE ((eK rfl).trans (places_ok lt lw)) rfl) ?_ (picked (fun _ _ => rfl) (fun _ _ => rfl) (fun _ _ => rfl))))))))
  rw [enD_len, List.length_map]
  have := iPl_len (w := w) lt
  omega
/-- the least and its place, or None -/
theorem best {ε : Pu.Env} {a : F} {l : List Int} (h : a ε = .ok (.lst (l.map .int))) : ∃ d, dep d ≤ 60 ∧ (l = [] → d = .non) ∧ (ifF (tst (op2 dEq a (lstF argN))) (cst .non) (tupF (argC (opN cMin (argC a argN)) (argC (mt1 tyLst dIndex a (opN cMin (argC a argN))) argN)))) ε = .ok d := by
  have dl : depL (l.map D.int) ≤ 0 := depL_map fun _ _ => Nat.le_refl _
  have tt : (tst (op2 dEq a (lstF argN))) ε = .ok (eqdL (l.map D.int) []) := (tB (e2 h (eL rfl (by decide)) (eqq (by rw [dep_lst]; omega) (by decide)))).trans (by rw [eqd_lst])
  cases l with
  | nil => exact ⟨.non, by decide, fun _ => rfl, eIf tt (fun _ => rfl) fun z => nomatch z⟩
  | cons x l =>
    obtain ⟨m, hm⟩ := lmin_some (l := x :: l) (by simp)
    obtain ⟨j, hj⟩ := idx_mem (lmin_spec hm).1
    have emin : (opN cMin (argC a argN)) ε = .ok (.int m) := by
      refine eN (eC h rfl) ?_
      show (intsOf _).bind _ = _
      rw [intsOf_map]
      show (lmin (x :: l)).map D.int = _
      rw [hm]
      rfl
    refine ⟨.tup [.int m, .int (j : Nat)], by simp, (fun z => nomatch z), eIf tt (fun z => nomatch z) fun _ => eTu (eC emin (eC (eM h rfl emin ?_) rfl)) (Nat.le_of_ble_eq_true rfl)⟩
    show (if _ then _ else _) = _
    rw [if_pos ⟨by rw [dep_lst]; omega, by simp⟩, hj]
    rfl
theorem best_ok {t w : List Nat} (ht : plainB (.str t) = true) (hw : plainB (.str w) = true) {d : D}
    (h : (ifF (tst (op2 dEq (vr 2) (lstF argN))) (cst .non) (tupF (argC (opN cMin (argC (vr 2) argN)) (argC (mt1 tyLst dIndex (vr 2) (opN cMin (argC (vr 2) argN))) argN)))) [some (.str t), some (.str w), some (.lst ((iPl t w).map .int))] = .ok d) : m_best_spot [.str t, .str w] = .ok d :=
  dm rfl (sq_to (ex_nx ((eK rfl).trans (need_plain_ok (plain_ok ht) ht))) (sq_to (ex_nx ((eK rfl).trans (need_plain_ok (plain_ok hw) hw))) (sq_to (as_nx ((eK rfl).trans (places_ok (plain_ok ht) (plain_ok hw)))) (re_to h))))
def nrow (al : List Nat) (s : Nat) (r : List Nat × Int) : List (List Nat × Int) := (al.filter fun c => decide (c = s) || decide (0 < r.2)).map fun c => (r.1 ++ [c], r.2 - (if c = s then 0 else 1))
def nr (al : List Nat) (s : Nat) (rows : List (List Nat × Int)) : List (List Nat × Int) := rows.flatMap (nrow al s)
def nrs (al : List Nat) (rows : List (List Nat × Int)) (x : List Nat) : List (List Nat × Int) := x.foldl (fun rows s => nr al s rows) rows
abbrev rD (r : List Nat × Int) : D := .tup [.str r.1, .int r.2]
theorem intNe' {a b : F} {ε : Pu.Env} {s c : Nat} (h1 : a ε = .ok (.str [s])) (h2 : b ε = .ok (.str [c])) : (opN cInt (argC (op2 dNe a b) argN)) ε = .ok (.int (if s = c then 0 else 1)) := by
  refine eN (eC (e2 h1 h2 (neq (by simp) (by simp))) rfl) ?_
  show some (D.int (if (!eqd (.str [s]) (.str [c])) = true then 1 else 0)) = _
  rw [eqd_str]
  by_cases h : s = c
  · subst h
    simp
  · simp [h]
theorem in_loop {w m al rows : Sl} {s : Nat} {r : List Nat × Int} (hu : r.1.length ≤ 1000) : ∀ (cs : List Nat) (acc : List D) (y : Sl), acc.length + ((cs.filter fun c => decide (c = s) || decide (0 < r.2)).map fun c => (r.1 ++ [c], r.2 - (if c = s then 0 else 1))).length ≤ 100000 → ∃ y', forGo (.nm 8) (ifS (orT (tst (op2 dEq (vr 8) (vr 4))) (tst (op2 dGt (vr 7) (cst (.int 0))))) (apS 5 (tupF (argC (op2 dAdd (vr 6) (vr 8)) (argC (op2 dSub (vr 7) (opN cInt (argC (op2 dNe (vr 8) (vr 4)) argN))) argN)))) nxS)
    (cs.map fun c => D.str [c]) [w, m, al, rows, .sh (.str [s]), .ow acc, .sh (.str r.1), .sh (.int r.2), y] = .nx [w, m, al, rows, .sh (.str [s]), .ow (acc ++ ((cs.filter fun c => decide (c = s) || decide (0 < r.2)).map fun c => (r.1 ++ [c], r.2 - (if c = s then 0 else 1))).map rD), .sh (.str r.1), .sh (.int r.2), y']
  | [], acc, y, _ => ⟨y, by simp [forGo]⟩
  | c :: cs, acc, y, hl => by
    have tt : ∀ acc : List D, (orT (tst (op2 dEq (vr 8) (vr 4))) (tst (op2 dGt (vr 7) (cst (.int 0))))) (pkv [w, m, al, rows, .sh (.str [s]), .ow acc, .sh (.str r.1), .sh (.int r.2), .sh (.str [c])]) = .ok (decide (c = s) || decide (0 < r.2)) := by
      intro acc
      refine tOr ((tB (e2 rfl rfl (eqq (by simp) (by simp)))).trans ?_) fun _ => tB (e2 rfl rfl rfl)
      rw [eqd_str]
      refine congrArg Res.ok (decide_eq_decide.mpr ⟨fun h => (List.cons.inj h).1, fun h => by rw [h]⟩)
    by_cases hb : (decide (c = s) || decide (0 < r.2)) = true
    · rw [List.filter_cons_of_pos (p := fun c => decide (c = s) || decide (0 < r.2)) hb, List.map_cons] at hl
      have hl : acc.length + (_ + 1) ≤ 100000 := hl
      obtain ⟨y', e⟩ := in_loop (w := w) (m := m) (al := al) (rows := rows) (s := s) hu cs (acc ++ [rD (r.1 ++ [c], r.2 - (if c = s then 0 else 1))]) (.sh (.str [c])) (by rw [List.length_append]; show acc.length + 1 + _ ≤ _; omega)
      refine ⟨y', ?_⟩
      have ad : dAdd (.str r.1) (.str [c]) = some (.str (r.1 ++ [c])) := if_pos (by show r.1.length + 1 ≤ _; omega)
      rw [List.map_cons, for_cons (ps := [(8, .str [c])]) (ρ' := [w, m, al, rows, .sh (.str [s]), .ow (acc ++ [rD (r.1 ++ [c], r.2 - (if c = s then 0 else 1))]), .sh (.str r.1), .sh (.int r.2), .sh (.str [c])]) rfl, e, List.filter_cons_of_pos (p := fun c => decide (c = s) || decide (0 < r.2)) hb, List.map_cons, List.map_cons, List.append_assoc]
      · rfl
      · exact (if_yes ((tt acc).trans (congrArg Res.ok hb))).trans (ap_nx (ds := acc) rfl (by omega) (eTu (eC (e2 rfl rfl ad) (eC (e2 rfl (intNe' rfl rfl) rfl) rfl)) (Nat.le_of_ble_eq_true rfl)))
    · rw [List.filter_cons_of_neg (p := fun c => decide (c = s) || decide (0 < r.2)) hb] at hl
      obtain ⟨y', e⟩ := in_loop (w := w) (m := m) (al := al) (rows := rows) (s := s) hu cs acc (.sh (.str [c])) hl
      refine ⟨y', ?_⟩
      rw [List.map_cons, for_cons (ps := [(8, .str [c])]) (ρ' := [w, m, al, rows, .sh (.str [s]), .ow acc, .sh (.str r.1), .sh (.int r.2), .sh (.str [c])]) rfl, e, List.filter_cons_of_neg (p := fun c => decide (c = s) || decide (0 < r.2)) hb]
      exact if_nx ((tt acc).trans (congrArg Res.ok (Bool.eq_false_iff.mpr hb)))
theorem mid_loop {w m rows : Sl} {al : List Nat} {s : Nat} : ∀ (rs : List (List Nat × Int)) (acc : List D) (a b y : Sl), (∀ r ∈ rs, r.1.length ≤ 1000) → acc.length + (nr al s rs).length ≤ 100000 → ∃ a' b' y', forGo (.tp [6, 7]) (forS (itF (vr 2)) (.nm 8) (ifS (orT (tst (op2 dEq (vr 8) (vr 4))) (tst (op2 dGt (vr 7) (cst (.int 0))))) (apS 5 (tupF (argC (op2 dAdd (vr 6) (vr 8)) (argC (op2 dSub (vr 7) (opN cInt (argC (op2 dNe (vr 8) (vr 4)) argN))) argN)))) nxS))
    (rs.map rD) [w, m, .sh (.str al), rows, .sh (.str [s]), .ow acc, a, b, y] = .nx [w, m, .sh (.str al), rows, .sh (.str [s]), .ow (acc ++ (nr al s rs).map rD), a', b', y']
  | [], acc, a, b, y, _, _ => ⟨a, b, y, by rw [show (nr al s []).map rD = [] from rfl, List.append_nil]; rfl⟩
  | r :: rs, acc, a, b, y, hr, hl => by
    have en : nr al s (r :: rs) = nrow al s r ++ nr al s rs := rfl
    rw [en, List.length_append] at hl
    obtain ⟨y1, e1'⟩ := in_loop (w := w) (m := m) (al := .sh (.str al)) (rows := rows) (s := s) (r := r) (hr r List.mem_cons_self) al acc y (by show acc.length + (nrow al s r).length ≤ _; omega)
    obtain ⟨a', b', y', e⟩ := mid_loop (w := w) (m := m) (rows := rows) (al := al) (s := s) rs (acc ++ (nrow al s r).map rD) (.sh (.str r.1)) (.sh (.int r.2)) y1 (fun q hq => hr q (List.mem_cons_of_mem _ hq)) (by rw [List.length_append, List.length_map]; omega)
    refine ⟨a', b', y', ?_⟩
    rw [List.map_cons, for_cons (ps := [(6, .str r.1), (7, .int r.2)]) (ρ' := [w, m, .sh (.str al), rows, .sh (.str [s]), .ow (acc ++ (nrow al s r).map rD), .sh (.str r.1), .sh (.int r.2), y1]) rfl, e, en, List.map_append, List.append_assoc]
    exact (for_go (ds := al.map fun c => D.str [c]) rfl).trans e1'
theorem nr_more {al : List Nat} {s : Nat} (hs : s ∈ al) : ∀ rs : List (List Nat × Int), rs.length ≤ (nr al s rs).length
  | [] => Nat.le_refl _
  | r :: rs => by
    have en : nr al s (r :: rs) = nrow al s r ++ nr al s rs := rfl
    rw [en, List.length_append]
    have h1 := nr_more hs rs
    have h2 : 0 < (nrow al s r).length := by
      unfold nrow
      rw [List.length_map]
      exact List.length_pos_of_mem (List.mem_filter.mpr ⟨hs, by simp⟩)
    show rs.length + 1 ≤ _
    omega
theorem nrs_more {al : List Nat} : ∀ (x : List Nat) (rs : List (List Nat × Int)), (∀ s ∈ x, s ∈ al) → rs.length ≤ (nrs al rs x).length
  | [], _, _ => Nat.le_refl _
  | s :: x, rs, h => Nat.le_trans (nr_more (h s List.mem_cons_self) rs) (nrs_more x (nr al s rs) fun q hq => h q (List.mem_cons_of_mem _ hq))
theorem nr_short {al : List Nat} {s n : Nat} {rs : List (List Nat × Int)} (h : ∀ r ∈ rs, r.1.length ≤ n) : ∀ r ∈ nr al s rs, r.1.length ≤ n + 1 := by
  intro r hr
  obtain ⟨q, hq, h2⟩ := List.mem_flatMap.mp hr
  obtain ⟨c, _, rfl⟩ := List.mem_map.mp h2
  have := h q hq
  show (q.1 ++ [c]).length ≤ n + 1
  rw [List.length_append]
  show q.1.length + 1 ≤ n + 1
  omega
theorem out_loop {w m : Sl} {al : List Nat} : ∀ (x : List Nat) (rs : List (List Nat × Int)) (n : Nat) (a b c d e : Sl), (∀ r ∈ rs, r.1.length ≤ n) → n + x.length ≤ 1000 → (∀ s ∈ x, s ∈ al) → (nrs al rs x).length ≤ 100000 → ∃ a' b' c' d' e', forGo (.nm 4) (sqS (aoS 5 (lnO argN)) (sqS (forS (itF (vr 3)) (.tp [6, 7]) (forS (itF (vr 2)) (.nm 8) (ifS (orT (tst (op2 dEq (vr 8) (vr 4))) (tst (op2 dGt (vr 7) (cst (.int 0))))) (apS 5 (tupF (argC (op2 dAdd (vr 6) (vr 8)) (argC (op2 dSub (vr 7) (opN cInt (argC (op2 dNe (vr 8) (vr 4)) argN))) argN)))) nxS))) (fzS [5] (asS 3 (vr 5)))))
    (x.map fun c => D.str [c]) [w, m, .sh (.str al), .sh (.lst (rs.map rD)), a, b, c, d, e] = .nx [w, m, .sh (.str al), .sh (.lst ((nrs al rs x).map rD)), a', b', c', d', e']
  | [], rs, n, a, b, c, d, e, _, _, _, _ => ⟨a, b, c, d, e, rfl⟩
  | s :: x, rs, n, a, b, c, d, e, hr, hn, hs, hl => by
    have hn : n + (x.length + 1) ≤ 1000 := hn
    have hx : ∀ q ∈ x, q ∈ al := fun q hq => hs q (List.mem_cons_of_mem _ hq)
    have hl1 : (nr al s rs).length ≤ 100000 := Nat.le_trans (nrs_more x (nr al s rs) hx) hl
    obtain ⟨a1, b1, y1, em⟩ := mid_loop (w := w) (m := m) (rows := .sh (.lst (rs.map rD))) (al := al) (s := s) rs [] c d e (fun r h => Nat.le_trans (hr r h) (by omega)) (by show 0 + _ ≤ _; omega)
    obtain ⟨a', b', c', d', e', eo⟩ := out_loop (w := w) (m := m) (al := al) x (nr al s rs) (n + 1) (.sh (.str [s])) (.sh (.lst ((nr al s rs).map rD))) a1 b1 y1 (nr_short hr) (by omega) hx hl
    refine ⟨a', b', c', d', e', ?_⟩
    rw [List.map_cons, for_cons (ps := [(4, .str [s])]) (ρ' := [w, m, .sh (.str al), .sh (.lst ((nr al s rs).map rD)), .sh (.str [s]), .sh (.lst ((nr al s rs).map rD)), a1, b1, y1]) rfl, eo]
    · rfl
    · refine (sq_nx (ao_nx (ds := []) rfl)).trans ?_
      refine (sq_nx ((for_go (ds := rs.map rD) rfl).trans em)).trans ?_
      rw [List.nil_append]
      rfl
theorem near_ok {w al : List Nat} {m : Int} (hw : w.length ≤ 1000) (hi : ∀ s ∈ w, s ∈ al) (hl : (nrs al [([], m)] w).length ≤ 100000) : m_near [.str w, .int m, .str al] = .ok (.lst ((nrs al [([], m)] w).map fun r => .str r.1)) := by
  obtain ⟨a', b', c', d', e', eo⟩ := out_loop (w := .sh (.str w)) (m := .sh (.int m)) (al := al) w [([], m)] 0 .no .no .no .no .no (fun r hr => by rw [List.mem_singleton.mp hr]; exact Nat.le_refl _) (by omega) hi hl
  refine dm rfl (sq_to (as_nx (d := .lst [.tup [.str [], .int m]]) rfl) (sq_to ((for_go (ds := w.map fun c => D.str [c]) rfl).trans eo) (re_to (eO (eLc (ds := (nrs al [([], m)] w).map rD) rfl ?_ (lcGo_im (ps := fun r => [(6, .str r.1), (7, .int r.2)]) fun r _ => ⟨rfl, rfl⟩))))))
  rw [List.length_map]
  omega
theorem cnt_snoc {r x : List Nat} {c s : Nat} (h : r.length = x.length) : cnt (r ++ [c]) (x ++ [s]) = cnt r x + (if c = s then 0 else 1) := by
  unfold cnt
  rw [List.zip_append h, List.filter_append, List.length_append]
  congr 1
  by_cases e : c = s
  · subst e
    simp
  · simp [e]
abbrev okU (x : List Nat) (m : Int) (u : List Nat) : Bool := decide (((cnt u x : Nat) : Int) ≤ m)
theorem nr_step {al x : List Nat} {s : Nat} {m : Int} : ∀ L : List (List Nat), (∀ r ∈ L, r.length = x.length) → nr al s ((L.filter (okU x m)).map fun u => (u, m - ((cnt u x : Nat) : Int))) = ((L.flatMap fun r => al.map fun c => r ++ [c]).filter (okU (x ++ [s]) m)).map fun u => (u, m - ((cnt u (x ++ [s]) : Nat) : Int))
  | [], _ => rfl
  | r :: L, h => by
    have hr := h r List.mem_cons_self
    have ih := nr_step (al := al) (s := s) (m := m) L fun q hq => h q (List.mem_cons_of_mem _ hq)
    rw [List.flatMap_cons, List.filter_append, List.map_append, ← ih, List.filter_map, List.map_map]
    by_cases hb : okU x m r = true
    · rw [List.filter_cons_of_pos hb, List.map_cons]
      show nrow al s (r, m - ((cnt r x : Nat) : Int)) ++ _ = _
      congr 1
      unfold nrow
      have hle := of_decide_eq_true hb
      have ef : (al.filter fun c => decide (c = s) || decide (0 < m - ((cnt r x : Nat) : Int))) = al.filter (okU (x ++ [s]) m ∘ fun c => r ++ [c]) := by
        refine List.filter_congr fun c _ => ?_
        show _ = decide (((cnt (r ++ [c]) (x ++ [s]) : Nat) : Int) ≤ m)
        rw [cnt_snoc hr]
        by_cases e : c = s
        · rw [if_pos e, decide_eq_true e, Bool.true_or]
          exact (decide_eq_true (by omega)).symm
        · rw [if_neg e, decide_eq_false e, Bool.false_or]
          exact decide_eq_decide.mpr (by omega)
      rw [ef]
      refine List.map_congr_left fun c _ => ?_
      show (r ++ [c], _) = (r ++ [c], m - ((cnt (r ++ [c]) (x ++ [s]) : Nat) : Int))
      rw [cnt_snoc hr]
      congr 1
      by_cases e : c = s
      · rw [if_pos e, if_pos e]
        omega
      · rw [if_neg e, if_neg e]
        omega
    · rw [List.filter_cons_of_neg hb]
      have hgt : ¬ ((cnt r x : Nat) : Int) ≤ m := fun z => hb (decide_eq_true z)
      have ef : al.filter (okU (x ++ [s]) m ∘ fun c => r ++ [c]) = [] := List.filter_eq_nil_iff.mpr fun c _ => by
        show ¬ decide (((cnt (r ++ [c]) (x ++ [s]) : Nat) : Int) ≤ m) = true
        rw [cnt_snoc hr]
        intro z
        have := of_decide_eq_true z
        omega
      rw [ef]
      rfl
theorem nrs_snoc (al : List Nat) (rs : List (List Nat × Int)) (x : List Nat) (s : Nat) : nrs al rs (x ++ [s]) = nr al s (nrs al rs x) := by
  unfold nrs
  rw [List.foldl_append]
  rfl
theorem nrs_eq {al : List Nat} {m : Int} (hm : 0 ≤ m) (x : List Nat) : nrs al [([], m)] x = ((allw al x.length).filter (okU x m)).map fun u => (u, m - ((cnt u x : Nat) : Int)) := by
  induction x using snoc_ind with
  | h0 =>
    have e : okU [] m [] = true := decide_eq_true hm
    show [([], m)] = (([[]] : List (List Nat)).filter (okU [] m)).map _
    rw [List.filter_cons_of_pos e]
    show [(([] : List Nat), m)] = [([], m - 0)]
    rw [Int.sub_zero]
  | h1 x s ih =>
    rw [nrs_snoc, ih, nr_step _ fun r hr => allw_len hr, List.length_append]
    rfl
/-! how many -/
def NB (a : Nat) : Nat → Nat → Nat
  | 0, _ => 1
  | n + 1, 0 => NB a n 0
  | n + 1, m + 1 => NB a n (m + 1) + (a - 1) * NB a n m
theorem many_step {al x : List Nat} {s : Nat} {m : Int} (h1 : (al.filter fun c => decide (c = s)).length = 1) : ∀ L : List (List Nat), (∀ r ∈ L, r.length = x.length) → ((L.flatMap fun r => al.map fun c => r ++ [c]).filter (okU (x ++ [s]) m)).length = (L.filter (okU x m)).length + (al.length - 1) * (L.filter (okU x (m - 1))).length
  | [], _ => rfl
  | r :: L, h => by
    have hr := h r List.mem_cons_self
    have ih := many_step (al := al) (s := s) (m := m) h1 L fun q hq => h q (List.mem_cons_of_mem _ hq)
    have pos : 1 ≤ al.length := by rw [← h1]; exact List.length_filter_le _ _
    rw [List.flatMap_cons, List.filter_append, List.length_append, ih, List.filter_map, List.length_map]
    have cond : ∀ c, okU (x ++ [s]) m (r ++ [c]) = decide (((cnt r x : Nat) : Int) + (if c = s then 0 else 1) ≤ m) := fun c => by
      show decide (((cnt (r ++ [c]) (x ++ [s]) : Nat) : Int) ≤ m) = _
      rw [cnt_snoc hr]
      refine decide_eq_decide.mpr ?_
      split <;> omega
    by_cases b1 : ((cnt r x : Nat) : Int) ≤ m - 1
    · have e1 : okU x m r = true := decide_eq_true (by omega)
      have e2 : okU x (m - 1) r = true := decide_eq_true b1
      have e3 : al.filter (okU (x ++ [s]) m ∘ fun c => r ++ [c]) = al := List.filter_eq_self.mpr fun c _ => by
        show okU (x ++ [s]) m (r ++ [c]) = true
        rw [cond]
        exact decide_eq_true (by split <;> omega)
      rw [List.filter_cons_of_pos e1, List.filter_cons_of_pos e2, e3, List.length_cons, List.length_cons, Nat.mul_add]
      omega
    · have e2 : ¬ okU x (m - 1) r = true := fun z => b1 (of_decide_eq_true z)
      rw [List.filter_cons_of_neg e2]
      by_cases b2 : ((cnt r x : Nat) : Int) ≤ m
      · have e1 : okU x m r = true := decide_eq_true b2
        have e3 : al.filter (okU (x ++ [s]) m ∘ fun c => r ++ [c]) = al.filter fun c => decide (c = s) := List.filter_congr fun c _ => by
          show okU (x ++ [s]) m (r ++ [c]) = _
          rw [cond]
          by_cases e : c = s
          · rw [if_pos e, decide_eq_true e]
            exact decide_eq_true (by omega)
          · rw [if_neg e, decide_eq_false e]
            exact decide_eq_false (by omega)
        rw [List.filter_cons_of_pos e1, e3, h1, List.length_cons]
        omega
      · have e1 : ¬ okU x m r = true := fun z => b2 (of_decide_eq_true z)
        have e3 : al.filter (okU (x ++ [s]) m ∘ fun c => r ++ [c]) = [] := List.filter_eq_nil_iff.mpr fun c _ => by
          show ¬ okU (x ++ [s]) m (r ++ [c]) = true
          rw [cond]
          intro z
          have := of_decide_eq_true z
          split at this <;> omega
        rw [List.filter_cons_of_neg e1, e3]
        show 0 + _ = _
        omega
theorem many_ok {al : List Nat} (h1 : ∀ s ∈ al, (al.filter fun c => decide (c = s)).length = 1) (x : List Nat) (hx : ∀ s ∈ x, s ∈ al) : ∀ m : Nat, ((allw al x.length).filter (okU x m)).length = NB al.length x.length m := by
  induction x using snoc_ind with
  | h0 =>
    intro m
    have e : okU [] m [] = true := decide_eq_true (by show (0 : Int) ≤ _; omega)
    show (([[]] : List (List Nat)).filter (okU [] m)).length = NB al.length 0 m
    rw [List.filter_cons_of_pos e]
    rw [NB]
    rfl
  | h1 x s ih =>
    have ih := ih fun q hq => hx q (List.mem_append_left _ hq)
    have hs : s ∈ al := hx s (by simp)
    intro m
    have ln : (x ++ [s]).length = x.length + 1 := by rw [List.length_append]; rfl
    rw [ln]
    show (((allw al x.length).flatMap fun r => al.map fun c => r ++ [c]).filter _).length = _
    rw [many_step (h1 s hs) _ fun r hr => allw_len hr, ih m]
    cases m with
    | zero =>
      have e : (allw al x.length).filter (okU x (((0 : Nat) : Int) - 1)) = [] := List.filter_eq_nil_iff.mpr fun r _ z => by
        have := of_decide_eq_true z
        omega
      rw [e, NB]
      rfl
    | succ m =>
      have e : ((m + 1 : Nat) : Int) - 1 = ((m : Nat) : Int) := by omega
      rw [e, ih m, NB]
/-- how_many's loop; none where a product is large -/
def hmL (L a : Int) : List Nat → Int → Int → Option Int
  | [], f, _ => some f
  | n :: r, f, w => if (w.natAbs < 2 ^ 60 ∧ (L - (0 + (n : Nat))).natAbs < 2 ^ 60) ∧ ((w * (L - (0 + (n : Nat)))).natAbs < 2 ^ 60 ∧ (a - 1).natAbs < 2 ^ 60) ∧ n < 2 ^ 60 then hmL L a r (f + w) (w * (L - (0 + (n : Nat))) * (a - 1) / (0 + (n : Nat) + 1)) else none
theorem b100 {i : Int} (h : i.natAbs < 2 ^ 60) : i.natAbs < 2 ^ 100 := Nat.lt_trans h (by decide)
theorem hm_loop {L m a : Int} : ∀ (l : List Nat) (x : Sl) (f w v : Int), hmL L a l f w = some v → ∃ x' w', forGo (.nm 3) (sqS (auS 4 iAdd (vr 5)) (asS 5 (op2 dFdiv (op2 dMul (op2 dMul (vr 5) (op2 dSub (vr 0) (vr 3))) (op2 dSub (vr 2) (cst (.int 1)))) (op2 dAdd (vr 3) (cst (.int 1))))))
    (l.map fun i => D.int (0 + (i : Nat))) [.sh (.int L), .sh (.int m), .sh (.int a), x, .sh (.int f), .sh (.int w)] = .nx [.sh (.int L), .sh (.int m), .sh (.int a), x', .sh (.int v), w']
  | [], x, f, w, v, h => by
    cases h
    exact ⟨x, .sh (.int w), rfl⟩
  | n :: l, x, f, w, v, h => by
    rw [hmL] at h
    split at h
    · rename_i c
      obtain ⟨x', w', e⟩ := hm_loop (L := L) (m := m) (a := a) l (.sh (.int (0 + (n : Nat)))) _ _ v h
      refine ⟨x', w', ?_⟩
      rw [List.map_cons]
      have body : (sqS (auS 4 iAdd (vr 5)) (asS 5 (op2 dFdiv (op2 dMul (op2 dMul (vr 5) (op2 dSub (vr 0) (vr 3))) (op2 dSub (vr 2) (cst (.int 1)))) (op2 dAdd (vr 3) (cst (.int 1)))))) [.sh (.int L), .sh (.int m), .sh (.int a), .sh (.int (0 + (n : Nat))), .sh (.int f), .sh (.int w)] = .nx [.sh (.int L), .sh (.int m), .sh (.int a), .sh (.int (0 + (n : Nat))), .sh (.int (f + w)), .sh (.int (w * (L - (0 + (n : Nat))) * (a - 1) / (0 + (n : Nat) + 1)))] :=
        (sq_nx (au_nx rfl rfl rfl)).trans (as_nx (e2 (e2 (e2 rfl (e2 rfl rfl rfl) (mulq (b100 c.1.1) (b100 c.1.2))) (e2 rfl rfl rfl) (mulq (b100 c.2.1.1) (b100 c.2.1.2))) (e2 rfl rfl rfl) (fdivq (by omega) (by omega))))
      exact (for_cons (ps := [(3, .int (0 + (n : Nat)))]) rfl body).trans e
    · cases h
theorem hm_val {L m a : Nat} {v : Int} (hm : m ≤ 1000) (h : hmL L a (List.range (m + 1)) 0 1 = some v) : m_how_many [.int L, .int m, .int a] = .ok (.int v) := by
  obtain ⟨x', w', e⟩ := hm_loop (m := m) (List.range (m + 1)) .no 0 1 v h
  have rg : rgD 0 (((m : Nat) : Int) + 1) = (List.range (m + 1)).map fun i => D.int (0 + (i : Nat)) := by
    unfold rgD
    have e : ((((m : Nat) : Int) + 1) - 0).toNat = m + 1 := by omega
    rw [e]
  refine dm rfl (sq_to (at_nx (d := .tup [.int 0, .int 1]) rfl rfl) (sq_to ((for_go (ds := rgD 0 (((m : Nat) : Int) + 1)) (eR (e2 rfl rfl rfl) (by omega))).trans ((congrArg (fun l => forGo _ _ l _) rg).trans e)) (re_to rfl)))
theorem hm_all : ([2, 3, 4].all fun a : Nat => [1, 2, 3, 4, 5, 6, 7, 8, 9].all fun L : Nat => (List.range (L + 1)).all fun m => decide (hmL L a (List.range (m + 1)) 0 1 = some ((NB a L m : Nat) : Int))) = true := by decide +kernel
theorem hm_ok {L m a : Nat} (ha : a = 2 ∨ a = 3 ∨ a = 4) (h1 : 1 ≤ L) (h2 : L ≤ 9) (hm : m ≤ L) : m_how_many [.int L, .int m, .int a] = .ok (.int (NB a L m : Nat)) := by
  refine hm_val (by omega) ?_
  have h := List.all_eq_true.mp hm_all a (by simp; omega)
  have h := List.all_eq_true.mp h L (by simp; omega)
  exact of_decide_eq_true (List.all_eq_true.mp h m (List.mem_range.mpr (by omega)))
theorem within_ok {a w : List Nat} {m : Nat} {v : Int} (ha : a ∈ A4) (hw : plainB (.str w) = true) (hi : ∀ c ∈ w, c ∈ a) (hm : m ≤ w.length) (hh : m_how_many [.int w.length, .int m, .int a.length] = .ok (.int v)) (hv : v ≤ 5000) (hl : (nrs a [([], (m : Int))] w).length ≤ 100000) :
    m_words_within [.str w, .int m, .str a] = .ok (.lst ((nrs a [([], (m : Int))] w).map fun r => .str r.1)) := by
  have lw := plain_ok hw
  have la := (a4_let a ha).2.2
  have num : numB 0 ((w.length : Nat) : Int) (.int m) = true := by
    show (decide ((0 : Int) ≤ (m : Nat)) && decide (((m : Nat) : Int) ≤ ((w.length : Nat) : Int))) = true
    rw [decide_eq_true (by omega), decide_eq_true (by omega)]
    rfl
  refine dm rfl (sq_to (ex_nx ((eK rfl).trans (need_al ha))) (sq_to (ex_nx ((eK rfl).trans (need_word_ok ha hw hi))) (sq_to (ex_nx ((nn2 rfl (eC rfl (eC (eN (eC rfl rfl) (lenq lw)) rfl))).trans (need_number_ok (d := .int m) trivial num))) (sq_to (if_nx (tB (e2 ((eK (eC (eN (eC rfl rfl) (lenq lw)) (eC rfl (eC (eN (eC rfl rfl) (lenq (show a.length ≤ 1000 by omega))) rfl)))).trans hh) rfl ?_))) (re_to ((eK rfl).trans (near_ok lw hi hl)))))))
  show some (D.bl (decide ((5000 : Int) < v))) = _
  rw [decide_eq_false (by omega)]
theorem enD_pl (t w : List Nat) : enD ((iPl t w).map .int) = (pl t w).map pD := by
  have e : ((((t.length : Nat) : Int) - ((w.length : Nat) : Int) + 1) - 0).toNat = t.length + 1 - w.length := by omega
  unfold enD iPl pl
  rw [e]
  refine List.ext_getElem (by simp) fun i h1 h2 => ?_
  have hi : i < t.length + 1 - w.length := by simpa using h2
  simp only [List.getElem_mapIdx, List.getElem_map, List.getElem_range]
  rw [Int.zero_add, cut_pcs (by omega)]
  rfl
theorem spots_sp {t w : List Nat} {m : Int} (ht : plainB (.str t) = true) (hw : plainB (.str w) = true) (hm : 0 ≤ m ∧ m ≤ w.length) : m_spots [.str t, .str w, .int m] = .ok (.lst ((sp t w m).map pD)) := by
  rw [spots_ok ht hw hm, enD_pl, List.filter_map, List.map_id]
  rfl
def en : Int → List Int → List P2
  | _, [] => []
  | s, x :: l => (s, x) :: en (s + 1) l
theorem head_en {m : Int} : ∀ (l : List Int) (s : Int) (j : Nat), (∀ y ∈ l, m ≤ y) → idx (.int m) (l.map D.int) = some j → ∃ r, ((en s l).filter fun p => decide (p.2 ≤ m)) = (s + ((j : Nat) : Int), m) :: r
  | [], _, _, _, h => nomatch h
  | x :: l, s, j, hy, h => by
    rw [List.map_cons, idx, eqd_int] at h
    by_cases c : x = m
    · rw [decide_eq_true c, if_pos rfl] at h
      cases h
      subst c
      refine ⟨(en (s + 1) l).filter fun p => decide (p.2 ≤ x), ?_⟩
      rw [show s + (((0 : Nat) : Nat) : Int) = s by omega]
      show List.filter _ ((s, x) :: en (s + 1) l) = _
      exact List.filter_cons_of_pos (decide_eq_true (p := x ≤ x) (Int.le_refl _))
    · rw [decide_eq_false c, if_neg Bool.false_ne_true] at h
      obtain ⟨k, e1, e2⟩ := Option.map_eq_some_iff.mp h
      obtain ⟨r, hr⟩ := head_en l (s + 1) k (fun y q => hy y (List.mem_cons_of_mem _ q)) e1
      have q := hy x List.mem_cons_self
      refine ⟨r, (List.filter_cons_of_neg (by simp; omega)).trans (hr.trans ?_)⟩
      rw [show s + 1 + ((k : Nat) : Int) = s + ((j : Nat) : Int) by omega]
theorem low_en {m : Int} : ∀ (l : List Int) (s : Int), (∀ y ∈ l, m < y) → ((en s l).filter fun p => decide (p.2 ≤ m)) = []
  | [], _, _ => rfl
  | x :: l, s, hy => by
    have q := hy x List.mem_cons_self
    exact (List.filter_cons_of_neg (by simp; omega)).trans (low_en l (s + 1) fun y q => hy y (List.mem_cons_of_mem _ q))
theorem en_idx : ∀ (l : List Int) (s : Nat), (en ((s : Nat) : Int) l).map pD = (l.map D.int).mapIdx fun i d => D.tup [.int ((s + i : Nat) : Int), d]
  | [], _ => rfl
  | x :: l, s => by
    rw [List.map_cons, List.mapIdx_cons]
    show pD (((s : Nat) : Int), x) :: (en (((s : Nat) : Int) + 1) l).map pD = _
    rw [show ((s : Nat) : Int) + 1 = ((s + 1 : Nat) : Int) by omega, en_idx l (s + 1)]
    refine congrArg (List.cons (pD (((s : Nat) : Int), x))) ?_
    refine congrArg (fun f => List.mapIdx f (l.map D.int)) (funext fun i => funext fun d => ?_)
    rw [show s + 1 + i = s + (i + 1) by omega]
theorem pl_en (t w : List Nat) : pl t w = en 0 (iPl t w) := by
  have a := enD_pl t w
  have b := en_idx (iPl t w) 0
  have e : (pl t w).map pD = (en 0 (iPl t w)).map pD := by
    rw [← a]
    refine Eq.trans ?_ b.symm
    unfold enD
    refine congrArg (fun f => List.mapIdx f ((iPl t w).map D.int)) (funext fun i => funext fun d => ?_)
    rw [Nat.zero_add]
  have c := congrArg p2sOf e
  rw [p2sOf_map, p2sOf_map] at c
  exact Option.some.inj c
theorem dep_p2 (l : List P2) : depL (l.map pD) ≤ 1 := depL_map fun p _ => by unfold pD; simp
theorem dep_pp (l : List P2) : dep (.lst (l.map pD)) ≤ 60 := by
  rw [dep_lst]
  have := dep_p2 l
  omega
theorem eqd_p (p q : P2) : eqd (pD p) (pD q) = decide (p = q) := by
  unfold pD
  rw [eqd_tup]
  show (eqd _ _ && (eqd _ _ && true)) = _
  rw [eqd_int, eqd_int, Bool.and_true]
  by_cases c : p = q
  · subst c
    simp
  · rw [decide_eq_false c]
    by_cases c1 : p.1 = q.1
    · rw [decide_eq_true c1, decide_eq_false fun e => c (Prod.ext c1 e)] <;> rfl
    · rw [decide_eq_false c1] <;> rfl
theorem mem1_p {p : P2} {l : List P2} (h : p ∈ l) : mem1 (pD p) (l.map pD) = true := by
  unfold mem1
  refine List.any_eq_true.mpr ⟨pD p, List.mem_map.mpr ⟨p, h, rfl⟩, ?_⟩
  rw [eqd_p]
  exact decide_eq_true rfl
theorem sort_sp (t w : List Nat) (m : Int) : cSort [.lst ((sp t w m).map pD)] = some (.lst ((sp t w m).map pD)) := by
  show (match intsOf ((sp t w m).map pD) with | some ns => some (D.lst ((isort ns).map D.int)) | none => (p2sOf ((sp t w m).map pD)).map fun l => D.lst ((psort l).map pD)) = _
  have s := sp_sorted t w m
  cases e : sp t w m with
  | nil => rfl
  | cons p l =>
    rw [e] at s
    have i : intsOf ((p :: l).map pD) = none := rfl
    rw [i]
    show (p2sOf ((p :: l).map pD)).map _ = _
    rw [p2sOf_map]
    show some (D.lst ((psort (p :: l)).map pD)) = _
    rw [s]
theorem sp_len (t w : List Nat) (m : Int) : (sp t w m).length ≤ t.length + 1 := by
  unfold sp pl
  refine Nat.le_trans (List.length_filter_le _ _) ?_
  rw [List.length_map, List.length_range]
  omega
theorem lcGo_no {α : Type} {ρ : Pu.Env} {t : Tg} {c : T} {f : F} {h : α → D} {ps : α → List (Nat × D)} {w : List α} (k : ∀ a ∈ w, bnd t (h a) = some (ps a) ∧ c (setsE ρ (ps a)) = .ok false) : lcGo ρ t c f (w.map h) = .ok [] := by
  refine (lcGo_imf (g := fun _ => .non) (b := fun _ => false) (ps := ps) fun a ha => ⟨(k a ha).1, (k a ha).2, fun z => nomatch z⟩).trans ?_
  rw [show w.filter (fun _ => false) = [] from List.filter_eq_nil_iff.mpr fun _ _ => Bool.false_ne_true]
  rfl
theorem notin_i {v : Int} {L : List Nat} (h : ∃ i ∈ L, v = 0 + ((i : Nat) : Int)) : dNotIn (.int v) (.lst (L.map fun i => D.int (0 + (i : Nat)))) = some (.bl false) := by
  have e : mem1 (.int v) (L.map fun i => D.int (0 + (i : Nat))) = true := by
    obtain ⟨i, hi, e⟩ := h
    unfold mem1
    refine List.any_eq_true.mpr ⟨_, List.mem_map.mpr ⟨i, hi, rfl⟩, ?_⟩
    rw [eqd_int]
    exact decide_eq_true e.symm
  have dl : depL (L.map fun i => D.int (0 + (i : Nat))) ≤ 0 := depL_map fun _ _ => Nat.le_refl _
  show (if _ then _ else _) = _
  rw [if_pos ⟨by simp, by omega⟩, e]
  rfl
theorem notin_p {p : P2} {l : List P2} (h : p ∈ l) : dNotIn (pD p) (.lst (l.map pD)) = some (.bl false) := by
  have dl := dep_p2 l
  show (if _ then _ else _) = _
  rw [if_pos ⟨by unfold pD; simp, by omega⟩, mem1_p h]
  rfl
/-- the least and its place, told apart -/
theorem best' {ε : Pu.Env} {a : F} {l : List Int} (h : a ε = .ok (.lst (l.map .int))) :
    (l = [] ∧ (ifF (tst (op2 dEq a (lstF argN))) (cst .non) (tupF (argC (opN cMin (argC a argN)) (argC (mt1 tyLst dIndex a (opN cMin (argC a argN))) argN)))) ε = .ok .non) ∨
    ∃ m j, lmin l = some m ∧ idx (.int m) (l.map D.int) = some j ∧ (ifF (tst (op2 dEq a (lstF argN))) (cst .non) (tupF (argC (opN cMin (argC a argN)) (argC (mt1 tyLst dIndex a (opN cMin (argC a argN))) argN)))) ε = .ok (.tup [.int m, .int (j : Nat)]) := by
  have dl : depL (l.map D.int) ≤ 0 := depL_map fun _ _ => Nat.le_refl _
  have tt : (tst (op2 dEq a (lstF argN))) ε = .ok (eqdL (l.map D.int) []) := (tB (e2 h (eL rfl (by decide)) (eqq (by rw [dep_lst]; omega) (by decide)))).trans (by rw [eqd_lst])
  cases l with
  | nil => exact .inl ⟨rfl, eIf tt (fun _ => rfl) fun z => nomatch z⟩
  | cons x l =>
    obtain ⟨m, hm⟩ := lmin_some (l := x :: l) (by simp)
    obtain ⟨j, hj⟩ := idx_mem (lmin_spec hm).1
    have emin : (opN cMin (argC a argN)) ε = .ok (.int m) := by
      refine eN (eC h rfl) ?_
      show (intsOf _).bind _ = _
      rw [intsOf_map]
      show (lmin (x :: l)).map D.int = _
      rw [hm]
      rfl
    refine .inr ⟨m, j, hm, hj, eIf tt (fun z => nomatch z) fun _ => eTu (eC emin (eC (eM h rfl emin ?_) rfl)) (Nat.le_of_ble_eq_true rfl)⟩
    show (if _ then _ else _) = _
    rw [if_pos ⟨by rw [dep_lst]; omega, by simp⟩, hj]
    rfl
theorem best2 {t w : List Nat} (ht : plainB (.str t) = true) (hw : plainB (.str w) = true) :
    m_best_spot [.str t, .str w] = .ok .non ∨
    ∃ (b : Int) (j : Nat), m_best_spot [.str t, .str w] = .ok (.tup [.int b, .int (j : Nat)]) ∧ (0 ≤ b ∧ b ≤ w.length) ∧ (∃ r, sp t w b = (((j : Nat) : Int), b) :: r) ∧ sp t w (b - 1) = [] := by
  rcases best' (ε := [some (.str t), some (.str w), some (.lst ((iPl t w).map .int))]) (a := vr 2) (l := iPl t w) rfl with ⟨_, h⟩ | ⟨m, j, h1, h2, h⟩
  · exact .inl (best_ok ht hw h)
  · obtain ⟨s1, s2⟩ := lmin_spec h1
    have bd : 0 ≤ m ∧ m ≤ w.length := by
      unfold iPl at s1
      obtain ⟨i, _, rfl⟩ := List.mem_map.mp s1
      have := cnt_le_r (cut t (some (0 + (i : Nat))) (some (0 + (i : Nat) + ((w.length : Nat) : Int)))) w
      omega
    refine .inr ⟨m, j, best_ok ht hw h, bd, ?_, ?_⟩
    · obtain ⟨r, hr⟩ := head_en (iPl t w) 0 j s2 h2
      refine ⟨r, ?_⟩
      unfold sp
      rw [pl_en, hr, Int.zero_add]
    · unfold sp
      rw [pl_en]
      exact low_en _ _ fun y hy => by have := s2 y hy; omega
theorem cnt_comm : ∀ u v : List Nat, cnt u v = cnt v u
  | [], v => by unfold cnt; simp
  | u, [] => by unfold cnt; simp
  | a :: u, b :: v => by
    have h1 := cnt_app (a := [a]) (c := [b]) u v rfl
    have h2 := cnt_app (a := [b]) (c := [a]) v u rfl
    have h3 : cnt [a] [b] = cnt [b] [a] := by
      unfold cnt
      by_cases c : a = b
      · subst c; rfl
      · simp [c, Ne.symm c]
    have h4 := cnt_comm u v
    rw [List.singleton_append, List.singleton_append] at h1 h2
    omega
theorem sp_same {p u : List Nat} {m : Int} (h : u.length = p.length) : sp p u m = if ((cnt p u : Nat) : Int) ≤ m then [(0, ((cnt p u : Nat) : Int))] else [] := by
  unfold sp pl
  rw [h, show p.length + 1 - p.length = 1 by omega]
  have e2 : pcs p 0 p.length = p := by
    unfold pcs
    rw [List.drop_zero, List.take_length]
  show List.filter _ [((((0 : Nat) : Int)), ((cnt (pcs p 0 p.length) u : Nat) : Int))] = _
  rw [e2]
  by_cases c : ((cnt p u : Nat) : Int) ≤ m
  · rw [if_pos c]
    exact List.filter_cons_of_pos (decide_eq_true c)
  · rw [if_neg c]
    exact List.filter_cons_of_neg (by simpa using c)
theorem mem1_s (u : List Nat) (l : List (List Nat)) : mem1 (.str u) (l.map .str) = decide (u ∈ l) := by
  unfold mem1
  rw [List.any_map]
  by_cases c : u ∈ l
  · rw [decide_eq_true c]
    exact List.any_eq_true.mpr ⟨u, c, by show eqd (.str u) (.str u) = true; rw [eqd_refl]⟩
  · rw [decide_eq_false c]
    refine List.any_eq_false.mpr fun v hv => ?_
    show ¬ eqd (.str v) (.str u) = true
    rw [eqd_str]
    intro z
    exact c (of_decide_eq_true z ▸ hv)
theorem ne_nil_p (l : List P2) : (!eqd (.lst (l.map pD)) (.lst [])) = !l.isEmpty := by
  cases l with
  | nil => rfl
  | cons p l => rw [eqd_lst, List.map_cons, eqdL_cn]; rfl
theorem in_s (u : List Nat) (l : List (List Nat)) : dIn (.str u) (.lst (l.map .str)) = some (.bl (decide (u ∈ l))) := by
  have dl : depL (l.map D.str) ≤ 0 := depL_map fun _ _ => Nat.le_refl _
  have e : dIn (.str u) (.lst (l.map .str)) = if dep (.str u) ≤ 50 ∧ depL (l.map D.str) ≤ 50 then some (.bl (mem1 (.str u) (l.map .str))) else none := by
    cases u with
    | nil => rfl
    | cons c u => cases u <;> rfl
  rw [e, if_pos ⟨by simp, by omega⟩, mem1_s]
theorem ix0 (d : D) (ds : List D) : dIx (.lst (d :: ds)) (.int 0) = some d := atI_nat (xs := d :: ds) (m := 0) (Nat.succ_pos _)
end Pu.Sp

namespace Pu.Ct
open PySem L2 Pu
open Pu.Co
/-! ### columns: what they tell of slips -/
theorem sum_add (f g : Nat → Nat) : ∀ l : List Nat, (l.map fun k => f k + g k).sum = (l.map f).sum + (l.map g).sum
  | [] => rfl
  | k :: l => by
    rw [List.map_cons, List.map_cons, List.map_cons, List.sum_cons, List.sum_cons, List.sum_cons, sum_add f g l]
    omega
theorem cnt_cons (x y : Nat) (p w : List Nat) : cnt (x :: p) (y :: w) = (if x = y then 0 else 1) + cnt p w := by
  unfold cnt
  rw [List.zip_cons_cons]
  by_cases e : x = y
  · rw [if_pos e, List.filter_cons_of_neg (by simpa using e), Nat.zero_add]
  · rw [if_neg e, List.filter_cons_of_pos (by simpa using e), List.length_cons]
    omega
theorem cnt_sum : ∀ (L : Nat) (p w : List Nat), p.length = L → w.length = L → cnt p w + ((List.range L).map fun k => if p.getD k 0 = w.getD k 0 then 1 else 0).sum = L
  | 0, [], [], _, _ => rfl
  | 0, _ :: _, _, h, _ => nomatch h
  | 0, [], _ :: _, _, h => nomatch h
  | L + 1, [], _, h, _ => nomatch h
  | L + 1, _ :: _, [], _, h => nomatch h
  | L + 1, x :: p, y :: w, hp, hw => by
    have ih := cnt_sum L p w (Nat.succ.inj hp) (Nat.succ.inj hw)
    rw [cnt_cons, List.range_succ_eq_map, List.map_cons, List.map_map, List.sum_cons]
    have e : ((fun k => if (x :: p).getD k 0 = (y :: w).getD k 0 then 1 else 0) ∘ Nat.succ) = fun k => if p.getD k 0 = w.getD k 0 then 1 else 0 := funext fun k => by
      show (if (x :: p).getD (k + 1) 0 = (y :: w).getD (k + 1) 0 then 1 else 0) = _
      rw [List.getD_cons_succ, List.getD_cons_succ]
    rw [e]
    show (if x = y then 0 else 1) + cnt p w + ((if x = y then 1 else 0) + _) = _
    by_cases c : x = y
    · rw [if_pos c, if_pos c]
      omega
    · rw [if_neg c, if_neg c]
      omega
theorem cc_cons (p : List Nat) (ps : List (List Nat)) (k c : Nat) : cc (p :: ps) k c = (if p.getD k 0 = c then 1 else 0) + cc ps k c := by
  unfold cc
  by_cases e : p.getD k 0 = c
  · rw [if_pos e, List.filter_cons_of_pos (by simpa using e), List.length_cons]
    omega
  · rw [if_neg e, List.filter_cons_of_neg (by simpa using e), Nat.zero_add]
theorem cs_col {L : Nat} {w : List Nat} (hw : w.length = L) : ∀ ps : List (List Nat), (∀ p ∈ ps, p.length = L) → (ps.map fun p => cnt p w).sum + ((List.range L).map fun k => cc ps k (w.getD k 0)).sum = ps.length * L
  | [], _ => by
    have : ((List.range L).map fun k => cc [] k (w.getD k 0)) = (List.range L).map fun _ => 0 := rfl
    rw [this, List.map_const', List.sum_replicate_nat]
    simp
  | p :: ps, h => by
    have ih := cs_col hw ps fun q hq => h q (List.mem_cons_of_mem _ hq)
    have c := cnt_sum L p w (h p List.mem_cons_self) hw
    have e : ((List.range L).map fun k => cc (p :: ps) k (w.getD k 0)) = (List.range L).map fun k => (if p.getD k 0 = w.getD k 0 then 1 else 0) + cc ps k (w.getD k 0) := List.map_congr_left fun k _ => cc_cons p ps k _
    rw [e, sum_add, List.map_cons, List.sum_cons, List.length_cons, Nat.add_mul]
    omega
theorem bM_ge {ps : List (List Nat)} {a : List Nat} {k c : Nat} (h : c ∈ a) : ((cc ps k c : Nat) : Int) ≤ bM ps a k :=
  (lmax_spec (bM_ok (ps := ps) (k := k) (fun z => by rw [z] at h; cases h))).2 _ (List.mem_map.mpr ⟨c, h, rfl⟩)
theorem bc_spec {ps : List (List Nat)} {a : List Nat} (h : a ≠ []) (k : Nat) : bc ps a k ∈ a ∧ ((cc ps k (bc ps a k) : Nat) : Int) = bM ps a k := by
  obtain ⟨j, r, _, _, e⟩ := bc_ok (ps := ps) (k := k) h
  have m : bc ps a k ∈ a.filter fun c => decide (((cc ps k c : Nat) : Int) = bM ps a k) := by
    rw [e]
    exact List.mem_cons_self
  exact ⟨(List.mem_filter.mp m).1, of_decide_eq_true (List.mem_filter.mp m).2⟩
theorem bc_le {ps : List (List Nat)} {a : List Nat} {k c : Nat} (hs : a.Pairwise (· < ·)) (h : c ∈ a) (hc : ((cc ps k c : Nat) : Int) = bM ps a k) : bc ps a k ≤ c := by
  obtain ⟨j, r, _, _, e⟩ := bc_ok (ps := ps) (a := a) (k := k) (fun z => by rw [z] at h; cases h)
  have m : c ∈ a.filter fun c => decide (((cc ps k c : Nat) : Int) = bM ps a k) := List.mem_filter.mpr ⟨h, decide_eq_true hc⟩
  have s := hs.filter (fun c => decide (((cc ps k c : Nat) : Int) = bM ps a k))
  rw [e] at m s
  rcases List.mem_cons.mp m with z | z
  · omega
  · have := (List.pairwise_cons.mp s).1 c z
    omega
theorem sum_le_eq {f g : Nat → Int} : ∀ l : List Nat, (∀ k ∈ l, f k ≤ g k) → (l.map f).sum ≤ (l.map g).sum ∧ ((l.map f).sum = (l.map g).sum → ∀ k ∈ l, f k = g k)
  | [], _ => ⟨Int.le_refl _, fun _ _ h => nomatch h⟩
  | k :: l, h => by
    obtain ⟨h1, h2⟩ := sum_le_eq l fun j hj => h j (List.mem_cons_of_mem _ hj)
    have hk := h k List.mem_cons_self
    rw [List.map_cons, List.map_cons, List.sum_cons, List.sum_cons]
    refine ⟨by omega, fun e j hj => ?_⟩
    rcases List.mem_cons.mp hj with z | z
    · rw [z]; omega
    · exact h2 (by omega) j z
theorem sum_cast (f : Nat → Nat) : ∀ l : List Nat, (((l.map f).sum : Nat) : Int) = (l.map fun k => ((f k : Nat) : Int)).sum
  | [] => rfl
  | k :: l => by
    rw [List.map_cons, List.map_cons, List.sum_cons, List.sum_cons, ← sum_cast f l]
    omega
theorem le_lex : ∀ {m w : List Nat}, m.length = w.length → (∀ k, k < m.length → m.getD k 0 ≤ w.getD k 0) → ¬ w < m
  | [], w, h, _ => by
    cases w with
    | nil => exact List.lt_irrefl _
    | cons _ _ => cases h
  | x :: m, [], h, _ => by cases h
  | x :: m, y :: w, h, hk => fun z => by
    have h0 : x ≤ y := hk 0 (Nat.succ_pos _)
    rcases List.cons_lt_cons_iff.mp z with z | ⟨_, z⟩
    · omega
    · exact le_lex (Nat.succ.inj h) (fun k hk' => by
        have := hk (k + 1) (Nat.succ_lt_succ hk')
        rw [List.getD_cons_succ, List.getD_cons_succ] at this
        exact this) z
theorem sorted_head {l : List (List Nat)} {p : List Nat → Bool} {m : List Nat} (hs : l.Pairwise (· < ·)) (hm : m ∈ l.filter p) (hmin : ∀ w ∈ l.filter p, ¬ w < m) : ∃ r, l.filter p = m :: r := by
  have s := hs.filter p
  cases e : l.filter p with
  | nil => rw [e] at hm; cases hm
  | cons x r =>
    rw [e] at hm s hmin
    rcases List.mem_cons.mp hm with z | z
    · exact ⟨r, by rw [z]⟩
    · exact absurd ((List.pairwise_cons.mp s).1 m z) (hmin x List.mem_cons_self)
section
variable {a : List Nat} {L : Nat} {ps : List (List Nat)}
abbrev mid (ps : List (List Nat)) (a : List Nat) (L : Nat) : List Nat := (List.range L).map (bc ps a)
theorem mid_len : (mid ps a L).length = L := by rw [List.length_map, List.length_range]
theorem mid_at {k : Nat} (h : k < L) : (mid ps a L).getD k 0 = bc ps a k := by
  rw [List.getD_eq_getElem?_getD, List.getElem?_map, List.getElem?_range h]
  rfl
theorem mid_in (h : a ≠ []) : ∀ c ∈ mid ps a L, c ∈ a := fun c hc => by
  obtain ⟨k, _, rfl⟩ := List.mem_map.mp hc
  exact (bc_spec h k).1
/-- the slips of a word from all pieces together -/
abbrev tc (ps : List (List Nat)) (w : List Nat) : Nat := (ps.map fun p => cnt p w).sum
theorem tc_mid (P : Pcs a L ps) (h : a ≠ []) : ((tc ps (mid ps a L) : Nat) : Int) = ((ps.length : Nat) : Int) * ((L : Nat) : Int) - ((List.range L).map (bM ps a)).sum := by
  have c : tc ps (mid ps a L) + ((List.range L).map fun k => cc ps k ((mid ps a L).getD k 0)).sum = ps.length * L := cs_col (mid_len (ps := ps) (a := a) (L := L)) ps P.len
  have e : ((List.range L).map fun k => ((cc ps k ((mid ps a L).getD k 0) : Nat) : Int)) = (List.range L).map (bM ps a) := List.map_congr_left fun k hk => by
    rw [mid_at (List.mem_range.mp hk)]
    exact (bc_spec h k).2
  have s : ((((List.range L).map fun k => cc ps k ((mid ps a L).getD k 0)).sum : Nat) : Int) = ((List.range L).map fun k => ((cc ps k ((mid ps a L).getD k 0) : Nat) : Int)).sum := sum_cast (fun k => cc ps k ((mid ps a L).getD k 0)) (List.range L)
  rw [e] at s
  have m : ((ps.length * L : Nat) : Int) = ((ps.length : Nat) : Int) * ((L : Nat) : Int) := by simp
  omega
theorem tc_ge (P : Pcs a L ps) {w : List Nat} (hw : w.length = L) (hi : ∀ c ∈ w, c ∈ a) : ((ps.length : Nat) : Int) * ((L : Nat) : Int) - ((List.range L).map (bM ps a)).sum ≤ ((tc ps w : Nat) : Int) ∧
    (((tc ps w : Nat) : Int) = ((ps.length : Nat) : Int) * ((L : Nat) : Int) - ((List.range L).map (bM ps a)).sum → ∀ k, k < L → ((cc ps k (w.getD k 0) : Nat) : Int) = bM ps a k) := by
  have c : tc ps w + ((List.range L).map fun k => cc ps k (w.getD k 0)).sum = ps.length * L := cs_col hw ps P.len
  have wi : ∀ k, k < L → w.getD k 0 ∈ a := fun k hk => hi _ (by
    rw [List.getD_eq_getElem?_getD, List.getElem?_eq_getElem (by omega)]
    exact List.getElem_mem _)
  obtain ⟨h1, h2⟩ := sum_le_eq (f := fun k => ((cc ps k (w.getD k 0) : Nat) : Int)) (g := bM ps a) (List.range L) fun k hk => bM_ge (wi k (List.mem_range.mp hk))
  have s : ((((List.range L).map fun k => cc ps k (w.getD k 0)).sum : Nat) : Int) = ((List.range L).map fun k => ((cc ps k (w.getD k 0) : Nat) : Int)).sum := sum_cast (fun k => cc ps k (w.getD k 0)) (List.range L)
  have m : ((ps.length * L : Nat) : Int) = ((ps.length : Nat) : Int) * ((L : Nat) : Int) := by simp
  exact ⟨by omega, fun e k hk => h2 (by omega) k (List.mem_range.mpr hk)⟩
theorem pz_self {t : List Nat} (h : t.length = L) : pz L t = [t] := by
  unfold pz
  have e : t.length + 1 - L = 1 := by omega
  rw [e]
  show [pcs t 0 L] = _
  unfold pcs
  rw [List.drop_zero, ← h, List.take_length]
theorem fl_self {t w : List Nat} (h : t.length = L) : Pu.Nr.fl L w t = ((cnt t w : Nat) : Int) := by
  unfold Pu.Nr.fl
  rw [pz_self h]
  rfl
theorem tot_tc (w : List Nat) : ∀ ps : List (List Nat), (∀ p ∈ ps, p.length = L) → Pu.Nr.tot L ps w = ((tc ps w : Nat) : Int)
  | [], _ => rfl
  | p :: ps, h => by
    have ih := tot_tc w ps fun q hq => h q (List.mem_cons_of_mem _ hq)
    unfold Pu.Nr.tot at ih ⊢
    show ((p :: ps).map (Pu.Nr.fl L w)).sum = (((p :: ps).map fun p => cnt p w).sum : Nat)
    rw [List.map_cons, List.map_cons, List.sum_cons, List.sum_cons, ih, fl_self (h p List.mem_cons_self)]
    show _ = ((_ + tc ps w : Nat) : Int)
    omega
end
end Pu.Ct

namespace Pu
open PySem PySem.Spec PyProof.Rows L2 Evl
/-! ### sorted of any list whose things can be put in order -/
def okA (ds : List D) : Bool := ds.all fun d => ds.all fun e => PySem.W.alike (py d) (py e)
def okTp : D → Bool
  | .tup (_ :: _) => true
  | .tpz (_ :: _) => true
  | _ => false
def okOt : D → Bool
  | .bl _ => true
  | .int _ => true
  | .str _ => true
  | .lst _ => true
  | .frl _ => true
  | _ => false
def leD (d e : D) : Bool := PySem.W.dataLe false py d e
section
variable {α : Type} (le : α → α → Bool)
def ins1 (x : α) : List α → List α
  | [] => [x]
  | y :: l => if le x y = true then x :: y :: l else y :: ins1 x l
def srt1 : List α → List α
  | [] => []
  | x :: l => ins1 le x (srt1 l)
end
theorem srt1_eq {α : Type} {le : α → α → Bool} (tr : ∀ a b c, le a b = true → le b c = true → le a c = true) (to : ∀ a b, (le a b || le b a) = true) : ∀ l : List α, l.mergeSort le = srt1 le l
  | [] => by simp [srt1]
  | a :: l => by
    obtain ⟨l1, l2, e1, e2, h⟩ := List.mergeSort_cons tr to a l
    have p := List.pairwise_mergeSort tr to (a :: l)
    have ih := srt1_eq tr to l
    rw [e1] at p
    rw [e1, srt1, ← ih, e2]
    have key : ∀ (l1 : List α), (∀ b, b ∈ l1 → (!le a b) = true) → (∀ c ∈ l2, le a c = true) → l1 ++ a :: l2 = ins1 le a (l1 ++ l2) := by
      intro l1
      induction l1 with
      | nil =>
        intro _ h2
        cases l2 with
        | nil => rfl
        | cons c r =>
          show a :: c :: r = if le a c = true then _ else _
          rw [if_pos (h2 c List.mem_cons_self)]
      | cons b r ihr =>
        intro h1 h2
        have hb := h1 b List.mem_cons_self
        show b :: (r ++ a :: l2) = if le a b = true then _ else b :: ins1 le a (r ++ l2)
        rw [if_neg (by simpa using hb), ihr (fun c hc => h1 c (List.mem_cons_of_mem _ hc)) h2]
    refine key l1 h fun c hc => ?_
    have := (List.pairwise_append.mp p).2.1
    exact (List.pairwise_cons.mp this).1 c hc
theorem ins1_perm {α : Type} (le : α → α → Bool) (x : α) : ∀ l : List α, (ins1 le x l).Perm (x :: l)
  | [] => List.Perm.refl _
  | y :: l => by
    unfold ins1
    split
    · exact List.Perm.refl _
    · exact ((ins1_perm le x l).cons y).trans (List.Perm.swap x y l)
theorem srt1_perm {α : Type} (le : α → α → Bool) : ∀ l : List α, (srt1 le l).Perm l
  | [] => List.Perm.refl _
  | x :: l => (ins1_perm le x _).trans ((srt1_perm le l).cons x)
/-- what is sorted stays -/
theorem srt1_sorted {α : Type} {le : α → α → Bool} : ∀ {l : List α}, l.Pairwise (fun a b => le a b = true) → srt1 le l = l
  | [], _ => rfl
  | x :: l, h => by
    have h1 := (List.pairwise_cons.mp h).1
    rw [srt1, srt1_sorted (List.pairwise_cons.mp h).2]
    cases l with
    | nil => rfl
    | cons y r => exact if_pos (h1 y List.mem_cons_self)
theorem ins1_map {α β : Type} {le : α → α → Bool} {le' : β → β → Bool} {f : α → β} (x : α) : ∀ (l : List α), (∀ y ∈ l, le' (f x) (f y) = le x y) → (ins1 le x l).map f = ins1 le' (f x) (l.map f)
  | [], _ => rfl
  | y :: l, h => by
    have hy := h y List.mem_cons_self
    unfold ins1
    rw [List.map_cons]
    show _ = if le' (f x) (f y) = true then _ else _
    rw [hy]
    split
    · rfl
    · rw [List.map_cons, ins1_map x l fun z hz => h z (List.mem_cons_of_mem _ hz)]
theorem srt1_map {α β : Type} {le : α → α → Bool} {le' : β → β → Bool} {f : α → β} : ∀ (l : List α), (∀ x ∈ l, ∀ y ∈ l, le' (f x) (f y) = le x y) → (srt1 le l).map f = srt1 le' (l.map f)
  | [], _ => rfl
  | x :: l, h => by
    rw [srt1, List.map_cons, srt1, ← srt1_map l fun y hy z hz => h y (List.mem_cons_of_mem _ hy) z (List.mem_cons_of_mem _ hz)]
    exact ins1_map x _ fun y hy => h x List.mem_cons_self y (List.mem_cons_of_mem _ ((srt1_perm le l).mem_iff.mp hy))
theorem leD_tr (a b c : D) : leD a b = true → leD b c = true → leD a c = true := (PySem.W.sortLe_total (PyProof.Rows.listOrd PyProof.Rows.itemOrd) false fun d => PySem.W.keyToks (py d)).trans a b c
theorem leD_to (a b : D) : (leD a b || leD b a) = true := Bool.or_eq_true_iff.mpr ((PySem.W.sortLe_total (PyProof.Rows.listOrd PyProof.Rows.itemOrd) false fun d => PySem.W.keyToks (py d)).total a b)
theorem srt1_pw {α : Type} {le : α → α → Bool} (tr : ∀ a b c, le a b = true → le b c = true → le a c = true) (to : ∀ a b, (le a b || le b a) = true) (l : List α) : (srt1 le l).Pairwise fun a b => le a b = true := by
  rw [← srt1_eq tr to]
  exact List.pairwise_mergeSort tr to l
/-- sorted, and of the same things: the same -/
theorem pw_uniq {α : Type} {le : α → α → Bool} (an : ∀ a b, le a b = true → le b a = true → a = b) : ∀ {a b : List α}, a.Perm b → a.Pairwise (fun x y => le x y = true) → b.Pairwise (fun x y => le x y = true) → a = b
  | [], b, p, _, _ => p.nil_eq
  | x :: a, [], p, _, _ => p.eq_nil
  | x :: a, y :: b, p, ha, hb => by
    have e : x = y := by
      have h1 : x ∈ y :: b := p.mem_iff.mp List.mem_cons_self
      have h2 : y ∈ x :: a := p.mem_iff.mpr List.mem_cons_self
      rcases List.mem_cons.mp h1 with z | z
      · exact z
      · rcases List.mem_cons.mp h2 with w | w
        · exact w.symm
        · exact an x y ((List.pairwise_cons.mp ha).1 y w) ((List.pairwise_cons.mp hb).1 x z)
    subst e
    rw [pw_uniq an p.cons_inv (List.pairwise_cons.mp ha).2 (List.pairwise_cons.mp hb).2]
def cSortD : List D → Option D
  | [.lst ds] => if depL ds ≤ 50 ∧ okA ds = true ∧ (ds.all okTp = true ∨ ds.all okOt = true) then some (.lst (srt1 leD ds)) else none
  | _ => none
section
variable {K : PySem.W.Frag} {xa : Xa} {B : Hp}
def SRel (K : PySem.W.Frag) (xa : Xa) (B : Hp) (u : Value) (b : V × D) : Prop := RelV b.1 u ∧ R K xa B b.1 b.2
theorem srel_of : ∀ {ws : List V} {ds : List D} {us : List Value}, RL K xa B ws ds → Vals ws us → PySem.W.EachIs (SRel K xa B) us (ws.zip ds)
  | _, _, _, .nil, r => by cases r; exact .nil
  | _, _, _, .cons h t, r => by
    cases r with
    | cons r1 r2 => exact .cons ⟨r1, h⟩ (srel_of t r2)
theorem srel_vals : ∀ {us : List Value} {bs : List (V × D)}, PySem.W.EachIs (SRel K xa B) us bs → Vals (bs.map (·.1)) us ∧ RL K xa B (bs.map (·.1)) (bs.map (·.2))
  | _, _, .nil => ⟨.nil, .nil⟩
  | _, _, .cons h t => by
    obtain ⟨a, b⟩ := srel_vals t
    exact ⟨.cons h.1 a, .cons h.2 b⟩
theorem zip_snd : ∀ {ws : List V} {ds : List D}, ws.length = ds.length → (ws.zip ds).map (·.2) = ds
  | [], [], _ => rfl
  | [], _ :: _, h => by cases h
  | _ :: _, [], h => by cases h
  | w :: ws, d :: ds, h => by
    rw [List.zip_cons_cons, List.map_cons, zip_snd (Nat.succ.inj h)]
variable {X : Cx}
theorem c_sortD (hu : X.A.units + 64 < cLine) : OpC X xa (.builtin "sorted") cSortD := by
  intro pins s σ H vs us Q I r h
  obtain ⟨Hb, ds, z, le, rl, hz, q⟩ := h
  match ds, rl, hz with
  | [], _, hz => cases hz
  | a0 :: b0 :: r0, _, hz => cases a0 <;> cases hz
  | [d], rl, hz =>
    obtain ⟨v, rfl, r1⟩ := rl.one
    cases r1 with
    | @lst a ws es h1 q1 =>
      have hz : (if depL es ≤ 50 ∧ okA es = true ∧ (es.all okTp = true ∨ es.all okOt = true) then some (D.lst (srt1 leD es)) else none) = some z := hz
      by_cases c : depL es ≤ 50 ∧ okA es = true ∧ (es.all okTp = true ∨ es.all okOt = true)
      · rw [if_pos c] at hz
        cases hz
        obtain ⟨c1, c2, c3⟩ := c
        obtain ⟨da, dc, dd⟩ := RL.dp (q1.mono le) (by omega)
        obtain ⟨its, rv, hl, hsz⟩ := I.list (SqL.of (K := X.K) (le _ _ h1))
        obtain ⟨as, hr⟩ := Dp.readsAll I _ _ its da rv
        rw [Vals.ref1 r]
        have hlen : ws.length = es.length := q1.length
        have em : ((ws.zip es).map fun b => py b.2) = pyL es := by
          have e0 : ((ws.zip es).map fun b => py b.2) = ((ws.zip es).map (·.2)).map py := by rw [List.map_map]; rfl
          rw [e0, zip_snd hlen, pyL_map]
        have er : PySem.W.EachIs (fun v b => ∃ as, Reads s.heap v (py b.2) as) its (ws.zip es) := PySem.W.readsAll_each (fun b : V × D => py b.2) (by rw [em]; exact hr)
        have mem : ∀ d' ∈ pyL es, ∃ d ∈ es, d' = py d := fun d' h' => by
          rw [pyL_map] at h'
          obtain ⟨d, hd, e⟩ := List.mem_map.mp h'
          exact ⟨d, hd, e.symm⟩
        have hal : PySem.W.AllAlike ((ws.zip es).map fun b => py b.2) := by
          rw [em]
          intro x hx y hy
          obtain ⟨d, hd, rfl⟩ := mem x hx
          obtain ⟨e, he, rfl⟩ := mem y hy
          exact List.all_eq_true.mp (List.all_eq_true.mp c2 d hd) e he
        have hk : PySem.W.Sortable ((ws.zip es).map fun b => py b.2) := by
          rw [em]
          rcases c3 with c3 | c3
          · refine .inl fun x hx => ?_
            obtain ⟨d, hd, rfl⟩ := mem x hx
            have := List.all_eq_true.mp c3 d hd
            match d, this with
            | .tup (x :: r), _ => exact ⟨_, _, rfl⟩
            | .tpz (x :: r), _ => exact ⟨_, _, rfl⟩
          · refine .inr fun x hx => ?_
            obtain ⟨d, hd, rfl⟩ := mem x hx
            have := List.all_eq_true.mp c3 d hd
            match d, this with
            | .bl _, _ => exact ⟨fun z => (nomatch z), fun _ z => (nomatch z)⟩
            | .int _, _ => exact ⟨fun z => (nomatch z), fun _ z => (nomatch z)⟩
            | .str _, _ => exact ⟨fun z => (nomatch z), fun _ z => (nomatch z)⟩
            | .lst _, _ => exact ⟨fun z => (nomatch z), fun _ z => (nomatch z)⟩
            | .frl _, _ => exact ⟨fun z => (nomatch z), fun _ z => (nomatch z)⟩
        have hdp : ∀ ds : List D, ∀ d ∈ ds, (py d).depth ≤ PyData.depthAll (pyL ds) := by
          intro ds
          induction ds with
          | nil => exact fun _ h => nomatch h
          | cons x xs ih =>
            intro d hd
            have e0 : PyData.depthAll (pyL (x :: xs)) = max (py x).depth (PyData.depthAll (pyL xs)) := by
              show PyData.depthAll (py x :: pyL xs) = _
              rw [PyData.depthAll]
            rcases List.mem_cons.mp hd with e | e
            · rw [e, e0]; exact Nat.le_max_left _ _
            · rw [e0]; exact Nat.le_trans (ih d e) (Nat.le_max_right _ _)
        have zl : (ws.zip es).length = ws.length := by rw [List.length_zip, hlen, Nat.min_self]
        refine PySem.W.sorted_data (R := SRel X.K xa Hb) (enc := fun b : V × D => py b.2) (bs := ws.zip es) hl.isList (srel_of q1 rv) er hal hk (by rw [zl]; exact hsz) (fun b hb => ?_) fun out h1' h2' => ?_
        · have hb2 : b.2 ∈ es := by
            have : b.2 ∈ (ws.zip es).map (·.2) := List.mem_map.mpr ⟨b, hb, rfl⟩
            rwa [zip_snd hlen] at this
          have := hdp es b.2 hb2
          omega
        · obtain ⟨k1, k2⟩ := srel_vals h2'
          obtain ⟨ep, he'⟩ := PyProof.Rows.sortedAll_at s.heap its out.toArray
          have e2 : ((ws.zip es).mergeSort (PySem.W.dataLe false fun b : V × D => py b.2)).map (·.2) = srt1 leD es := by
            have e3 : ((ws.zip es).mergeSort (PySem.W.dataLe false fun b : V × D => py b.2)).map (·.2) = ((ws.zip es).map (·.2)).mergeSort leD := List.map_mergeSort (f := fun b : V × D => b.2) (s := leD) (fun a _ b _ => rfl)
            rw [e3, zip_snd hlen, srt1_eq leD_tr leD_to]
          rw [e2] at k2
          have hlen2 : (((ws.zip es).mergeSort (PySem.W.dataLe false fun b : V × D => py b.2)).map (·.1)).length ≤ sizeLine := by
            rw [List.length_map, List.length_mergeSort, zl]
            exact hsz
          exact ⟨.ref _, upd H (s.heap.objs.size + 1) (.lst (((ws.zip es).mergeSort (PySem.W.dataLe false fun b : V × D => py b.2)).map (·.1))), I.laid (t' := s.toks) (fun _ _ => PyProof.Rows.sortedAll_old) (Nat.le_succ _) ⟨hlen2, out, ep, k1, he'⟩, rfl, q _ _ _ (Gw.new le (I.hok.fresh (Nat.le_succ _))) (.lst upd_same (k2.mono (Ex.new (fresh_back le (I.hok.fresh (Nat.le_succ _))))))⟩
      · rw [if_neg c] at hz
        cases hz
    | _ => cases hz
end
/-! texts in order -/
theorem leD_str (a b : List Nat) : leD (.str a) (.str b) = decide (a ≤ b) := by
  show PySem.W.dataLe false (fun l : List Nat => PyData.str (sOf l)) a b = _
  rw [PySem.W.dataLe_str (fun l => sOf l)]
theorem leD_int (a b : Int) : leD (.int a) (.int b) = decide (a ≤ b) := by
  show PySem.W.dataLe false (fun l : Int => PyData.int l) a b = _
  rw [PySem.W.dataLe_int (fun l => l)]
theorem okA_of {β : Type} {enc : β → D} (h : ∀ b b', PySem.W.alike (py (enc b)) (py (enc b')) = true) (l : List β) : okA (l.map enc) = true :=
  List.all_eq_true.mpr fun d hd => List.all_eq_true.mpr fun e he => by
    obtain ⟨b, _, rfl⟩ := List.mem_map.mp hd
    obtain ⟨b', _, rfl⟩ := List.mem_map.mp he
    exact h b b'
def ssort (l : List (List Nat)) : List (List Nat) := srt1 (fun a b => decide (a ≤ b)) l
theorem sort_strs (l : List (List Nat)) : cSortD [.lst (l.map .str)] = some (.lst ((ssort l).map .str)) := by
  have e : (ssort l).map D.str = srt1 leD (l.map .str) := srt1_map l fun a _ b _ => leD_str a b
  rw [e]
  refine if_pos ⟨Nat.le_trans (depL_map (n := 0) fun _ _ => Nat.le_refl _) (by decide), okA_of (fun b b' => by show PySem.W.alike (.str _) (.str _) = true; simp [PySem.W.alike]) l, .inr ?_⟩
  rw [List.all_map]
  exact List.all_eq_true.mpr fun _ _ => rfl
theorem ssort_perm (l : List (List Nat)) : (ssort l).Perm l := srt1_perm _ l
theorem ssort_sorted {l : List (List Nat)} (h : l.Pairwise (· ≤ ·)) : ssort l = l := srt1_sorted (h.imp fun h => decide_eq_true h)
theorem ssort_lt {l : List (List Nat)} (h : l.Pairwise (· < ·)) : ssort l = l := ssort_sorted (h.imp fun h => List.le_of_lt h)
theorem ssort_pw (l : List (List Nat)) : (ssort l).Pairwise (· ≤ ·) := by
  refine (srt1_pw (fun a b c h1 h2 => ?_) (fun a b => ?_) l).imp fun h => of_decide_eq_true h
  · exact decide_eq_true (List.le_trans (of_decide_eq_true h1) (of_decide_eq_true h2))
  · rcases List.le_total a b with h | h
    · rw [decide_eq_true h, Bool.true_or]
    · rw [decide_eq_true h, Bool.or_true]
theorem ssort_uniq {l m : List (List Nat)} (p : m.Perm l) (h : m.Pairwise (· ≤ ·)) : ssort l = m :=
  pw_uniq (le := fun a b => decide (a ≤ b)) (fun a b h1 h2 => List.le_antisymm (of_decide_eq_true h1) (of_decide_eq_true h2)) ((ssort_perm l).trans p.symm) ((ssort_pw l).imp fun h => decide_eq_true h) (h.imp fun h => decide_eq_true h)
/-! ### xs[::-1] of a list -/
def dRevL : D → Option D
  | .lst ds => some (.lst ds.reverse)
  | _ => none
section
variable {X : Cx} {xa : Xa} {W : WX} {e : Expr} {f : F} {k : Nat} {p1 p2 p3 pos : Pos}
theorem p_revL (he : Pe X xa W e f) : Pe X xa W (.Subscript e (.Slice none none (some (.UnaryOp .USub (.Constant (.int 1) k p1) p2)) p3) pos) (op1 dRevL f) := by
  refine PE.imp (pe_revL he) fun σ H Q hq => ?_
  obtain ⟨Hb, ρ, le, re, p⟩ := hq
  refine ⟨Hb, ρ, le, re, post_bind le p fun d v B1 H1 e1 g1 r1 p1 => ?_⟩
  cases r1 with
  | @lst a vs ds h1 q1 => exact ⟨a, vs, rfl, SqL.of (g1.le _ _ h1), fun p hn => post_new g1.le p1 hn (.lst upd_same (q1.rev.mono (Ex.new (fresh_back g1.le hn))))⟩
  | _ => exact p1.elim
end
end Pu

namespace Pu
open PySem PySem.Spec PyProof.Rows L2 Evl
/-! ### dicts: looks -/
theorem kD_inj {a b : DK} (h : kD a = kD b) : a = b := by
  cases a with
  | inl i => cases b with
    | inl j => exact congrArg Sum.inl (Sum.inl.inj h)
    | inr y => exact nomatch h
  | inr x => cases b with
    | inl j => exact nomatch h
    | inr y => exact congrArg Sum.inr (sOf_inj (Sum.inr.inj h))
def valD (kvs : List (DK × D)) (k : DK) : Option D := (kvs.find? fun p => decide (p.1 = k)).map (·.2)
theorem valD_nil (k : DK) : valD [] k = none := rfl
theorem valD_pos {p : DK × D} {r : List (DK × D)} {k : DK} (e : p.1 = k) : valD (p :: r) k = some p.2 := by simp [valD, List.find?_cons, e]
theorem valD_neg {p : DK × D} {r : List (DK × D)} {k : DK} (e : ¬ p.1 = k) : valD (p :: r) k = valD r k := by simp [valD, List.find?_cons, e]
def putKD (kvs : List (DK × D)) (k : DK) (v : D) : List (DK × D) :=
  if (valD kvs k).isSome = true then kvs.map (fun kv => if kv.1 = k then (kv.1, v) else kv) else kvs ++ [(k, v)]
def dropKD (kvs : List (DK × D)) (k : DK) : List (DK × D) := kvs.filter fun kv => decide (kv.1 ≠ k)
def keyOf : D → Option DK
  | .int i => some (.inl i)
  | .str l => some (.inr l)
  | _ => none
def kOf : DK → D
  | .inl i => .int i
  | .inr l => .str l
section
variable {K : PySem.W.Frag} {xa : Xa} {B H : Hp}
theorem R.key {v : V} {d : D} {k : DK} (r : R K xa B v d) (h : keyOf d = some k) : v = kV (kD k) ∧ okK k := by
  cases r with
  | int i => cases h; exact ⟨rfl, trivial⟩
  | str o => cases h; exact ⟨rfl, o⟩
  | _ => cases h
theorem R_kOf {k : DK} (h : okK k) : R K xa B (kV (kD k)) (kOf k) := by
  cases k with
  | inl i => exact .int i
  | inr l => exact .str h
def RelD (K : PySem.W.Frag) (xa : Xa) (B : Hp) : Option V → Option D → Prop
  | none, none => True
  | some v, some d => R K xa B v d
  | _, _ => False
theorem RK.val (k : DK) : ∀ {vs : List (Key × V)} {kvs : List (DK × D)}, RK K xa B vs kvs → RelD K xa B (valV vs (kD k)) (valD kvs k)
  | _, _, .nil => trivial
  | _, _, .cons (k := j) (v := v) (vs := vs) (d := d) (ds := ds) o h r => by
    by_cases e : j = k
    · rw [valV_pos (p := (kD j, v)) (by rw [e]), valD_pos (p := (j, d)) e]
      exact h
    · rw [valV_neg (p := (kD j, v)) (fun z => e (kD_inj z)), valD_neg (p := (j, d)) e]
      exact RK.val k r
theorem RK.length : ∀ {vs : List (Key × V)} {kvs : List (DK × D)}, RK K xa B vs kvs → vs.length = kvs.length
  | _, _, .nil => rfl
  | _, _, .cons _ _ r => by rw [List.length_cons, List.length_cons, RK.length r]
theorem RelD.isSome {o : Option V} {p : Option D} (h : RelD K xa B o p) : o.isSome = p.isSome := by
  cases o <;> cases p <;> first | rfl | exact h.elim
theorem RelD.getD {o : Option V} {p : Option D} {v : V} {d : D} (h : RelD K xa B o p) (r : R K xa B v d) : R K xa B (o.getD v) (p.getD d) := by
  cases o <;> cases p <;> first | exact r | exact h.elim | exact h
theorem RK.get : ∀ {vs : List (Key × V)} {kvs : List (DK × D)} {i : Nat} {p : DK × D}, RK K xa B vs kvs → kvs[i]? = some p → ∃ v, vs[i]? = some (kD p.1, v) ∧ okK p.1 ∧ R K xa B v p.2
  | _, _, _, _, .nil, h => by simp at h
  | _, _, 0, p, .cons o h _, e => by
    simp at e
    subst e
    exact ⟨_, rfl, o, h⟩
  | _, _, i + 1, p, .cons _ _ r, e => by
    obtain ⟨v, e1, q⟩ := RK.get (i := i) (p := p) r (by simpa using e)
    exact ⟨v, by simpa using e1, q⟩
theorem RK.app : ∀ {vs ws : List (Key × V)} {ds es : List (DK × D)}, RK K xa B vs ds → RK K xa B ws es → RK K xa B (vs ++ ws) (ds ++ es)
  | _, _, _, _, .nil, s => s
  | _, _, _, _, .cons o h r, s => .cons o h (RK.app r s)
theorem RK.repl {k : DK} {v : V} {d : D} (hv : R K xa B v d) : ∀ {vs : List (Key × V)} {ds : List (DK × D)}, RK K xa B vs ds → RK K xa B (vs.map fun kv => if kv.1 = kD k then (kv.1, v) else kv) (ds.map fun kv => if kv.1 = k then (kv.1, d) else kv)
  | _, _, .nil => .nil
  | _, _, .cons (k := j) (v := w) (d := e) o h r => by
    rw [List.map_cons, List.map_cons]
    by_cases c : j = k
    · rw [if_pos (show (kD j, w).1 = kD k by rw [c]), if_pos (show (j, e).1 = k from c)]
      exact .cons o hv (RK.repl hv r)
    · rw [if_neg (show ¬ (kD j, w).1 = kD k from fun z => c (kD_inj z)), if_neg (show ¬ (j, e).1 = k from c)]
      exact .cons o h (RK.repl hv r)
theorem RK.put {k : DK} {v : V} {d : D} {vs : List (Key × V)} {ds : List (DK × D)} (r : RK K xa B vs ds) (o : okK k) (hv : R K xa B v d) : RK K xa B (putK vs (kD k) v) (putKD ds k d) := by
  unfold putK putKD
  rw [valV_any, (r.val k).isSome]
  split
  · exact r.repl hv
  · exact r.app (.cons o hv .nil)
theorem RK.drop {k : DK} : ∀ {vs : List (Key × V)} {ds : List (DK × D)}, RK K xa B vs ds → RK K xa B (dropK vs (kD k)) (dropKD ds k)
  | _, _, .nil => .nil
  | _, _, .cons (k := j) (v := w) (vs := vs) (d := e) (ds := ds) o h r => by
    have ih := RK.drop (k := k) r
    unfold dropK dropKD at ih ⊢
    by_cases c : j = k
    · rw [List.filter_cons_of_neg (by simp [c]), List.filter_cons_of_neg (by simp [c])]
      exact ih
    · rw [List.filter_cons_of_pos (by simp only [decide_eq_true_eq]; exact fun z => c (kD_inj z)), List.filter_cons_of_pos (by simp only [decide_eq_true_eq]; exact c)]
      exact .cons o h ih
def dkv : D → Option (List (DK × D))
  | .dct kvs => some kvs
  | .dco kvs => some kvs
  | _ => none
theorem R.rd {v : V} {d : D} {kvs : List (DK × D)} (r : R K xa B v d) (h : dkv d = some kvs) (le : Ex B H) : ∃ a vs, v = .ref a ∧ Rd H a (.dK vs) ∧ RK K xa B vs kvs := by
  cases r with
  | dct e q => cases h; exact ⟨_, _, rfl, .inr ⟨_, le _ _ e⟩, q⟩
  | dco e q => cases h; exact ⟨_, _, rfl, .inl (le _ _ e), q⟩
  | _ => cases h
end
def dIxK : D → D → Option D := fun d e => (dkv d).bind fun kvs => (keyOf e).bind (valD kvs)
def dInK : D → D → Option D := fun e d => (dkv d).bind fun kvs => (keyOf e).map fun k => .bl (valD kvs k).isSome
def dNotInK : D → D → Option D := fun e d => (dkv d).bind fun kvs => (keyOf e).map fun k => .bl (!(valD kvs k).isSome)
/-- d.get(k, x) -/
def gt2F (f h k : F) : F := fun ρ => (f ρ).bind fun d => (ofO (dkv d)).bind fun kvs => (h ρ).bind fun e => (k ρ).bind fun x => ofO ((keyOf e).map fun q => (valD kvs q).getD x)
section
variable {X : Cx} {xa : Xa} {W : WX} {pos apos cpos : Pos} {a b c : Expr} {f h k : F}
theorem ofO_some_of {α β : Type} {K : PySem.W.Frag} {Rel : Hp → β → α → Prop} {E : XK} {Hb H : Hp} {Q : β → Hp → Prop} {o : Option α} (p : post K Rel E Hb H Q (ofO o)) : ∃ z, o = some z ∧ post K Rel E Hb H Q (.ok z) := by
  cases o with
  | none => exact p.elim
  | some z => exact ⟨z, rfl, p⟩
theorem p_dix (hu : X.A.units + 65 < cLine) (ha : Pe X xa W a f) (hb : Pe X xa W b h) (hs : NoSl b := by exact fun _ _ => rfl) : Pe X xa W (.Subscript a b pos) (op2 dIxK f h) := by
  refine PE.imp (pe_dget (by omega) ha hb hs) fun σ H Q hq => ?_
  obtain ⟨Hb, ρ, le, re, p⟩ := hq
  refine ⟨Hb, ρ, le, re, post_bind le p fun d v B1 H1 e1 g1 r1 p1 => ?_⟩
  refine ⟨B1, ρ, g1.le, re.mono g1.bup, post_bind g1.le p1 fun d2 v2 B2 H2 e2 g2 r2 p2 => ?_⟩
  obtain ⟨z, hz, p3⟩ := ofO_some_of p2
  obtain ⟨kvs, z1, z2⟩ := Option.bind_eq_some_iff.mp hz
  obtain ⟨q, z3, z4⟩ := Option.bind_eq_some_iff.mp z2
  obtain ⟨ad, vs, rfl, rd, rk⟩ := (r1.mono g2.bup).rd z1 g2.le
  obtain ⟨rfl, ok⟩ := r2.key z3
  have rv := rk.val q
  rw [z4] at rv
  cases hv : valV vs (kD q) with
  | none => rw [hv] at rv; exact rv.elim
  | some v' =>
    rw [hv] at rv
    exact ⟨ad, v', rfl, .inl ⟨vs, kD q, rd, rfl, hv.symm⟩, post_here g2.le p3 rv⟩
theorem p_dget2 (hu : X.A.units + 65 < cLine) (ha : Pe X xa W a f) (hb : Pe X xa W b h) (hc : Pe X xa W c k) (m : M2 X a "get" apos b c cpos := by exact ⟨rfl, rfl, rfl, rfl⟩) : Pe X xa W (.Call (.Attribute a "get" apos) [b, c] [] cpos) (gt2F f h k) := by
  refine PE.imp (pe_dget2 (by omega) ha hb hc m) fun σ H Q hq => ?_
  obtain ⟨Hb, ρ, le, re, p⟩ := hq
  refine ⟨Hb, ρ, le, re, post_bind le p fun d v B1 H1 e1 g1 r1 p1 => ?_⟩
  cases hd : dkv d with
  | none => rw [hd] at p1; exact p1.elim
  | some kvs =>
    rw [hd] at p1
    obtain ⟨ad, vs, rfl, rd, rk⟩ := r1.rd hd g1.le
    refine ⟨ad, rfl, .inl ⟨vs, rd⟩, B1, ρ, g1.le, re.mono g1.bup, post_bind g1.le p1 fun d2 v2 B2 H2 e2 g2 r2 p2 => ?_⟩
    refine ⟨B2, ρ, g2.le, (re.mono g1.bup).mono g2.bup, post_bind g2.le p2 fun d3 v3 B3 H3 e3 g3 r3 p3 => ?_⟩
    obtain ⟨z, hz, p4⟩ := ofO_some_of p3
    obtain ⟨q, z3, z4⟩ := Option.map_eq_some_iff.mp hz
    obtain ⟨rfl, ok⟩ := r2.key z3
    obtain ⟨ad', vs', e', rd', rk'⟩ := (r1.mono (g2.bup.trans g3.bup)).rd hd g3.le
    cases e'
    have rv := (rk'.val q).getD r3
    rw [z4] at rv
    exact ⟨_, .inl ⟨vs', kD q, rd', rfl, rfl⟩, post_here g3.le p4 rv⟩
end
/-! ### dicts walked -/
def itmD : D → Option (List D)
  | .dct kvs => some (kvs.map fun p => .tup [kOf p.1, p.2])
  | _ => none
def keyD : D → Option (List D)
  | .dct kvs => some (kvs.map fun p => kOf p.1)
  | _ => none
def itI (f : F) : Fs := fun ρ => (f ρ).bind fun x => ofO (itmD x)
def itK (f : F) : Fs := fun ρ => (f ρ).bind fun x => ofO (keyD x)
section
variable {K : PySem.W.Frag} {xa : Xa} {B : Hp}
theorem wk_items {a : Addr} {o : Obj} {vs : List (Key × V)} {kvs : List (DK × D)} (h : B a = some (.frz o (.dK vs))) (r : RK K xa B vs kvs) : Wk K xa B (Iti a o vs) (kvs.map fun p => .tup [kOf p.1, p.2]) where
  go := fun i B1 H1 e1 e2 hi => ⟨e2 _ _ (e1 _ _ h), by rw [r.length]; rw [List.length_map] at hi; exact hi⟩
  stop := fun B1 H1 e1 e2 => ⟨e2 _ _ (e1 _ _ h), by rw [r.length, List.length_map]; exact Nat.le_refl _⟩
  yld := fun i B1 H1 x H2 d e1 e2 hd hy => by
    obtain ⟨T, k, v, hk, rfl, hn, rfl⟩ := hy
    rw [List.getElem?_map] at hd
    obtain ⟨p, hp, rfl⟩ := Option.map_eq_some_iff.mp hd
    obtain ⟨w, e3, ok, rw_⟩ := r.get hp
    rw [e3] at hk
    cases hk
    have ee := Ex.new (o := HO.tup [kV (kD p.1), v]) (fresh_back e2 hn)
    exact ⟨_, Gw.new e2 hn, .tup upd_same (.cons (R_kOf ok) (.cons ((rw_.mono e1).mono ee) .nil))⟩
theorem wk_keys {a : Addr} {o : Obj} {vs : List (Key × V)} {kvs : List (DK × D)} (h : B a = some (.frz o (.dK vs))) (r : RK K xa B vs kvs) : Wk K xa B (Itk a o vs) (kvs.map fun p => kOf p.1) where
  go := fun i B1 H1 e1 e2 hi => ⟨e2 _ _ (e1 _ _ h), by rw [r.length]; rw [List.length_map] at hi; exact hi⟩
  stop := fun B1 H1 e1 e2 => ⟨e2 _ _ (e1 _ _ h), by rw [r.length, List.length_map]; exact Nat.le_refl _⟩
  yld := fun i B1 H1 x H2 d e1 e2 hd hy => by
    obtain ⟨rfl, k, v, hk, rfl⟩ := hy
    rw [List.getElem?_map] at hd
    obtain ⟨p, hp, rfl⟩ := Option.map_eq_some_iff.mp hd
    obtain ⟨w, e3, ok, rw_⟩ := r.get hp
    rw [e3] at hk
    cases hk
    exact ⟨B1, Gw.refl e2, R_kOf ok⟩
variable {X : Cx} {W : WX} {e tg : Expr} {f : F} {apos cpos tpos : Pos} {elts : List Expr} {kk : Nat}
theorem i_items (ha : Pe X xa W e f) (hbase : attributeBase e "items" X.env (eval e X.env) = eval e X.env := by rfl) (hline : (apos.endLine == cpos.line) = true := by rfl) :
    Pi X xa W (.Tuple elts kk tpos) (.Call (.Attribute e "items" apos) [] [] cpos) (itI f) := by
  refine PI.imp (pi_items ha hbase hline) fun σ H R0 hq => ?_
  obtain ⟨Hb, ρ, le, re, p⟩ := hq
  refine ⟨Hb, ρ, le, re, post_bind le p fun d v B1 H1 e1 g1 r1 p1 => ?_⟩
  obtain ⟨z, hz, p2⟩ := ofO_some_of p1
  cases r1 with
  | dct h1 q1 =>
    cases hz
    exact ⟨_, _, _, rfl, g1.le _ _ h1, post_here g1.le p2 (wk_items h1 q1)⟩
  | _ => cases hz
theorem i_keys (ha : Pe X xa W e f) : Pi X xa W tg e (itK f) := by
  refine PI.imp (pi_keys ha) fun σ H R0 hq => ?_
  obtain ⟨Hb, ρ, le, re, p⟩ := hq
  refine ⟨Hb, ρ, le, re, post_bind le p fun d v B1 H1 e1 g1 r1 p1 => ?_⟩
  obtain ⟨z, hz, p2⟩ := ofO_some_of p1
  cases r1 with
  | dct h1 q1 =>
    cases hz
    exact ⟨_, _, rfl, .inl ⟨_, g1.le _ _ h1, post_here g1.le p2 (wk_keys h1 q1)⟩⟩
  | _ => cases hz
end
/-! ### dicts: statements -/
/-- a slot's own dict is given away: from here on it is only looked at -/
def fdS (i : Nat) (f : SF) : SF := fun ρ => match ρ[i]? with
  | some (.own (.T kvs)) => f (ρ.set i (.sh (.dct kvs)))
  | _ => .st
/-- x = {} -/
def ndS (i : Nat) : SF := fun ρ => .nx (ρ.set i (.od []))
/-- d[k] = v, v no list -/
def dpI (i : Nat) (h k : F) : SF := fun ρ => match ρ[i]? with
  | some (.own (.T kvs)) => if kvs.length < 1000000 then shB (k (pkv ρ)) (frA ρ) fun v => if imm v = true then shB (h (pkv ρ)) (frA ρ) fun e => (match keyOf e with
      | some q => .nx (ρ.set i (.od (putKD kvs q v)))
      | none => .st) else .st else .st
  | _ => .st
section
variable {X : Cx} {xa : Xa} {W : WX} {pos pos' p1 : Pos} {st : Stmt} {f : SF}
theorem od_of {f : List (DK × D) → Out} {K : PySem.W.Frag} {B0 H0 B H : Hp} {σ : L2.St} {ρ : SEnv} {Dn : Ends} {i : Nat} (r : RS K xa B0 H0 B H σ ρ) (p : pS K xa W B0 H0 Dn (match ρ[i]? with
    | some (.own (.T ds)) => f ds
    | _ => .st)) : ∃ ds a vs, ρ[i]? = some (.od ds) ∧ σ[i]? = some (some (V.ref a)) ∧ H a = some (.dK vs) ∧ B a = none ∧ H0 a = none ∧ RK K xa B vs ds ∧ pS K xa W B0 H0 Dn (f ds) := by
  cases z : ρ[i]? with
  | none => rw [z] at p; exact p.elim
  | some s =>
    cases s with
    | no => rw [z] at p; exact p.elim
    | sh d => rw [z] at p; exact p.elim
    | own ob =>
      cases ob with
      | L kvs => rw [z] at p; exact p.elim
      | T ds =>
        rw [z] at p
        obtain ⟨a, vs, e1, e2, e3, e4, q⟩ := r.od i ds z
        exact ⟨ds, a, vs, rfl, e1, e2, e3, e4, q, p⟩
theorem RS.lockD {K : PySem.W.Frag} {B0 H0 B H : Hp} {σ : L2.St} {ρ : SEnv} {i : Nat} {a : Addr} {ob : Obj} {vs : List (Key × V)} {kvs : List (DK × D)} (r : RS K xa B0 H0 B H σ ρ) (hi : ρ[i]? = some (.od kvs)) (e1 : σ[i]? = some (some (V.ref a))) (e2 : H a = some (.dK vs)) (e3 : B a = none) (e4 : H0 a = none) (q : RK K xa B vs kvs) :
    RS K xa B0 H0 (upd B a (.frz ob (.dK vs))) (upd H a (.frz ob (.dK vs))) σ (ρ.set i (.sh (.dct kvs))) := by
  have bb : Ex B (upd B a (.frz ob (.dK vs))) := Ex.new e3
  refine ⟨⟨Ex.mut r.gw.up e4, r.gw.bup.trans bb, fun b o z => ?_, fun b o z => ?_⟩, by rw [List.length_set, r.len], fun j d h => ?_, fun j es h => ?_, fun j k es fs b h1 h2 h3 h4 => ?_⟩
  · by_cases hb : b = a
    · subst hb
      rw [upd_same] at z ⊢
      exact z
    · rw [upd_ne hb] at z ⊢
      exact r.gw.le _ _ z
  · rw [upd_ne (ne_of_none z e4)]
    exact r.gw.old b o z
  · rcases getset h with ⟨rfl, z, _⟩ | ⟨n, h⟩
    · cases z
      exact ⟨.ref a, e1, .dct upd_same (q.mono bb)⟩
    · obtain ⟨v, e5, q5⟩ := r.sh j d h
      exact ⟨v, e5, q5.mono bb⟩
  · rcases getset h with ⟨rfl, z, _⟩ | ⟨n, h⟩
    · cases z
    · obtain ⟨b, ws, f1, f2, f3, f4, f5⟩ := r.own j es h
      have hb : b ≠ a := fun z => by
        subst z
        exact n (r.ap i j _ es b hi h e1 f1)
      exact ⟨b, ws, f1, by rw [upd_ne hb]; exact f2, by rw [upd_ne hb]; exact f3, f4, f5.mono bb⟩
  · rcases getset h1 with ⟨rfl, z, _⟩ | ⟨n, h1⟩
    · cases z
    · rcases getset h2 with ⟨rfl, z, _⟩ | ⟨n2, h2⟩
      · cases z
      · exact r.ap j k es fs b h1 h2 h3 h4
theorem s_fd (i : Nat) (h1 : Ps X xa W st f) : Ps X xa W st (fdS i f) := by
  refine ⟨fun pins s σ H Dn I hq => ?_⟩
  obtain ⟨B0, H0, B, ρ, r, p⟩ := hq
  obtain ⟨kvs, a, vs, hi, e1, e2, e3, e4, q, p⟩ := od_of (f := fun kvs => f (ρ.set i (.sh (.dct kvs)))) r p
  obtain ⟨ob, I1⟩ := I.lock e2 trivial
  exact h1.run pins s σ _ Dn I1 ⟨B0, H0, _, _, r.lockD hi e1 e2 e3 e4 q, p⟩
theorem s_ndict (i : Nat) {x : Str} (hN : X.N.Nodup) (hi : X.N[i]? = some x := by rfl) (hx : Loc X.env.scope x := by first | exact Or.inl rfl | exact Or.inr rfl) (hs : swapsWith (.Dict [] [] p1) (some (.Name x pos')) pos.line X.env = pure false := by rfl) (hf : X.fn x = true ∨ X.env.scope.names.lookup x = some .local := by first | exact .inl rfl | exact .inr rfl) :
    Ps X xa W (.Assign [.Name x pos'] (.Dict [] [] p1) pos) (ndS i) := by
  refine PS.imp (ps_set hN hi hx pe_dnewK hs hf) fun Dn σ H ⟨B0, H0, B, ρ, r, p⟩ => fun a hn => ?_
  have nb : B a = none := fresh_back r.gw.le hn
  have n0 : H0 a = none := fresh_back r.gw.up hn
  refine p _ B _ ((r.keep (Ex.new hn)).setOb (ds := .T []) upd_same nb n0 (.T .nil) (fun j es h1 h2 => ?_) i)
  obtain ⟨b, ws, f1, f2, _⟩ := r.own j es h1
  rw [f1] at h2
  cases h2
  rw [hn] at f2
  cases f2
theorem s_dputI (i : Nat) {x : Str} {ky va : Expr} {h k : F} {pp ps : Pos} (hu : X.A.units + 65 < cLine) (hk : Pe X xa W ky h) (hv : Pe X xa W va k) (hi : X.N[i]? = some x := by rfl) (hvs : Vis X.env.scope x := by first | exact Or.inl rfl | exact Or.inr (Or.inl rfl) | exact Or.inr (Or.inr rfl)) (hd : (x == ("__debug__" : Str)) = false := by decide) (hcd : (x == ("__classdict__" : Str)) = false := by decide)
    (hs : swapsWith va (some (.Subscript (.Name x pp) ky ps)) pos.line X.env = pure false := by rfl) : Ps X xa W (.Assign [.Subscript (.Name x pp) ky ps] va pos) (dpI i h k) := by
  refine PS.imp (ps_dput (by omega) (pe_var hi hvs hd hcd) hk hv hs) fun Dn σ H ⟨B0, H0, B, ρ, r, p⟩ => ?_
  obtain ⟨kvs, a, vs, hρ, e1, e2, e3, e4, q, p⟩ := od_of (f := fun kvs => if kvs.length < 1000000 then shB (k (pkv ρ)) (frA ρ) fun v => if imm v = true then shB (h (pkv ρ)) (frA ρ) fun e => (match keyOf e with
      | some q => .nx (ρ.set i (.od (putKD kvs q v)))
      | none => .st) else .st else .st) r p
  by_cases hl : kvs.length < 1000000
  · rw [if_pos hl] at p
    refine peek r p fun d v B1 H1 g1 rel1 r1 p1 => ?_
    by_cases c : imm d = true
    · rw [if_pos c] at p1
      refine ⟨.ref a, e1, ?_⟩
      refine peek r1 p1 fun d2 v2 B2 H2 g2 rel2 r2 p2 => ?_
      cases z : keyOf d2 with
      | none => rw [z] at p2; exact p2.elim
      | some kq =>
        rw [z] at p2
        obtain ⟨rfl, ok⟩ := rel2.key z
        obtain ⟨a', vs', f1, f2, f3, f4, f5⟩ := r2.od i kvs hρ
        rw [e1] at f1
        cases f1
        refine ⟨a, _, rfl, DPut.k f2 ?_, p2 _ B _ (r2.mutOb (xs := .dK (putK vs' (kD kq) v)) hρ e1 (.T (f5.put ok (rel1.imm c))))⟩
        rw [f5.length]
        exact Nat.lt_of_lt_of_le hl (by decide)
    · rw [if_neg c] at p1
      exact p1.elim
  · rw [if_neg hl] at p
    exact p.elim
end
end Pu

namespace Pu
open PySem PySem.Spec PyProof.Rows L2 Evl
/-! ### dicts made, and looked at at once -/
section
variable {X : Cx} {xa : Xa} {W : WX} {e : Expr} {t : TE} {pos p1 apos cpos : Pos}
theorem pe_seal (h : PE X e t) : PE X e (fun σ H Q => t σ H fun v H1 => ∃ a u, v = .ref a ∧ H1 a = some u ∧ Mut (some u) ∧ ∀ od, Q v (upd H1 a (.frz od u))) :=
  ⟨fun pins s σ H Q I q => thn (h.run pins s σ H _ I q) fun v s1 ⟨x, H1, I1, rx, a, u, ex, hu, mu, q⟩ => by
    obtain ⟨od, I2⟩ := I1.lock hu mu
    exact ⟨x, _, I2, rx, q od⟩⟩
/-- {k: v, ..} of constants -/
inductive PCs (X : Cx) (xa : Xa) : List (Option Expr) → List Expr → List (TE × TE) → List (Key × V) → List (DK × D) → Prop
  | nil : PCs X xa [] [] [] [] []
  | cons {k v : Expr} {ks : List (Option Expr)} {vs : List Expr} {ts : List (TE × TE)} {q : DK} {w : V} {d : D} {us : List (Key × V)} {ds : List (DK × D)} : PE X k (tC (kV (kD q))) → okK q → PE X v (tC w) → (∀ H, R X.K xa H w d) → PCs X xa ks vs ts us ds → PCs X xa (some k :: ks) (v :: vs) ((tC (kV (kD q)), tC w) :: ts) ((kD q, w) :: us) ((q, d) :: ds)
theorem PCs.pps {ks : List (Option Expr)} {vs : List Expr} {ts : List (TE × TE)} {us : List (Key × V)} {ds : List (DK × D)} (h : PCs X xa ks vs ts us ds) : PPs X pos ks vs ts := by
  induction h with
  | nil => exact pps_nil
  | cons a _ b _ _ ih => exact pps_cons a b ih
theorem PCs.rk {ks : List (Option Expr)} {vs : List Expr} {ts : List (TE × TE)} {us : List (Key × V)} {ds : List (DK × D)} {H : Hp} (h : PCs X xa ks vs ts us ds) : RK X.K xa H us ds := by
  induction h with
  | nil => exact .nil
  | cons _ o _ r _ ih => exact .cons o (r _) ih
theorem PCs.run {ks : List (Option Expr)} {vs : List Expr} {ts : List (TE × TE)} {us : List (Key × V)} {ds : List (DK × D)} (h : PCs X xa ks vs ts us ds) : ∀ {σ : L2.St} {H : Hp} {Q : List (V × V) → Hp → Prop}, Q (us.map fun kv => (kV kv.1, kv.2)) H → tPairs ts σ H Q := by
  induction h with
  | nil => exact fun q => q
  | cons _ _ _ _ _ ih => exact fun q => ih q
theorem p_disp {ks : List (Option Expr)} {vs : List Expr} {ts : List (TE × TE)} {us : List (Key × V)} {ds : List (DK × D)} (h : PCs X xa ks vs ts us ds) (hm : mergeK [] us = us := by rfl) (hall : ks.all (·.isSome) = true := by rfl) (hl : ks.length = vs.length := by rfl) (h0 : ks ≠ [] := by simp) (h15 : ks.length ≤ 15 := by decide) (hu : us.length ≤ 15 := by exact Nat.le_of_ble_eq_true rfl) :
    Pe X xa W (.Dict ks vs pos) (cst (.dct ds)) := by
  refine PE.imp (pe_seal (pe_disp h.pps hall hl h0 h15)) fun σ H Q hq => ?_
  obtain ⟨Hb, ρ, le, re, p⟩ := hq
  refine fun a hn => h.run ⟨upd_same, us, rfl, hu, a, .dK (mergeK [] us), rfl, upd_same, trivial, fun od => ?_⟩
  rw [hm, upd_upd, upd_upd]
  exact post_new le p hn (.dct upd_same h.rk)
end
/-! ### sum(d.values()) -/
def ValO (p d : Addr) : HO := .ext fun h => h.IsValuesView p d
theorem valO_ok {P : Program} {w : World} {H : Hp} {h : Heap} {p d : Addr} (v : h.IsValuesView p d) : ObjOk P w H h p (ValO p d) :=
  ⟨v, let ⟨o, ho, _⟩ := v; ⟨o, ho⟩, fun h1 h2 q k => let ⟨o, ho, x⟩ := q; ⟨o, k o ho, x⟩⟩
theorem preSum_list : ∀ ns : List Int, preSum (fun i => ns.getD i 0) ns.length = ns.sum
  | [] => rfl
  | n :: ns => by
    rw [List.length_cons, PySem.W.kdu_shift, List.sum_cons]
    have e : (fun i => (n :: ns).getD (i + 1) 0) = fun i => ns.getD i 0 := funext fun i => List.getD_cons_succ ..
    rw [e, preSum_list ns]
    rfl
section
variable {X : Cx} {xa : Xa} {W : WX} {e : Expr} {td : TE} {pos p1 apos cpos : Pos} {f : F}
theorem pe_vals (he : PE X e td) (hbase : attributeBase e "values" X.env (eval e X.env) = eval e X.env := by rfl) (hline : (apos.endLine == cpos.line) = true := by rfl) : PE X (.Call (.Attribute e "values" apos) [] [] cpos) (fun σ H Q => td σ H fun x H1 => ∃ d o kvs, x = .ref d ∧ H1 d = some (.frz o (.dK kvs)) ∧ ∀ p, H1 p = none → Q (.ref p) (upd H1 p (ValO p d))) := by
  refine ⟨fun pins s σ H Q I h => ?_⟩
  refine wpAny_Call_method (T := "dict") (id := "dict.values") hbase rfl hline F.plainAttrs_dict F.slot_dict_values F.type_dict_values (thn (he.run pins s σ H _ I h) fun u s1 ⟨x, H1, I1, rx, d, o, kvs, ex, hd, q⟩ => ?_)
  subst ex
  obtain rfl : u = Value.ref d := rx
  obtain ⟨hs, hgd, hx, es, ep, vs, hdt, hsz, kv, hm⟩ := I1.frzK hd
  refine ⟨hm.dictOf.typeIs, hm.dictOf.mapOf.noDict, ?_⟩
  have I2 : Inv X pins σ (upd H1 s1.heap.objs.size (ValO s1.heap.objs.size d)) { s1 with heap := s1.heap.push { cls := .type "dict_values", data := .fields #[.ref d] } } := I1.laid (t' := s1.toks) (fun b ob q => Heap.get?_push_of_some _ q) (Nat.le_refl _) (valO_ok ⟨_, Heap.get?_push_size _ rfl, rfl, rfl⟩)
  show wpAny _ _ (callWith cpos (.builtin "dict.values") [.ref d] [] []) _ X.xe s1
  exact method_meetsIn F.slot_dict_values F.entry_dict_values rfl (PySem.evalArgs_none ⟨rfl, hm.dictOf.typeIs, F.args_dict_values_1 _, _, meets_dict_values (mixKind X.prog X.w) d hs, ⟨vs, hm.dictOf⟩, ⟨.ref _, _, I2, rfl, q _ (I1.hok.fresh (Nat.le_refl _))⟩⟩)
theorem cr_sumV (hc : X.calm = true) : CallR X (.builtin "sum") (fun xs H Q => ∃ p d o kvs, ∃ ns : List Int, xs = [V.ref p] ∧ H p = some (ValO p d) ∧ H d = some (.frz o (.dK kvs)) ∧ kvs.map (·.2) = ns.map V.int ∧ Q (.int ns.sum) H) := by
  intro pins s σ H xs us Q I rl h
  obtain ⟨p, d, o, kvs, ns, rfl, hp, hd, hns, q⟩ := h
  rw [Vals.ref1 rl]
  obtain ⟨hs, hgd, hx, es, ep, vs, hdt, hsz, kv, hm⟩ := I.frzK hd
  have view : s.heap.IsValuesView p d := (I.hok p _ hp).1
  have hl : kvs.length = vs.length := Paired.length kv
  have hl2 : ns.length = vs.length := by
    have e := congrArg List.length hns
    rw [List.length_map, List.length_map] at e
    omega
  have K := PySem.W.kdl_values (prog := X.prog) (w := X.w) (knd := mixKind X.prog X.w) (r := p) (d := d) (kvs := vs) (ep := ep)
  refine call_sum_walkAnyS ?_
  obtain ⟨oI, St, hit, Wk_, st⟩ := K.iter X.A.in1 s (I.ok.hd hc) ⟨view, hm⟩
  refine hit _ _ ⟨s.heap.objs.size, _, _, _, vs.length, _, _, fun i => ns.getD i 0, rfl, Wk_.toS, st, fun b hb => ?_, fun i v hv => ?_, fun s' t' hmv => ?_⟩
  · show b < (s.heap.push oI).objs.size
    rw [size_push']
    rcases List.mem_cons.mp hb with e | hb
    · rw [e]; exact Nat.lt_succ_self _
    · rw [List.mem_singleton.mp hb]; exact Nat.lt_succ_of_lt (K.there _ ⟨view, hm⟩).2
  · obtain ⟨k, e⟩ := hv
    have hi : i < vs.length := (List.getElem?_eq_some_iff.mp e).1
    have e1 : kvs[i]? = some kvs[i] := List.getElem?_eq_getElem (by omega)
    obtain ⟨u, e2, ru⟩ := kv_get kv (i := i) (k := kvs[i].1) (v := kvs[i].2) e1
    rw [e] at e2
    cases e2
    have e3 : (kvs.map (·.2))[i]? = some kvs[i].2 := by rw [List.getElem?_map, e1]; rfl
    rw [hns, List.getElem?_map, List.getElem?_eq_getElem (show i < ns.length by omega)] at e3
    have e4 : V.int ns[i] = kvs[i].2 := Option.some.inj e3
    rw [← e4] at ru
    obtain ⟨t, et⟩ := (show ∃ t, v = Value.int _ t from ru)
    refine ⟨t, ?_⟩
    have e5 : ns.getD i 0 = ns[i] := by
      rw [List.getD_eq_getElem?_getD, List.getElem?_eq_getElem (show i < ns.length by omega)]
      rfl
    rw [et]
    show Value.int ns[i] t = Value.int (ns.getD i 0) t
    rw [e5]
  · have hk : ∀ b o, s.heap.get? b = some o → s'.heap.get? b = some o := fun b o e =>
      hmv.heap b o (fun hI => absurd (Heap.lt_size e) (by rw [List.mem_singleton.mp hI]; exact Nat.lt_irrefl _)) (Heap.get?_push_of_some _ e)
    rw [Moved.eq_with hmv, ← hl2, preSum_list]
    exact ⟨.int ns.sum, H, I.kept hk, ⟨t', rfl⟩, q⟩
def smV : D → Option D
  | .dct kvs => (intsOf (kvs.map (·.2))).map fun ns => .int ns.sum
  | _ => none
theorem RK.ints {K : PySem.W.Frag} {B : Hp} : ∀ {vs : List (Key × V)} {kvs : List (DK × D)}, RK K xa B vs kvs → RL K xa B (vs.map (·.2)) (kvs.map (·.2))
  | _, _, .nil => .nil
  | _, _, .cons _ h r => .cons h (RK.ints r)
theorem p_sumV (hc : X.calm = true) {p : Pos} (hg : Gl X "sum") (hm : X.mg "sum" = none) (ha : Pe X xa W e f) (hbase : attributeBase e "values" X.env (eval e X.env) = eval e X.env := by rfl) (hline : (apos.endLine == cpos.line) = true := by rfl)
    (he : starEach [.Call (.Attribute e "values" apos) [] [] cpos] X.env = (false, eval (.Call (.Attribute e "values" apos) [] [] cpos) X.env) :: starEach [] X.env := by rfl) (hpl : (backTo pos (starEach [] X.env)).any (·.1) = false := by rfl) :
    Pe X xa W (.Call (.Name "sum" p) [.Call (.Attribute e "values" apos) [] [] cpos] [] pos) (op1 smV f) := by
  refine PE.imp (pe_callB (cr_sumV hc) hg hm (by decide +kernel) (pa_cons (pe_vals ha hbase hline) pa_nil he) (by decide) (by decide) he hpl) fun σ H Q hq => ?_
  obtain ⟨Hb, ρ, le, re, p⟩ := hq
  refine ⟨Hb, ρ, le, re, post_bind le p fun d v B1 H1 e1 g1 r1 p1 => ?_⟩
  obtain ⟨z, hz, p2⟩ := ofO_some_of p1
  cases r1 with
  | @dct a o vs kvs h1 q1 =>
    obtain ⟨ns, z1, rfl⟩ := Option.map_eq_some_iff.mp (show (intsOf (kvs.map (·.2))).map (fun ns => D.int ns.sum) = some z from hz)
    refine ⟨a, o, vs, rfl, g1.le _ _ h1, fun p hn => ⟨p, a, o, vs, ns, rfl, upd_same, ?_, q1.ints.ints z1, ?_⟩⟩
    · rw [upd_ne (ne_of_none (g1.le _ _ h1) hn)]
      exact g1.le _ _ h1
    · have g2 : Gw B1 H1 B1 (upd H1 p (ValO p a)) := ⟨Ex.new hn, Ex.refl _, g1.le.trans (Ex.new hn), fun _ _ _ => rfl⟩
      exact p2 _ B1 _ g2 (.int _)
  | _ => cases hz
end
/-! ### sorted(d) -/
def cSortK : List D → Option D
  | [d] => (dkv d).bind fun kvs => if okA (kvs.map fun p => kOf p.1) = true then some (.lst (srt1 leD (kvs.map fun p => kOf p.1))) else none
  | _ => none
end Pu

namespace Pu
open PySem L2
/-! ### mirrors of defs that laws share: dicts, sorting -/
def m_families : List D → Res D := dfM 3 8 (sqS (exS (calF m_need_plain (argC (vr 0) argN))) (sqS (exS (kwF (kg 1 2 [(0, 0), (2, 0), (2, 1), (1, 0)] [.int 40]) m_need_number (argC (vr 1) argN) (argC (cst (.str [108, 101, 110, 103, 116, 104])) (argC (cst (.int 1)) argN)))) (sqS (exS (kwF (kg 1 2 [(0, 0), (2, 0), (1, 0), (2, 1)] [.int 0]) m_need_number (argC (vr 2) argN) (argC (cst (.str [109, 97, 110, 121])) (argC (vr 1) argN)))) (sqS (asS 3 (ofL (lcO (rgF (op2 dAdd (op2 dSub (opN cLen (argC (vr 0) argN)) (vr 1)) (cst (.int 1)))) [6] (.nm 6) yesT (slF (vr 0) (soP (vr 6)) (soP (op2 dAdd (vr 6) (vr 1))))))) (sqS (paS 4 5 (.s (lrF (opN cLen (argC (vr 3) argN)))) (.o (lnO argN))) (sqS (whS 1000 (tst (op2 dNe (vr 4) (lstF argN))) (sqS (paS 7 8 (.o (lnO (argC (op2 dIx (vr 4) (cst (.int 0))) argN))) (.o (lnO (argC (op2 dIx (vr 4) (cst (.int 0))) argN)))) (sqS (whS 1000 (tst (op2 dNe (vr 8) (lstF argN))) (sqS (poS 9 8) (forS (itF (vr 4)) (.nm 10) (ifS (anT (tst (op2 dNotIn (vr 10) (vr 7))) (tst (op2 dLe (calF m_unlike (argC (op2 dIx (vr 3) (vr 9)) (argC (op2 dIx (vr 3) (vr 10)) argN))) (vr 2)))) (sqS (apS 7 (vr 10)) (apS 8 (vr 10))) nxS)))) (sqS (fzS [7] (asS 4 (ofL (lcO (itF (vr 4)) [6] (.nm 6) (tst (op2 dNotIn (vr 6) (vr 7))) (vr 6))))) (ifS (tst (op2 dGt (opN cLen (argC (vr 7) argN)) (cst (.int 1)))) (fzS [7] (apS 5 (opN cSortD (argC (vr 7) argN)))) nxS))))) (reS (vr 5))))))))
def m_gapped : List D → Res D := dfM 5 8 (sqS (exS (calF m_need_texts (argC (vr 0) (argC (vr 3) argN)))) (sqS (ifS (noT (tst (calF m_is_number (argC (vr 1) (argC (cst (.int 1)) (argC (cst (.int 6)) argN)))))) (raX 4 (cst (.str [108, 101, 110, 103, 116, 104]))) nxS) (sqS (ifS (noT (tst (calF m_is_number (argC (vr 2) (argC (cst (.int 0)) (argC (opN cMax (argC (cst (.int 0)) (argC (op2 dSub (vr 1) (cst (.int 2))) argN))) argN)))))) (raX 4 (cst (.str [103, 97, 112, 115]))) nxS) (sqS (asS 5 (calF m_need_ask (argC (vr 0) (argC (vr 1) (argC (cst (.int 0)) (argC (vr 3) (argC (vr 4) argN))))))) (sqS (ndS 6) (sqS (forS (itF (vr 0)) (.nm 7) (sqS (ndS 8) (sqS (forS (itF (calF m_shapes (argC (vr 1) (argC (vr 2) argN)))) (.nm 9) (forS (rgF (op2 dAdd (op2 dSub (opN cLen (argC (vr 7) argN)) (vr 1)) (cst (.int 1)))) (.nm 11) (dpI 8 (calF m_laid (argC (slF (vr 7) (soP (vr 11)) (soP (op2 dAdd (vr 11) (vr 1)))) (argC (vr 9) argN))) (cst (.bl true))))) (fdS 8 (forS (itK (vr 8)) (.nm 10) (dpI 6 (vr 10) (op2 dAdd (gt2F (vr 6) (vr 10) (cst (.int 0))) (cst (.int 1))))))))) (fdS 6 (reS (opN cSortD (argC (ofL (lcO (itI (vr 6)) [10, 12] (.tp [10, 12]) (tst (op2 dGe (vr 12) (vr 5))) (vr 10))) argN))))))))))
def m_fewest_gaps : List D → Res D := dfM 4 2 (sqS (exS (calF m_need_texts (argC (vr 0) (argC (vr 2) argN)))) (sqS (ifS (noT (tst (calF m_is_number (argC (vr 1) (argC (cst (.int 1)) (argC (cst (.int 6)) argN)))))) (raX 4 (cst (.str [108, 101, 110, 103, 116, 104]))) nxS) (sqS (exS (calF m_need_ask (argC (vr 0) (argC (vr 1) (argC (cst (.int 0)) (argC (vr 2) (argC (vr 3) argN))))))) (sqS (forS (rgF (op2 dAdd (opN cMax (argC (cst (.int 0)) (argC (op2 dSub (vr 1) (cst (.int 2))) argN))) (cst (.int 1)))) (.nm 4) (sqS (asS 5 (kwF (kg 4 1 [(0, 0), (0, 1), (0, 2), (0, 3), (2, 0)] []) m_gapped (argC (vr 0) (argC (vr 1) (argC (vr 4) (argC (vr 2) argN)))) (argC (vr 3) argN))) (ifS (tst (op2 dNe (vr 5) (lstF argN))) (reS (tupF (argC (vr 4) (argC (vr 5) argN)))) nxS))) (reS (cst .non))))))
def m_ranked : List D → Res D := dfM 5 6 (sqS (asS 5 (kwF (kg 4 1 [(0, 0), (0, 1), (0, 2), (0, 3), (2, 0)] []) m_common (argC (vr 0) (argC (vr 1) (argC (vr 2) (argC (vr 3) argN)))) (argC (vr 4) argN))) (sqS (aoS 6 (lnO argN)) (sqS (forS (itF (vr 5)) (.nm 7) (sqS (atS (.tp [8, 9]) (calF m_standing (argC (vr 0) (argC (vr 7) (argC (vr 2) argN))))) (apS 6 (tupF (argC (op1 dNeg (opN cLen (argC (vr 8) argN))) (argC (vr 9) (argC (vr 7) argN))))))) (reS (ofL (lcO (itF (opN cSortD (argC (vr 6) argN))) [10, 9, 7] (.tp [10, 9, 7]) yesT (tupF (argC (vr 7) (argC (op1 dNeg (vr 10)) (argC (vr 9) argN))))))))))
def m_without : List D → Res D := dfM 4 8 (sqS (asS 4 (cst (.dct [(.inr [], .int 1)]))) (sqS (forS (rgF (vr 2)) (.nm 5) (sqS (ndS 6) (sqS (forS (itI (vr 4)) (.tp [7, 8]) (forS (itF (vr 3)) (.nm 9) (sqS (asS 10 (op2 dAdd (vr 7) (vr 9))) (ifS (orT (tst (op2 dLt (opN cLen (argC (vr 10) argN)) (opN cLen (argC (vr 0) argN)))) (tst (op2 dGt (calF m_unlike (argC (vr 10) (argC (vr 0) argN))) (vr 1)))) (sqS (asS 11 (slF (vr 10) (soP (opN cMax (argC (cst (.int 0)) (argC (op2 dAdd (op2 dSub (opN cLen (argC (vr 10) argN)) (opN cLen (argC (vr 0) argN))) (cst (.int 1))) argN)))) noP)) (dpI 6 (vr 11) (op2 dAdd (gt2F (vr 6) (vr 11) (cst (.int 0))) (vr 8)))) nxS)))) (fdS 6 (asS 4 (vr 6)))))) (reS (op1 smV (vr 4)))))
def m_texts_with : List D → Res D := dfM 4 0 (sqS (exS (calF m_need_case (argC (vr 0) (argC (vr 1) (argC (vr 2) (argC (vr 3) argN)))))) (reS (op2 dSub (calF m_power (argC (opN cLen (argC (vr 3) argN)) (argC (vr 2) argN))) (calF m_without (argC (vr 0) (argC (vr 1) (argC (vr 2) (argC (vr 3) argN))))))))
def m_rarest : List D → Res D := dfM 5 6 (sqS (asS 5 (kwF (kg 4 1 [(0, 0), (0, 1), (0, 2), (0, 3), (2, 0)] []) m_common (argC (vr 0) (argC (vr 1) (argC (vr 2) (argC (vr 3) argN)))) (argC (vr 4) argN))) (sqS (ifS (tst (op2 dGt (vr 1) (cst (.int 5)))) (raX 4 (cst (.str [108, 101, 110, 103, 116, 104]))) nxS) (sqS (asS 6 (cst .non)) (sqS (forS (itF (vr 5)) (.nm 7) (sqS (asS 8 (cst (.int 1))) (sqS (forS (itF (op2 dIx (calF m_standing (argC (vr 0) (argC (vr 7) (argC (vr 2) argN)))) (cst (.int 0)))) (.nm 9) (sqS (asS 10 (opN cLen (argC (op2 dIx (vr 0) (vr 9)) argN))) (asS 8 (op2 dMul (op2 dMul (vr 8) (calF m_texts_with (argC (vr 7) (argC (vr 2) (argC (vr 10) (argC (vr 3) argN)))))) (calF m_power (argC (opN cLen (argC (vr 3) argN)) (argC (op2 dSub (cst (.int 40)) (vr 10)) argN))))))) (sqS (forS (rgF (op2 dSub (opN cLen (argC (vr 0) argN)) (opN cLen (argC (op2 dIx (calF m_standing (argC (vr 0) (argC (vr 7) (argC (vr 2) argN)))) (cst (.int 0))) argN)))) (.nm 9) (asS 8 (op2 dMul (vr 8) (calF m_power (argC (opN cLen (argC (vr 3) argN)) (argC (cst (.int 40)) argN)))))) (asS 6 (ifF (orT (tst (op2 dIs (vr 6) (cst .non))) (tst (op2 dLt (tupF (argC (vr 8) (argC (vr 7) argN))) (vr 6)))) (tupF (argC (vr 8) (argC (vr 7) argN))) (vr 6))))))) (reS (ifF (tst (op2 dIs (vr 6) (cst .non))) (cst .non) (op2 dIx (vr 6) (cst (.int 1)))))))))
def m_share : List D → Res D := dfM 4 5 (sqS (exS (calF m_need_case (argC (vr 0) (argC (vr 1) (argC (vr 2) (argC (vr 3) argN)))))) (sqS (asS 4 (calF m_power (argC (opN cLen (argC (vr 3) argN)) (argC (vr 2) argN)))) (sqS (paS 5 6 (.s (op2 dSub (vr 4) (calF m_without (argC (vr 0) (argC (vr 1) (argC (vr 2) (argC (vr 3) argN))))))) (.s (vr 4))) (sqS (paS 7 8 (.s (vr 5)) (.s (vr 6))) (sqS (whS 1000 (tst (op2 dGt (vr 8) (cst (.int 0)))) (paS 7 8 (.s (vr 8)) (.s (op2 dMod (vr 7) (vr 8))))) (reS (tupF (argC (op2 dFdiv (vr 5) (vr 7)) (argC (op2 dFdiv (vr 6) (vr 7)) argN)))))))))
end Pu

namespace Pu.Sh
open PySem L2 Pu
/-! ### how many texts have a word -/
theorem mulE (n : Nat) {i j : Int} (hn : n ≤ 3000) (h : i.natAbs < 2 ^ n) (k : j.natAbs < 2 ^ n) : dMul (.int i) (.int j) = some (.int (i * j)) :=
  if_pos ⟨Nat.lt_of_lt_of_le h (Nat.pow_le_pow_right (by decide) (by omega)), Nat.lt_of_lt_of_le k (Nat.pow_le_pow_right (by decide) (by omega))⟩
theorem pow_loop {b : Nat} {x1 : Sl} (hb : 1 ≤ b) (hb2 : b < 2 ^ 3000) : ∀ (l : List Nat) (acc : Nat) (y : Sl), acc * b ^ l.length < 2 ^ 3000 → ∃ y', forGo (.nm 3) (asS 2 (op2 dMul (vr 2) (vr 0))) (l.map fun i => D.int (i : Nat)) [.sh (.int (b : Nat)), x1, .sh (.int (acc : Nat)), y] = .nx [.sh (.int (b : Nat)), x1, .sh (.int ((acc * b ^ l.length : Nat) : Int)), y']
  | [], acc, y, _ => ⟨y, by rw [List.length_nil, Nat.pow_zero, Nat.mul_one]; rfl⟩
  | i :: l, acc, y, h => by
    have e : acc * b ^ (l.length + 1) = acc * b * b ^ l.length := by rw [Nat.pow_succ, Nat.mul_comm (b ^ l.length) b, Nat.mul_assoc]
    rw [List.length_cons, e] at h
    obtain ⟨y', ih⟩ := pow_loop (x1 := x1) hb hb2 l (acc * b) (.sh (.int (i : Nat))) h
    refine ⟨y', ?_⟩
    have ha : acc ≤ acc * b * b ^ l.length := by
      rw [Nat.mul_assoc]
      exact Nat.le_mul_of_pos_right _ (Nat.mul_pos hb (Nat.pow_pos hb))
    rw [List.map_cons, for_cons (ps := [(3, .int (i : Nat))]) (ρ' := [.sh (.int (b : Nat)), x1, .sh (.int ((acc * b : Nat) : Int)), .sh (.int (i : Nat))]) rfl, ih, List.length_cons, e]
    have m : (acc : Int) * (b : Int) = ((acc * b : Nat) : Int) := by simp
    refine as_nx ((e2 rfl rfl (mulE 3000 (by decide) (i := (acc : Int)) (j := (b : Int)) ?_ ?_)).trans (by rw [m]))
    · exact Nat.lt_of_le_of_lt ha h
    · exact hb2
theorem power_ok {b n : Nat} (hb : 1 ≤ b) (hb2 : b < 2 ^ 3000) (hn : n < 2 ^ 60) (h : b ^ n < 2 ^ 3000) : m_power [.int (b : Nat), .int (n : Nat)] = .ok (.int ((b ^ n : Nat) : Int)) := by
  obtain ⟨y', e⟩ := pow_loop (x1 := .sh (.int (n : Nat))) hb hb2 (List.range n) 1 .no (by rw [Nat.one_mul, List.length_range]; exact h)
  rw [Nat.one_mul, List.length_range] at e
  exact dm rfl (sq_to (as_nx (d := .int ((1 : Nat) : Int)) rfl) (sq_to ((for_go (ds := (List.range n).map fun i => D.int (i : Nat)) ((eR rfl (by omega)).trans (by rw [rgD_nat]))).trans e) (re_to rfl)))
abbrev KV2 := List (List Nat × Int)
def enc (kvs : KV2) : List (DK × D) := kvs.map fun p => (Sum.inr p.1, D.int p.2)
def gtc (kvs : KV2) (k : List Nat) : Int := ((kvs.find? fun p => decide (p.1 = k)).map (·.2)).getD 0
def hasK (kvs : KV2) (k : List Nat) : Bool := kvs.any fun p => decide (p.1 = k)
def pt (kvs : KV2) (k : List Nat) (c : Int) : KV2 := if hasK kvs k = true then kvs.map (fun p => if p.1 = k then (p.1, gtc kvs k + c) else p) else kvs ++ [(k, c)]
theorem gtc_pos {p : List Nat × Int} {r : KV2} {k : List Nat} (e : p.1 = k) : gtc (p :: r) k = p.2 := by simp [gtc, List.find?_cons, e]
theorem gtc_neg {p : List Nat × Int} {r : KV2} {k : List Nat} (e : ¬ p.1 = k) : gtc (p :: r) k = gtc r k := by simp [gtc, List.find?_cons, e]
theorem valD_enc (k : List Nat) : ∀ kvs : KV2, (hasK kvs k = true → valD (enc kvs) (.inr k) = some (.int (gtc kvs k))) ∧ (hasK kvs k = false → valD (enc kvs) (.inr k) = none ∧ gtc kvs k = 0)
  | [] => ⟨fun h => (nomatch h), fun _ => ⟨rfl, rfl⟩⟩
  | p :: r => by
    obtain ⟨h1, h2⟩ := valD_enc k r
    have e0 : enc (p :: r) = (Sum.inr p.1, D.int p.2) :: enc r := rfl
    have eh : hasK (p :: r) k = (decide (p.1 = k) || hasK r k) := List.any_cons
    rw [e0, eh]
    by_cases e : p.1 = k
    · rw [valD_pos (p := (Sum.inr p.1, D.int p.2)) (congrArg Sum.inr e), gtc_pos e, decide_eq_true e]
      exact ⟨fun _ => rfl, fun h => (nomatch h)⟩
    · rw [valD_neg (p := (Sum.inr p.1, D.int p.2)) (fun z => e (Sum.inr.inj z)), gtc_neg e, decide_eq_false e, Bool.false_or]
      exact ⟨h1, h2⟩
theorem get_enc (kvs : KV2) (k : List Nat) : (valD (enc kvs) (.inr k)).getD (.int 0) = .int (gtc kvs k) := by
  obtain ⟨h1, h2⟩ := valD_enc k kvs
  cases c : hasK kvs k with
  | true => rw [h1 c]; rfl
  | false => rw [(h2 c).1, (h2 c).2]; rfl
theorem put_enc (kvs : KV2) (k : List Nat) (c : Int) : putKD (enc kvs) (.inr k) (.int (gtc kvs k + c)) = enc (pt kvs k c) := by
  obtain ⟨h1, h2⟩ := valD_enc k kvs
  unfold putKD pt
  cases z : hasK kvs k with
  | true =>
    rw [h1 z, if_pos (show (some (D.int (gtc kvs k))).isSome = true from rfl), if_pos rfl]
    unfold enc
    rw [List.map_map, List.map_map]
    refine List.map_congr_left fun p _ => ?_
    show (if (Sum.inr p.1 : DK) = Sum.inr k then _ else _) = _
    by_cases e : p.1 = k
    · rw [if_pos (congrArg Sum.inr e)]
      show _ = (fun p : List Nat × Int => (Sum.inr p.1, D.int p.2)) (if p.1 = k then _ else _)
      rw [if_pos e]
    · rw [if_neg (fun z => e (Sum.inr.inj z))]
      show _ = (fun p : List Nat × Int => (Sum.inr p.1, D.int p.2)) (if p.1 = k then _ else _)
      rw [if_neg e]
  | false =>
    rw [(h2 z).1, if_neg (show ¬ (none : Option D).isSome = true by decide), if_neg (by decide), (h2 z).2, Int.zero_add]
    unfold enc
    rw [List.map_append]
    rfl
def SS (φ : List Nat → Int) (kvs : KV2) : Int := (kvs.map fun p => p.2 * φ p.1).sum
theorem SS_cons (φ : List Nat → Int) (p : List Nat × Int) (r : KV2) : SS φ (p :: r) = p.2 * φ p.1 + SS φ r := by
  unfold SS
  rw [List.map_cons, List.sum_cons]
theorem hasK_mem {kvs : KV2} {k : List Nat} : hasK kvs k = true ↔ k ∈ kvs.map (·.1) := by
  unfold hasK
  rw [List.any_eq_true]
  constructor
  · rintro ⟨p, hp, e⟩
    exact List.mem_map.mpr ⟨p, hp, of_decide_eq_true e⟩
  · intro h
    obtain ⟨p, hp, e⟩ := List.mem_map.mp h
    exact ⟨p, hp, decide_eq_true e⟩
theorem repl_no {k : List Nat} {v : Int} : ∀ {kvs : KV2}, k ∉ kvs.map (·.1) → (kvs.map fun p => if p.1 = k then (p.1, v) else p) = kvs
  | [], _ => rfl
  | p :: r, h => by
    rw [List.map_cons, if_neg (fun z => h (by rw [← z]; exact List.mem_cons_self)), repl_no (kvs := r) fun z => h (List.mem_cons_of_mem _ z)]
theorem repl_keys {k : List Nat} {v : Int} (kvs : KV2) : (kvs.map fun p => if p.1 = k then (p.1, v) else p).map (·.1) = kvs.map (·.1) := by
  rw [List.map_map]
  refine List.map_congr_left fun p _ => ?_
  show (if p.1 = k then (p.1, v) else p).1 = p.1
  split <;> rfl
theorem SS_repl {φ : List Nat → Int} {k : List Nat} {v : Int} : ∀ {kvs : KV2}, (kvs.map (·.1)).Nodup → k ∈ kvs.map (·.1) → SS φ (kvs.map fun p => if p.1 = k then (p.1, v) else p) = SS φ kvs + (v - gtc kvs k) * φ k
  | [], _, h => nomatch h
  | p :: r, nd, h => by
    rw [List.map_cons] at nd
    have n2 := List.nodup_cons.mp nd
    rw [List.map_cons, SS_cons, SS_cons]
    by_cases e : p.1 = k
    · rw [if_pos e, gtc_pos e, repl_no (by rw [← e]; exact n2.1), Int.sub_mul, e]
      show v * φ k + _ = _
      omega
    · have h2 : k ∈ r.map (·.1) := by
        rcases List.mem_cons.mp h with z | z
        · exact absurd z.symm e
        · exact z
      rw [if_neg e, gtc_neg e, SS_repl n2.2 h2]
      omega
theorem SS_pt {φ : List Nat → Int} {kvs : KV2} (nd : (kvs.map (·.1)).Nodup) (k : List Nat) (c : Int) : SS φ (pt kvs k c) = SS φ kvs + c * φ k := by
  unfold pt
  cases z : hasK kvs k with
  | true =>
    rw [if_pos rfl, SS_repl nd (hasK_mem.mp z)]
    have e : gtc kvs k + c - gtc kvs k = c := by omega
    rw [e]
  | false =>
    rw [if_neg (by decide)]
    unfold SS
    rw [List.map_append, List.sum_append_int]
    show _ + (c * φ k + 0) = _
    omega
theorem pt_keys {kvs : KV2} (k : List Nat) (c : Int) (nd : (kvs.map (·.1)).Nodup) : ((pt kvs k c).map (·.1)).Nodup ∧ ∀ q ∈ (pt kvs k c).map (·.1), q ∈ kvs.map (·.1) ∨ q = k := by
  unfold pt
  cases z : hasK kvs k with
  | true =>
    rw [if_pos rfl, repl_keys]
    exact ⟨nd, fun q h => .inl h⟩
  | false =>
    have hk : k ∉ kvs.map (·.1) := fun h => by rw [hasK_mem.mpr h] at z; cases z
    rw [if_neg (by decide), List.map_append]
    refine ⟨List.nodup_append.mpr ⟨nd, (List.nodup_cons.mpr ⟨by simp, List.nodup_nil⟩), fun x hx y hy => ?_⟩, fun q h => ?_⟩
    · have hy : y = k := List.mem_singleton.mp hy
      rw [hy]
      exact fun e => hk (by rw [← e]; exact hx)
    · rcases List.mem_append.mp h with h | h
      · exact .inl h
      · exact .inr (List.mem_singleton.mp h)
section
variable (w : List Nat) (m : Int) (a : List Nat)
def passB (q : List Nat) : Bool := decide (q.length < w.length) || decide (((cnt q w : Nat) : Int) > m)
def lsf (q : List Nat) : List Nat := q.drop (q.length + 1 - w.length)
def stepL (e : List Nat) (c : Int) (acc : KV2) (x : Nat) : KV2 := if passB w m (e ++ [x]) = true then pt acc (lsf w (e ++ [x])) c else acc
def stepW (kvs : KV2) : KV2 := kvs.foldl (fun acc p => a.foldl (stepL w m p.1 p.2) acc) []
def wy : Nat → KV2
  | 0 => [([], 1)]
  | n + 1 => stepW w m a (wy n)
def psi (φ : List Nat → Int) (e : List Nat) : Int := (a.map fun x => if passB w m (e ++ [x]) = true then φ (lsf w (e ++ [x])) else 0).sum
end
section
variable {w : List Nat} {m : Int} {a : List Nat}
theorem lsf_len (h : 1 ≤ w.length) (q : List Nat) : (lsf w q).length = min q.length (w.length - 1) := by
  unfold lsf
  rw [List.length_drop]
  omega
/-- keys of one length, letters of a, each once -/
def KOk (a : List Nat) (s : Nat) (kvs : KV2) : Prop := (kvs.map (·.1)).Nodup ∧ ∀ k ∈ kvs.map (·.1), k.length = s ∧ ∀ c ∈ k, c ∈ a
theorem KOk.few {s : Nat} {kvs : KV2} (h : KOk a s kvs) (ha : a.length ≤ 4) (hs : s ≤ 4) : kvs.length ≤ 256 := by
  have h1 := nodup_le (m := allw a s) h.1 fun k hk => by
    have := allw_all (h.2 k hk).2
    rw [(h.2 k hk).1] at this
    exact this
  have h2 := allw_many ha s
  have h3 : 4 ^ s ≤ 4 ^ 4 := Nat.pow_le_pow_right (by decide) hs
  have h4 : (4 : Nat) ^ 4 = 256 := rfl
  rw [List.length_map] at h1
  omega
theorem fold_in {φ : List Nat → Int} {e : List Nat} {c : Int} {s : Nat} (hw : 1 ≤ w.length) (he : ∀ x ∈ e, x ∈ a) (hs : s = min (e.length + 1) (w.length - 1)) : ∀ (l : List Nat) (acc : KV2), (∀ x ∈ l, x ∈ a) → KOk a s acc →
    KOk a s (l.foldl (stepL w m e c) acc) ∧ SS φ (l.foldl (stepL w m e c) acc) = SS φ acc + c * (l.map fun x => if passB w m (e ++ [x]) = true then φ (lsf w (e ++ [x])) else 0).sum
  | [], acc, _, h => ⟨h, by rw [List.map_nil]; show SS φ acc = SS φ acc + c * 0; omega⟩
  | x :: l, acc, hl, h => by
    have st : KOk a s (stepL w m e c acc x) ∧ SS φ (stepL w m e c acc x) = SS φ acc + c * (if passB w m (e ++ [x]) = true then φ (lsf w (e ++ [x])) else 0) := by
      unfold stepL
      by_cases p : passB w m (e ++ [x]) = true
      · rw [if_pos p, if_pos p]
        obtain ⟨k1, k2⟩ := pt_keys (lsf w (e ++ [x])) c h.1
        refine ⟨⟨k1, fun q hq => ?_⟩, SS_pt h.1 _ _⟩
        rcases k2 q hq with z | z
        · exact h.2 q z
        · rw [z]
          refine ⟨by rw [lsf_len hw, List.length_append, hs]; rfl, fun y hy => ?_⟩
          have hy := List.mem_of_mem_drop hy
          rcases List.mem_append.mp hy with z | z
          · exact he y z
          · rw [List.mem_singleton.mp z]
            exact hl x List.mem_cons_self
      · rw [if_neg p, if_neg p]
        exact ⟨h, by omega⟩
    obtain ⟨i1, i2⟩ := fold_in (φ := φ) hw he hs l (stepL w m e c acc x) (fun y hy => hl y (List.mem_cons_of_mem _ hy)) st.1
    refine ⟨i1, ?_⟩
    rw [List.foldl_cons, i2, st.2, List.map_cons, List.sum_cons, Int.mul_add]
    omega
theorem fold_out {φ : List Nat → Int} {s s' : Nat} (hw : 1 ≤ w.length) (hs : s' = min (s + 1) (w.length - 1)) : ∀ (l acc : KV2), (∀ k ∈ l.map (·.1), k.length = s ∧ ∀ c ∈ k, c ∈ a) → KOk a s' acc →
    KOk a s' (l.foldl (fun acc p => a.foldl (stepL w m p.1 p.2) acc) acc) ∧ SS φ (l.foldl (fun acc p => a.foldl (stepL w m p.1 p.2) acc) acc) = SS φ acc + SS (psi w m a φ) l
  | [], acc, _, h => ⟨h, by show SS φ acc = SS φ acc + 0; omega⟩
  | p :: l, acc, hl, h => by
    obtain ⟨p1, p2⟩ := hl p.1 List.mem_cons_self
    obtain ⟨j1, j2⟩ := fold_in (φ := φ) (m := m) (c := p.2) hw p2 (by rw [p1]; exact hs) a acc (fun x hx => hx) h
    obtain ⟨i1, i2⟩ := fold_out (φ := φ) hw hs l _ (fun k hk => hl k (List.mem_cons_of_mem _ hk)) j1
    refine ⟨i1, ?_⟩
    rw [List.foldl_cons, i2, j2, SS_cons]
    unfold psi
    omega
theorem wy_ok (hw : 1 ≤ w.length) : ∀ n, KOk a (min n (w.length - 1)) (wy w m a n)
  | 0 => ⟨(List.nodup_cons.mpr ⟨by simp, List.nodup_nil⟩), fun k hk => by
    rw [List.mem_singleton.mp hk]
    exact ⟨by rw [Nat.zero_min]; rfl, fun _ z => nomatch z⟩⟩
  | n + 1 => (fold_out (φ := fun _ => 0) hw (by omega) (wy w m a n) [] (wy_ok hw n).2 ⟨List.nodup_nil, fun _ z => nomatch z⟩).1
theorem wy_step (hw : 1 ≤ w.length) (φ : List Nat → Int) (n : Nat) : SS φ (wy w m a (n + 1)) = SS (psi w m a φ) (wy w m a n) := by
  have h := (fold_out (φ := φ) (m := m) (s' := min (min n (w.length - 1) + 1) (w.length - 1)) hw rfl (wy w m a n) [] (wy_ok hw n).2 ⟨List.nodup_nil, fun _ z => nomatch z⟩).2
  rw [show SS φ [] = 0 from rfl, Int.zero_add] at h
  exact h
end
theorem sum_flat (f : List Nat → Int) (a : List Nat) : ∀ l : List (List Nat), ((l.flatMap fun r => a.map fun c => r ++ [c]).map f).sum = (l.map fun r => (a.map fun c => f (r ++ [c])).sum).sum
  | [] => rfl
  | r :: l => by
    rw [List.flatMap_cons, List.map_append, List.sum_append_int, List.map_cons, List.sum_cons, sum_flat f a l, List.map_map]
    rfl
theorem pcs_app {t : List Nat} {c i L : Nat} (h : i + L ≤ t.length) : pcs (t ++ [c]) i L = pcs t i L := by
  unfold pcs
  rw [List.drop_append_of_le_length (by omega), List.take_append_of_le_length (by rw [List.length_drop]; omega)]
/-- one letter more: all pieces but the last one were there -/
theorem gb_snoc {w t : List Nat} {m : Nat} {c : Nat} (hw : 1 ≤ w.length) : Pu.Cm.gb w.length m w (t ++ [c]) = (Pu.Cm.gb w.length m w t && passB w ((m : Nat) : Int) (lsf w t ++ [c])) := by
  unfold Pu.Cm.gb
  have e1 : (t ++ [c]).length = t.length + 1 := by rw [List.length_append]; rfl
  by_cases h : t.length + 1 < w.length
  · have p0 : pz w.length (t ++ [c]) = [] := by
      unfold pz
      rw [e1, show t.length + 1 + 1 - w.length = 0 by omega]
      rfl
    have p1 : pz w.length t = [] := by
      unfold pz
      rw [show t.length + 1 - w.length = 0 by omega]
      rfl
    have ps : passB w ((m : Nat) : Int) (lsf w t ++ [c]) = true := by
      unfold passB lsf
      rw [decide_eq_true (by rw [List.length_append, List.length_drop]; show _ + 1 < _; omega), Bool.true_or]
    rw [p0, p1, ps]
    rfl
  · have p0 : pz w.length (t ++ [c]) = pz w.length t ++ [lsf w t ++ [c]] := by
      unfold pz
      rw [e1, show t.length + 1 + 1 - w.length = (t.length + 1 - w.length) + 1 by omega, List.range_succ, List.map_append]
      congr 1
      · exact List.map_congr_left fun i hi => pcs_app (by have := List.mem_range.mp hi; omega)
      · show [pcs (t ++ [c]) (t.length + 1 - w.length) w.length] = _
        unfold pcs lsf
        rw [List.drop_append_of_le_length (by omega)]
        rw [List.take_of_length_le (by rw [List.length_append, List.length_drop]; show _ + 1 ≤ _; omega)]
    have ll : (lsf w t ++ [c]).length = w.length := by
      rw [List.length_append]
      unfold lsf
      rw [List.length_drop]
      show _ + 1 = _
      omega
    rw [p0, List.filter_append]
    unfold passB Pu.Cm.keep
    rw [ll, decide_eq_false (Nat.lt_irrefl _), Bool.false_or]
    by_cases k : cnt (lsf w t ++ [c]) w ≤ m
    · rw [List.filter_cons_of_pos (by simpa using k), decide_eq_false (show ¬ ((cnt (lsf w t ++ [c]) w : Nat) : Int) > ((m : Nat) : Int) by omega), Bool.and_false]
      simp
    · rw [List.filter_cons_of_neg (by simpa using k), decide_eq_true (show ((cnt (lsf w t ++ [c]) w : Nat) : Int) > ((m : Nat) : Int) by omega), Bool.and_true, List.filter_nil, List.append_nil]
theorem lsf_snoc {w : List Nat} (hw : 1 ≤ w.length) (t : List Nat) (c : Nat) : lsf w (lsf w t ++ [c]) = lsf w (t ++ [c]) := by
  unfold lsf
  rw [List.length_append, List.length_append, List.length_drop]
  show (t.drop _ ++ [c]).drop (_ + 1 + 1 - _) = (t ++ [c]).drop (_ + 1 + 1 - _)
  by_cases h : t.length + 1 ≤ w.length
  · rw [show t.length + 1 - w.length = 0 by omega, List.drop_zero, Nat.sub_zero]
  · rw [List.drop_append, List.drop_append, List.drop_drop, List.length_drop]
    congr 1
    · congr 1
      omega
    · congr 1
      omega
section
variable {w a : List Nat} {m : Nat}
theorem wy_sum (hw : 1 ≤ w.length) : ∀ (n : Nat) (φ : List Nat → Int), SS φ (wy w ((m : Nat) : Int) a n) = ((allw a n).map fun t => if Pu.Cm.gb w.length m w t = true then φ (lsf w t) else 0).sum
  | 0, φ => by
    have g0 : Pu.Cm.gb w.length m w [] = true := by
      unfold Pu.Cm.gb pz
      rw [show ([] : List Nat).length + 1 - w.length = 0 by show 0 + 1 - _ = 0; omega]
      rfl
    have l0 : lsf w [] = [] := by
      unfold lsf
      rw [List.drop_nil]
    show SS φ [([], 1)] = ([if Pu.Cm.gb w.length m w [] = true then φ (lsf w []) else 0] : List Int).sum
    rw [g0, if_pos rfl, l0]
    show 1 * φ [] + 0 = φ [] + 0
    omega
  | n + 1, φ => by
    rw [wy_step hw, wy_sum hw n]
    show _ = (((allw a n).flatMap fun r => a.map fun c => r ++ [c]).map _).sum
    rw [sum_flat]
    refine congrArg List.sum (List.map_congr_left fun t _ => ?_)
    by_cases g : Pu.Cm.gb w.length m w t = true
    · rw [if_pos g]
      unfold psi
      refine congrArg List.sum (List.map_congr_left fun c _ => ?_)
      rw [gb_snoc hw, g, Bool.true_and, lsf_snoc hw]
    · rw [if_neg g]
      have : (a.map fun c => if Pu.Cm.gb w.length m w (t ++ [c]) = true then φ (lsf w (t ++ [c])) else 0) = a.map fun _ => (0 : Int) := List.map_congr_left fun c _ => by
        rw [gb_snoc hw, Bool.eq_false_iff.mpr g, Bool.false_and]
        rfl
      rw [this, List.map_const']
      have z : ∀ k : Nat, (List.replicate k (0 : Int)).sum = 0 := fun k => by
        induction k with
        | zero => rfl
        | succ k ih => rw [List.replicate_succ, List.sum_cons, ih]; rfl
      exact (z _).symm
/-- how many texts do not have it -/
def wo (w : List Nat) (m : Nat) (a : List Nat) (n : Nat) : Nat := ((allw a n).filter (Pu.Cm.gb w.length m w)).length
theorem sum_ind {α : Type} (p : α → Bool) : ∀ l : List α, (l.map fun t => if p t = true then (1 : Int) else 0).sum = (((l.filter p).length : Nat) : Int)
  | [] => rfl
  | x :: l => by
    rw [List.map_cons, List.sum_cons, sum_ind p l]
    by_cases h : p x = true
    · rw [if_pos h, List.filter_cons_of_pos h, List.length_cons]
      omega
    · rw [if_neg h, List.filter_cons_of_neg h]
      omega
theorem wy_total (hw : 1 ≤ w.length) (n : Nat) : ((wy w ((m : Nat) : Int) a n).map (·.2)).sum = ((wo w m a n : Nat) : Int) := by
  have h := wy_sum (m := m) (a := a) hw n fun _ => 1
  have e : SS (fun _ => 1) (wy w ((m : Nat) : Int) a n) = ((wy w ((m : Nat) : Int) a n).map (·.2)).sum := by
    unfold SS
    exact congrArg List.sum (List.map_congr_left fun p _ => Int.mul_one _)
  rw [← e, h, sum_ind]
  rfl
end
end Pu.Sh

namespace Pu.Sh
open PySem L2 Pu
/-! ### without, texts_with, share: what they compute -/
abbrev letB : SF := (sqS (asS 10 (op2 dAdd (vr 7) (vr 9))) (ifS (orT (tst (op2 dLt (opN cLen (argC (vr 10) argN)) (opN cLen (argC (vr 0) argN)))) (tst (op2 dGt (calF m_unlike (argC (vr 10) (argC (vr 0) argN))) (vr 1)))) (sqS (asS 11 (slF (vr 10) (soP (opN cMax (argC (cst (.int 0)) (argC (op2 dAdd (op2 dSub (opN cLen (argC (vr 10) argN)) (opN cLen (argC (vr 0) argN))) (cst (.int 1))) argN)))) noP)) (dpI 6 (vr 11) (op2 dAdd (gt2F (vr 6) (vr 11) (cst (.int 0))) (vr 8)))) nxS))
section
variable {w a : List Nat} {m : Int} {x2 x3 x4 x5 : Sl}
theorem dp_nx {ρ : SEnv} {i : Nat} {h k : F} {kvs : List (DK × D)} {v e : D} {q : DK} (h1 : ρ[i]? = some (.od kvs)) (hl : kvs.length < 1000000) (h2 : k (pkv ρ) = .ok v) (h3 : imm v = true) (h4 : h (pkv ρ) = .ok e) (h5 : keyOf e = some q) : dpI i h k ρ = .nx (ρ.set i (.od (putKD kvs q v))) := by
  unfold dpI
  rw [h1]
  show (if kvs.length < 1000000 then _ else _) = _
  rw [if_pos hl, h2]
  show (if imm v = true then _ else _) = _
  rw [if_pos h3, h4]
  show (match keyOf e with | some q => _ | none => _) = _
  rw [h5]
theorem g2_ok {f h k : F} {ε : Pu.Env} {d e x : D} {kvs : List (DK × D)} {q : DK} (h1 : f ε = .ok d) (h2 : dkv d = some kvs) (h3 : h ε = .ok e) (h4 : k ε = .ok x) (h5 : keyOf e = some q) : gt2F f h k ε = .ok ((valD kvs q).getD x) := by
  unfold gt2F
  rw [h1, Res.bind_ok, h2, ofO_some, Res.bind_ok, h3, Res.bind_ok, h4, Res.bind_ok, h5]
  rfl
theorem let_loop {e : List Nat} {c : Int} {s : Nat} (ha : a.length ≤ 4) (hw : 1 ≤ w.length) (hw2 : w.length ≤ 5) (he : ∀ x ∈ e, x ∈ a) (hs : s = min (e.length + 1) (w.length - 1)) (hel : e.length ≤ 4) : ∀ (l : List Nat) (acc : KV2) (y9 y10 y11 : Sl), (∀ x ∈ l, x ∈ a) → KOk a s acc →
    ∃ y9' y10' y11', forGo (.nm 9) letB (l.map fun x => D.str [x]) [.sh (.str w), .sh (.int m), x2, x3, x4, x5, .od (enc acc), .sh (.str e), .sh (.int c), y9, y10, y11] = .nx [.sh (.str w), .sh (.int m), x2, x3, x4, x5, .od (enc (l.foldl (stepL w m e c) acc)), .sh (.str e), .sh (.int c), y9', y10', y11']
  | [], acc, y9, y10, y11, _, _ => ⟨y9, y10, y11, rfl⟩
  | x :: l, acc, y9, y10, y11, hl, h => by
    have hacc := h.few ha (by omega)
    have st := (fold_in (φ := fun _ => 0) (m := m) (c := c) hw he hs [x] acc (fun y hy => by rw [List.mem_singleton.mp hy]; exact hl x List.mem_cons_self) h).1
    have ql : (e ++ [x]).length = e.length + 1 := by rw [List.length_append]; rfl
    have ad : dAdd (.str e) (.str [x]) = some (.str (e ++ [x])) := if_pos (by show e.length + 1 ≤ _; omega)
    have tt : ∀ y11 : Sl, (orT (tst (op2 dLt (opN cLen (argC (vr 10) argN)) (opN cLen (argC (vr 0) argN)))) (tst (op2 dGt (calF m_unlike (argC (vr 10) (argC (vr 0) argN))) (vr 1)))) (pkv [.sh (.str w), .sh (.int m), x2, x3, x4, x5, .od (enc acc), .sh (.str e), .sh (.int c), .sh (.str [x]), .sh (.str (e ++ [x])), y11]) = .ok (passB w m (e ++ [x])) := fun y11 => by
      unfold passB
      refine tOr (x := decide ((e ++ [x]).length < w.length)) (y := decide (((cnt (e ++ [x]) w : Nat) : Int) > m)) ?_ fun _ => tB (e2 ((eK rfl).trans (unlike_ok (by omega))) rfl rfl)
      refine (tB (e2 (eN (eC rfl rfl) (lenq (by omega))) (eN (eC rfl rfl) (lenq (by omega))) rfl)).trans (congrArg Res.ok ?_)
      exact decide_eq_decide.mpr (by omega)
    rw [List.map_cons]
    by_cases p : passB w m (e ++ [x]) = true
    · have es : stepL w m e c acc x = pt acc (lsf w (e ++ [x])) c := if_pos p
      obtain ⟨y9', y10', y11', ih⟩ := let_loop ha hw hw2 he hs hel l (stepL w m e c acc x) (.sh (.str [x])) (.sh (.str (e ++ [x]))) (.sh (.str (lsf w (e ++ [x])))) (fun y hy => hl y (List.mem_cons_of_mem _ hy)) st
      refine ⟨y9', y10', y11', ?_⟩
      rw [for_cons (ps := [(9, .str [x])]) (ρ' := [.sh (.str w), .sh (.int m), x2, x3, x4, x5, .od (enc (stepL w m e c acc x)), .sh (.str e), .sh (.int c), .sh (.str [x]), .sh (.str (e ++ [x])), .sh (.str (lsf w (e ++ [x])))]) rfl, ih, List.foldl_cons]
      refine (sq_nx (as_nx (e2 rfl rfl ad))).trans ((if_yes ((tt y11).trans (congrArg Res.ok p))).trans ?_)
      have mx : cMax [.int 0, .int (((e ++ [x]).length : Nat) - ((w.length : Nat) : Int) + 1)] = some (.int (((e ++ [x]).length + 1 - w.length : Nat) : Int)) := by
        show some (D.int (if (((e ++ [x]).length : Nat) : Int) - ((w.length : Nat) : Int) + 1 > 0 then _ else _)) = _
        congr 2
        split <;> omega
      have cu : dSl (.str (e ++ [x])) (some (((e ++ [x]).length + 1 - w.length : Nat) : Int)) none = some (.str (lsf w (e ++ [x]))) := (slq (by omega)).trans (by rw [cut_from (by omega)]; rfl)
      refine (sq_nx (as_nx (eS rfl (eP (eN (eC rfl (eC (e2 (e2 (eN (eC rfl rfl) (lenq (by omega))) (eN (eC rfl rfl) (lenq (by omega))) rfl) rfl rfl) rfl)) mx)) rfl cu))).trans ?_
      refine (dp_nx (kvs := enc acc) (v := .int (gtc acc (lsf w (e ++ [x])) + c)) (e := .str (lsf w (e ++ [x]))) (q := .inr (lsf w (e ++ [x]))) rfl (by unfold enc; rw [List.length_map]; omega) (e2 ((g2_ok (d := .dco (enc acc)) rfl rfl rfl rfl rfl).trans (by rw [get_enc])) rfl rfl) rfl rfl rfl).trans ?_
      rw [put_enc, es]
      rfl
    · have es : stepL w m e c acc x = acc := if_neg p
      obtain ⟨y9', y10', y11', ih⟩ := let_loop ha hw hw2 he hs hel l (stepL w m e c acc x) (.sh (.str [x])) (.sh (.str (e ++ [x]))) y11 (fun y hy => hl y (List.mem_cons_of_mem _ hy)) st
      refine ⟨y9', y10', y11', ?_⟩
      rw [for_cons (ps := [(9, .str [x])]) (ρ' := [.sh (.str w), .sh (.int m), x2, x3, x4, x5, .od (enc (stepL w m e c acc x)), .sh (.str e), .sh (.int c), .sh (.str [x]), .sh (.str (e ++ [x])), y11]) rfl, ih, List.foldl_cons]
      refine (sq_nx (as_nx (e2 rfl rfl ad))).trans ((if_nx ((tt y11).trans (congrArg Res.ok (Bool.eq_false_iff.mpr p)))).trans ?_)
      rw [es]
theorem itm_loop {s s' : Nat} (ha : a.length ≤ 4) (hw : 1 ≤ w.length) (hw2 : w.length ≤ 5) (hs : s' = min (s + 1) (w.length - 1)) (hsl : s ≤ 4) (q3 : x3 = .sh (.str a)) : ∀ (l acc : KV2) (y7 y8 y9 y10 y11 : Sl), (∀ k ∈ l.map (·.1), k.length = s ∧ ∀ c ∈ k, c ∈ a) → KOk a s' acc →
    ∃ y7' y8' y9' y10' y11', forGo (.tp [7, 8]) (forS (itF (vr 3)) (.nm 9) letB) (l.map fun p => D.tup [.str p.1, .int p.2]) [.sh (.str w), .sh (.int m), x2, x3, x4, x5, .od (enc acc), y7, y8, y9, y10, y11] = .nx [.sh (.str w), .sh (.int m), x2, x3, x4, x5, .od (enc (l.foldl (fun acc p => a.foldl (stepL w m p.1 p.2) acc) acc)), y7', y8', y9', y10', y11']
  | [], acc, y7, y8, y9, y10, y11, _, _ => ⟨y7, y8, y9, y10, y11, rfl⟩
  | p :: l, acc, y7, y8, y9, y10, y11, hl, h => by
    obtain ⟨p1, p2⟩ := hl p.1 List.mem_cons_self
    obtain ⟨z9, z10, z11, e1⟩ := let_loop (m := m) (c := p.2) (x2 := x2) (x3 := x3) (x4 := x4) (x5 := x5) ha hw hw2 p2 (by rw [p1]; exact hs) (by omega) a acc y9 y10 y11 (fun x hx => hx) h
    have j1 := (fold_in (φ := fun _ => 0) (m := m) (c := p.2) hw p2 (by rw [p1]; exact hs) a acc (fun x hx => hx) h).1
    obtain ⟨y7', y8', y9', y10', y11', ih⟩ := itm_loop ha hw hw2 hs hsl q3 l (a.foldl (stepL w m p.1 p.2) acc) (.sh (.str p.1)) (.sh (.int p.2)) z9 z10 z11 (fun k hk => hl k (List.mem_cons_of_mem _ hk)) j1
    refine ⟨y7', y8', y9', y10', y11', ?_⟩
    rw [List.map_cons, for_cons (ps := [(7, .str p.1), (8, .int p.2)]) (ρ' := [.sh (.str w), .sh (.int m), x2, x3, x4, x5, .od (enc (a.foldl (stepL w m p.1 p.2) acc)), .sh (.str p.1), .sh (.int p.2), z9, z10, z11]) rfl, ih, List.foldl_cons]
    refine (for_go (ds := a.map fun x => D.str [x]) ?_).trans e1
    subst q3
    rfl
theorem out_loop (ha : a.length ≤ 4) (hw : 1 ≤ w.length) (hw2 : w.length ≤ 5) : ∀ (l : List Nat) (n : Nat) (y5 y6 y7 y8 y9 y10 y11 : Sl),
    ∃ y5' y6' y7' y8' y9' y10' y11', forGo (.nm 5) (sqS (ndS 6) (sqS (forS (itI (vr 4)) (.tp [7, 8]) (forS (itF (vr 3)) (.nm 9) letB)) (fdS 6 (asS 4 (vr 6))))) (l.map fun i => D.int (i : Nat)) [.sh (.str w), .sh (.int m), x2, .sh (.str a), .sh (.dct (enc (wy w m a n))), y5, y6, y7, y8, y9, y10, y11] = .nx [.sh (.str w), .sh (.int m), x2, .sh (.str a), .sh (.dct (enc (wy w m a (n + l.length)))), y5', y6', y7', y8', y9', y10', y11']
  | [], n, y5, y6, y7, y8, y9, y10, y11 => ⟨y5, y6, y7, y8, y9, y10, y11, rfl⟩
  | i :: l, n, y5, y6, y7, y8, y9, y10, y11 => by
    have wk := wy_ok (m := m) (a := a) hw n
    obtain ⟨z7, z8, z9, z10, z11, e1⟩ := itm_loop (m := m) (x2 := x2) (x3 := .sh (.str a)) (x4 := .sh (.dct (enc (wy w m a n)))) (x5 := .sh (.int (i : Nat))) ha hw hw2 (s' := min (min n (w.length - 1) + 1) (w.length - 1)) rfl (by omega) rfl (wy w m a n) [] y7 y8 y9 y10 y11 wk.2 ⟨List.nodup_nil, fun _ z => nomatch z⟩
    obtain ⟨y5', y6', y7', y8', y9', y10', y11', ih⟩ := out_loop ha hw hw2 l (n + 1) (.sh (.int (i : Nat))) (.sh (.dct (enc (wy w m a (n + 1))))) z7 z8 z9 z10 z11
    refine ⟨y5', y6', y7', y8', y9', y10', y11', ?_⟩
    have ej : n + (i :: l).length = n + 1 + l.length := by show n + (l.length + 1) = _; omega
    rw [List.map_cons, for_cons (ps := [(5, .int (i : Nat))]) (ρ' := [.sh (.str w), .sh (.int m), x2, .sh (.str a), .sh (.dct (enc (wy w m a (n + 1)))), .sh (.int (i : Nat)), .sh (.dct (enc (wy w m a (n + 1)))), z7, z8, z9, z10, z11]) rfl, ih, ej]
    refine (sq_nx (show ndS 6 _ = .nx [.sh (.str w), .sh (.int m), x2, .sh (.str a), .sh (.dct (enc (wy w m a n))), .sh (.int (i : Nat)), .od (enc []), y7, y8, y9, y10, y11] from rfl)).trans ?_
    refine (sq_nx ((for_go (ds := (wy w m a n).map fun p => D.tup [.str p.1, .int p.2]) ?_).trans e1)).trans ?_
    · show (itI (vr 4)) _ = _
      unfold itI
      show (Res.ok (D.dct (enc (wy w m a n)))).bind _ = _
      rw [Res.bind_ok]
      show Res.ok ((enc (wy w m a n)).map fun p => D.tup [kOf p.1, p.2]) = _
      unfold enc
      rw [List.map_map]
      rfl
    · rfl
end
theorem without_ok {w a : List Nat} {m n : Nat} (ha : a.length ≤ 4) (hw : 1 ≤ w.length) (hw2 : w.length ≤ 5) (hn : n < 2 ^ 60) : m_without [.str w, .int (m : Nat), .int (n : Nat), .str a] = .ok (.int ((wo w m a n : Nat) : Int)) := by
  obtain ⟨y5', y6', y7', y8', y9', y10', y11', e⟩ := out_loop (m := ((m : Nat) : Int)) (x2 := .sh (.int (n : Nat))) ha hw hw2 (List.range n) 0 .no .no .no .no .no .no .no
  rw [List.length_range, Nat.zero_add] at e
  refine dm rfl (sq_to (as_nx (d := .dct [(.inr [], .int 1)]) rfl) (sq_to ((for_go (ds := (List.range n).map fun i => D.int (i : Nat)) ((eR rfl (by omega)).trans (by rw [rgD_nat]))).trans e) (re_to (e1 rfl ?_))))
  show (intsOf ((enc (wy w ((m : Nat) : Int) a n)).map (·.2))).map _ = _
  have e1 : (enc (wy w ((m : Nat) : Int) a n)).map (·.2) = ((wy w ((m : Nat) : Int) a n).map (·.2)).map D.int := by
    unfold enc
    rw [List.map_map, List.map_map]
    rfl
  rw [e1, intsOf_map]
  show some (D.int _) = _
  rw [wy_total hw]
theorem al_case {a w : List Nat} {m n : Nat} (ha : a ∈ A4) (hw : plainB (.str w) = true) (hi : ∀ c ∈ w, c ∈ a) (h5 : w.length ≤ 5) (hm : m ≤ w.length) (hn : 1 ≤ n ∧ n ≤ 60) : m_need_case [.str w, .int (m : Nat), .int (n : Nat), .str a] = .ok .non := by
  have lw := plain_ok hw
  refine dm rfl (sq_to (ex_nx ((eK rfl).trans (need_al ha))) (sq_to (ex_nx ((eK rfl).trans (need_word_ok ha hw hi))) (sq_to (if_nx ((tB (e2 (eN (eC rfl rfl) (lenq (by omega))) rfl rfl)).trans (congrArg Res.ok (decide_eq_false (by omega))))) (sq_to (ex_nx ((nn2 rfl (eC rfl (eC (eN (eC rfl rfl) (lenq (by omega))) rfl))).trans (need_number_ok (d := .int (m : Nat)) trivial (num_in (by omega) (by omega))))) ?_))))
  exact (congrArg outR (ex_nx ((nn3 rfl rfl).trans (need_number_ok (d := .int (n : Nat)) trivial (num_in (by omega) (by omega)))))).trans rfl
theorem plain_pos {w : List Nat} (h : plainB (.str w) = true) : 1 ≤ w.length := of_decide_eq_true (Bool.and_eq_true_iff.mp h).1
theorem pw_small {b n : Nat} (hb : b ≤ 4) (hn : n ≤ 1000) : b ^ n < 2 ^ 3000 :=
  Nat.lt_of_le_of_lt (Nat.pow_le_pow_left hb n) (by
    rw [show (4 : Nat) = 2 ^ 2 from rfl, ← Nat.pow_mul]
    exact Nat.pow_lt_pow_right (by decide) (by omega))
theorem wo_le (w : List Nat) (m : Nat) (a : List Nat) (n : Nat) : wo w m a n ≤ a.length ^ n := by
  have h : (allw a n).length = a.length ^ n := by
    induction n with
    | zero => rfl
    | succ n ih =>
      show ((allw a n).flatMap fun r => a.map fun c => r ++ [c]).length = _
      have key : ∀ l : List (List Nat), (l.flatMap fun r => a.map fun c => r ++ [c]).length = l.length * a.length := by
        intro l
        induction l with
        | nil => show 0 = 0 * _; omega
        | cons r l ihl => rw [List.flatMap_cons, List.length_append, List.length_map, ihl, List.length_cons, Nat.add_mul, Nat.one_mul]; omega
      rw [key, ih, Nat.pow_succ]
  rw [← h]
  exact List.length_filter_le _ _
theorem allw_card (a : List Nat) : ∀ n, (allw a n).length = a.length ^ n
  | 0 => rfl
  | n + 1 => by
    show ((allw a n).flatMap fun r => a.map fun c => r ++ [c]).length = _
    have key : ∀ l : List (List Nat), (l.flatMap fun r => a.map fun c => r ++ [c]).length = l.length * a.length := by
      intro l
      induction l with
      | nil => show 0 = 0 * _; omega
      | cons r l ihl => rw [List.flatMap_cons, List.length_append, List.length_map, ihl, List.length_cons, Nat.add_mul, Nat.one_mul]; omega
    rw [key, allw_card a n, Nat.pow_succ]
/-- how many texts have it -/
def wi (w : List Nat) (m : Nat) (a : List Nat) (n : Nat) : Nat := ((allw a n).filter fun t => !Pu.Cm.gb w.length m w t).length
theorem wi_wo (w : List Nat) (m : Nat) (a : List Nat) (n : Nat) : wi w m a n + wo w m a n = a.length ^ n := by
  unfold wi wo
  have := filter_parts (Pu.Cm.gb w.length m w) (allw a n)
  rw [allw_card] at this
  omega
theorem texts_with_ok {a w : List Nat} {m n : Nat} (ha : a ∈ A4) (hw : plainB (.str w) = true) (hi : ∀ c ∈ w, c ∈ a) (h5 : w.length ≤ 5) (hm : m ≤ w.length) (hn : 1 ≤ n ∧ n ≤ 60) : m_texts_with [.str w, .int (m : Nat), .int (n : Nat), .str a] = .ok (.int ((wi w m a n : Nat) : Int)) := by
  have al := al_len a ha
  have pw := power_ok (b := a.length) (n := n) (by omega) (Nat.lt_of_lt_of_le (show a.length < 2 ^ 3 by show _ < 8; omega) (Nat.pow_le_pow_right (by decide) (by decide))) (by omega) (pw_small (by omega) (by omega))
  have s := wi_wo w m a n
  have e : ((a.length ^ n : Nat) : Int) - ((wo w m a n : Nat) : Int) = ((wi w m a n : Nat) : Int) := by omega
  exact dm rfl (sq_to (ex_nx ((eK rfl).trans (al_case ha hw hi h5 hm hn))) (re_to ((e2 ((eK (eC (eN (eC rfl rfl) (lenq (by omega))) (eC rfl rfl))).trans pw) ((eK rfl).trans (without_ok (by omega) (plain_pos hw) h5 (by omega))) rfl).trans (by rw [e]))))

/-! ### in lowest terms -/
theorem fdivB {i j : Int} (h : 0 < j) (k : j < ((2 ^ 200 : Nat) : Int)) : dFdiv (.int i) (.int j) = some (.int (i / j)) := if_pos ⟨h, Int.lt_of_lt_of_le k (by
  have : (2 ^ 200 : Nat) ≤ 2 ^ 4000 := Nat.pow_le_pow_right (by decide) (by decide)
  exact Int.ofNat_le.mpr this)⟩
abbrev gcB : SF := (paS 7 8 (.s (vr 8)) (.s (op2 dMod (vr 7) (vr 8))))
abbrev gcC : T := (tst (op2 dGt (vr 8) (cst (.int 0))))
theorem gc_loop {x0 x1 x2 x3 x4 x5 x6 : Sl} : ∀ (k x y F : Nat), y < 2 ^ k → 2 * k < F → ∃ F', whGo gcC gcB F [x0, x1, x2, x3, x4, x5, x6, .sh (.int (x : Nat)), .sh (.int (y : Nat))] = .nx [x0, x1, x2, x3, x4, x5, x6, .sh (.int ((Nat.gcd x y : Nat) : Int)), .sh (.int 0)] ∧ F' = F
  | 0, x, y, F, hy, hF => by
    have y0 : y = 0 := by
      have : y < 1 := hy
      omega
    subst y0
    obtain ⟨G, rfl⟩ : ∃ G, F = G + 1 := ⟨F - 1, by omega⟩
    refine ⟨_, ?_, rfl⟩
    rw [Nat.gcd_zero_right]
    exact wh_no (tB (e2 rfl rfl rfl))
  | k + 1, x, y, F, hy, hF => by
    obtain ⟨G, rfl⟩ : ∃ G, F = G + 1 + 1 := ⟨F - 2, by omega⟩
    by_cases y0 : y = 0
    · subst y0
      refine ⟨_, ?_, rfl⟩
      rw [Nat.gcd_zero_right]
      exact wh_no (tB (e2 rfl rfl rfl))
    · have st : ∀ (x y : Nat), 0 < y → ∀ n, whGo gcC gcB (n + 1) [x0, x1, x2, x3, x4, x5, x6, .sh (.int (x : Nat)), .sh (.int (y : Nat))] = whGo gcC gcB n [x0, x1, x2, x3, x4, x5, x6, .sh (.int (y : Nat)), .sh (.int ((x % y : Nat) : Int))] := fun x y hp n => by
        refine wh_yes ((tB (e2 rfl rfl rfl)).trans (congrArg Res.ok (decide_eq_true (by omega)))) ?_
        refine (par_nx (zs_ok (d := .int (y : Nat)) rfl) (zs_ok (d := .int (((x : Nat) : Int) % ((y : Nat) : Int))) (e2 rfl rfl (modq (by omega))))).trans ?_
        have e : ((x : Nat) : Int) % ((y : Nat) : Int) = ((x % y : Nat) : Int) := by simp
        rw [e]
        rfl
      rw [st x y (by omega)]
      have g1 : Nat.gcd x y = Nat.gcd y (x % y) := by rw [Nat.gcd_comm x y, Nat.gcd_rec y x, Nat.gcd_comm]
      by_cases r0 : x % y = 0
      · refine ⟨_, ?_, rfl⟩
        rw [g1, r0, Nat.gcd_zero_right]
        exact wh_no (tB (e2 rfl rfl rfl))
      · have lt : x % y < y := Nat.mod_lt _ (by omega)
        rw [st y (x % y) (by omega)]
        have g2 : Nat.gcd y (x % y) = Nat.gcd (x % y) (y % (x % y)) := by rw [Nat.gcd_comm y, Nat.gcd_rec (x % y) y, Nat.gcd_comm]
        have half : y % (x % y) < 2 ^ k := by
          have h1 : y % (x % y) < x % y := Nat.mod_lt _ (by omega)
          have h2 := Nat.div_add_mod y (x % y)
          have h3 : 1 ≤ y / (x % y) := Nat.div_pos (by omega) (by omega)
          have h4 : x % y ≤ (x % y) * (y / (x % y)) := Nat.le_mul_of_pos_right _ h3
          rw [Nat.pow_succ] at hy
          omega
        obtain ⟨F', e, _⟩ := gc_loop (x0 := x0) (x1 := x1) (x2 := x2) (x3 := x3) (x4 := x4) (x5 := x5) (x6 := x6) k (x % y) (y % (x % y)) G half (by omega)
        refine ⟨_, ?_, rfl⟩
        rw [e, g1, g2]
theorem share_ok {a w : List Nat} {m n : Nat} (ha : a ∈ A4) (hw : plainB (.str w) = true) (hi : ∀ c ∈ w, c ∈ a) (h5 : w.length ≤ 5) (hm : m ≤ w.length) (hn : 1 ≤ n ∧ n ≤ 60) :
    m_share [.str w, .int (m : Nat), .int (n : Nat), .str a] = .ok (.tup [.int ((wi w m a n / Nat.gcd (wi w m a n) (a.length ^ n) : Nat) : Int), .int ((a.length ^ n / Nat.gcd (wi w m a n) (a.length ^ n) : Nat) : Int)]) := by
  have al := al_len a ha
  have pw := power_ok (b := a.length) (n := n) (by omega) (Nat.lt_of_lt_of_le (show a.length < 2 ^ 3 by show _ < 8; omega) (Nat.pow_le_pow_right (by decide) (by decide))) (by omega) (pw_small (by omega) (by omega))
  have s := wi_wo w m a n
  have e : ((a.length ^ n : Nat) : Int) - ((wo w m a n : Nat) : Int) = ((wi w m a n : Nat) : Int) := by omega
  have small : a.length ^ n < 2 ^ 200 := Nat.lt_of_le_of_lt (Nat.pow_le_pow_left (show a.length ≤ 2 ^ 2 by show _ ≤ 4; omega) n) (by
    rw [← Nat.pow_mul]
    exact Nat.pow_lt_pow_right (by decide) (by omega))
  obtain ⟨F', g, _⟩ := gc_loop (x0 := .sh (.str w)) (x1 := .sh (.int (m : Nat))) (x2 := .sh (.int (n : Nat))) (x3 := .sh (.str a)) (x4 := .sh (.int ((a.length ^ n : Nat) : Int))) (x5 := .sh (.int ((wi w m a n : Nat) : Int))) (x6 := .sh (.int ((a.length ^ n : Nat) : Int))) 200 (wi w m a n) (a.length ^ n) 1000 small (by decide)
  have gp : 0 < Nat.gcd (wi w m a n) (a.length ^ n) := Nat.gcd_pos_of_pos_right _ (Nat.pow_pos (by omega))
  have fd : ∀ x g : Nat, 0 < g → g < 2 ^ 200 → dFdiv (.int (x : Nat)) (.int (g : Nat)) = some (.int ((x / g : Nat) : Int)) := fun x g h1 h2 => by
    have e : ((x : Nat) : Int) / ((g : Nat) : Int) = ((x / g : Nat) : Int) := by simp
    rw [← e]
    exact fdivB (by omega) (by
      have : ((g : Nat) : Int) < ((2 ^ 200 : Nat) : Int) := by omega
      exact this)
  have gl : Nat.gcd (wi w m a n) (a.length ^ n) < 2 ^ 200 := Nat.lt_of_le_of_lt (Nat.le_of_dvd (Nat.pow_pos (by omega)) (Nat.gcd_dvd_right _ _)) small
  refine dm rfl (sq_to (ex_nx ((eK rfl).trans (al_case ha hw hi h5 hm hn))) (sq_to (as_nx ((eK (eC (eN (eC rfl rfl) (lenq (by omega))) (eC rfl rfl))).trans pw)) (sq_to (par_nx (zs_ok (d := .int ((wi w m a n : Nat) : Int)) ((e2 rfl ((eK rfl).trans (without_ok (by omega) (plain_pos hw) h5 (by omega))) rfl).trans (by rw [e]))) (zs_ok (d := .int ((a.length ^ n : Nat) : Int)) rfl)) (sq_to (par_nx (zs_ok (d := .int ((wi w m a n : Nat) : Int)) rfl) (zs_ok (d := .int ((a.length ^ n : Nat) : Int)) rfl)) (sq_to g (re_to (eTu (eC (e2 rfl rfl (fd _ _ gp gl)) (eC (e2 rfl rfl (fd _ _ gp gl)) rfl)) (Nat.le_of_ble_eq_true rfl))))))))
end Pu.Sh

namespace Pu
open PySem PySem.Spec PyProof.Rows L2 Evl
/-! ### text.index(sign) -/
def dSIndex : D → D → Option D
  | .str a, .str b => match Builtin.Str.occurrences (sOf a) (sOf b) 0 (sOf a).length 1 with
    | i :: _ => some (.int (i : Nat))
    | [] => none
  | _, _ => none
section
variable {X : Cx} {xa : Xa} {W : WX} {o e : Expr} {f g : F} {pos apos : Pos}
theorem p_sindex (ho : Pe X xa W o f) (he : Pe X xa W e g) (hbase : attributeBase o "index" X.env (eval o X.env) = eval o X.env := by rfl)
    (hfew : ((backTo pos (starEach [e] X.env)).all (fun x => !x.1) && (backToKw pos (keywordEach [] X.env)).all (fun x => x.1.isSome) && decide (([e] : List Expr).length + ([] : List Keyword).length + (if ([] : List Keyword).isEmpty then 0 else 1) < 30)) = true := by rfl)
    (hline : (apos.endLine == pos.line) = true := by rfl) (hs : starEach [e] X.env = [(false, eval e X.env)] := by rfl) : Pe X xa W (.Call (.Attribute o "index" apos) [e] [] pos) (mt1 tyStr dSIndex f g) := by
  refine PE.imp (pe_bm PySem.F.plainAttrs_str PySem.F.slot_str_index PySem.F.type_str_index mt_sindex ho (pa_cons he pa_nil hs) hbase hfew hline hs) fun σ H Q hq => ?_
  obtain ⟨Hb, ρ, le, re, p⟩ := hq
  refine ⟨Hb, ρ, le, re, post_bind le p fun d v B1 H1 e1 g1 r1 p1 => ?_⟩
  cases r1 with
  | @str l hl =>
    refine ⟨rfl, B1, ρ, g1.le, re.mono g1.bup, post_bind g1.le p1 fun d2 v2 B2 H2 e2 g2 r2 p2 => ?_⟩
    cases r2 with
    | @str m hm =>
      obtain ⟨z, hz, p3⟩ := ofO_some_of p2
      have hz : (match Builtin.Str.occurrences (sOf l) (sOf m) 0 (sOf l).length 1 with | i :: _ => some (D.int (i : Nat)) | [] => none) = some z := hz
      cases hc : Builtin.Str.occurrences (sOf l) (sOf m) 0 (sOf l).length 1 with
      | nil => rw [hc] at hz; cases hz
      | cons i rest =>
        rw [hc] at hz
        cases hz
        exact ⟨sOf l, sOf m, i, rest, rfl, rfl, hc, post_here g2.le p3 (.int _)⟩
    | _ => exact p2.elim
  | _ => exact p1.elim
end
/-- the next letter of an alphabet, round and round -/
def nxl (a : List Nat) (c : Nat) : Nat := a.getD ((a.idxOf c + 1) % a.length) 0
theorem occ_ok : ∀ a ∈ A4, ∀ c ∈ a, Builtin.Str.occurrences (sOf a) (sOf [c]) 0 (sOf a).length 1 = [a.idxOf c] := by decide +kernel
theorem sindex_ok {a : List Nat} (ha : a ∈ A4) {c : Nat} (hc : c ∈ a) : dSIndex (.str a) (.str [c]) = some (.int (a.idxOf c : Nat)) := by
  show (match Builtin.Str.occurrences (sOf a) (sOf [c]) 0 (sOf a).length 1 with | i :: _ => some (D.int (i : Nat)) | [] => none) = _
  rw [occ_ok a ha c hc]
end Pu

namespace Pu.Sh
open PySem L2 Pu
/-! ### texts turned round, letters exchanged: as many -/
theorem allw_mem {a u : List Nat} {n : Nat} : u ∈ allw a n ↔ u.length = n ∧ ∀ c ∈ u, c ∈ a :=
  ⟨fun h => ⟨allw_len h, allw_in h⟩, fun h => by rw [← h.1]; exact allw_all h.2⟩
theorem allw_nodup {a : List Nat} (h : a.Pairwise (· < ·)) (n : Nat) : (allw a n).Nodup := (allw_sorted h n).imp fun {x y} h e => by
  rw [e] at h
  exact List.lt_irrefl _ h
/-- a way to and fro -/
theorem allw_perm {a : List Nat} (hs : a.Pairwise (· < ·)) {n : Nat} {f : List Nat → List Nat} (h1 : ∀ u ∈ allw a n, f u ∈ allw a n) (h2 : ∀ u ∈ allw a n, ∀ v ∈ allw a n, f u = f v → u = v) (h3 : ∀ v ∈ allw a n, ∃ u ∈ allw a n, f u = v) : ((allw a n).map f).Perm (allw a n) := by
  have nd := allw_nodup hs n
  refine (List.perm_ext_iff_of_nodup ?_ nd).mpr fun x => ⟨fun h => ?_, fun h => ?_⟩
  · have key : ∀ l : List (List Nat), l.Nodup → (∀ u ∈ l, u ∈ allw a n) → (l.map f).Nodup := by
      intro l
      induction l with
      | nil => exact fun _ _ => List.nodup_nil
      | cons u l ih =>
        intro nl hl
        have n2 := List.nodup_cons.mp nl
        rw [List.map_cons]
        refine List.nodup_cons.mpr ⟨fun z => ?_, ih n2.2 fun v hv => hl v (List.mem_cons_of_mem _ hv)⟩
        obtain ⟨v, hv, e⟩ := List.mem_map.mp z
        have := h2 v (hl v (List.mem_cons_of_mem _ hv)) u (hl u List.mem_cons_self) e
        rw [this] at hv
        exact n2.1 hv
    exact key _ nd fun u h => h
  · obtain ⟨u, hu, rfl⟩ := List.mem_map.mp h
    exact h1 u hu
  · obtain ⟨u, hu, rfl⟩ := h3 x h
    exact List.mem_map.mpr ⟨u, hu, rfl⟩
theorem count_map {l : List (List Nat)} {f : List Nat → List Nat} {p : List Nat → Bool} (h : (l.map f).Perm l) : (l.filter p).length = (l.filter fun u => p (f u)).length := by
  have e := (h.filter p).length_eq
  rw [List.filter_map, List.length_map] at e
  exact e.symm
theorem gb_iff {L m : Nat} {u t : List Nat} : Pu.Cm.gb L m u t = true ↔ ∀ i, i + L ≤ t.length → m < cnt (pcs t i L) u := by
  unfold Pu.Cm.gb
  rw [List.isEmpty_iff, List.filter_eq_nil_iff]
  constructor
  · intro h i hi
    have := h (pcs t i L) (List.mem_map.mpr ⟨i, List.mem_range.mpr (by omega), rfl⟩)
    unfold Pu.Cm.keep at this
    have := of_decide_eq_false (Bool.eq_false_iff.mpr this)
    omega
  · intro h p hp
    obtain ⟨i, hi, rfl⟩ := List.mem_map.mp hp
    have hi := List.mem_range.mp hi
    by_cases c : i + L ≤ t.length
    · have := h i c
      unfold Pu.Cm.keep
      rw [decide_eq_false (by omega)]
      exact Bool.false_ne_true
    · omega
theorem cnt_rev : ∀ {p w : List Nat}, p.length = w.length → cnt p.reverse w.reverse = cnt p w
  | [], [], _ => rfl
  | [], _ :: _, h => by cases h
  | _ :: _, [], h => by cases h
  | x :: p, y :: w, h => by
    have h := Nat.succ.inj h
    rw [List.reverse_cons, List.reverse_cons, cnt_app _ _ (by rw [List.length_reverse, List.length_reverse, h]), cnt_rev h, Pu.Ct.cnt_cons x y p w]
    have e : cnt [x] [y] = if x = y then 0 else 1 := by
      rw [Pu.Ct.cnt_cons]
      rfl
    rw [e]
    omega
theorem pcs_rev {t : List Nat} {i L : Nat} (h : i + L ≤ t.length) : pcs t.reverse i L = (pcs t (t.length - L - i) L).reverse := by
  unfold pcs
  refine List.ext_getElem? fun k => ?_
  have ll : ((t.drop (t.length - L - i)).take L).length = L := by rw [List.length_take, List.length_drop]; omega
  by_cases hk : k < L
  · have e1 : ((t.drop (t.length - L - i)).take L).reverse[k]? = ((t.drop (t.length - L - i)).take L)[L - 1 - k]? := by
      rw [List.getElem?_reverse (by rw [ll]; exact hk), ll]
    rw [e1, List.getElem?_take_of_lt hk, List.getElem?_drop, List.getElem?_reverse (by omega), List.getElem?_take_of_lt (by omega), List.getElem?_drop]
    congr 1
    omega
  · rw [List.getElem?_eq_none (by rw [List.length_take]; omega), List.getElem?_eq_none (by rw [List.length_reverse, ll]; omega)]
theorem gb_rev {L m : Nat} {w t : List Nat} (h : w.length = L) : Pu.Cm.gb L m w.reverse t.reverse = Pu.Cm.gb L m w t := by
  have key : ∀ w t : List Nat, w.length = L → Pu.Cm.gb L m w t = true → Pu.Cm.gb L m w.reverse t.reverse = true := fun w t h g => by
    rw [gb_iff] at g ⊢
    intro i hi
    rw [List.length_reverse] at hi
    rw [pcs_rev hi, cnt_rev (by rw [pcs_len (by omega), h])]
    exact g _ (by omega)
  refine Bool.eq_iff_iff.mpr ⟨fun g => ?_, key w t h⟩
  have := key w.reverse t.reverse (by rw [List.length_reverse, h]) g
  rw [List.reverse_reverse, List.reverse_reverse] at this
  exact this
theorem cnt_map {f : Nat → Nat} {a : List Nat} (hf : ∀ c ∈ a, ∀ d ∈ a, f c = f d → c = d) : ∀ {p w : List Nat}, (∀ c ∈ p, c ∈ a) → (∀ c ∈ w, c ∈ a) → cnt (p.map f) (w.map f) = cnt p w
  | [], w, _, _ => by
    unfold cnt
    rw [List.map_nil, List.zip_nil_left, List.zip_nil_left]
  | x :: p, [], _, _ => by
    unfold cnt
    rw [List.map_nil, List.zip_nil_right, List.zip_nil_right]
  | x :: p, y :: w, h1, h2 => by
    rw [List.map_cons, List.map_cons, Pu.Ct.cnt_cons, Pu.Ct.cnt_cons, cnt_map hf (fun c hc => h1 c (List.mem_cons_of_mem _ hc)) fun c hc => h2 c (List.mem_cons_of_mem _ hc)]
    by_cases e : x = y
    · rw [if_pos e, if_pos (by rw [e])]
    · rw [if_neg e, if_neg fun z => e (hf x (h1 x List.mem_cons_self) y (h2 y List.mem_cons_self) z)]
theorem gb_map {f : Nat → Nat} {a : List Nat} (hf : ∀ c ∈ a, ∀ d ∈ a, f c = f d → c = d) {L m : Nat} {w t : List Nat} (hw : ∀ c ∈ w, c ∈ a) (ht : ∀ c ∈ t, c ∈ a) : Pu.Cm.gb L m (w.map f) (t.map f) = Pu.Cm.gb L m w t := by
  have e : ∀ i, cnt (pcs (t.map f) i L) (w.map f) = cnt (pcs t i L) w := fun i => by
    have e1 : pcs (t.map f) i L = (pcs t i L).map f := by
      unfold pcs
      rw [List.drop_eq_drop_iff.mpr rfl, ← List.map_drop, ← List.map_take]
    rw [e1]
    exact cnt_map hf (fun c hc => ht c (List.mem_of_mem_drop (List.mem_of_mem_take hc))) hw
  refine Bool.eq_iff_iff.mpr ?_
  rw [gb_iff, gb_iff, List.length_map]
  constructor
  · intro h i hi
    rw [← e]
    exact h i hi
  · intro h i hi
    rw [e]
    exact h i hi
theorem nxl_in : ∀ a ∈ A4, ∀ c ∈ a, nxl a c ∈ a := by decide
theorem nxl_inj : ∀ a ∈ A4, ∀ c ∈ a, ∀ d ∈ a, nxl a c = nxl a d → c = d := by decide
theorem nxl_sur : ∀ a ∈ A4, ∀ d ∈ a, ∃ c ∈ a, nxl a c = d := by decide
theorem map_inj {f : Nat → Nat} {a : List Nat} (hf : ∀ c ∈ a, ∀ d ∈ a, f c = f d → c = d) : ∀ {u v : List Nat}, (∀ c ∈ u, c ∈ a) → (∀ c ∈ v, c ∈ a) → u.map f = v.map f → u = v
  | [], [], _, _, _ => rfl
  | [], _ :: _, _, _, h => by cases h
  | _ :: _, [], _, _, h => by cases h
  | x :: u, y :: v, h1, h2, h => by
    rw [List.map_cons, List.map_cons] at h
    injection h with e1 e2
    rw [hf x (h1 x List.mem_cons_self) y (h2 y List.mem_cons_self) e1, map_inj hf (fun c hc => h1 c (List.mem_cons_of_mem _ hc)) (fun c hc => h2 c (List.mem_cons_of_mem _ hc)) e2]
theorem map_sur {f : Nat → Nat} {a : List Nat} (hf : ∀ d ∈ a, ∃ c ∈ a, f c = d) : ∀ {v : List Nat}, (∀ c ∈ v, c ∈ a) → ∃ u : List Nat, u.length = v.length ∧ (∀ c ∈ u, c ∈ a) ∧ u.map f = v
  | [], _ => ⟨[], rfl, fun _ z => (nomatch z), rfl⟩
  | y :: v, h => by
    obtain ⟨c, hc, e⟩ := hf y (h y List.mem_cons_self)
    obtain ⟨u, l, hu, eu⟩ := map_sur hf fun d hd => h d (List.mem_cons_of_mem _ hd)
    refine ⟨c :: u, by rw [List.length_cons, List.length_cons, l], fun d hd => ?_, by rw [List.map_cons, e, eu]⟩
    rcases List.mem_cons.mp hd with z | z
    · rw [z]; exact hc
    · exact hu d z
theorem perm_rev {a : List Nat} (hs : a.Pairwise (· < ·)) (n : Nat) : ((allw a n).map List.reverse).Perm (allw a n) :=
  allw_perm hs (fun u h => allw_mem.mpr ⟨by rw [List.length_reverse, allw_len h], fun c hc => allw_in h c (List.mem_reverse.mp hc)⟩) (fun u _ v _ e => List.reverse_inj.mp e) fun v h => ⟨v.reverse, allw_mem.mpr ⟨by rw [List.length_reverse, allw_len h], fun c hc => allw_in h c (List.mem_reverse.mp hc)⟩, List.reverse_reverse v⟩
theorem perm_map {a : List Nat} (hs : a.Pairwise (· < ·)) {f : Nat → Nat} (h1 : ∀ c ∈ a, f c ∈ a) (h2 : ∀ c ∈ a, ∀ d ∈ a, f c = f d → c = d) (h3 : ∀ d ∈ a, ∃ c ∈ a, f c = d) (n : Nat) : ((allw a n).map (List.map f)).Perm (allw a n) :=
  allw_perm hs (fun u h => allw_mem.mpr ⟨by rw [List.length_map, allw_len h], fun c hc => by
    obtain ⟨d, hd, rfl⟩ := List.mem_map.mp hc
    exact h1 d (allw_in h d hd)⟩) (fun u hu v hv e => map_inj h2 (allw_in hu) (allw_in hv) e) fun v h => by
    obtain ⟨u, l, hu, e⟩ := map_sur h3 (allw_in h)
    exact ⟨u, allw_mem.mpr ⟨by rw [l, allw_len h], hu⟩, e⟩
section
variable {w a : List Nat} {m n : Nat}
theorem wi_rev (hs : a.Pairwise (· < ·)) : wi w.reverse m a n = wi w m a n := by
  unfold wi
  rw [count_map (p := fun t => !Pu.Cm.gb w.reverse.length m w.reverse t) (perm_rev hs n), List.length_reverse]
  refine congrArg (fun f => (List.filter f (allw a n)).length) (funext fun t => ?_)
  rw [gb_rev rfl]
theorem filter_congr_len {α : Type} {p q : α → Bool} {l : List α} (h : ∀ x ∈ l, p x = q x) : (l.filter p).length = (l.filter q).length := by
  rw [List.filter_congr h]
theorem wi_map (hs : a.Pairwise (· < ·)) {f : Nat → Nat} (h1 : ∀ c ∈ a, f c ∈ a) (h2 : ∀ c ∈ a, ∀ d ∈ a, f c = f d → c = d) (h3 : ∀ d ∈ a, ∃ c ∈ a, f c = d) (hw : ∀ c ∈ w, c ∈ a) : wi (w.map f) m a n = wi w m a n := by
  unfold wi
  rw [count_map (p := fun t => !Pu.Cm.gb (w.map f).length m (w.map f) t) (perm_map hs h1 h2 h3 n), List.length_map]
  refine filter_congr_len fun t ht => ?_
  show (!Pu.Cm.gb w.length m (w.map f) (t.map f)) = _
  rw [gb_map h2 hw (allw_in ht)]
theorem wi_more : wi w m a n ≤ wi w (m + 1) a n := by
  unfold wi
  refine filter_len_le (fun t h => ?_) _
  cases g : Pu.Cm.gb w.length (m + 1) w t with
  | false => rfl
  | true =>
    exfalso
    have : Pu.Cm.gb w.length m w t = true := gb_iff.mpr fun i hi => by
      have := gb_iff.mp g i hi
      omega
    rw [this] at h
    cases h
theorem wi_short (h : n < w.length) : wi w m a n = 0 := by
  unfold wi
  rw [List.length_eq_zero_iff, List.filter_eq_nil_iff]
  intro t ht
  have : Pu.Cm.gb w.length m w t = true := gb_iff.mpr fun i hi => by
    rw [allw_len ht] at hi
    omega
  rw [this]
  exact Bool.false_ne_true
theorem wi_full (h : w.length ≤ n) : wi w w.length a n = a.length ^ n := by
  have e : ((allw a n).filter fun t => !Pu.Cm.gb w.length w.length w t) = allw a n := by
    rw [List.filter_eq_self]
    intro t ht
    cases g : Pu.Cm.gb w.length w.length w t with
    | false => rfl
    | true =>
      exfalso
      have := gb_iff.mp g 0 (by rw [allw_len ht]; omega)
      have := cnt_le_r (pcs t 0 w.length) w
      omega
  unfold wi
  rw [e, allw_card]
theorem wi_pos (ha : a ≠ []) (hw : ∀ c ∈ w, c ∈ a) (h : w.length ≤ n) : 0 < wi w m a n := by
  obtain ⟨c0, hc0⟩ : ∃ c, c ∈ a := by
    cases a with
    | nil => exact absurd rfl ha
    | cons c r => exact ⟨c, List.mem_cons_self⟩
  have mem : w ++ List.replicate (n - w.length) c0 ∈ (allw a n).filter fun t => !Pu.Cm.gb w.length m w t := by
    refine List.mem_filter.mpr ⟨allw_mem.mpr ⟨by rw [List.length_append, List.length_replicate]; omega, fun c hc => ?_⟩, ?_⟩
    · rcases List.mem_append.mp hc with z | z
      · exact hw c z
      · rw [(List.mem_replicate.mp z).2]
        exact hc0
    · cases g : Pu.Cm.gb w.length m w (w ++ List.replicate (n - w.length) c0) with
      | false => rfl
      | true =>
        exfalso
        have := gb_iff.mp g 0 (by rw [List.length_append]; omega)
        have e : pcs (w ++ List.replicate (n - w.length) c0) 0 w.length = w := by
          unfold pcs
          rw [List.drop_zero, List.take_left']
          rfl
        rw [e, cnt_self] at this
        omega
  unfold wi
  exact List.length_pos_of_mem mem
theorem wo_step (hw : 1 ≤ w.length) : wo w m a (n + 1) ≤ a.length * wo w m a n := by
  have key : ∀ l : List (List Nat), ((l.flatMap fun r => a.map fun c => r ++ [c]).filter (Pu.Cm.gb w.length m w)).length ≤ a.length * (l.filter (Pu.Cm.gb w.length m w)).length := by
    intro l
    induction l with
    | nil => exact Nat.zero_le _
    | cons r l ih =>
      rw [List.flatMap_cons, List.filter_append, List.length_append]
      by_cases g : Pu.Cm.gb w.length m w r = true
      · rw [List.filter_cons_of_pos g, List.length_cons, Nat.mul_add, Nat.mul_one]
        have := List.length_filter_le (Pu.Cm.gb w.length m w) (a.map fun c => r ++ [c])
        rw [List.length_map] at this
        omega
      · rw [List.filter_cons_of_neg g]
        have : ((a.map fun c => r ++ [c]).filter (Pu.Cm.gb w.length m w)) = [] := by
          rw [List.filter_eq_nil_iff]
          intro t ht
          obtain ⟨c, _, rfl⟩ := List.mem_map.mp ht
          rw [gb_snoc hw, Bool.eq_false_iff.mpr g, Bool.false_and]
          exact Bool.false_ne_true
        rw [this, List.length_nil]
        omega
  exact key (allw a n)
theorem wi_step (hw : 1 ≤ w.length) : a.length * wi w m a n ≤ wi w m a (n + 1) := by
  have h1 := wi_wo w m a n
  have h2 := wi_wo w m a (n + 1)
  have h3 := wo_step (m := m) (a := a) (n := n) hw
  have h4 : a.length * (wi w m a n + wo w m a n) = a.length * wi w m a n + a.length * wo w m a n := Nat.mul_add _ _ _
  rw [h1] at h4
  rw [Nat.pow_succ, Nat.mul_comm] at h2
  omega
end
end Pu.Sh

namespace Pu.Cw
open PySem L2 Pu
/-! ### common words by counts of texts -/
def stn (ts : List (List Nat)) (L m : Nat) (u : List Nat) : Nat := (ts.filter fun t => !Pu.Cm.gb L m u t).length
theorem cut_stn {ts : List (List Nat)} {L m q : Nat} {u : List Nat} : (!Pu.Cm.cutB ts L m q u) = decide (q ≤ stn ts L m u) := by
  unfold Pu.Cm.cutB stn
  rw [Pu.Cm.gn_len]
  have h := filter_parts (Pu.Cm.gb L m u) ts
  by_cases c : q ≤ (ts.filter fun t => !Pu.Cm.gb L m u t).length
  · rw [decide_eq_true c, decide_eq_false (by omega)]
    rfl
  · rw [decide_eq_false c, decide_eq_true (by omega)]
    rfl
/-- all words that stand in enough texts -/
def cw (ts : List (List Nat)) (L m q : Nat) (a : List Nat) : List (List Nat) := (allw a L).filter fun u => decide (q ≤ stn ts L m u)
theorem cw_mem {ts : List (List Nat)} {L m q : Nat} {a u : List Nat} : u ∈ cw ts L m q a ↔ u ∈ allw a L ∧ q ≤ stn ts L m u := by
  unfold cw
  rw [List.mem_filter]
  exact ⟨fun h => ⟨h.1, of_decide_eq_true h.2⟩, fun h => ⟨h.1, decide_eq_true h.2⟩⟩
theorem cw_sorted {ts : List (List Nat)} {L m q : Nat} {a : List Nat} (hs : a.Pairwise (· < ·)) : (cw ts L m q a).Pairwise (· < ·) := (allw_sorted hs L).filter _
theorem common_cw {a : List Nat} {ts : List (List Nat)} {most L m q : Nat} {qd : D} (ha : a ∈ A4) (h1 : 1 ≤ ts.length) (h2 : ts.length ≤ 12) (ht : ∀ t ∈ ts, Tx a most t) (hm : most ≤ 40) (hL : 1 ≤ L ∧ L ≤ 6) (hmL : m ≤ L) (hq : 1 ≤ q ∧ q ≤ ts.length) (hd : qd = .int (q : Nat) ∨ (qd = .non ∧ q = ts.length)) :
    m_common [.lst (ts.map .str), .int L, .int m, .str a, qd] = .ok (.lst ((cw ts L m q a).map .str)) := by
  have al := al_len a ha
  rw [Pu.Cm.common_ok ha h1 h2 ht hm hL hmL hq hd (by omega)]
  unfold cw
  have e : (fun u => !Pu.Cm.cutB ts L m q u) = fun u => decide (q ≤ stn ts L m u) := funext fun u => cut_stn
  rw [e]
theorem cw_len {ts : List (List Nat)} {L m q : Nat} {a : List Nat} (ha : a.length ≤ 4) : (cw ts L m q a).length ≤ 4 ^ L := Nat.le_trans (List.length_filter_le _ _) (allw_many ha L)
theorem sp_gb {t w : List Nat} {m : Nat} : (sp t w ((m : Nat) : Int)).isEmpty = Pu.Cm.gb w.length m w t := by
  refine Bool.eq_iff_iff.mpr ⟨fun h => ?_, fun h => ?_⟩
  · rw [List.isEmpty_iff] at h
    refine Pu.Sh.gb_iff.mpr fun i hi => ?_
    by_cases c : m < cnt (pcs t i w.length) w
    · exact c
    · exfalso
      have : ((((i : Nat) : Int), ((cnt (pcs t i w.length) w : Nat) : Int)) : P2) ∈ sp t w ((m : Nat) : Int) := sp_mem.mpr ⟨i, hi, rfl, by show ((cnt (pcs t i w.length) w : Nat) : Int) ≤ _; omega⟩
      rw [h] at this
      cases this
  · cases z : sp t w ((m : Nat) : Int) with
    | nil => rfl
    | cons p r =>
      exfalso
      obtain ⟨i, hi, e, hp⟩ := sp_mem.mp (show p ∈ sp t w ((m : Nat) : Int) by rw [z]; exact List.mem_cons_self)
      have := Pu.Sh.gb_iff.mp h i hi
      rw [e] at hp
      have hp : ((cnt (pcs t i w.length) w : Nat) : Int) ≤ ((m : Nat) : Int) := hp
      omega
theorem ne_nil_sp (t w : List Nat) (m : Int) : dNe (.lst ((sp t w m).map pD)) (.lst []) = some (.bl (!(sp t w m).isEmpty)) := by
  have dp : depL ((sp t w m).map pD) ≤ 1 := depL_map fun p _ => by unfold pD; simp
  rw [neq (by rw [dep_lst]; omega) (by decide)]
  cases sp t w m with
  | nil => rw [List.map_nil, eqd_refl]; rfl
  | cons p r => rw [List.map_cons, eqd_lst, eqdL_cn]; rfl
/-- whether a word stands in a text -/
theorem stand_t {ε : Pu.Env} {f g h : F} {t w : List Nat} {m : Nat} (pt : plainB (.str t) = true) (pw : plainB (.str w) = true) (hm : m ≤ w.length) (h1 : f ε = .ok (.str t)) (h2 : g ε = .ok (.str w)) (h3 : h ε = .ok (.int (m : Nat))) : (tst (op2 dNe (calF m_spots (argC f (argC g (argC h argN)))) (lstF argN))) ε = .ok (!Pu.Cm.gb w.length m w t) := by
  refine (tB (e2 ((eK (eC h1 (eC h2 (eC h3 rfl)))).trans (Pu.Sp.spots_sp pt pw (by omega))) (eL rfl (by decide)) (ne_nil_sp t w _))).trans ?_
  rw [sp_gb]
theorem stn_more {ts : List (List Nat)} {L m : Nat} {u : List Nat} : stn ts L m u ≤ stn ts L (m + 1) u := by
  unfold stn
  refine filter_len_le (fun t h => ?_) _
  cases g : Pu.Cm.gb L (m + 1) u t with
  | false => rfl
  | true =>
    exfalso
    have : Pu.Cm.gb L m u t = true := Pu.Sh.gb_iff.mpr fun i hi => by
      have := Pu.Sh.gb_iff.mp g i hi
      omega
    rw [this] at h
    cases h
theorem stn_app (ts us : List (List Nat)) (L m : Nat) (u : List Nat) : stn (ts ++ us) L m u = stn ts L m u + stn us L m u := by
  unfold stn
  rw [List.filter_append, List.length_append]
theorem stn_le (ts : List (List Nat)) (L m : Nat) (u : List Nat) : stn ts L m u ≤ ts.length := List.length_filter_le _ _
theorem stn_rev (ts : List (List Nat)) (L m : Nat) (u : List Nat) : stn ts.reverse L m u = stn ts L m u := by
  unfold stn
  rw [List.filter_reverse, List.length_reverse]
theorem stn_map {f : List Nat → List Nat} {L m : Nat} {u v : List Nat} : ∀ {ts : List (List Nat)}, (∀ t ∈ ts, Pu.Cm.gb L m v (f t) = Pu.Cm.gb L m u t) → stn (ts.map f) L m v = stn ts L m u
  | [], _ => rfl
  | t :: ts, h => by
    have ih := stn_map (ts := ts) fun s hs => h s (List.mem_cons_of_mem _ hs)
    have h0 := h t List.mem_cons_self
    unfold stn at ih ⊢
    rw [List.map_cons]
    by_cases c : (!Pu.Cm.gb L m u t) = true
    · rw [List.filter_cons_of_pos (p := fun t => !Pu.Cm.gb L m v t) (by rw [h0]; exact c), List.filter_cons_of_pos (p := fun t => !Pu.Cm.gb L m u t) c, List.length_cons, List.length_cons, ih]
    · rw [List.filter_cons_of_neg (p := fun t => !Pu.Cm.gb L m v t) (by rw [h0]; exact c), List.filter_cons_of_neg (p := fun t => !Pu.Cm.gb L m u t) c, ih]
/-- words go along -/
theorem cw_along {a : List Nat} (hs : a.Pairwise (· < ·)) {ts us : List (List Nat)} {L m q : Nat} {f : List Nat → List Nat} (hp : ((allw a L).map f).Perm (allw a L)) (h : ∀ u ∈ allw a L, stn us L m (f u) = stn ts L m u) : ssort ((cw ts L m q a).map f) = cw us L m q a := by
  refine ssort_uniq ?_ ((cw_sorted hs).imp fun h => List.le_of_lt h)
  have e : (cw ts L m q a).map f = ((allw a L).map f).filter fun u => decide (q ≤ stn us L m u) := by
    rw [List.filter_map]
    unfold cw
    refine congrArg (List.map f) (List.filter_congr fun u hu => ?_)
    show _ = decide (q ≤ stn us L m (f u))
    rw [h u hu]
  rw [e]
  exact (hp.filter _).symm
theorem join_map {ε : Pu.Env} {g : Fs} {f : Nat → Nat} {w : List Nat} (hw : w.length ≤ 1000) (h : g ε = .ok (w.map fun c => D.str [f c])) : (mt1 tyStr dJoin (cst (.str [])) (ofL g)) ε = .ok (.str (w.map f)) := by
  refine eM rfl rfl (eO h) ?_
  show (strsOf _).bind (jn []) = _
  rw [strs_map]
  show jn [] (w.map fun c => [f c]) = _
  have e0 : (w.map fun c => [f c]) = (w.map f).map fun c => [c] := by rw [List.map_map]; rfl
  rw [e0]
  unfold jn
  have smm : ∀ w : List Nat, ((w.map fun c => [c]).map List.length).sum = w.length := by
    intro w
    induction w with
    | nil => rfl
    | cons c w ih =>
      rw [List.map_cons, List.map_cons, List.sum_cons, ih]
      show 1 + w.length = w.length + 1
      omega
  rw [smm, if_pos (by simp; omega), joinL_one]
theorem notin_s (u : List Nat) (l : List (List Nat)) : dNotIn (.str u) (.lst (l.map .str)) = some (.bl (!decide (u ∈ l))) := by
  have dl : depL (l.map D.str) ≤ 0 := depL_map fun _ _ => Nat.le_refl _
  have e : dNotIn (.str u) (.lst (l.map .str)) = if dep (.str u) ≤ 50 ∧ depL (l.map D.str) ≤ 50 then some (.bl (!mem1 (.str u) (l.map .str))) else none := by
    cases u with
    | nil => rfl
    | cons c u => cases u <;> rfl
  rw [e, if_pos ⟨Nat.zero_le _, by omega⟩, Pu.Sp.mem1_s]
theorem tx_plain {a t : List Nat} {most : Nat} (al : ∀ c ∈ a, c ∈ LET) (h : Tx a most t) (hm : most ≤ 40) : plainB (.str t) = true := wd_plain al (n := t.length) ⟨rfl, h.2⟩ h.1.1 (by have := h.1.2; omega)
/-- [word for word in ws if word not in vs] of some of vs -/
theorem none_out {ε : Pu.Env} {i : Nat} {f g : F} {ws vs : List (List Nat)} (hw : ws.length ≤ 100000) (h1 : f ε = .ok (.lst (ws.map .str))) (h2 : ∀ d, g (setsE (wipeE ε [i]) [(i, d)]) = .ok (.lst (vs.map .str))) (h3 : ∀ d, vr i (setsE (wipeE ε [i]) [(i, d)]) = .ok d) (hs : ∀ w ∈ ws, w ∈ vs) : (tst (op2 dNe (ofL (lcO (itF f) [i] (.nm i) (tst (op2 dNotIn (vr i) g)) (vr i))) (lstF argN))) ε = .ok false := by
  refine (tB (e2 (d := .lst []) (eO (eLc (eI h1 rfl) (by rw [List.length_map]; omega) (lcGo_none fun d hd => ?_))) (eL rfl (by decide)) (neq (by decide) (by decide)))).trans rfl
  obtain ⟨w, hw, rfl⟩ := List.mem_map.mp hd
  refine (tB (e2 (h3 _) (h2 _) (notin_s w vs))).trans ?_
  rw [decide_eq_true (hs w hw)]
  rfl
end Pu.Cw

namespace Pu.Tr
open PySem L2 Pu
/-! ### trees of beginnings: no one begins another one, together they are all -/
theorem st_pre (x y : List Nat) : Txt.startswith (sOf x) (sOf y) = y.isPrefixOf x := by
  unfold Txt.startswith
  rw [PySem.StrLaws.subAt_eq]
  show (decide (0 + (sOf y).length ≤ (sOf x).length) && ((x.drop 0).take (sOf y).length == y)) = _
  rw [sOf_len, sOf_len, Nat.zero_add, List.drop_zero]
  refine Bool.eq_iff_iff.mpr ?_
  rw [Bool.and_eq_true_iff, List.isPrefixOf_iff_prefix, beq_iff_eq, decide_eq_true_eq]
  constructor
  · intro h
    exact List.prefix_iff_eq_take.mpr h.2.symm
  · intro h
    exact ⟨h.length_le, (List.prefix_iff_eq_take.mp h).symm⟩
def pfx (x y : List Nat) : Bool := y.isPrefixOf x || x.isPrefixOf y
def frB : List (List Nat) → Bool
  | [] => true
  | x :: r => (r.all fun y => !pfx x y) && frB r
theorem frB_iff : ∀ {l : List (List Nat)}, frB l = true ↔ l.Pairwise fun x y => pfx x y = false
  | [] => ⟨fun _ => .nil, fun _ => rfl⟩
  | x :: r => by
    show ((r.all fun y => !pfx x y) && frB r) = true ↔ _
    rw [Bool.and_eq_true_iff, List.pairwise_cons, frB_iff, List.all_eq_true]
    constructor
    · intro h
      exact ⟨fun y hy => by simpa using h.1 y hy, h.2⟩
    · intro h
      exact ⟨fun y hy => by rw [h.1 y hy]; rfl, h.2⟩
abbrev aaB : SF := (ifS (tst (opN cAny (argC (ofL (lcO (itF (slF (vr 0) (soP (op2 dAdd (vr 3) (cst (.int 1)))) noP)) [5] (.nm 5) yesT (orF (mt1 tyStr dStarts (vr 4) (vr 5)) (mt1 tyStr dStarts (vr 5) (vr 4))))) argN))) (reS (cst (.bl false))) nxS)
theorem aa_loop {xs : List (List Nat)} {x1 x2 : Sl} (hx : xs.length ≤ 100000) : ∀ (l pre : List (List Nat)) (y3 y4 : Sl), xs = pre ++ l →
    (frB l = true → ∃ y3' y4', forGo (.tp [3, 4]) aaB ((l.zipIdx pre.length).map fun p => D.tup [.int (p.2 : Nat), .str p.1]) [.sh (.lst (xs.map .str)), x1, x2, y3, y4, .no, .no] = .nx [.sh (.lst (xs.map .str)), x1, x2, y3', y4', .no, .no]) ∧
    (frB l = false → forGo (.tp [3, 4]) aaB ((l.zipIdx pre.length).map fun p => D.tup [.int (p.2 : Nat), .str p.1]) [.sh (.lst (xs.map .str)), x1, x2, y3, y4, .no, .no] = .rt (.bl false))
  | [], pre, y3, y4, _ => ⟨fun _ => ⟨y3, y4, rfl⟩, fun h => (nomatch h)⟩
  | x :: l, pre, y3, y4, he => by
    have ih := aa_loop (x1 := x1) (x2 := x2) hx l (pre ++ [x]) (.sh (.int (pre.length : Nat))) (.sh (.str x)) (by rw [he, List.append_assoc]; rfl)
    have l1 : (pre ++ [x]).length = pre.length + 1 := by rw [List.length_append]; rfl
    rw [l1] at ih
    have lx : xs.length = pre.length + (l.length + 1) := by rw [he, List.length_append, List.length_cons]
    have cu : cut (xs.map D.str) (some ((pre.length : Nat) + 1)) none = l.map D.str := by
      rw [show ((pre.length : Nat) : Int) + 1 = ((pre.length + 1 : Nat) : Int) by omega, cutL_from (by rw [List.length_map]; omega), ← List.map_drop, he]
      refine congrArg (List.map D.str) ?_
      rw [List.drop_append, List.drop_of_length_le (by omega), show pre.length + 1 - pre.length = 1 by omega]
      rfl
    have tt : (tst (opN cAny (argC (ofL (lcO (itF (slF (vr 0) (soP (op2 dAdd (vr 3) (cst (.int 1)))) noP)) [5] (.nm 5) yesT (orF (mt1 tyStr dStarts (vr 4) (vr 5)) (mt1 tyStr dStarts (vr 5) (vr 4))))) argN))) (pkv [.sh (.lst (xs.map .str)), x1, x2, .sh (.int (pre.length : Nat)), .sh (.str x), .no, .no]) = .ok ((l.map fun y => pfx x y).any id) := by
      refine tB (eN (eC (eO (eLc (ds := l.map .str) (eI (eS rfl (eP (e2 rfl rfl rfl)) rfl (congrArg (fun l => some (D.lst l)) cu)) rfl) (by rw [List.length_map]; omega) (lcGo_im (h := .str) (g := fun y => D.bl (pfx x y)) (ps := fun y => [(5, .str y)]) fun y _ => ⟨rfl, ?_⟩))) rfl) ?_)
      · unfold pfx
        refine eOr (x := y.isPrefixOf x) (y := x.isPrefixOf y) ((eM rfl rfl rfl rfl).trans (by rw [st_pre])) fun _ => (eM rfl rfl rfl rfl).trans (by rw [st_pre])
      · show (blsOf _).map _ = _
        rw [bls_map]
        rfl
    have ez : (((x :: l).zipIdx pre.length).map fun p => D.tup [.int (p.2 : Nat), .str p.1]) = D.tup [.int (pre.length : Nat), .str x] :: ((l.zipIdx (pre.length + 1)).map fun p => D.tup [.int (p.2 : Nat), .str p.1]) := by
      rw [List.zipIdx_cons, List.map_cons]
    have ea : (l.all fun y => !pfx x y) = !(l.map fun y => pfx x y).any id := by
      rw [List.any_map, List.not_any_eq_all_not]
      rfl
    rw [ez]
    have ef : frB (x :: l) = ((l.all fun y => !pfx x y) && frB l) := rfl
    rw [ef, ea]
    cases c : (l.map fun y => pfx x y).any id with
    | true =>
      rw [c] at tt
      refine ⟨fun h => ?_, fun _ => for_rt (ps := [(3, .int (pre.length : Nat)), (4, .str x)]) rfl ((if_yes tt).trans (re_rt rfl))⟩
      simp at h
    | false =>
      rw [c] at tt
      have st : forGo (.tp [3, 4]) aaB (D.tup [.int (pre.length : Nat), .str x] :: ((l.zipIdx (pre.length + 1)).map fun p => D.tup [.int (p.2 : Nat), .str p.1])) [.sh (.lst (xs.map .str)), x1, x2, y3, y4, .no, .no] = forGo (.tp [3, 4]) aaB ((l.zipIdx (pre.length + 1)).map fun p => D.tup [.int (p.2 : Nat), .str p.1]) [.sh (.lst (xs.map .str)), x1, x2, .sh (.int (pre.length : Nat)), .sh (.str x), .no, .no] := for_cons (ps := [(3, .int (pre.length : Nat)), (4, .str x)]) rfl (if_nx tt)
      rw [st]
      simpa using ih
def kraft (A L : Nat) (xs : List (List Nat)) : Nat := (xs.map fun v => A ^ (L - v.length)).sum
theorem are_all_ok {xs : List (List Nat)} {a : List Nat} {L : Nat} (ha : 1 ≤ a.length ∧ a.length ≤ 4) (hx : xs.length ≤ 100000) (hL : L ≤ 40) (hl : ∀ x ∈ xs, x.length ≤ L) : m_are_all [.lst (xs.map .str), .int (L : Nat), .str a] = .ok (.bl (frB xs && decide (kraft a.length L xs = a.length ^ L))) := by
  have lp := aa_loop (xs := xs) (x1 := .sh (.int (L : Nat))) (x2 := .sh (.str a)) hx xs [] .no .no rfl
  have en : enF (vr 0) (shv ([D.lst (xs.map .str), .int (L : Nat), .str a].map Sl.sh ++ noS 4)) = .ok ((xs.zipIdx 0).map fun p => D.tup [.int (p.2 : Nat), .str p.1]) := (eE rfl rfl).trans (by rw [enD_zip])
  cases c : frB xs with
  | false =>
    exact dm rfl (congrArg outR (sq_rt ((for_go en).trans (lp.2 c))))
  | true =>
    obtain ⟨y3, y4, e⟩ := lp.1 c
    have al2 : a.length < 2 ^ 3000 := Nat.lt_of_lt_of_le (show a.length < 2 ^ 3 by show _ < 8; omega) (Nat.pow_le_pow_right (by decide) (by decide))
    have pw : ∀ k, k ≤ 40 → m_power [.int (a.length : Nat), .int (k : Nat)] = .ok (.int ((a.length ^ k : Nat) : Int)) := fun k hk => Pu.Sh.power_ok ha.1 al2 (by omega) (Pu.Sh.pw_small ha.2 (by omega))
    refine dm rfl (sq_to ((for_go en).trans e) (re_to ((e2 (d := .int ((kraft a.length L xs : Nat) : Int)) (eN (eC (eO (eLc (ds := xs.map .str) rfl (by rw [List.length_map]; omega) (lcGo_im (h := .str) (g := fun v => D.int ((a.length ^ (L - v.length) : Nat) : Int)) (ps := fun v => [(6, .str v)]) fun v hv => ⟨rfl, ?_⟩))) rfl) ?_) ((eK (eC (eN (eC rfl rfl) (lenq (by omega))) (eC rfl rfl))).trans (pw L hL)) (eqq (Nat.zero_le _) (Nat.zero_le _))).trans ?_)))
    · have := hl v hv
      have cs : ((L : Nat) : Int) - ((v.length : Nat) : Int) = ((L - v.length : Nat) : Int) := by omega
      exact (eK (eC (eN (eC rfl rfl) (lenq (by omega))) (eC ((e2 rfl (eN (eC rfl rfl) (lenq (by omega))) rfl).trans (by rw [cs])) rfl))).trans (pw _ (by omega))
    · show (intsOf _).map _ = _
      rw [ints_map]
      show some (D.int _) = _
      refine congrArg (fun z => some (D.int z)) ?_
      unfold kraft
      generalize xs = l
      induction l with
      | nil => rfl
      | cons v l ih =>
        rw [List.map_cons, List.map_cons, List.sum_cons, List.sum_cons, ih]
        omega
    · rw [eqd_int, Bool.true_and]
      exact congrArg (fun b => Res.ok (D.bl b)) (decide_eq_decide.mpr (by omega))
section
variable (B : List Nat → Bool) (a : List Nat)
/-- the leaves -/
def lv : Nat → List Nat → List (List Nat)
  | 0, u => [u]
  | k + 1, u => if B u = true then [u] else a.flatMap fun c => lv k (u ++ [c])
end
section
variable {B : List Nat → Bool} {a : List Nat}
theorem lv_pre : ∀ {k : Nat} {u v : List Nat}, v ∈ lv B a k u → u <+: v ∧ v.length ≤ u.length + k ∧ ∀ c ∈ v, c ∈ u ∨ c ∈ a
  | 0, u, v, h => by
    rw [List.mem_singleton.mp h]
    exact ⟨List.prefix_refl _, Nat.le_refl _, fun c hc => .inl hc⟩
  | k + 1, u, v, h => by
    unfold lv at h
    split at h
    · rw [List.mem_singleton.mp h]
      exact ⟨List.prefix_refl _, by omega, fun c hc => .inl hc⟩
    · obtain ⟨c, hc, h2⟩ := List.mem_flatMap.mp h
      obtain ⟨p1, p2, p3⟩ := lv_pre h2
      have e : (u ++ [c]).length = u.length + 1 := by rw [List.length_append]; rfl
      refine ⟨(List.prefix_append _ _).trans p1, by omega, fun d hd => ?_⟩
      rcases p3 d hd with z | z
      · rcases List.mem_append.mp z with y | y
        · exact .inl y
        · rw [List.mem_singleton.mp y]
          exact .inr hc
      · exact .inr z
theorem lv_B : ∀ {k : Nat} {u v : List Nat}, v ∈ lv B a k u → B v = true ∨ v.length = u.length + k
  | 0, u, v, h => by
    rw [List.mem_singleton.mp h]
    exact .inr rfl
  | k + 1, u, v, h => by
    unfold lv at h
    split at h
    · rename_i hb
      rw [List.mem_singleton.mp h]
      exact .inl hb
    · obtain ⟨c, hc, h2⟩ := List.mem_flatMap.mp h
      rcases lv_B h2 with z | z
      · exact .inl z
      · rw [List.length_append] at z
        exact .inr (by rw [z]; show u.length + 1 + k = _; omega)
theorem lv_par : ∀ {k : Nat} {u v : List Nat}, v ∈ lv B a k u → v = u ∨ (B v.dropLast = false ∧ u <+: v.dropLast)
  | 0, u, v, h => .inl (List.mem_singleton.mp h)
  | k + 1, u, v, h => by
    unfold lv at h
    split at h
    · exact .inl (List.mem_singleton.mp h)
    · rename_i hb
      obtain ⟨c, hc, h2⟩ := List.mem_flatMap.mp h
      rcases lv_par h2 with z | ⟨z, y⟩
      · rw [z, List.dropLast_concat]
        exact .inr ⟨Bool.eq_false_iff.mpr hb, List.prefix_refl _⟩
      · exact .inr ⟨z, (List.prefix_append _ _).trans y⟩
theorem pre_both {u x y : List Nat} {c d : Nat} (h1 : u ++ [c] <+: x) (h2 : u ++ [d] <+: y) (h : x <+: y ∨ y <+: x) : c = d := by
  have key : ∀ {z : List Nat}, u ++ [c] <+: z → u ++ [d] <+: z → c = d := fun {z} a b => by
    have e : u ++ [c] = u ++ [d] := (List.prefix_of_prefix_length_le a b (by simp)).eq_of_length (by simp)
    have := List.append_cancel_left e
    injection this
  rcases h with h | h
  · exact key (h1.trans h) h2
  · exact key h1 (h2.trans h)
theorem lv_free (nd : a.Nodup) : ∀ (k : Nat) (u : List Nat), (lv B a k u).Pairwise fun x y => pfx x y = false
  | 0, u => List.pairwise_singleton _ _
  | k + 1, u => by
    unfold lv
    split
    · exact List.pairwise_singleton _ _
    · rw [List.pairwise_flatMap]
      refine ⟨fun c _ => lv_free nd k _, nd.imp fun {c d} h x hx y hy => ?_⟩
      have p1 := (lv_pre hx).1
      have p2 := (lv_pre hy).1
      refine Bool.eq_false_iff.mpr fun z => h ?_
      unfold pfx at z
      rcases Bool.or_eq_true_iff.mp z with z | z
      · exact pre_both p1 p2 (.inr (List.isPrefixOf_iff_prefix.mp z))
      · exact pre_both p1 p2 (.inl (List.isPrefixOf_iff_prefix.mp z))
theorem lt_app {u x y : List Nat} {c d : Nat} (h : c < d) (h1 : u ++ [c] <+: x) (h2 : u ++ [d] <+: y) : x < y := by
  obtain ⟨s, rfl⟩ := h1
  obtain ⟨t, rfl⟩ := h2
  rw [List.append_assoc, List.append_assoc]
  induction u with
  | nil => exact List.cons_lt_cons_iff.mpr (.inl h)
  | cons e u ih => exact List.cons_lt_cons_iff.mpr (.inr ⟨rfl, ih⟩)
theorem lv_sorted (hs : a.Pairwise (· < ·)) : ∀ (k : Nat) (u : List Nat), (lv B a k u).Pairwise (· < ·)
  | 0, u => List.pairwise_singleton _ _
  | k + 1, u => by
    unfold lv
    split
    · exact List.pairwise_singleton _ _
    · rw [List.pairwise_flatMap]
      exact ⟨fun c _ => lv_sorted hs k _, hs.imp fun {c d} h x hx y hy => lt_app h (lv_pre hx).1 (lv_pre hy).1⟩
theorem kraft_app (A L : Nat) (x y : List (List Nat)) : kraft A L (x ++ y) = kraft A L x + kraft A L y := by
  unfold kraft
  rw [List.map_append, List.sum_append_nat]
theorem lv_sum {L : Nat} : ∀ (k : Nat) (u : List Nat), u.length + k = L → kraft a.length L (lv B a k u) = a.length ^ (L - u.length)
  | 0, u, h => by
    show a.length ^ (L - u.length) + 0 = _
    omega
  | k + 1, u, h => by
    unfold lv
    split
    · show a.length ^ (L - u.length) + 0 = _
      omega
    · have key : ∀ l : List Nat, kraft a.length L (l.flatMap fun c => lv B a k (u ++ [c])) = l.length * a.length ^ (L - (u.length + 1)) := by
        intro l
        induction l with
        | nil => show 0 = 0 * _; omega
        | cons c l ih =>
          have e : (u ++ [c]).length = u.length + 1 := by rw [List.length_append]; rfl
          rw [List.flatMap_cons, kraft_app, ih, lv_sum k (u ++ [c]) (by omega), e, List.length_cons, Nat.add_mul, Nat.one_mul]
          omega
      rw [key, show L - u.length = (L - (u.length + 1)) + 1 by omega, Nat.pow_succ, Nat.mul_comm]
theorem fK_lv {k : Nat} {u : List Nat} : (∀ r ∈ allw a k, B (u ++ r) = true) → Pu.Ce.fK B a k u = lv B a k u := by
  induction k generalizing u with
  | zero =>
    intro h
    have := h [] (List.mem_singleton.mpr rfl)
    rw [List.append_nil] at this
    exact if_pos this
  | succ k ih =>
    intro h
    unfold Pu.Ce.fK lv
    split
    · rfl
    · have key : ∀ l : List Nat, (∀ c ∈ l, c ∈ a) → (l.flatMap fun c => Pu.Ce.fK B a k (u ++ [c])) = l.flatMap fun c => lv B a k (u ++ [c]) := by
        intro l
        induction l with
        | nil => exact fun _ => rfl
        | cons c l il =>
          intro hl
          rw [List.flatMap_cons, List.flatMap_cons, il fun d hd => hl d (List.mem_cons_of_mem _ hd), ih fun r hr => ?_]
          rw [List.append_assoc]
          exact h _ (by rw [allw_cons]; exact List.mem_flatMap.mpr ⟨c, hl c List.mem_cons_self, List.mem_map.mpr ⟨r, hr, rfl⟩⟩)
      exact key a fun c h => h
theorem lv_len (ha : a.length ≤ 4) : ∀ (k : Nat) (u : List Nat), (lv B a k u).length ≤ 4 ^ k
  | 0, u => Nat.le_refl _
  | k + 1, u => by
    unfold lv
    split
    · exact Nat.pow_pos (by decide)
    · have key : ∀ l : List Nat, (l.flatMap fun c => lv B a k (u ++ [c])).length ≤ l.length * 4 ^ k := by
        intro l
        induction l with
        | nil => exact Nat.zero_le _
        | cons c l ih =>
          have := lv_len ha k (u ++ [c])
          rw [List.flatMap_cons, List.length_append, List.length_cons, Nat.add_mul, Nat.one_mul]
          omega
      have := key a
      have h2 : a.length * 4 ^ k ≤ 4 * 4 ^ k := Nat.mul_le_mul_right _ ha
      rw [Nat.pow_succ]
      omega
end
theorem is_start_ok {u a : List Nat} {L : Nat} (hu : u.length ≤ 1000) : m_is_start [.str u, .int (L : Nat), .str a] = .ok (.bl (decide (u.length ≤ L) && (u.map fun c => decide (c ∈ a)).all id)) := by
  refine dm rfl (re_to (eAn (x := true) (y := (decide (u.length ≤ L) && (u.map fun c => decide (c ∈ a)).all id)) (e1 rfl rfl) fun _ => eAn (x := decide (u.length ≤ L)) (y := (u.map fun c => decide (c ∈ a)).all id) ((e2 (eN (eC rfl rfl) (lenq hu)) rfl rfl).trans (congrArg (fun b => Res.ok (D.bl b)) (decide_eq_decide.mpr (by omega)))) fun _ => ?_))
  refine eN (eC (eO (eLc rfl (by rw [List.length_map]; omega) (lcGo_im (h := fun c => D.str [c]) (g := fun c => .bl (decide (c ∈ a))) (ps := fun c => [(3, .str [c])]) fun c _ => ⟨rfl, e2 rfl rfl rfl⟩))) rfl) ?_
  show (blsOf _).map _ = _
  rw [bls_map]
  rfl
end Pu.Tr

namespace Pu
open PySem PySem.Spec PyProof.Rows L2 Evl
/-! ### found.append(stack.pop()) -/
def apoS (i s : Nat) : SF := fun ρ => match ρ[i]? with
  | some (.own (.L ds)) => if ds.length < 1000000 ∧ i ≠ s then (match ρ[s]? with
    | some (.own (.L es)) => (match es[es.length - 1]? with
      | some d => .nx ((ρ.set s (.ow es.dropLast)).set i (.ow (ds ++ [d])))
      | none => .st)
    | _ => .st) else .st
  | _ => .st
section
variable {X : Cx} {xa : Xa} {W : WX} {pos pos' p1 p2 q1 q2 q3 : Pos}
theorem s_appop (i s : Nat) {x y : Str} (hi : X.N[i]? = some x := by rfl) (hv : Vis X.env.scope x := by first | exact Or.inl rfl | exact Or.inr (Or.inl rfl) | exact Or.inr (Or.inr rfl)) (hd : (x == ("__debug__" : Str)) = false := by decide) (hcd : (x == ("__classdict__" : Str)) = false := by decide)
    (hi' : X.N[s]? = some y := by rfl) (hv' : Vis X.env.scope y := by first | exact Or.inl rfl | exact Or.inr (Or.inl rfl) | exact Or.inr (Or.inr rfl)) (hd' : (y == ("__debug__" : Str)) = false := by decide) (hcd' : (y == ("__classdict__" : Str)) = false := by decide)
    (hbase' : attributeBase (.Name y q1) "pop" X.env (eval (.Name y q1) X.env) = eval (.Name y q1) X.env := by rfl) (hline' : (q2.endLine == q3.line) = true := by rfl)
    (hline : (p2.endLine == pos'.line) = true := by rfl) (hs : starEach [.Call (.Attribute (.Name y q1) "pop" q2) [] [] q3] X.env = [(false, eval (.Call (.Attribute (.Name y q1) "pop" q2) [] [] q3) X.env)] := by rfl)
    (hfew : ((backTo pos' (starEach [.Call (.Attribute (.Name y q1) "pop" q2) [] [] q3] X.env)).all (fun x => !x.1) && (backToKw pos' (keywordEach [] X.env)).all (fun x => x.1.isSome) && decide (([.Call (.Attribute (.Name y q1) "pop" q2) [] [] q3] : List Expr).length + ([] : List Keyword).length + (if ([] : List Keyword).isEmpty then 0 else 1) < 30)) = true := by rfl)
    (hbase : attributeBase (.Name x p1) "append" X.env (eval (.Name x p1) X.env) = eval (.Name x p1) X.env := by rfl) (hsw : swapsWith (.Call (.Attribute (.Name x p1) "append" p2) [.Call (.Attribute (.Name y q1) "pop" q2) [] [] q3] [] pos') none pos.line X.env = pure false := by rfl) :
    Ps X xa W (.Expr (.Call (.Attribute (.Name x p1) "append" p2) [.Call (.Attribute (.Name y q1) "pop" q2) [] [] q3] [] pos') pos) (apoS i s) := by
  refine PS.imp (pe_app (pe_var hi hv hd hcd) (pe_bm0 PySem.F.plainAttrs_list PySem.F.slot_list_pop PySem.F.type_list_pop mt_pop (pe_var hi' hv' hd' hcd') hbase' hline') hline hs hfew hbase hsw) fun Dn σ H ⟨B0, H0, B, ρ, r, p⟩ => ?_
  obtain ⟨ds, a, vs, h1, h2, h3, h4, p⟩ := ow_of r p
  by_cases hl : ds.length < 1000000 ∧ i ≠ s
  · rw [if_pos hl] at p
    obtain ⟨es, b, us, k1, k2, k3, k4, p⟩ := ow_of r p
    cases e : es[es.length - 1]? with
    | none => rw [e] at p; exact p.elim
    | some d =>
      rw [e] at p
      obtain ⟨v, e1, rv⟩ := k4.get e
      have rd : RL X.K xa B us.dropLast es.dropLast := by
        rw [List.dropLast_eq_take, List.dropLast_eq_take, k4.length]
        exact k4.take _
      have r1 := r.mut k1 k2 rd
      have h1' : (ρ.set s (.ow es.dropLast))[i]? = some (.ow ds) := by
        rw [List.getElem?_set_ne (fun z => hl.2 z.symm)]
        exact h1
      obtain ⟨a', vs', f1, f2, f3, f4, f5⟩ := r1.ow i ds h1'
      have ea : a' = a := by
        rw [f1] at h2
        cases h2
        rfl
      subst ea
      refine ⟨_, h2, .inl ⟨rfl, vs, SqL.of h3⟩, _, k2, .inl ⟨rfl, us, SqL.of k3⟩, b, us, v, rfl, rfl, k3, by rw [k4.length]; exact e1, ?_⟩
      refine ⟨a', vs', v, rfl, rfl, f2, by rw [f5.length, szl]; omega, ?_⟩
      exact p _ B _ (r1.mut h1' f1 (f5.app (.cons rv .nil)))
  · rw [if_neg hl] at p
    exact p.elim
end
theorem apo_nx {i s : Nat} {ρ : SEnv} {ds es : List D} {d : D} (h1 : ρ[i]? = some (.ow ds)) (hl : ds.length < 1000000) (hne : i ≠ s) (h2 : ρ[s]? = some (.ow (es ++ [d]))) : apoS i s ρ = .nx ((ρ.set s (.ow es)).set i (.ow (ds ++ [d]))) := by
  have e1 : (es ++ [d])[(es ++ [d]).length - 1]? = some d := by simp
  have e2 : (es ++ [d]).dropLast = es := by simp
  show (match ρ[i]? with | some (.own (.L ds)) => _ | _ => _) = _
  rw [h1]
  show (if ds.length < 1000000 ∧ i ≠ s then _ else _) = _
  rw [if_pos ⟨hl, hne⟩]
  show (match ρ[s]? with | some (.own (.L es)) => _ | _ => _) = _
  rw [h2]
  show (match (es ++ [d])[(es ++ [d]).length - 1]? with | some d => _ | none => _) = _
  rw [e1]
  show Out.nx ((ρ.set s (.ow (es ++ [d]).dropLast)).set i (.ow (ds ++ [d]))) = _
  rw [e2]
end Pu

namespace Pu.Wo
open PySem L2 Pu
/-! ### worst cases: mirrors (printed), what they compute -/
def m_need_case : List D → Res D := dfM 2 0 (sqS (exS (calF m_need_alphabet (argC (vr 0) argN))) (sqS (exS (kwF (kg 1 3 [(0, 0), (2, 0), (2, 1), (2, 2)] []) m_need_number (argC (vr 1) argN) (argC (cst (.str [108, 101, 110, 103, 116, 104])) (argC (cst (.int 1)) (argC (cst (.int 10)) argN))))) (ifS (tst (op2 dGt (calF m_power (argC (opN cLen (argC (vr 0) argN)) (argC (vr 1) argN))) (cst (.int 1300)))) (raX 4 (cst (.str [108, 101, 110, 103, 116, 104]))) nxS)))
def m_all_in_one : List D → Res D := dfM 2 8 (sqS (exS (calF m_need_case (argC (vr 0) (argC (vr 1) argN)))) (sqS (asS 2 (op2 dMul (op2 dIx (vr 0) (cst (.int 0))) (op2 dSub (vr 1) (cst (.int 1))))) (sqS (ndS 3) (sqS (paS 5 6 (.o (lnO (argC (vr 2) argN))) (.o (lnO argN))) (sqS (whS 10000 (tst (op2 dNe (vr 5) (lstF argN))) (sqS (aiS 7 (op2 dIx (vr 5) (op1 dNeg (cst (.int 1))))) (sqS (aiS 8 (gt2F (vr 3) (vr 7) (cst (.int 0)))) (ifS (tst (op2 dLt (vr 8) (opN cLen (argC (vr 0) argN)))) (sqS (dpI 3 (vr 7) (op2 dAdd (vr 8) (cst (.int 1)))) (apS 5 (slF (op2 dAdd (vr 7) (op2 dIx (vr 0) (op2 dSub (op2 dSub (opN cLen (argC (vr 0) argN)) (cst (.int 1))) (vr 8)))) (soP (cst (.int 1))) noP))) (apoS 6 5))))) (sqS (fzS [6] (asS 4 (op1 dRevL (vr 6)))) (sqS (ifS (tst (op2 dEq (vr 1) (cst (.int 1)))) (reS (vr 0)) nxS) (reS (op2 dAdd (op2 dIx (vr 4) (cst (.int 0))) (mt1 tyStr dJoin (cst (.str [])) (ofL (lcO (itF (slF (vr 4) (soP (cst (.int 1))) noP)) [9] (.nm 9) yesT (op2 dIx (vr 9) (op1 dNeg (cst (.int 1))))))))))))))))
def m_lexicode : List D → Res D := dfM 3 3 (sqS (exS (calF m_need_case (argC (vr 0) (argC (vr 1) argN)))) (sqS (exS (kwF (kg 1 3 [(0, 0), (2, 0), (2, 1), (2, 2)] []) m_need_number (argC (vr 2) argN) (argC (cst (.str [97, 112, 97, 114, 116])) (argC (cst (.int 1)) (argC (vr 1) argN))))) (sqS (aoS 3 (lnO argN)) (sqS (forS (itF (calF m_words_of (argC (vr 0) (argC (vr 1) argN)))) (.nm 4) (ifS (tst (opN cAll (argC (ofL (lcO (itF (vr 3)) [5] (.nm 5) yesT (op2 dGe (calF m_unlike (argC (vr 4) (argC (vr 5) argN))) (vr 2)))) argN))) (apS 3 (vr 4)) nxS)) (reS (vr 3))))))
def m_most_apart : List D → Res D := dfM 3 0 (sqS (exS (calF m_need_case (argC (vr 0) (argC (vr 1) argN)))) (sqS (exS (kwF (kg 1 3 [(0, 0), (2, 0), (2, 1), (2, 2)] []) m_need_number (argC (vr 2) argN) (argC (cst (.str [97, 112, 97, 114, 116])) (argC (cst (.int 1)) (argC (vr 1) argN))))) (reS (op2 dFdiv (calF m_power (argC (opN cLen (argC (vr 0) argN)) (argC (vr 1) argN))) (calF m_how_many (argC (vr 1) (argC (op2 dFdiv (op2 dSub (vr 2) (cst (.int 1))) (cst (.int 2))) (argC (opN cLen (argC (vr 0) argN)) argN))))))))
def m_uncovered : List D → Res D := dfM 4 2 (sqS (exS (calF m_need_case (argC (vr 3) (argC (vr 1) argN)))) (sqS (exS (kwF (kg 1 2 [(0, 0), (2, 0), (1, 0), (2, 1)] [.int 0]) m_need_number (argC (vr 2) argN) (argC (cst (.str [109, 97, 110, 121])) (argC (vr 1) argN)))) (sqS (ifS (orT (noT (tst (op1 (isiD "list") (vr 0)))) (noT (tst (opN cAll (argC (ofL (lcO (itF (vr 0)) [5] (.nm 5) yesT (anF (op1 (isiD "str") (vr 5)) (op2 dEq (opN cLen (argC (vr 5) argN)) (vr 1))))) argN))))) (raX 4 (cst (.str [119, 111, 114, 100, 115]))) nxS) (reS (ofL (lcO (itF (calF m_words_of (argC (vr 3) (argC (vr 1) argN)))) [4] (.nm 4) (tst (opN cAll (argC (ofL (lcO (itF (vr 0)) [5] (.nm 5) yesT (op2 dGt (calF m_unlike (argC (vr 4) (argC (vr 5) argN))) (vr 2)))) argN))) (vr 4)))))))
theorem words_of_ok {a : List Nat} {n : Nat} (ha : a.length ≤ 4) (hn : n ≤ 6) : m_words_of [.str a, .int (n : Nat)] = .ok (.lst ((allw a n).map .str)) := by
  have loop : ∀ (l : List Nat) (k : Nat) (x : Sl), k + l.length ≤ 6 → ∃ x', forGo (.nm 3) (asS 2 (ofL (lc2O (itF (vr 2)) [4, 5] (.nm 4) yesT (itF (vr 0)) [5] (.nm 5) yesT (op2 dAdd (vr 4) (vr 5))))) (l.map fun i => D.int (i : Nat)) [.sh (.str a), .sh (.int (n : Nat)), .sh (.lst ((allw a k).map .str)), x, .no, .no] = .nx [.sh (.str a), .sh (.int (n : Nat)), .sh (.lst ((allw a (k + l.length)).map .str)), x', .no, .no] := by
    intro l
    induction l with
    | nil => exact fun k x _ => ⟨x, rfl⟩
    | cons i l ih =>
      intro k x h
      rw [List.length_cons] at h
      obtain ⟨x', e⟩ := ih (k + 1) (.sh (.int (i : Nat))) (by omega)
      refine ⟨x', ?_⟩
      have many := allw_many ha k
      have many1 := allw_many ha (k + 1)
      have p4 : 4 ^ k ≤ 4 ^ 6 := Nat.pow_le_pow_right (by decide) (by omega)
      have p41 : 4 ^ (k + 1) ≤ 4 ^ 6 := Nat.pow_le_pow_right (by decide) (by omega)
      have p5 : (4 : Nat) ^ 6 = 4096 := rfl
      have ez : ((allw a k).flatMap fun r => a.map fun c => D.str (r ++ [c])) = (allw a (k + 1)).map .str := by
        show _ = ((allw a k).flatMap fun r => a.map fun c => r ++ [c]).map D.str
        rw [List.map_flatMap]
        exact congrArg (fun f => (allw a k).flatMap f) (funext fun r => by rw [List.map_map]; rfl)
      rw [List.map_cons, for_cons (ps := [(3, .int (i : Nat))]) (ρ' := [.sh (.str a), .sh (.int (n : Nat)), .sh (.lst ((allw a (k + 1)).map .str)), .sh (.int (i : Nat)), .no, .no]) rfl, e, show k + 1 + l.length = k + (i :: l).length by rw [List.length_cons]; omega]
      refine as_nx ((eO (eLc2 (ds := (allw a k).map .str) rfl (by rw [List.length_map]; omega) (lc2_im (h := .str) (ps := fun r => [(4, .str r)]) (es := fun _ => a.map fun c => D.str [c]) (g := fun r => a.map fun c => D.str (r ++ [c])) fun r hr => ⟨rfl, eI rfl rfl, by rw [List.length_map]; omega, lcGo_im (ps := fun c => [(5, D.str [c])]) fun c _ => ⟨rfl, e2 rfl rfl (if_pos ?_)⟩⟩) (by rw [ez, List.length_map]; omega))).trans (by rw [ez]))
      rw [allw_len hr]
      show k + 1 ≤ _
      omega
  obtain ⟨x', e⟩ := loop (List.range n) 0 .no (by rw [List.length_range]; omega)
  rw [List.length_range, Nat.zero_add] at e
  exact dm rfl (sq_to (as_nx (d := .lst [.str []]) (eL rfl (by decide))) (sq_to ((for_go (ds := (List.range n).map fun i => D.int (i : Nat)) ((eR (n := ((n : Nat) : Int)) rfl (by omega)).trans (by rw [rgD_nat]))).trans e) (re_to rfl)))
theorem need_case_ok {a : List Nat} {L : Nat} (ha : a ∈ A4) (hL : 1 ≤ L ∧ L ≤ 10) (h : a.length ^ L ≤ 1300) : m_need_case [.str a, .int (L : Nat)] = .ok .non := by
  have al := al_len a ha
  have al2 : a.length < 2 ^ 3000 := Nat.lt_of_lt_of_le (show a.length < 2 ^ 3 by show _ < 8; omega) (Nat.pow_le_pow_right (by decide) (by decide))
  have pw := Pu.Sh.power_ok (b := a.length) (n := L) (by omega) al2 (by omega) (Pu.Sh.pw_small (by omega) (by omega))
  have en := need_number_ok (d := .int (L : Nat)) (y := .str [108, 101, 110, 103, 116, 104]) (lo := 1) (hi := 10) trivial (by unfold numB; simp; omega)
  refine dm rfl (sq_to (ex_nx ((eK rfl).trans (need_al ha))) (sq_to (ex_nx ((eKw (xs := [.int (L : Nat)]) (zs := [.str [108, 101, 110, 103, 116, 104], .int 1, .int 10]) rfl rfl).trans en)) ?_))
  exact (congrArg outR (if_nx ((tB (e2 ((eK (eC (eN (eC rfl rfl) (lenq (by omega))) (eC rfl rfl))).trans pw) rfl rfl)).trans (congrArg Res.ok (decide_eq_false (by omega)))))).trans rfl
/-- the walk of all_in_one, the top of the stack ahead -/
def aio (a : List Nat) : Nat → Pu.Sh.KV2 → List (List Nat) → List (List Nat) → Option (List (List Nat))
  | 0, _, _, _ => none
  | _ + 1, _, [], found => some found
  | n + 1, left, h :: st, found => if Pu.Sh.gtc left h < a.length then aio a n (Pu.Sh.pt left h 1) (((h ++ [a.getD (a.length - 1 - (Pu.Sh.gtc left h).toNat) 0]).drop 1) :: h :: st) found else aio a n left st (found ++ [h])
abbrev aiC : T := (tst (op2 dNe (vr 5) (lstF argN)))
abbrev aiB : SF := (sqS (aiS 7 (op2 dIx (vr 5) (op1 dNeg (cst (.int 1))))) (sqS (aiS 8 (gt2F (vr 3) (vr 7) (cst (.int 0)))) (ifS (tst (op2 dLt (vr 8) (opN cLen (argC (vr 0) argN)))) (sqS (dpI 3 (vr 7) (op2 dAdd (vr 8) (cst (.int 1)))) (apS 5 (slF (op2 dAdd (vr 7) (op2 dIx (vr 0) (op2 dSub (op2 dSub (opN cLen (argC (vr 0) argN)) (cst (.int 1))) (vr 8)))) (soP (cst (.int 1))) noP))) (apoS 6 5))))
def EA (a : List Nat) (L : Nat) (s : List Nat) (left : Pu.Sh.KV2) (st found : List (List Nat)) (x y : Sl) : SEnv := [.sh (.str a), .sh (.int (L : Nat)), .sh (.str s), .od (Pu.Sh.enc left), .no, .ow (st.reverse.map .str), .ow (found.map .str), x, y, .no]
theorem atI_last {α : Type} (l : List α) (d : α) : atI (l ++ [d]) (-1) = some d := by
  have e1 : ixN (l ++ [d]).length (-1) = some l.length := by
    unfold ixN
    rw [if_neg (by decide), if_pos (by rw [List.length_append]; show -((l.length + 1 : Nat) : Int) ≤ -1; omega), List.length_append]
    refine congrArg some ?_
    show ((-1 : Int) + ((l.length + 1 : Nat) : Int)).toNat = _
    omega
  unfold atI
  rw [e1]
  show (l ++ [d])[l.length]? = _
  simp
theorem last_at (l : List D) (d : D) : dIx (.lst (l ++ [d])) (.int (-1)) = some d := atI_last l d
theorem last_str {x : List Nat} (h : x ≠ []) (hl : x.length ≤ 1000) : dIx (.str x) (.int (-1)) = some (.str [x.getLastD 0]) := by
  show (if x.length ≤ 16777216 then (atI x (-1)).map fun c => D.str [c] else none) = _
  rw [if_pos (by omega)]
  have e : x = x.dropLast ++ [x.getLastD 0] := by
    conv => lhs; rw [← List.dropLast_concat_getLast h]
    rw [List.getLastD_eq_getLast?, List.getLast?_eq_getLast h]
    rfl
  rw [e, atI_last]
  rw [← e]
  rfl
theorem pt_len (kvs : Pu.Sh.KV2) (k : List Nat) (c : Int) : (Pu.Sh.pt kvs k c).length ≤ kvs.length + 1 := by
  unfold Pu.Sh.pt
  split
  · rw [List.length_map]; omega
  · rw [List.length_append]; show _ + 1 ≤ _; omega
theorem gtc_nn {kvs : Pu.Sh.KV2} (h : ∀ p ∈ kvs, 0 ≤ p.2) (k : List Nat) : 0 ≤ Pu.Sh.gtc kvs k := by
  unfold Pu.Sh.gtc
  cases q : kvs.find? fun p => decide (p.1 = k) with
  | none => exact Int.le_refl 0
  | some p => exact h p (List.mem_of_find?_eq_some q)
theorem pt_nn {kvs : Pu.Sh.KV2} (h : ∀ p ∈ kvs, 0 ≤ p.2) {k : List Nat} : ∀ p ∈ Pu.Sh.pt kvs k 1, 0 ≤ p.2 := by
  have g := gtc_nn h k
  unfold Pu.Sh.pt
  split
  · intro p hp
    obtain ⟨q, hq, rfl⟩ := List.mem_map.mp hp
    have := h q hq
    split
    · show 0 ≤ Pu.Sh.gtc kvs k + 1
      omega
    · exact this
  · intro p hp
    rcases List.mem_append.mp hp with z | z
    · exact h p z
    · rw [List.mem_singleton.mp z]
      show (0 : Int) ≤ 1
      decide
theorem aio_sim {a : List Nat} {L : Nat} {s : List Nat} (ha : a.length ≤ 4) : ∀ (n : Nat) (left : Pu.Sh.KV2) (st found F : List (List Nat)) (x y : Sl), left.length + n ≤ 100000 → st.length + n ≤ 100000 → found.length + n ≤ 100000 → (∀ h ∈ st, h.length ≤ 20) → (∀ p ∈ left, 0 ≤ p.2) → aio a n left st found = some F →
    ∃ left' x' y', whGo aiC aiB n (EA a L s left st found x y) = .nx (EA a L s left' [] F x' y')
  | 0, _, _, _, _, _, _, _, _, _, _, _, h => nomatch h
  | n + 1, left, [], found, F, x, y, _, _, _, _, _, h => by
    have e : found = F := Option.some.inj h
    subst e
    exact ⟨left, x, y, wh_no ((tB (e2 rfl (eL rfl (by decide)) (neq (by decide) (by decide)))).trans rfl)⟩
  | n + 1, left, h :: st, found, F, x, y, b1, b2, b3, hs, hg, hr => by
    rw [List.length_cons] at b2
    have hh := hs h List.mem_cons_self
    have er : (h :: st).reverse.map D.str = st.reverse.map D.str ++ [.str h] := by rw [List.reverse_cons, List.map_append]; rfl
    have ds : dep (.lst (st.reverse.map D.str ++ [.str h])) ≤ 60 := by
      rw [← er, dep_lst]
      have : depL ((h :: st).reverse.map D.str) ≤ 1 := depL_map fun p _ => by simp
      omega
    have tt : aiC (pkv (EA a L s left (h :: st) found x y)) = .ok true := by
      unfold EA
      rw [er]
      refine (tB (e2 rfl (eL rfl (by decide)) (neq ds (by decide)))).trans ?_
      rw [eqd_lst]
      cases st.reverse.map D.str with
      | nil => rw [List.nil_append, eqdL_cn]; rfl
      | cons d l => rw [List.cons_append, eqdL_cn]; rfl
    have l1 : (h :: st).reverse.map D.str ≠ [] := by simp
    have llen : ((h :: st).reverse.map D.str).length = st.length + 1 := by rw [List.length_map, List.length_reverse, List.length_cons]
    have g0 := gtc_nn hg h
    have body : ∀ g : SF, (sqS (aiS 7 (op2 dIx (vr 5) (op1 dNeg (cst (.int 1))))) (sqS (aiS 8 (gt2F (vr 3) (vr 7) (cst (.int 0)))) g)) (EA a L s left (h :: st) found x y) = g (EA a L s left (h :: st) found (.sh (.str h)) (.sh (.int (Pu.Sh.gtc left h)))) := fun g => by
      rw [sq_nx (ρ' := EA a L s left (h :: st) found (.sh (.str h)) y) (ai_nx (d := .str h) (e2 rfl (e1 (p := dNeg) (d := .int 1) (z := .int (-1)) rfl rfl) ((congrArg (fun l => dIx (.lst l) (.int (-1))) er).trans (last_at _ _))) rfl)]
      exact sq_nx (ai_nx ((Pu.Sh.g2_ok rfl rfl rfl rfl rfl).trans (by rw [Pu.Sh.get_enc])) rfl)
    have t2 : (tst (op2 dLt (vr 8) (opN cLen (argC (vr 0) argN)))) (pkv (EA a L s left (h :: st) found (.sh (.str h)) (.sh (.int (Pu.Sh.gtc left h))))) = .ok (decide (Pu.Sh.gtc left h < a.length)) := tB (e2 rfl (eN (eC rfl rfl) (lenq (by omega))) rfl)
    by_cases c : Pu.Sh.gtc left h < a.length
    · have hr2 : aio a n (Pu.Sh.pt left h 1) (((h ++ [a.getD (a.length - 1 - (Pu.Sh.gtc left h).toNat) 0]).drop 1) :: h :: st) found = some F := by
        have : aio a (n + 1) left (h :: st) found = aio a n (Pu.Sh.pt left h 1) (((h ++ [a.getD (a.length - 1 - (Pu.Sh.gtc left h).toNat) 0]).drop 1) :: h :: st) found := if_pos c
        rw [← this]
        exact hr
      have pl := pt_len left h 1
      obtain ⟨left', x', y', e⟩ := aio_sim (L := L) (s := s) ha n _ _ found F (.sh (.str h)) (.sh (.int (Pu.Sh.gtc left h))) (by omega) (by rw [List.length_cons, List.length_cons]; omega) (by omega) (fun v hv => by
        rcases List.mem_cons.mp hv with rfl | z
        · rw [List.length_drop, List.length_append]
          show h.length + 1 - 1 ≤ 20
          omega
        · exact hs v z) (pt_nn hg) hr2
      refine ⟨left', x', y', ?_⟩
      rw [wh_yes tt (ρ' := EA a L s (Pu.Sh.pt left h 1) (((h ++ [a.getD (a.length - 1 - (Pu.Sh.gtc left h).toNat) 0]).drop 1) :: h :: st) found (.sh (.str h)) (.sh (.int (Pu.Sh.gtc left h)))) ?_]
      · exact e
      · refine (body _).trans ((if_yes (t2.trans (congrArg Res.ok (decide_eq_true c)))).trans ?_)
        have le : (Pu.Sh.enc left).length < 1000000 := by unfold Pu.Sh.enc; rw [List.length_map]; omega
        have dp : dpI 3 (vr 7) (op2 dAdd (vr 8) (cst (.int 1))) (EA a L s left (h :: st) found (.sh (.str h)) (.sh (.int (Pu.Sh.gtc left h)))) = .nx (EA a L s (Pu.Sh.pt left h 1) (h :: st) found (.sh (.str h)) (.sh (.int (Pu.Sh.gtc left h)))) := by
          refine (Pu.Sh.dp_nx (kvs := Pu.Sh.enc left) rfl le (e2 rfl rfl rfl) rfl rfl rfl).trans ?_
          rw [Pu.Sh.put_enc]
          rfl
        refine (sq_nx dp).trans ?_
        have jlt : a.length - 1 - (Pu.Sh.gtc left h).toNat < a.length := by omega
        have ixq : dIx (.str a) (.int (((a.length : Nat) : Int) - 1 - Pu.Sh.gtc left h)) = some (.str [a.getD (a.length - 1 - (Pu.Sh.gtc left h).toNat) 0]) := by
          rw [show ((a.length : Nat) : Int) - 1 - Pu.Sh.gtc left h = ((a.length - 1 - (Pu.Sh.gtc left h).toNat : Nat) : Int) by omega]
          exact Pu.Co.ix_let (by rw [List.getD_eq_getElem?_getD, List.getElem?_eq_getElem jlt]; rfl) (by omega)
        have adq : dAdd (.str h) (.str [a.getD (a.length - 1 - (Pu.Sh.gtc left h).toNat) 0]) = some (.str (h ++ [a.getD (a.length - 1 - (Pu.Sh.gtc left h).toNat) 0])) := if_pos (by show h.length + 1 ≤ _; omega)
        have hl1 : (h ++ [a.getD (a.length - 1 - (Pu.Sh.gtc left h).toNat) 0]).length = h.length + 1 := by rw [List.length_append]; rfl
        have slq1 : dSl (.str (h ++ [a.getD (a.length - 1 - (Pu.Sh.gtc left h).toNat) 0])) (some 1) none = some (.str ((h ++ [a.getD (a.length - 1 - (Pu.Sh.gtc left h).toNat) 0]).drop 1)) := (slq (by omega)).trans (congrArg (fun l => some (D.str l)) (cutL_from (p := 1) (by omega)))
        refine (ap_nx (ds := (h :: st).reverse.map .str) rfl (by omega) (eS (e2 rfl (e2 rfl (e2 (e2 (eN (eC rfl rfl) (lenq (by omega))) rfl rfl) rfl rfl) ixq) adq) (eP rfl) rfl slq1)).trans ?_
        unfold EA
        rw [List.reverse_cons (as := h :: st), List.map_append]
        rfl
    · have hr2 : aio a n left st (found ++ [h]) = some F := by
        have : aio a (n + 1) left (h :: st) found = aio a n left st (found ++ [h]) := if_neg c
        rw [← this]
        exact hr
      obtain ⟨left', x', y', e⟩ := aio_sim (L := L) (s := s) ha n left st (found ++ [h]) F (.sh (.str h)) (.sh (.int (Pu.Sh.gtc left h))) (by omega) (by omega) (by rw [List.length_append]; show _ + 1 + n ≤ _; omega) (fun v hv => hs v (List.mem_cons_of_mem _ hv)) hg hr2
      refine ⟨left', x', y', ?_⟩
      rw [wh_yes tt (ρ' := EA a L s left st (found ++ [h]) (.sh (.str h)) (.sh (.int (Pu.Sh.gtc left h)))) ?_]
      · exact e
      · refine (body _).trans ((if_no (t2.trans (congrArg Res.ok (decide_eq_false c)))).trans ?_)
        refine (apo_nx (ds := found.map .str) (es := st.reverse.map .str) (d := .str h) rfl (by rw [List.length_map]; omega) (by decide) (congrArg (fun l => some (Sl.ow l)) er)).trans ?_
        unfold EA
        rw [List.map_append]
        rfl
def stW (a : List Nat) (L : Nat) : List Nat := (List.replicate (((L : Nat) : Int) - 1).toNat [a.getD 0 0]).flatten
def aioT (a : List Nat) (L : Nat) : Option (List Nat) := match aio a 10000 [] [stW a L] [] with
  | some F => if L = 1 then some a else (match F.reverse with
    | r :: rest => if rest.length ≤ 900 ∧ r.length ≤ 20 ∧ (rest.all fun x => !x.isEmpty && decide (x.length ≤ 20)) = true then some (r ++ rest.map fun x => x.getLastD 0) else none
    | [] => none)
  | none => none
theorem all_in_one_ok {a t : List Nat} {L : Nat} (ha : a ∈ A4) (hL : 1 ≤ L ∧ L ≤ 10) (hp : a.length ^ L ≤ 1300) (h : aioT a L = some t) : m_all_in_one [.str a, .int (L : Nat)] = .ok (.str t) := by
  have al := al_len a ha
  unfold aioT at h
  cases q : aio a 10000 [] [stW a L] [] with
  | none => rw [q] at h; cases h
  | some F =>
    rw [q] at h
    dsimp only at h
    have sl : (stW a L).length ≤ 20 := by
      unfold stW
      rw [List.length_flatten, List.map_replicate, List.sum_replicate_nat]
      show _ * 1 ≤ 20
      omega
    obtain ⟨left', x', y', e⟩ := aio_sim (a := a) (L := L) (s := stW a L) (by omega) 10000 [] [stW a L] [] F .no .no (by show 0 + _ ≤ _; omega) (by show 1 + _ ≤ _; omega) (by show 0 + _ ≤ _; omega) (fun v hv => by rw [List.mem_singleton.mp hv]; exact sl) (fun _ z => nomatch z) q
    have ix0 : dIx (.str a) (.int 0) = some (.str [a.getD 0 0]) := Pu.Co.ix_let (j := 0) (by rw [List.getD_eq_getElem?_getD, List.getElem?_eq_getElem (show 0 < a.length by omega)]; rfl) (by omega)
    have mu : dMul (.str [a.getD 0 0]) (.int (((L : Nat) : Int) - 1)) = some (.str (stW a L)) := if_pos ⟨by omega, by show 1 * _ ≤ _; omega, by omega⟩
    refine dm rfl (sq_to (ex_nx ((eK rfl).trans (need_case_ok ha hL hp))) (sq_to (as_nx (d := .str (stW a L)) (e2 (e2 rfl rfl ix0) (e2 rfl rfl rfl) mu)) (sq_to (f := ndS 3) rfl (sq_to (par_nx (zo_ok (d := [.str (stW a L)]) rfl) (zo_ok (d := []) rfl)) (sq_to e (sq_to ((show fzS [6] _ _ = asS 4 _ _ from rfl).trans (as_nx (d := .lst (F.map D.str).reverse) (e1 (p := dRevL) (d := .lst (F.map D.str)) rfl rfl))) ?_))))))
    by_cases c : L = 1
    · rw [if_pos c] at h
      have := Option.some.inj h
      subst this
      exact congrArg outR (sq_rt ((if_yes ((tB (e2 rfl rfl (eqq (by simp) (by simp)))).trans (by rw [eqd_int, c]; rfl))).trans (re_rt rfl)))
    · rw [if_neg c] at h
      refine sq_to (if_nx ((tB (e2 rfl rfl (eqq (by simp) (by simp)))).trans (by rw [eqd_int]; exact congrArg Res.ok (decide_eq_false (by omega))))) (re_to ?_)
      cases qr : F.reverse with
      | nil => rw [qr] at h; cases h
      | cons r rest =>
        rw [qr] at h
        dsimp only at h
        split at h
        · rename_i cc
          have := Option.some.inj h
          subst this
          have er : (F.map D.str).reverse = (r :: rest).map D.str := by rw [← List.map_reverse, qr]
          rw [er]
          have hx : ∀ x ∈ rest, x ≠ [] ∧ x.length ≤ 20 := fun x hx => by
            have := List.all_eq_true.mp cc.2.2 x hx
            rw [Bool.and_eq_true_iff] at this
            refine ⟨fun z => ?_, of_decide_eq_true this.2⟩
            rw [z] at this
            exact absurd this.1 (by decide)
          have i0 : dIx (.lst ((r :: rest).map D.str)) (.int 0) = some (.str r) := by
            show atI ((r :: rest).map D.str) ((0 : Nat) : Int) = _
            rw [Pu.atI_nat (by rw [List.length_map, List.length_cons]; omega)]
            rfl
          have s1 : dSl (.lst ((r :: rest).map D.str)) (some 1) none = some (.lst (rest.map D.str)) := congrArg (fun l => some (D.lst l)) (cutL_from (p := 1) (by rw [List.length_map, List.length_cons]; omega))
          have jn : (mt1 tyStr dJoin (cst (.str [])) (ofL (lcO (itF (slF (vr 4) (soP (cst (.int 1))) noP)) [9] (.nm 9) yesT (op2 dIx (vr 9) (op1 dNeg (cst (.int 1))))))) (pkv [.sh (.str a), .sh (.int (L : Nat)), .sh (.str (stW a L)), .od (Pu.Sh.enc left'), .sh (.lst ((r :: rest).map D.str)), .ow [], .sh (.lst (F.map D.str)), x', y', .no]) = .ok (.str ((rest.map fun x => x.getLastD 0).map id)) := by
            refine Pu.Cw.join_map (by rw [List.length_map]; omega) ?_
            rw [List.map_map]
            exact eLc (ds := rest.map D.str) (eI (eS rfl (eP rfl) rfl s1) rfl) (by rw [List.length_map]; omega) (lcGo_im (h := .str) (g := fun x => D.str [x.getLastD 0]) (ps := fun x => [(9, .str x)]) fun x hxx => ⟨rfl, e2 rfl (e1 (p := dNeg) (d := .int 1) (z := .int (-1)) rfl rfl) (last_str (hx x hxx).1 (by have := (hx x hxx).2; omega))⟩)
          rw [List.map_id] at jn
          exact e2 (e2 rfl rfl i0) jn (if_pos (by rw [List.length_map]; omega))
        · cases h
def pcs (L : Nat) (t : List Nat) : List (List Nat) := (List.range (t.length + 1 - L)).map fun i => (t.drop i).take L
def okA1 (a : List Nat) (L : Nat) : Bool := match aioT a L with
  | some t => decide (ssort (pcs L t) = allw a L) && decide (L ≤ t.length) && decide (t.length ≤ 100)
  | none => false
theorem aio_all : ([[97, 98], [97, 99], [97, 98, 99]].all fun a => [1, 2, 3, 4].all fun L => okA1 a L) = true := by decide +kernel
end Pu.Wo

namespace Pu
open PySem PySem.Spec PyProof.Rows L2 Evl
/-! ### name = [.. for .. in .. for .. in ..] -/
section
variable {X : Cx} {xa : Xa} {W : WX} {pos spos py : Pos} {elt tg iter tg1 iter1 : Expr} {ifs ifs1 : List Expr}
theorem s_lc2 {i : Nat} {y : Str} {scope : Scope} {own : List (Str × Nat)} {it it1 : Fs} {t t1 : Tg} {c c1 : T} {f : F} (vs1 : List Nat) (hc : X.calm = true) (hN : X.N.Nodup) (hi : Pi X xa W tg iter it) (ok : BlkOk X.N X.env.scope scope own)
    (hg : ∀ (s : Shared) (H : Hp) (C : Addr) (cl : List (Str × Addr)) (fp : List Addr), Pg (X.blk s H scope (compEnvC scope cl C X.env) fp) tg t)
    (ht : ∀ (s : Shared) (H : Hp) (C : Addr) (cl : List (Str × Addr)) (fp : List Addr), Pts (X.blk s H scope (compEnvC scope cl C X.env) fp) xa WF ifs c)
    (hi1 : ∀ (s : Shared) (H : Hp) (C : Addr) (cl : List (Str × Addr)) (fp : List Addr), Pi (X.blk s H scope (compEnvC scope cl C X.env) fp) xa WF tg1 iter1 it1)
    (hg1 : ∀ (s : Shared) (H : Hp) (C : Addr) (cl : List (Str × Addr)) (fp : List Addr), Pg (X.blk s H scope (compEnvC scope cl C X.env) fp) tg1 t1)
    (ht1 : ∀ (s : Shared) (H : Hp) (C : Addr) (cl : List (Str × Addr)) (fp : List Addr), Pts (X.blk s H scope (compEnvC scope cl C X.env) fp) xa WF ifs1 c1)
    (he : ∀ (s : Shared) (H : Hp) (C : Addr) (cl : List (Str × Addr)) (fp : List Addr), Pe (X.blk s H scope (compEnvC scope cl C X.env) fp) xa WF elt f)
    (hsw : swapsWith (.ListComp elt [⟨tg, iter, ifs, 0⟩, ⟨tg1, iter1, ifs1, 0⟩] scope pos) (some (.Name y py)) spos.line X.env = pure true := by exact sw_true rfl rfl rfl rfl)
    (hv : ∀ i ∈ vs1, i ∈ own.map (·.2) := by decide) (hx : ∀ i ∈ t.ix, i ∈ own.map (·.2) := by decide) (hx1 : ∀ i ∈ t1.ix, i ∈ vs1 := by decide) (hs : ∀ x, foldedSetIterable iter X.env x = pure x := by intro _; rfl) (hs1 : ∀ env x, foldedSetIterable iter1 env x = pure x := by intro _ _; rfl)
    (hy : X.N[i]? = some y := by rfl) (hyl : X.env.scope.names.lookup y = some .local := by rfl) :
    Ps X xa W (.Assign [.Name y py] (.ListComp elt [⟨tg, iter, ifs, 0⟩, ⟨tg1, iter1, ifs1, 0⟩] scope pos) spos) (asS i (ofL (lc2O it (own.map (·.2)) t c it1 vs1 t1 c1 f))) := by
  refine PS.imp (ps_setLc2 (vs1 := vs1) (wi1 := tPx X.K xa (Wk X.K xa) WF it1) (tt := tPT X.K xa WF c) (tt1 := tPT X.K xa WF c1) (te := tP X.K xa WF f) hc hN hy hyl hsw hi ok hv hg ht hi1 hg1 ht1 he hs hs1) fun Dn σ H ⟨B0, H0, B, ρ, r, p⟩ => ?_
  refine t_lc2 hx hx1 (tO_of ?_)
  exact meet r p fun d v B' H' g rel r' k => k _ B' H' (r'.set rel i)
end
end Pu

namespace Pu.Rk
open PySem L2 Pu
def rgI (a b : Int) : List Int := (List.range (b - a).toNat).map fun i => a + (i : Nat)
theorem rgD_I (a b : Int) : rgD a b = (rgI a b).map .int := by
  unfold rgD rgI
  rw [List.map_map]
  rfl
theorem rgI_len (a b : Int) : (rgI a b).length = (b - a).toNat := by
  unfold rgI
  rw [List.length_map, List.length_range]
def cI (t : List Nat) (L i j : Int) : Int := ((cnt (cut t (some i) (some (i + L))) (cut t (some j) (some (j + L))) : Nat) : Int)
abbrev eD (t : List Nat) (L i j : Int) : D := .tup [.int i, .int j, .int (cI t L i j)]
def innP (t : List Nat) (L m i : Int) (js : List Int) : List D := (js.filter fun j => decide (cI t L i j ≤ m)).map (eD t L i)
def PR (t : List Nat) (L m : Int) : List D := (rgI 0 (((t.length : Nat) : Int) - L + 1)).flatMap fun i => innP t L m i (rgI (i + L) (((t.length : Nat) : Int) - L + 1))
abbrev B1 : SF := sqS (asS 6 (calF m_unlike (argC (slF (vr 0) (soP (vr 4)) (soP (op2 dAdd (vr 4) (vr 1)))) (argC (slF (vr 0) (soP (vr 5)) (soP (op2 dAdd (vr 5) (vr 1)))) argN)))) (ifS (tst (op2 dLe (vr 6) (vr 2))) (apS 3 (tupF (argC (vr 4) (argC (vr 5) (argC (vr 6) argN))))) nxS)
theorem in_loop {t : List Nat} {L m i : Int} (ht : t.length ≤ 1000) : ∀ (js : List Int) (acc : List D) (x y : Sl), acc.length + js.length ≤ 100000 → ∃ x' y', forGo (.nm 5) B1 (js.map .int) [.sh (.str t), .sh (.int L), .sh (.int m), .ow acc, .sh (.int i), x, y] = .nx [.sh (.str t), .sh (.int L), .sh (.int m), .ow (acc ++ innP t L m i js), .sh (.int i), x', y']
  | [], acc, x, y, _ => ⟨x, y, by simp [forGo, innP]⟩
  | j :: js, acc, x, y, hl => by
    have hl : acc.length + (js.length + 1) ≤ 100000 := hl
    have ev : (calF m_unlike (argC (slF (vr 0) (soP (vr 4)) (soP (op2 dAdd (vr 4) (vr 1)))) (argC (slF (vr 0) (soP (vr 5)) (soP (op2 dAdd (vr 5) (vr 1)))) argN))) (shv [.sh (.str t), .sh (.int L), .sh (.int m), .ow acc, .sh (.int i), .sh (.int j), y]) = .ok (.int (cI t L i j)) :=
      (eK (eC (eS rfl (eP rfl) (eP (e2 rfl rfl rfl)) (slq ht)) (eC (eS rfl (eP rfl) (eP (e2 rfl rfl rfl)) (slq ht)) rfl))).trans (unlike_ok (Nat.le_trans (cut_len _ _ _) ht))
    have tt : (tst (op2 dLe (vr 6) (vr 2))) (pkv [.sh (.str t), .sh (.int L), .sh (.int m), .ow acc, .sh (.int i), .sh (.int j), .sh (.int (cI t L i j))]) = .ok (decide (cI t L i j ≤ m)) := tB (e2 rfl rfl rfl)
    by_cases hb : decide (cI t L i j ≤ m) = true
    · obtain ⟨x', y', e⟩ := in_loop (L := L) (m := m) (i := i) ht js (acc ++ [eD t L i j]) (.sh (.int j)) (.sh (.int (cI t L i j))) (by rw [List.length_append]; show acc.length + 1 + _ ≤ _; omega)
      refine ⟨x', y', ?_⟩
      have ei : innP t L m i (j :: js) = eD t L i j :: innP t L m i js := by
        unfold innP
        rw [List.filter_cons_of_pos (p := fun j => decide (cI t L i j ≤ m)) hb]
        rfl
      rw [hb] at tt
      rw [List.map_cons, for_cons (ps := [(5, .int j)]) (ρ' := [.sh (.str t), .sh (.int L), .sh (.int m), .ow (acc ++ [eD t L i j]), .sh (.int i), .sh (.int j), .sh (.int (cI t L i j))]) rfl, e, ei, List.append_assoc]
      · rfl
      · exact (sq_nx (as_nx ev)).trans ((if_yes tt).trans (ap_nx (ds := acc) rfl (by omega) (eTu (eC rfl (eC rfl (eC rfl rfl))) (Nat.le_of_ble_eq_true rfl))))
    · obtain ⟨x', y', e⟩ := in_loop (L := L) (m := m) (i := i) ht js acc (.sh (.int j)) (.sh (.int (cI t L i j))) (by omega)
      refine ⟨x', y', ?_⟩
      have ei : innP t L m i (j :: js) = innP t L m i js := by
        unfold innP
        rw [List.filter_cons_of_neg (p := fun j => decide (cI t L i j ≤ m)) hb]
      rw [Bool.eq_false_iff.mpr hb] at tt
      rw [List.map_cons, for_cons (ps := [(5, .int j)]) (ρ' := [.sh (.str t), .sh (.int L), .sh (.int m), .ow acc, .sh (.int i), .sh (.int j), .sh (.int (cI t L i j))]) rfl, e, ei]
      exact (sq_nx (as_nx ev)).trans (if_nx tt)
theorem innP_len (t : List Nat) (L m i : Int) (js : List Int) : (innP t L m i js).length ≤ js.length := by
  unfold innP
  rw [List.length_map]
  exact List.length_filter_le _ _
abbrev B2 : SF := forS (rg2F (op2 dAdd (vr 4) (vr 1)) (op2 dAdd (op2 dSub (opN cLen (argC (vr 0) argN)) (vr 1)) (cst (.int 1)))) (.nm 5) B1
theorem out_loop {t : List Nat} {L m : Int} (ht : t.length ≤ 40) (hL : 0 ≤ L) (hL2 : L ≤ 1000) : ∀ (is : List Int) (acc : List D) (x y z : Sl), (∀ i ∈ is, 0 ≤ i ∧ i ≤ 1000) → acc.length + 50 * is.length ≤ 100000 → ∃ x' y' z', forGo (.nm 4) B2 (is.map .int) [.sh (.str t), .sh (.int L), .sh (.int m), .ow acc, x, y, z] = .nx [.sh (.str t), .sh (.int L), .sh (.int m), .ow (acc ++ is.flatMap fun i => innP t L m i (rgI (i + L) (((t.length : Nat) : Int) - L + 1))), x', y', z']
  | [], acc, x, y, z, _, _ => ⟨x, y, z, by simp [forGo]⟩
  | i :: is, acc, x, y, z, hi, hl => by
    have hl : acc.length + 50 * (is.length + 1) ≤ 100000 := hl
    obtain ⟨i0, i1⟩ := hi i List.mem_cons_self
    have il : (rgI (i + L) (((t.length : Nat) : Int) - L + 1)).length ≤ 41 := by rw [rgI_len]; omega
    have nl := innP_len t L m i (rgI (i + L) (((t.length : Nat) : Int) - L + 1))
    obtain ⟨y1, z1, e1'⟩ := in_loop (L := L) (m := m) (i := i) (show t.length ≤ 1000 by omega) (rgI (i + L) (((t.length : Nat) : Int) - L + 1)) acc y z (by omega)
    obtain ⟨x', y', z', e⟩ := out_loop (m := m) ht hL hL2 is (acc ++ innP t L m i (rgI (i + L) (((t.length : Nat) : Int) - L + 1))) (.sh (.int i)) y1 z1 (fun q hq => hi q (List.mem_cons_of_mem _ hq)) (by rw [List.length_append]; omega)
    refine ⟨x', y', z', ?_⟩
    rw [List.map_cons, for_cons (ps := [(4, .int i)]) (ρ' := [.sh (.str t), .sh (.int L), .sh (.int m), .ow (acc ++ innP t L m i (rgI (i + L) (((t.length : Nat) : Int) - L + 1))), .sh (.int i), y1, z1]) rfl, e, List.flatMap_cons, List.append_assoc]
    exact (for_go (ds := rgD (i + L) (((t.length : Nat) : Int) - L + 1)) (eR2 (e2 rfl rfl rfl) (e2 (e2 (eN (eC rfl rfl) (lenq (by omega))) rfl rfl) rfl rfl) (by omega))).trans ((congrArg (fun l => forGo _ _ l _) (rgD_I _ _)).trans e1')
theorem all_pairs {t : List Nat} {L m : Int} (ht : t.length ≤ 40) (hL : 1 ≤ L) (hL2 : L ≤ 1000) : outR ((sqS (aoS 3 (lnO argN)) (sqS (forS (rgF (op2 dAdd (op2 dSub (opN cLen (argC (vr 0) argN)) (vr 1)) (cst (.int 1)))) (.nm 4) B2) (reS (vr 3)))) [.sh (.str t), .sh (.int L), .sh (.int m), .no, .no, .no, .no]) = .ok (.lst (PR t L m)) := by
  have rl : (rgI 0 (((t.length : Nat) : Int) - L + 1)).length ≤ 41 := by rw [rgI_len]; omega
  obtain ⟨x', y', z', e⟩ := out_loop (m := m) ht (by omega) hL2 (rgI 0 (((t.length : Nat) : Int) - L + 1)) [] .no .no .no (fun i hi => by
    obtain ⟨k, hk, rfl⟩ := List.mem_map.mp hi
    have := List.mem_range.mp hk
    omega) (by show 0 + _ ≤ _; omega)
  refine sq_to (ao_nx (ds := []) rfl) (sq_to ((for_go (ds := rgD 0 (((t.length : Nat) : Int) - L + 1)) (eR (e2 (e2 (eN (eC rfl rfl) (lenq (by omega))) rfl rfl) rfl rfl) (by omega))).trans ((congrArg (fun l => forGo _ _ l _) (rgD_I _ _)).trans e)) (re_to rfl))
theorem nn2b {m : List D → Res D} {as ks : Fs} {ε : Pu.Env} {d y z : D} (h1 : as ε = .ok [d]) (h2 : ks ε = .ok [y, z]) : kwF (kg 1 2 [(0, 0), (2, 0), (2, 1), (1, 0)] [.int 40]) m as ks ε = m [d, y, z, .int 40] := (eKw h1 h2).trans rfl
theorem num_in {lo hi i : Int} (h1 : lo ≤ i) (h2 : i ≤ hi) : numB lo hi (.int i) = true := by
  show (decide (lo ≤ i) && decide (i ≤ hi)) = true
  rw [decide_eq_true h1, decide_eq_true h2]
  rfl
theorem pairs_ok {t : List Nat} {L m : Int} (ht : plainB (.str t) = true) (hL : 1 ≤ L) (hL2 : L ≤ 40) (h0 : 0 ≤ m) (h1 : m ≤ L) : m_pairs [.str t, .int L, .int m] = .ok (.lst (PR t L m)) :=
  dm rfl (sq_to (ex_nx ((eK rfl).trans (need_plain_ok (plain_ok ht) ht))) (sq_to (ex_nx ((nn2b rfl rfl).trans (need_number_ok (d := .int L) trivial (num_in hL hL2)))) (sq_to (ex_nx ((nn2 rfl rfl).trans (need_number_ok (d := .int m) trivial (num_in h0 h1)))) (all_pairs (plain_len ht) hL (by omega)))))
/-! ### standing, ranked -/
def mnv (t w : List Nat) (m : Nat) : Int := (lmin (((pz w.length t).map fun p => ((cnt p w : Nat) : Int)) ++ [((m : Nat) : Int) + 1])).getD 0
def sm (ts : List (List Nat)) (w : List Nat) (m : Nat) : List (List Nat × Nat) := ts.zipIdx.filter fun p => decide (mnv p.1 w m ≤ ((m : Nat) : Int))
theorem pz_len (l : Nat) (t : List Nat) : (pz l t).length ≤ t.length + 1 := by
  unfold pz
  simp
  try omega
theorem min_mnv {t w : List Nat} {m : Nat} : cMin [.lst (((pz w.length t).map fun p => D.int ((cnt p w : Nat) : Int)) ++ [.int (((m : Nat) : Int) + 1)])] = some (.int (mnv t w m)) := by
  have e : ((pz w.length t).map fun p => D.int ((cnt p w : Nat) : Int)) ++ [.int (((m : Nat) : Int) + 1)] = (((pz w.length t).map fun p => ((cnt p w : Nat) : Int)) ++ [((m : Nat) : Int) + 1]).map D.int := by
    rw [List.map_append, List.map_map]
    rfl
  rw [e]
  show (intsOf _).bind _ = _
  rw [intsOf_map]
  obtain ⟨x, hx⟩ := lmin_some (l := ((pz w.length t).map fun p => ((cnt p w : Nat) : Int)) ++ [((m : Nat) : Int) + 1]) (by simp)
  unfold mnv
  show (lmin _).map D.int = _
  rw [hx]
  rfl
theorem standing_ok {ts : List (List Nat)} {w : List Nat} {m : Nat} (hw : w.length ≤ 900) (ht : ∀ t ∈ ts, t.length ≤ 900) (hn : ts.length ≤ 1000) : m_standing [.lst (ts.map .str), .str w, .int (m : Nat)] = .ok (.tup [.lst ((sm ts w m).map fun p => D.int (p.2 : Nat)), .int ((sm ts w m).map fun p => mnv p.1 w m).sum]) := by
  have ls : (sm ts w m).length ≤ 1000 := Nat.le_trans (List.length_filter_le _ _) (by rw [List.length_zipIdx]; exact hn)
  refine dm rfl (sq_to (as_nx (d := .lst (ts.zipIdx.map fun p => D.tup [.int (p.2 : Nat), .int (mnv p.1 w m)])) (eO (eLc ((eE rfl rfl).trans (by rw [enD_zip])) (by rw [List.length_map, List.length_zipIdx]; omega) (lcGo_im (α := List Nat × Nat) (h := fun p => D.tup [.int (p.2 : Nat), .str p.1]) (g := fun p => D.tup [.int (p.2 : Nat), .int (mnv p.1 w m)]) (ps := fun p => [(5, .int (p.2 : Nat)), (6, .str p.1)]) fun p hp => ⟨rfl, ?_⟩)))) ?_)
  · have lp := ht p.1 (List.mem_of_getElem? (List.mem_zipIdx_iff_getElem?.mp hp))
    have pl := pz_len w.length p.1
    exact eTu (eC rfl (eC (eN (eC (e2 ((eK rfl).trans (places_ok hw lp)) (eL (eC (e2 rfl rfl rfl) rfl) (Nat.le_of_ble_eq_true rfl)) (if_pos (by rw [List.length_map]; show _ + 1 ≤ _; omega))) rfl) min_mnv) rfl)) (Nat.le_of_ble_eq_true rfl)
  refine sq_to (as_nx (d := .lst ((sm ts w m).map fun p => D.tup [.int (p.2 : Nat), .int (mnv p.1 w m)])) (eO (eLc (ds := ts.zipIdx.map fun p => D.tup [.int (p.2 : Nat), .int (mnv p.1 w m)]) rfl (by rw [List.length_map, List.length_zipIdx]; omega) (lcGo_imf (α := List Nat × Nat) (h := fun p => D.tup [.int (p.2 : Nat), .int (mnv p.1 w m)]) (g := fun p => D.tup [.int (p.2 : Nat), .int (mnv p.1 w m)]) (b := fun p => decide (mnv p.1 w m ≤ ((m : Nat) : Int))) (ps := fun p => [(5, .int (p.2 : Nat)), (7, .int (mnv p.1 w m))]) fun p _ => ⟨rfl, tB (e2 rfl rfl rfl), fun _ => eTu rfl (Nat.le_of_ble_eq_true rfl)⟩)))) ?_
  refine re_to (eTu (ds := [.lst ((sm ts w m).map fun p => D.int (p.2 : Nat)), .int ((sm ts w m).map fun p => mnv p.1 w m).sum]) (eC (eO (eLc (ds := (sm ts w m).map fun p => D.tup [.int (p.2 : Nat), .int (mnv p.1 w m)]) rfl (by rw [List.length_map]; omega) (lcGo_im (α := List Nat × Nat) (h := fun p => D.tup [.int (p.2 : Nat), .int (mnv p.1 w m)]) (g := fun p => D.int (p.2 : Nat)) (ps := fun p => [(5, .int (p.2 : Nat)), (7, .int (mnv p.1 w m))]) fun p _ => ⟨rfl, rfl⟩))) (eC (eN (ds := [.lst ((sm ts w m).map fun p => D.int (mnv p.1 w m))]) (eC (eO (eLc (ds := (sm ts w m).map fun p => D.tup [.int (p.2 : Nat), .int (mnv p.1 w m)]) rfl (by rw [List.length_map]; omega) (lcGo_im (α := List Nat × Nat) (h := fun p => D.tup [.int (p.2 : Nat), .int (mnv p.1 w m)]) (g := fun p => D.int (mnv p.1 w m)) (ps := fun p => [(5, .int (p.2 : Nat)), (7, .int (mnv p.1 w m))]) fun p _ => ⟨rfl, rfl⟩))) rfl) ?_) rfl)) (Nat.le_of_ble_eq_true rfl))
  show (intsOf _).map _ = _
  rw [ints_map]
  rfl
def row (ts : List (List Nat)) (m : Nat) (w : List Nat) : D := .tup [.int (-(((sm ts w m).length : Nat) : Int)), .int ((sm ts w m).map fun p => mnv p.1 w m).sum, .str w]
def bk : D → D
  | .tup [.int x, y, z] => .tup [z, .int (-x), y]
  | d => d
def bp : D → List (Nat × D)
  | .tup [x, y, z] => [(10, x), (9, y), (7, z)]
  | _ => []
abbrev rkB : SF := (sqS (atS (.tp [8, 9]) (calF m_standing (argC (vr 0) (argC (vr 7) (argC (vr 2) argN))))) (apS 6 (tupF (argC (op1 dNeg (opN cLen (argC (vr 8) argN))) (argC (vr 9) (argC (vr 7) argN))))))
theorem rk_loop {ts : List (List Nat)} {L m : Nat} {a : List Nat} {qd : D} {x5 : Sl} (ht : ∀ t ∈ ts, t.length ≤ 900) (hn : ts.length ≤ 1000) : ∀ (l : List (List Nat)) (acc : List D) (x y z : Sl), (∀ w ∈ l, w.length ≤ 900) → acc.length + l.length ≤ 100000 → ∃ x' y' z', forGo (.nm 7) rkB (l.map .str) [.sh (.lst (ts.map .str)), .sh (.int (L : Nat)), .sh (.int (m : Nat)), .sh (.str a), .sh qd, x5, .ow acc, x, y, z, .no] = .nx [.sh (.lst (ts.map .str)), .sh (.int (L : Nat)), .sh (.int (m : Nat)), .sh (.str a), .sh qd, x5, .ow (acc ++ l.map (row ts m)), x', y', z', .no]
  | [], acc, x, y, z, _, _ => ⟨x, y, z, by rw [List.map_nil, List.map_nil, List.append_nil]; rfl⟩
  | w :: l, acc, x, y, z, hw, hl => by
    rw [List.length_cons] at hl
    obtain ⟨x', y', z', e⟩ := rk_loop (L := L) (a := a) (qd := qd) (x5 := x5) ht hn l (acc ++ [row ts m w]) (.sh (.str w)) (.sh (.lst ((sm ts w m).map fun p => D.int (p.2 : Nat)))) (.sh (.int ((sm ts w m).map fun p => mnv p.1 w m).sum)) (fun v hv => hw v (List.mem_cons_of_mem _ hv)) (by rw [List.length_append]; show _ + 1 + _ ≤ _; omega)
    refine ⟨x', y', z', ?_⟩
    rw [List.map_cons, for_cons (ps := [(7, .str w)]) (ρ' := [.sh (.lst (ts.map .str)), .sh (.int (L : Nat)), .sh (.int (m : Nat)), .sh (.str a), .sh qd, x5, .ow (acc ++ [row ts m w]), (.sh (.str w)), (.sh (.lst ((sm ts w m).map fun p => D.int (p.2 : Nat)))), (.sh (.int ((sm ts w m).map fun p => mnv p.1 w m).sum)), .no]) rfl, e, List.map_cons, List.append_assoc]
    · rfl
    · refine (sq_nx (at_nx (ps := [(8, .lst ((sm ts w m).map fun p => D.int (p.2 : Nat))), (9, .int ((sm ts w m).map fun p => mnv p.1 w m).sum)]) ((eK rfl).trans (standing_ok (hw w List.mem_cons_self) ht hn)) rfl)).trans ?_
      refine ap_nx (ds := acc) rfl (by omega) (eTu (ds := [.int (-(((sm ts w m).length : Nat) : Int)), .int ((sm ts w m).map fun p => mnv p.1 w m).sum, .str w]) (eC (e1 (p := dNeg) (d := .int (((sm ts w m).length : Nat) : Int)) ((eN (eC rfl rfl) rfl).trans (by rw [List.length_map])) rfl) (eC rfl (eC rfl rfl))) (Nat.le_of_ble_eq_true rfl))
theorem sort_rows (ts : List (List Nat)) (m : Nat) (l : List (List Nat)) : cSortD [.lst (l.map (row ts m))] = some (.lst (srt1 leD (l.map (row ts m)))) := by
  have d : depL (l.map (row ts m)) ≤ 1 := depL_map fun p _ => by unfold row; simp
  have k : (l.map (row ts m)).all okTp = true := by
    rw [List.all_map]
    exact List.all_eq_true.mpr fun _ _ => rfl
  exact if_pos ⟨by omega, okA_of (fun b b' => by unfold row; simp [PySem.W.alike, PySem.W.alikeAll, py, pyL]) l, .inl k⟩
theorem ranked_ok {ts : List (List Nat)} {L m : Nat} {a : List Nat} {qd : D} {ws : List (List Nat)} (ht : ∀ t ∈ ts, t.length ≤ 900) (hn : ts.length ≤ 1000) (hc : m_common [.lst (ts.map .str), .int (L : Nat), .int (m : Nat), .str a, qd] = .ok (.lst (ws.map .str))) (hw : ∀ w ∈ ws, w.length ≤ 900) (hl : ws.length ≤ 10000) : m_ranked [.lst (ts.map .str), .int (L : Nat), .int (m : Nat), .str a, qd] = .ok (.lst ((srt1 leD (ws.map (row ts m))).map bk)) := by
  obtain ⟨x', y', z', e⟩ := rk_loop (L := L) (m := m) (a := a) (qd := qd) (x5 := .sh (.lst (ws.map .str))) ht hn ws [] .no .no .no hw (by show 0 + _ ≤ _; omega)
  rw [List.nil_append] at e
  have ls : (srt1 leD (ws.map (row ts m))).length ≤ 10000 := by rw [(srt1_perm leD _).length_eq, List.length_map]; exact hl
  refine dm rfl (sq_to (as_nx (d := .lst (ws.map .str)) ((eKw (xs := [.lst (ts.map .str), .int (L : Nat), .int (m : Nat), .str a]) (zs := [qd]) rfl rfl).trans hc)) (sq_to (ao_nx (ds := []) (eLn rfl (by decide))) (sq_to ((for_go (ds := ws.map .str) (eI rfl rfl)).trans e) (re_to (eO (eLc (ds := srt1 leD (ws.map (row ts m))) (eI (eN (eC rfl rfl) (sort_rows ts m ws)) rfl) (by omega) (lcGo_map (ps := bp) (g := bk) fun d hd => ?_)))))))
  obtain ⟨w, _, rfl⟩ := List.mem_map.mp ((srt1_perm leD _).mem_iff.mp hd)
  exact ⟨rfl, eTu (eC rfl (eC (e1 (p := dNeg) rfl rfl) (eC rfl rfl))) (Nat.le_of_ble_eq_true rfl)⟩
theorem le_trip {x y : Int} {u v : List Nat} (h : u < v) : leD (.tup [.int x, .int y, .str u]) (.tup [.int x, .int y, .str v]) = true := by
  show (!PySem.W.dataLt (.tuple [.int x, .int y, .str (sOf v)]) (.tuple [.int x, .int y, .str (sOf u)])) = true
  rw [PySem.W.dataLt_tuple, PySem.W.dataLt_cons (by simp [PySem.W.alike]), PySem.W.dataLt_cons (by simp [PySem.W.alike]), PySem.W.dataLt_cons (by simp [PySem.W.alike])]
  have ne : ¬ PyData.eqv (.str (sOf v)) (.str (sOf u)) = true := fun z => by
    have z2 : sOf v = sOf u := by simpa [PyData.eqv] using z
    have z3 : v = u := sOf_inj z2
    exact List.lt_irrefl u (z3 ▸ h)
  rw [if_pos (by simp [PyData.eqv]), if_pos (by simp [PyData.eqv]), if_neg ne, PySem.W.dataLt_str]
  show (!decide (v < u)) = true
  rw [decide_eq_false (fun z => List.lt_irrefl u (List.lt_trans h z))]
  rfl
end Pu.Rk

namespace Pu
open PySem PySem.Spec PyProof.Rows L2 Evl
/-! ### (a, b) < (c, d) -/
def dLtT : D → D → Option D := fun d e => if dep d ≤ 60 ∧ dep e ≤ 60 ∧ PySem.W.alike (py d) (py e) = true ∧ okTp d = true then some (.bl (PySem.W.dataLt (py d) (py e))) else none
theorem okTp_ne {d : D} (h : okTp d = true) : py d ≠ .none := by
  cases d with
  | tup l => exact fun z => by cases z
  | tpz l => exact fun z => by cases z
  | _ => cases h
section
variable {X : Cx} {xa : Xa}
theorem o_ltT (hu : X.A.units + 64 < cLine) : Op2 X xa (compareOp .Lt) dLtT := by
  intro pins s σ H x y v u Q I rx ry h
  obtain ⟨Hb, d, e, z, le, r1, r2, hz, q⟩ := h
  unfold dLtT at hz
  by_cases c : dep d ≤ 60 ∧ dep e ≤ 60 ∧ PySem.W.alike (py d) (py e) = true ∧ okTp d = true
  · rw [if_pos c] at hz
    cases hz
    obtain ⟨a1, _, b1⟩ := (r1.mono le).dp c.1
    obtain ⟨a2, _, b2⟩ := (r2.mono le).dp c.2.1
    obtain ⟨as, s1⟩ := Dp.reads I _ x v a1 rx
    obtain ⟨bs, s2⟩ := Dp.reads I _ y u a2 ry
    exact PySem.W.lt_data s1 s2 c.2.2.1 (okTp_ne c.2.2.2) (by omega) ⟨.bl _, H, I, rfl, q _ Hb H (Gw.refl le) (.bl _)⟩
  · rw [if_neg c] at hz
    cases hz
end
theorem ltT_is {i j : Int} {u v : List Nat} : dLtT (.tup [.int i, .str u]) (.tup [.int j, .str v]) = some (.bl (decide (i < j ∨ (i = j ∧ u < v)))) := by
  unfold dLtT
  rw [if_pos ⟨by simp, by simp, by simp [PySem.W.alike, PySem.W.alikeAll, py, pyL], rfl⟩]
  refine congrArg (fun b => some (D.bl b)) ?_
  show PySem.W.dataLt (.tuple [.int i, .str (sOf u)]) (.tuple [.int j, .str (sOf v)]) = _
  rw [PySem.W.dataLt_pair (by simp [PySem.W.alike]) (by simp [PySem.W.alike]), PySem.W.dataLt_int, PySem.W.dataLt_str]
  show _ = decide (i < j ∨ (i = j ∧ u < v))
  by_cases h1 : i = j
  · rw [if_pos (by simp [PyData.eqv, h1])]
    by_cases h2 : u = v
    · rw [if_pos (by simp [PyData.eqv, h2]), h2, h1]
      exact (decide_eq_false (by
        rintro (z | ⟨_, z⟩)
        · exact absurd z (Int.lt_irrefl _)
        · exact List.lt_irrefl v z)).symm
    · rw [if_neg (fun z => h2 (sOf_inj (by simpa [PyData.eqv] using z)))]
      show decide (u < v) = _
      refine decide_eq_decide.mpr ⟨fun z => .inr ⟨h1, z⟩, ?_⟩
      rintro (z | ⟨_, z⟩)
      · exact absurd (h1 ▸ z) (Int.lt_irrefl _)
      · exact z
  · rw [if_neg (by simp [PyData.eqv, h1])]
    refine decide_eq_decide.mpr ⟨.inl, ?_⟩
    rintro (z | ⟨z, _⟩)
    · exact z
    · exact absurd z h1
end Pu

namespace Pu
open PySem PySem.Spec PyProof.Rows L2 Evl
/-! ### sets of texts, each met once -/
abbrev KS (P : Program) (w : World) : PySem.KeyKind P w Str := PySem.strKind P w
def TxE (P : Program) (w : World) (e : Int × Value) : Prop := ∃ k tk, e.2 = Value.str k tk ∧ e.1 = (KS P w).hash k
/-- the set at a holds just these values -/
def SetV (P : Program) (w : World) (h : Heap) (a : Addr) (vs : List Value) : Prop :=
  ∃ o es ep t, (h.get? a = some o ∧ o.ExactSet ∧ o.data = .set es ep t) ∧ (∀ e ∈ es.toList, TxE P w e) ∧ (es.toList.map (·.2)).Perm vs ∧ (es.size < scanBound ∧ t.fits es.size = true) ∧ Ris t.place.toList ∧ (w.params.followText "set-order" = true ∨ t.led = true)
section
variable {P : Program} {w : World} {A : Around} {E : Value → Shared → Prop} {s : Shared} {a : Addr} {vs : List Value}
theorem SetV.at_ {h h' : Heap} (S : SetV P w h a vs) (k : ∀ o, h.get? a = some o → h'.get? a = some o) : SetV P w h' a vs := by
  obtain ⟨o, es, ep, t, ⟨ho, r1⟩, r2⟩ := S
  exact ⟨o, es, ep, t, ⟨k o ho, r1⟩, r2⟩
theorem txE_elems {l : List (Int × Value)} (g : ∀ e ∈ l, TxE P w e) : ElemsOf (KS P w) l := by
  intro e he
  obtain ⟨k, tk, e1, e2⟩ := g e he
  refine ⟨⟨k, ?_, e2⟩, ?_⟩
  · rw [e1]; exact PySem.strKind_is P w k tk
  · rw [e1]; rfl
theorem setV_tail {gv : Bool → Sem Unit} (hgv : ∀ (b : Bool) (s1 : Shared) (Q1 : Unit → Shared → Prop), Q1 () s1 → wpAny (model P w) A (gv b) Q1 E s1)
    {o : Obj} {es : Array (Int × Value)} {ep : Nat} {t : SetTable} (ho : s.heap.get? a = some o) (ex : o.ExactSet) (hd : o.data = .set es ep t)
    {fs : Array (Int × Value)} {t2 : SetTable} (gf : ∀ e ∈ fs.toList, TxE P w e) (pf : (fs.toList.map (·.2)).Perm vs) (hb : fs.size < scanBound) (hf : t2.fits fs.size = true) (hr : Ris t2.place.toList) (hl : w.params.followText "set-order" = true ∨ t2.led = true) {dm : Bool} {Z : Option Bool → Shared → Prop}
    (hZ : ∀ h1, Heap.SameBut a s.heap h1 → SetV P w h1 a vs → Z (some true) { s with heap := h1 }) :
    wpAny (model P w) A (do
        storeSet a fs t2
        if (!dm && t2.tooFull) = true then do
            gv (relayAll t2 fs (SetTable.grown fs.size)).2.2
            storeSet a (relayAll t2 fs (SetTable.grown fs.size)).1 (relayAll t2 fs (SetTable.grown fs.size)).2.1
            pure (some true)
          else pure (some true)) Z E s := by
  refine wpAny_bind (wpAny_storeSet_of ho hd ?_ (fits_of_scanBound hb))
  have o1 := store_at (es' := fs) (t' := t2) ho hd
  have b1 := Heap.SameBut.update s.heap a (Obj.putSet fs t2)
  split
  · have q1 := relayAll_perm t2 fs (SetTable.grown fs.size)
    have q2 := relayAll_fits t2 fs (SetTable.grown fs.size)
    have q3 := relayAll_ris t2 fs (SetTable.grown fs.size)
    have q4 := relayAll_led t2 fs (SetTable.grown fs.size)
    generalize relayAll t2 fs (SetTable.grown fs.size) = Y at q1 q2 q3 q4 ⊢
    obtain ⟨ks, t3, gave⟩ := Y
    dsimp only at q1 q2 q3 q4 ⊢
    have sz : ks.size = fs.size := by rw [← Array.length_toList, q1.length_eq, Array.length_toList]
    have b2 : ks.size < scanBound := sz ▸ hb
    refine wpAny_bind (hgv _ _ _ (wpAny_bind (wpAny_storeSet_of o1 rfl ?_ (fits_of_scanBound b2))))
    have o2 := store_at (es' := ks) (t' := t3) o1 rfl
    refine wpAny_pure (hZ _ (b1.trans (Heap.SameBut.update _ a _)) ⟨_, ks, _, t3, ⟨o2, ex, rfl⟩, fun e he => gf e (q1.mem_iff.mp he), (q1.map _).trans pf, ⟨b2, q2⟩, q3, ?_⟩)
    rcases hl with z | z
    · exact .inl z
    · exact .inr (q4.trans z)
  · exact wpAny_pure (hZ _ b1 ⟨_, fs, _, t2, ⟨o1, ex, rfl⟩, gf, pf, ⟨hb, hf⟩, hr, hl⟩)
theorem setV_add {k : Str} {tk : Tok} {Q : Bool → Shared → Prop} (S : SetV P w s.heap a vs) (room : vs.length + 1 < scanBound) (new : ∀ t', Value.str k t' ∉ vs)
    (hQ : ∀ h1, Heap.SameBut a s.heap h1 → SetV P w h1 a (vs ++ [.str k tk]) → Q true { s with heap := h1 }) :
    wpAny (model P w) A (setAddHashed a (.str k tk) ((KS P w).hash k)) Q E s := by
  obtain ⟨o, es, ep, t, ⟨ho, ex, hd⟩, g, pe, ⟨hb, hf⟩, hr, hl⟩ := S
  have isK : (KS P w).is k (.str k tk) = true := PySem.strKind_is P w k tk
  have sc : (Value.str k tk).scannable = true := rfl
  have el := txE_elems g
  unfold setAddHashed setAddHashedIn
  refine wpAny_holding (wpAny_bind (wpAny_setState_of ho hd hf ?_))
  dsimp only
  rw [byScan_of sc hb el]
  simp only [↓reduceIte]
  unfold setAddByScan
  refine wpAny_bind (wpAny_bind (wpAny_rule (wpAny_bind (wpAny_setScan_of isK ho hd hf el ?_))))
  have nf : List.findIdx? (fun e => (KS P w).is k e.2) es.toList = none := by
    refine List.findIdx?_eq_none_iff.mpr fun e he => ?_
    obtain ⟨k', t', e1, _⟩ := g e he
    rw [e1]
    cases q : (KS P w).is k (.str k' t') with
    | false => rfl
    | true =>
      obtain ⟨u, hu⟩ := PySem.Value.isStrOf_shape (show PySem.Value.isStrOf k (.str k' t') = true from q)
      injection hu with hk
      subst hk
      exact absurd (pe.mem_iff.mp (List.mem_map.mpr ⟨e, he, e1⟩)) (new t')
  rw [nf]
  dsimp only
  have gw : ∀ (b : Bool) {s1 : Shared} {Q1 : Unit → Shared → Prop}, Q1 () s1 → wpAny (model P w) A (match b with | true => rule "set.scan.the-table-gave-way" | false => pure ()) Q1 E s1 := by
    intro b s1 Q1 q
    cases b
    · exact wpAny_pure q
    · exact wpAny_rule q
  have p1 := layNew_perm t es ((KS P w).hash k) (.str k tk)
  have p2 := layNew_fits t es ((KS P w).hash k) (.str k tk)
  have p3 := layNew_ris t es ((KS P w).hash k) (.str k tk) hr
  have p4 := layNew_led t es ((KS P w).hash k) (.str k tk)
  generalize layNew t es ((KS P w).hash k) (.str k tk) = Y at p1 p2 p3 p4 ⊢
  obtain ⟨fs, t1, dm, gave⟩ := Y
  dsimp only at p1 p2 p3 p4 ⊢
  rw [Array.toList_push] at p1
  have gf : ∀ e ∈ fs.toList, TxE P w e := fun e he => by
    rcases List.mem_append.mp (p1.mem_iff.mp he) with z | z
    · exact g e z
    · rw [List.mem_singleton.mp z]; exact ⟨k, tk, rfl, rfl⟩
  have pf : (fs.toList.map (·.2)).Perm (vs ++ [.str k tk]) := by
    refine (p1.map _).trans ?_
    rw [List.map_append]
    exact pe.append_right _
  have sz : fs.size = vs.length + 1 := by
    have := pf.length_eq
    rw [List.length_map, Array.length_toList, List.length_append] at this
    exact this
  have hb1 : fs.size < scanBound := by rw [sz]; exact room
  have ld : w.params.followText "set-order" = true ∨ t1.led = true := by
    rcases hl with z | z
    · exact .inl z
    · exact .inr (p4.trans z)
  refine wpAny_bind (gw _ ?_)
  split
  · refine wpAny_bind ?_
    rw [hashByValue_scannable 8 sc]
    refine wpAny_pure ?_
    refine setV_tail ?_ ho ex hd gf pf hb1 ?_ ?_ ?_ ?_
    · exact fun b s1 Q1 q => by cases b <;> first | exact wpAny_pure q | exact wpAny_rule q
    · first | (split <;> first | exact p2 | exact SetTable.fits_plain_off p2) | exact p2
    · first | (split <;> exact p3) | exact p3
    · first | (split <;> exact ld) | exact ld
    · exact fun h1 b r => wpAny_pure (hQ h1 b r)
  · refine wpAny_bind (wpAny_pure ?_)
    simp only [↓reduceIte]
    refine setV_tail ?_ ho ex hd gf pf hb1 p2 p3 ld ?_
    · exact fun b s1 Q1 q => by cases b <;> first | exact wpAny_pure q | exact wpAny_rule q
    · exact fun h1 b r => wpAny_pure (hQ h1 b r)
abbrev setO0 (w : World) : Obj := { cls := .type "set", dict := none, data := .set #[] 0 (.fresh 0 0 (!w.params.followText "set-order")) }
theorem setV_new {h : Heap} (ho : h.get? a = some (setO0 w)) : SetV P w h a [] := by
  refine ⟨_, #[], 0, _, ⟨ho, ⟨rfl, rfl, rfl⟩, rfl⟩, fun e he => ?_, List.Perm.refl _, ⟨by decide, rfl⟩, List.Pairwise.nil, ?_⟩
  · simp at he
  · show _ ∨ (!w.params.followText "set-order") = true
    cases w.params.followText "set-order"
    · exact .inr rfl
    · exact .inl rfl
/-- texts, no two alike -/
def TxL (l : List Value) : Prop := (∀ v ∈ l, ∃ k tk, v = Value.str k tk) ∧ l.Pairwise fun u v => ∀ k t t', ¬ (u = Value.str k t ∧ v = Value.str k t')
theorem set_loop {I : Addr} {fp wr : List Addr} {G : Array GenState → Array GenState → Prop} {n : Nat} {Pv : Nat → Value → Prop} {St : Nat → Shared → Prop} {Z : Result → Shared → Prop}
    (W : WalksS P w A.in1 I fp wr G n Pv St) (S : Addr) (nS : S ∉ fp) (l : List Value) (hn : l.length = n) (hv : ∀ i v, Pv i v → l[i]? = some v) (hl : TxL l) (hb : n + 1 < scanBound) :
    ∀ (j i : Nat) (s : Shared), n - i = j → i ≤ n → St i s → SetV P w s.heap S (l.take i) →
      (∀ s1, Moved (S :: wr) G s s1 → SetV P w s1.heap S l → Z (.ok (.ret .none)) s1) →
      codeAny (model P w) A (.builtin "set.update.loop" ⟨[.ref S, .ref I], []⟩) Z s := by
  have nw : S ∉ wr := fun z => nS (W.sub _ z)
  have up : ∀ b ∈ wr, b ∈ S :: wr := fun b z => List.mem_cons_of_mem _ z
  intro j
  induction j with
  | zero =>
    intro i s hj hi st hS hZ
    have e : i = n := by omega
    subst e
    refine codeAny_builtin F.entry_set_update_loop ?_
    rw [Around.under_plainId F.plain_set_update_loop _]
    refine wpAny_bind (W.done s _ _ st fun s1 mv => ?_)
    rw [← hn, List.take_length] at hS
    exact wpAny_pure (hZ s1 (mv.mono up) (hS.at_ fun o e => mv.heap S o nw e))
  | succ j ih =>
    intro i s hj hi st hS hZ
    have lt : i < n := by omega
    refine codeAny_builtin F.entry_set_update_loop ?_
    rw [Around.under_plainId F.plain_set_update_loop _]
    refine wpAny_bind (W.item i s _ _ lt st fun v s1 hp st1 mv => ?_)
    have gi := hv i v hp
    obtain ⟨k, tk, rfl⟩ := hl.1 v (List.mem_of_getElem? gi)
    have S1 : SetV P w s1.heap S (l.take i) := hS.at_ fun o e => mv.heap S o nw e
    show wpAny _ A.in1 (holding [Value.str k tk] (setAdd S (.str k tk)) >>= _) _ _ s1
    refine wpAny_bind (wpAny_holding ?_)
    unfold setAdd
    refine wpAny_holding (wpAny_bind ((KS P w).pyHash (k := k) (PySem.strKind_is P w k tk) ?_))
    have il : i < l.length := hn ▸ lt
    have tl : (l.take i).length = i := by rw [List.length_take]; omega
    have ne : ∀ t', Value.str k t' ∉ l.take i := fun t' z => by
      obtain ⟨m, hm, em⟩ := List.getElem_of_mem z
      rw [tl] at hm
      rw [List.getElem_take] at em
      have gi2 : l[i] = Value.str k tk := by
        have := List.getElem?_eq_getElem il
        rw [gi] at this
        exact (Option.some.inj this).symm
      exact List.pairwise_iff_getElem.mp hl.2 m i (by omega) il hm k t' tk ⟨em, gi2⟩
    refine setV_add (s := { s1 with toks := s1.toks + 1 }) S1 (by rw [tl]; omega) ne fun h1 sb S2 => ?_
    have tk2 : l.take (i + 1) = l.take i ++ [Value.str k tk] := by rw [List.take_succ, gi]; rfl
    refine wpAny_pure ⟨plainId_quiet F.plain_set_update_loop _, ih (i + 1) _ (by omega) lt (W.frame _ s1 _ _ st1 (Nat.le_succ _) fun b hb o e => ?_) (by rw [tk2]; exact S2) fun s2 mv2 S3 => ?_⟩
    · exact (sb.2 b fun z => nS (z ▸ hb)).trans e
    · exact hZ s2 (Moved.trans W.gtrans ((mv.mono up).then_heap (Nat.le_succ _) fun b o hb e => (sb.2 b fun z => hb (z ▸ List.mem_cons_self)).trans e) mv2) S3
end
section
variable {P : Program} {w : World} {A : Around} {E : Value → Shared → Prop} {s : Shared}
/-- set(xs), xs a list of texts of which no two are alike -/
theorem call_setV {l : Addr} {xs : Array Value} {Q : Value → Shared → Prop} (hh : A.handled = none) (il : s.heap.IsList l xs) (tx : TxL xs.toList) (room : xs.size + 1 < scanBound)
    (k : ∀ (h1 : Heap) (tk : Nat), SetV P w h1 s.heap.objs.size xs.toList → (∀ b o, s.heap.get? b = some o → h1.get? b = some o) → Q (.ref s.heap.objs.size) { s with heap := h1, toks := tk }) :
    wpAny (model P w) A (call (.type "set") [.ref l]) Q E s := by
  obtain ⟨c0, tl0, hmro⟩ := F.called_set.mro
  have hmade := F.called_set.made
  have hsub := F.called_set.sub
  have n1 := F.called_set.notType
  have n2 := F.called_set.canCreate
  have n3 := F.typeCall_set_1 (.ref l)
  refine wpAny_call (codeAny_of_tree (show wpAny _ _ (callAny (.type "set") _) _ _ _ from wpAny_pure ⟨Code.quiet_builtin _ (by decide +kernel), codeAny_builtin F.entry_type_call ?_⟩))
  rw [Around.under_plain (weight_type_call_type "set" [.ref l] []) rfl]
  repeat (any_goals (first | assumption | wp_step))
  refine codeAny_mono (code_set_led1 (.ref l) (E := E) (Q₁ := fun v s1 => v = .ref s.heap.objs.size ∧ s1 = { s with heap := s.heap.push (setO0 w) }) ⟨rfl, rfl⟩) fun r s1 hr => ?_
  match r, hr with
  | .error e, hr => exact hr
  | .ok (.ret v), hr =>
    obtain ⟨rfl, rfl⟩ := hr
    have gS : (s.heap.push (setO0 w)).get? s.heap.objs.size = some (setO0 w) := Heap.get?_push_size _ rfl
    have ty : Shared.TypeIs { s with heap := s.heap.push (setO0 w) } (.ref s.heap.objs.size) "set" := ⟨_, gS, rfl⟩
    have li := F.called_set.init.lookup
    have bi := F.called_set.init.bind (.ref s.heap.objs.size)
    repeat (any_goals (first | assumption | wp_step))
    refine codeAny_mono (codeAny_call_builtin (R := wants (fun r s2 => r = .none ∧ ∃ h1 tk, s2 = { s with heap := h1, toks := tk } ∧ SetV P w h1 s.heap.objs.size xs.toList ∧ ∀ b o, s.heap.get? b = some o → h1.get? b = some o) E) F.called_set.init.plain F.entry_set_init (check_set_init_1 ty ?_)) fun r2 s2 hr2 => ?_
    · obtain ⟨ol, hol, hcl, nl, hdl⟩ := il
      obtain ⟨oc, od, oda, osl⟩ := ol
      simp only at hcl hdl
      subst hcl; subst hdl
      have gl : (s.heap.push (setO0 w)).get? l = some { cls := .type "list", dict := od, data := .seq xs nl, slots := osl } := Heap.get?_push_of_some _ hol
      have u1 := F.sub_list_set
      have u2 := F.sub_list_frozenset
      have u3 : (Value.type "list" == Value.type "dict") = false := by decide
      have il1 : (s.heap.push (setO0 w)).IsList l xs := ⟨_, gl, rfl, nl, rfl⟩
      unfold Builtin.«set.__init__» noKeywords Builtin.Frozenset.updateFrom
      generalize hPI : pyIter = PI
      wp_walk
      subst hPI
      refine wpAny_pyIter_list il1 (wpAny_bind (wpAny_runValue ?_))
      have ll : l < s.heap.objs.size := Heap.lt_size hol
      have h3 : A.in1.in1.in1.handled = none := by simp [hh]
      have z1 : (s.heap.push (setO0 w)).objs.size = s.heap.objs.size + 1 := Heap.size_push ..
      have nI : l ≠ (s.heap.push (setO0 w)).objs.size := by rw [z1]; exact Nat.ne_of_lt (Nat.lt_succ_of_lt ll)
      have nS : s.heap.objs.size ∉ [(s.heap.push (setO0 w)).objs.size, l] := by
        simp only [List.mem_cons, List.not_mem_nil, or_false, not_or]
        exact ⟨by rw [z1]; exact Nat.ne_of_lt (Nat.lt_succ_self _), Nat.ne_of_gt ll⟩
      refine set_loop ((Walks.list h3 _ l nI xs).toS) s.heap.objs.size nS xs.toList Array.length_toList (fun i v hv => by rw [Array.getElem?_toList]; exact hv) tx room (xs.size - 0) 0 _ rfl (Nat.zero_le _)
        ⟨⟨_, Heap.get?_push_size _ rfl, rfl, rfl⟩, il1.push _⟩ (setV_new (Heap.get?_push_of_some _ gS)) ?_
      rintro ⟨h1, g1, d1, tk1, os1⟩ mv S1
      have e1 : g1 = s.gens := mv.gens
      have e2 : d1 = s.drawn := mv.drawn
      have e3 : os1 = s.os := mv.os
      subst e1; subst e2; subst e3
      refine wpAny_pure (wpAny_pure ⟨rfl, h1, tk1, rfl, S1, fun b o e => ?_⟩)
      have bl : b < s.heap.objs.size := Heap.lt_size e
      refine mv.heap b o ?_ (Heap.get?_push_of_some _ (Heap.get?_push_of_some _ e))
      simp only [List.mem_cons, List.not_mem_nil, or_false, not_or]
      exact ⟨Nat.ne_of_lt bl, by rw [z1]; exact Nat.ne_of_lt (Nat.lt_succ_of_lt bl)⟩
    · match r2, hr2 with
      | .error e, hr2 => exact hr2
      | .ok (.ret v), hr2 =>
        obtain ⟨rfl, h1, tk, rfl, S1, k1⟩ := hr2
        repeat (any_goals (first | assumption | wp_step))
        exact k _ _ S1 k1
end
end Pu

namespace Pu
open PySem PySem.Spec PyProof.Rows L2 Evl
section
variable {P : Program} {w : World} {A : Around} {E : Value → Shared → Prop} {s : Shared} {a : Addr} {vs : List Value}
/-- sorted(s) of a set of texts -/
theorem sorted_setV {Q : Value → Shared → Prop} {β : Type} {enc : β → PyData} {Rl : Value → β → Prop} (S : SetV P w s.heap a vs) (hh : A.handled = none)
    (hR : ∀ v ∈ vs, ∃ b, Rl v b ∧ ∃ k tk, v = Value.str k tk ∧ enc b = .str k) (hu : A.units + 4 < cLine)
    (hQ : ∀ s1 p (out : Array Value) (c : Nat) (bs : List β) (us : List Value), (∀ b o, s.heap.get? b = some o → s1.heap.get? b = some o) → s1.gens = s.gens → s1.os = s.os → s.heap.objs.size ≤ p →
      s1.heap.get? p = some (seqObj "list" out c) → us.Perm vs → PySem.W.EachIs Rl us bs → PySem.W.EachIs Rl out.toList (bs.mergeSort (PySem.W.dataLe false enc)) → Q (.ref p) s1) :
    wpAny (model P w) A (call (.builtin "sorted") [.ref a]) Q E s := by
  obtain ⟨o, es, ep, t, ⟨ho, ex, hd⟩, g, pe, ⟨hb, hf⟩, hr, hl⟩ := S
  refine Calls.call_function_entry kind_sorted plain_sorted entry_sorted (args_sorted1 _) ?_
  unfold Builtin.«sorted»
  refine wpAny_bind (m := checkCount "sorted" 1 1 _) (wpAny_pure (wpAny_bind (collect_set (A := A.in1) hh ⟨o, ho, ex.1, hd⟩ hf hb hr hl fun s1 us k1 hz g1 o1 pm => ?_)))
  have pu := pm.trans pe
  have ul : us.length = es.size := by rw [pm.length_eq, List.length_map, Array.length_toList]
  have mk : ∀ l : List Value, (∀ v ∈ l, v ∈ vs) → ∃ bs : List β, PySem.W.EachIs Rl l bs ∧ (∀ h : Heap, PySem.W.EachIs (fun v b => ∃ as, Reads h v (enc b) as ∧ s1.heap.objs.size ∉ as) l bs) ∧ ∀ b ∈ bs, ∃ k, enc b = .str k := by
    intro l
    induction l with
    | nil => exact fun _ => ⟨[], .nil, fun _ => .nil, fun b hb => nomatch hb⟩
    | cons v l ih =>
      intro hv
      obtain ⟨b, rb, k, tk, e1, e2⟩ := hR v (hv v List.mem_cons_self)
      obtain ⟨bs, r1, r2, r3⟩ := ih fun u hu => hv u (List.mem_cons_of_mem _ hu)
      refine ⟨b :: bs, .cons rb r1, fun h => .cons ⟨[], ?_, by simp⟩ (r2 h), fun c hc => ?_⟩
      · rw [e1, e2]; exact .str k tk
      · rcases List.mem_cons.mp hc with z | z
        · rw [z]; exact ⟨k, e2⟩
        · exact r3 c z
  obtain ⟨bs, r1, r2, r3⟩ := mk us fun v hv => pu.mem_iff.mp hv
  have bl : bs.length = us.length := r1.length.symm
  have sb : us.length ≤ sizeLine := by rw [ul]; exact fits_of_scanBound hb
  refine wpAny_bind (wpAny_newList ?_ sb)
  have oL : (s1.heap.push (seqObj "list" us.toArray 0)).get? s1.heap.objs.size = some (seqObj "list" us.toArray 0) := Heap.get?_push_size _ rfl
  refine wpAny_bind (wpAny_holding (PySem.W.list_sort_data (s := { s1 with heap := s1.heap.push (seqObj "list" us.toArray 0) }) (R := Rl) (enc := enc) (bs := bs) oL r1 (r2 _) ?_ ?_ (by rw [bl]; exact sb) ?_ fun out ol eo => ?_))
  · intro x hx y hy
    obtain ⟨b, hb, rfl⟩ := List.mem_map.mp hx
    obtain ⟨c, hc, rfl⟩ := List.mem_map.mp hy
    obtain ⟨k, e⟩ := r3 b hb
    obtain ⟨k', e'⟩ := r3 c hc
    rw [e, e']
    simp [PySem.W.alike]
  · refine .inr fun x hx => ?_
    obtain ⟨b, hb, rfl⟩ := List.mem_map.mp hx
    obtain ⟨k, e⟩ := r3 b hb
    rw [e]
    exact ⟨fun z => (nomatch z), fun _ z => (nomatch z)⟩
  · intro b hb
    obtain ⟨k, e⟩ := r3 b hb
    rw [e]
    show A.in1.units + 1 + 0 < cLine
    have : A.in1.units = A.units + 1 := rfl
    omega
  · obtain ⟨c, hc⟩ := sortedHeap_at (vs := us) (out := out.toArray) oL
    refine wpAny_pure ⟨_, rfl, hQ _ s1.heap.objs.size out.toArray c bs us (fun b u e => ?_) g1 o1 hz hc pu r1 eo⟩
    have q := k1 b u e
    have lt := Heap.lt_size q
    show (sortedHeap (s1.heap.push (seqObj "list" us.toArray 0)) s1.heap.objs.size us out.toArray).get? b = some u
    rw [sortedHeap_old (Nat.ne_of_lt lt) (by rw [size_push']; exact Nat.lt_succ_of_lt lt)]
    exact Heap.get?_push_of_some _ q
end
end Pu

namespace Pu
open PySem PySem.Spec PyProof.Rows L2 Evl
/-! ### sorted(set(xs)), xs a list of texts of which no two are alike -/
theorem strsOf_some : ∀ {ds : List D} {l : List (List Nat)}, strsOf ds = some l → ds = l.map .str
  | [], l, h => by cases h; rfl
  | d :: r, l, h => by
    cases d with
    | str i =>
      have h : (strsOf r).map (i :: ·) = some l := h
      cases q : strsOf r with
      | none => rw [q] at h; cases h
      | some l' =>
        rw [q] at h
        cases h
        rw [strsOf_some q]
        rfl
    | _ => cases h
def dSSet : D → Option D
  | .lst ds => (strsOf ds).bind fun l => if l.Nodup ∧ l.length < 4000 then some (.lst ((ssort l).map .str)) else none
  | _ => none
theorem sset_ok {l : List (List Nat)} (h : l.Nodup) (n : l.length < 4000) : dSSet (.lst (l.map .str)) = some (.lst ((ssort l).map .str)) := by
  show (strsOf _).bind _ = _
  rw [strsOf_map]
  exact if_pos ⟨h, n⟩
theorem sset_lt {l : List (List Nat)} (h : l.Pairwise (· < ·)) (n : l.length < 4000) : dSSet (.lst (l.map .str)) = some (.lst (l.map .str)) := by
  have nd : l.Nodup := h.imp fun {a b} (z : a < b) (e : a = b) => List.lt_irrefl b (e ▸ z)
  rw [sset_ok nd n, ssort_lt h]
theorem ssort_of {a b : List (List Nat)} (p : a.Perm b) : ssort a = ssort b := by
  have pw : ∀ l : List (List Nat), (ssort l).Pairwise fun x y => (fun a b : List Nat => decide (a ≤ b)) x y = true := fun l => (ssort_pw l).imp fun h => decide_eq_true h
  exact pw_uniq (le := fun a b : List Nat => decide (a ≤ b)) (fun x y h1 h2 => List.le_antisymm (of_decide_eq_true h1) (of_decide_eq_true h2)) ((ssort_perm a).trans (p.trans (ssort_perm b).symm)) (pw a) (pw b)
/-- the text of a value -/
def txOf : Value → List Nat
  | .str x _ => x.cps.toList
  | _ => []
def TxV (v : Value) (b : List Nat) : Prop := okS b ∧ ∃ tk, v = Value.str (sOf b) tk
theorem txv_of {v : Value} {b : List Nat} (h : TxV v b) : txOf v = b := by
  obtain ⟨_, tk, rfl⟩ := h
  show (sOf b).cps.toList = b
  simp
theorem txv_each : ∀ {us : List Value} {bs : List (List Nat)}, PySem.W.EachIs TxV us bs → us.map txOf = bs
  | _, _, .nil => rfl
  | _, _, .cons h t => by rw [List.map_cons, txv_of h, txv_each t]
section
variable {K : PySem.W.Frag} {xa : Xa} {B : Hp}
theorem txv_rl : ∀ {l : List (List Nat)} {ws : List V} {its : List Value}, RL K xa B ws (l.map .str) → Vals ws its → PySem.W.EachIs TxV its l
  | [], _, _, .nil, r => by cases r; exact .nil
  | _ :: _, _, _, .cons h t, r => by
    cases h with
    | str o =>
      cases r with
      | cons r1 r2 =>
        obtain ⟨tk, rfl⟩ := r1
        exact .cons ⟨o, tk, rfl⟩ (txv_rl t r2)
theorem txv_vals : ∀ {l : List (List Nat)} {us : List Value}, PySem.W.EachIs TxV us l → Vals (l.map fun b => V.str (sOf b)) us
  | _, _, .nil => .nil
  | _, _, .cons ⟨_, tk, e⟩ t => .cons ⟨tk, e⟩ (txv_vals t)
theorem txv_rl' : ∀ {l : List (List Nat)} {us : List Value}, PySem.W.EachIs TxV us l → RL K xa B (l.map fun b => V.str (sOf b)) (l.map .str)
  | _, _, .nil => .nil
  | _, _, .cons ⟨o, _⟩ t => .cons (.str o) (txv_rl' t)
theorem txv_txl : ∀ {l : List (List Nat)} {us : List Value}, PySem.W.EachIs TxV us l → l.Nodup → TxL us
  | _, _, .nil, _ => ⟨fun v hv => (nomatch hv), List.Pairwise.nil⟩
  | _, _, @PySem.W.EachIs.cons _ _ _ u b us l h t, nd => by
    obtain ⟨n1, n2⟩ := List.nodup_cons.mp nd
    obtain ⟨t1, t2⟩ := txv_txl t n2
    refine ⟨fun v hv => ?_, List.pairwise_cons.mpr ⟨fun v hv k tk tk' hh => n1 ?_, t2⟩⟩
    · rcases List.mem_cons.mp hv with z | z
      · obtain ⟨_, tk, e⟩ := h
        exact ⟨_, tk, z.trans e⟩
      · exact t1 v z
    · have e1 := txv_of h
      rw [hh.1] at e1
      have e2 : txOf v ∈ us.map txOf := List.mem_map.mpr ⟨v, hv, rfl⟩
      rw [txv_each t, hh.2] at e2
      rw [← e1]
      exact e2
theorem txv_sub : ∀ {l : List (List Nat)} {us : List Value}, PySem.W.EachIs TxV us l → ∀ v ∈ us, ∃ b, TxV v b
  | _, _, .nil, v, hv => nomatch hv
  | _, _, .cons (b := b) h t, v, hv => by
    rcases List.mem_cons.mp hv with z | z
    · exact ⟨b, z ▸ h⟩
    · exact txv_sub t v z
end
section
variable {X : Cx} {xa : Xa} {W : WX} {a : Expr} {f : F} {p p2 q pos : Pos}
theorem p_sset (hc : X.calm = true) (hu : X.A.units + 64 < cLine) (hg : Gl X "sorted") (hm : X.mg "sorted" = none) (hg2 : Gl X "set") (hm2 : X.mg "set" = none) (ha : Pe X xa W a f)
    (na : starEach [a] X.env = (false, eval a X.env) :: starEach [] X.env := by rfl) : Pe X xa W (.Call (.Name "sorted" p) [.Call (.Name "set" p2) [a] [] q] [] pos) (op1 dSSet f) := by
  refine ⟨fun pins s σ H Q I h => ?_⟩
  obtain ⟨Hb, ρ, le, re, pp⟩ := h
  refine Call_ (ld_blt I hg hm PyProof.Rows.boot_sorted ?_)
  refine PyProof.Rows.callWith_builtin1 (PyProof.Rows.args_cons ?_ rfl) rfl rfl
  refine Call_ (ld_blt I hg2 hm2 PyProof.Rows.boot_set ?_)
  refine PyProof.Rows.callWith_type1 (PyProof.Rows.args_cons (thn (ha.run pins s σ H (fun v H1 => ∃ B1 d z, Gw Hb H B1 H1 ∧ R X.K xa B1 v d ∧ dSSet d = some z ∧ post X.K (R X.K xa) (WE W σ) B1 H1 Q (.ok z)) I ⟨Hb, ρ, le, re, post_bind le pp fun d v B1 H1 e1 g1 r1 p1 => ?_⟩) fun v s1 ⟨x, H1, I1, r1, q1⟩ => PyProof.Rows.args_nil ?_) na) na rfl
  · cases y : dSSet d with
    | none => rw [y] at p1; exact p1.elim
    | some z => rw [y] at p1; exact ⟨B1, d, z, g1, r1, y, p1⟩
  · obtain ⟨B1, d, z, g1, rd, hz, p1⟩ := q1
    cases rd with
    | @lst b ws es h1 q1 =>
      have hy : ((strsOf es).bind fun l => if l.Nodup ∧ l.length < 4000 then some (D.lst ((ssort l).map .str)) else none) = some z := hz
      cases y : strsOf es with
      | none => rw [y] at hy; cases hy
      | some l =>
        rw [y] at hy
        have hx : (if l.Nodup ∧ l.length < 4000 then some (D.lst ((ssort l).map .str)) else none) = some z := hy
        have e0 := strsOf_some y
        subst e0
        by_cases c : l.Nodup ∧ l.length < 4000
        · rw [if_pos c] at hx
          cases hx
          cases r1
          obtain ⟨its, rv, hl, hsz⟩ := I1.list (SqL.of (K := X.K) (g1.le _ _ h1))
          have ei := txv_rl q1 rv
          have il : its.length = l.length := ei.length
          refine call_setV (P := X.prog) (w := X.w) (I1.ok.hd hc) hl.isList (by simpa using txv_txl ei c.1) (by rw [List.size_toArray]; unfold scanBound; omega) fun h2 tk S2 k2 => ?_
          have I2 : Inv X pins σ H1 { s1 with heap := h2, toks := tk } := I1.kept k2
          refine PyProof.Rows.args_nil ?_
          refine sorted_setV (s := { s1 with heap := h2, toks := tk }) (β := List Nat) (enc := fun b => .str (sOf b)) (Rl := TxV) S2 (I1.ok.hd hc) (fun v hv => ?_) (by omega) fun s3 p3 out c3 bs us k3 g3 o3 hp3 hg3 pm eu eo => ?_
          · obtain ⟨b, hb⟩ := txv_sub ei v (by simpa using hv)
            obtain ⟨ob, tk, e⟩ := id hb
            exact ⟨b, hb, sOf b, tk, e, rfl⟩
          · have pb : bs.Perm l := by
              rw [← txv_each eu, ← txv_each ei]
              exact (by simpa using pm : us.Perm its).map _
            have em : bs.mergeSort (PySem.W.dataLe false fun b : List Nat => PyData.str (sOf b)) = ssort l := by
              have e1 : (PySem.W.dataLe false fun b : List Nat => PyData.str (sOf b)) = fun a b => decide (a ≤ b) := by
                funext a b
                exact leD_str a b
              have tr : ∀ a b c : List Nat, decide (a ≤ b) = true → decide (b ≤ c) = true → decide (a ≤ c) = true := fun a b c h1 h2 => decide_eq_true (List.le_trans (of_decide_eq_true h1) (of_decide_eq_true h2))
              have to : ∀ a b : List Nat, (decide (a ≤ b) || decide (b ≤ a)) = true := fun a b => by
                rcases List.le_total a b with z | z
                · rw [decide_eq_true z]; rfl
                · rw [decide_eq_true z, Bool.or_true]
              rw [e1, srt1_eq (le := fun a b : List Nat => decide (a ≤ b)) tr to]
              exact ssort_of pb
            rw [em] at eo
            have hn : H1 p3 = none := I2.hok.fresh hp3
            have hlen : ((ssort l).map fun b => V.str (sOf b)).length ≤ sizeLine := by
              rw [List.length_map, (ssort_perm l).length_eq, sizeLine_eq]
              omega
            have J : Inv X pins σ (upd H1 p3 (.lst ((ssort l).map fun b => V.str (sOf b)))) s3 := I2.call' o3 (ch := []) (Un.laid k3 hp3 hn) (I2.hok.laid k3 hp3 ⟨hlen, out.toList, c3, txv_vals eo, by simpa using hg3⟩) (by rw [g3]; exact I2.bare) fun _ z => nomatch z
            exact ⟨.ref p3, _, J, rfl, p1 _ _ _ (Gw.new g1.le hn) (.lst upd_same (txv_rl' eo))⟩
        · rw [if_neg c] at hx
          cases hx
    | _ => cases hz
end
end Pu

namespace Pu
open PySem PySem.Spec PyProof.Rows L2 Evl
/-! ### len(set(xs)), xs a list of ints of which no two are alike -/
theorem intsOf_some : ∀ {ds : List D} {l : List Int}, intsOf ds = some l → ds = l.map .int
  | [], l, h => by cases h; rfl
  | d :: r, l, h => by
    cases d with
    | int i =>
      have h : (intsOf r).map (i :: ·) = some l := h
      cases q : intsOf r with
      | none => rw [q] at h; cases h
      | some l' =>
        rw [q] at h
        cases h
        rw [intsOf_some q]
        rfl
    | _ => cases h
def dLSet : D → Option D
  | .lst ds => (intsOf ds).bind fun l => if l.Nodup ∧ l.length < 64 then some (.int (l.length : Nat)) else none
  | _ => none
theorem lset_ok {l : List Int} (h : l.Nodup) (n : l.length < 64) : dLSet (.lst (l.map .int)) = some (.int (l.length : Nat)) := by
  show (intsOf _).bind _ = _
  rw [intsOf_map]
  exact if_pos ⟨h, n⟩
section
variable {K : PySem.W.Frag} {xa : Xa} {B : Hp}
theorem rl_ints : ∀ {l : List Int} {ws : List V}, RL K xa B ws (l.map .int) → ws = l.map .int
  | [], _, .nil => rfl
  | _ :: _, _, .cons h t => by
    cases h
    rw [rl_ints t]
    rfl
end
section
variable {X : Cx} {xa : Xa} {W : WX} {a : Expr} {f : F} {p p2 q pos : Pos}
theorem p_lset (hc : X.calm = true) (hg : Gl X "len") (hm : X.mg "len" = none) (hg2 : Gl X "set") (hm2 : X.mg "set" = none) (ha : Pe X xa W a f)
    (na : starEach [a] X.env = (false, eval a X.env) :: starEach [] X.env := by rfl) : Pe X xa W (.Call (.Name "len" p) [.Call (.Name "set" p2) [a] [] q] [] pos) (op1 dLSet f) := by
  refine PE.imp (pe_lenSetI hc hg hm hg2 hm2 ha na) fun σ H Q hq => ?_
  obtain ⟨Hb, ρ, le, re, pp⟩ := hq
  refine ⟨Hb, ρ, le, re, post_bind le pp fun d v B1 H1 e1 g1 r1 p1 => ?_⟩
  cases r1 with
  | @lst b ws es h1 q1 =>
    have p2 : post X.K (R X.K xa) (WE W σ) B1 H1 Q (ofO ((intsOf es).bind fun l => if l.Nodup ∧ l.length < 64 then some (.int (l.length : Nat)) else none)) := p1
    cases y : intsOf es with
    | none => rw [y] at p2; exact p2.elim
    | some l =>
      rw [y] at p2
      have e0 := intsOf_some y
      subst e0
      have p3 : post X.K (R X.K xa) (WE W σ) B1 H1 Q (ofO (if l.Nodup ∧ l.length < 64 then some (.int (l.length : Nat)) else none)) := p2
      by_cases c : l.Nodup ∧ l.length < 64
      · rw [if_pos c] at p3
        refine ⟨b, l, rfl, SqL.of (g1.le _ _ (by rw [← rl_ints q1]; exact h1)), c.2, c.1, post_here g1.le p3 (.int _)⟩
      · rw [if_neg c] at p3
        exact p3.elim
  | _ => exact p1.elim
end
end Pu

namespace Lk03
open PySem PyProof.Rows L2 Pu
def top (i : Nat) : Stmt := PySem.Challenge.pw_slipmotes_k03_whole_within.main.body.getD i (.Pass ⟨0, 0, 0, 0⟩)
def inn : Stmt → Stmt
  | .ClassDef _ _ _ b .. => b.headD (.Pass ⟨0, 0, 0, 0⟩)
  | s => s
def memb (s : Stmt) (j : Nat) : Stmt := match s with
  | .ClassDef _ _ _ b .. => b.getD j (.Pass ⟨0, 0, 0, 0⟩)
  | s => s
/-! the mirrors -/
def m_law : List D → Res D := dfM 1 11 (sqS (asS 1 (calF m__law_alphabet (argC (vr 0) (argC (cst (.int 0)) argN)))) (sqS (asS 2 (op2 dAdd (cst (.int 1)) (calF m__law_drawn (argC (vr 0) (argC (cst (.int 1)) (argC (cst (.int 9)) argN)))))) (sqS (atS (.tp [6, 7]) (tupF (argC (calF m__law_word (argC (vr 0) (argC (cst (.int 2)) (argC (vr 1) (argC (vr 2) argN))))) (argC (calF m__law_drawn (argC (vr 0) (argC (cst (.int 20)) (argC (op2 dAdd (opN cMin (argC (vr 2) (argC (cst (.int 3)) argN))) (cst (.int 1))) argN)))) argN)))) (sqS (ifS (tst (op2 dLe (calF m_how_many_within (argC (vr 2) (argC (vr 7) (argC (opN cLen (argC (vr 1) argN)) argN)))) (cst (.int 1500)))) (sqS (asS 8 (calF m_words_within (argC (vr 6) (argC (vr 7) (argC (vr 1) argN))))) (sqS (ifS (orT (tst (op2 dNe (vr 8) (op1 dSSet (vr 8)))) (tst (op2 dNe (opN cLen (argC (vr 8) argN)) (calF m_how_many_within (argC (vr 2) (argC (vr 7) (argC (opN cLen (argC (vr 1) argN)) argN))))))) (reS (cst (.bl false))) nxS) (sqS (ifS (tst (op2 dNe (ofL (lcO (itF (vr 8)) [10] (.nm 10) (tst (op2 dGt (calF m_slips (argC (vr 10) (argC (vr 6) argN))) (vr 7))) (vr 10))) (lstF argN))) (reS (cst (.bl false))) nxS) (forS (rgF (cst (.int 4))) (.nm 9) (sqS (asS 10 (calF m__law_word (argC (vr 0) (argC (op2 dAdd (cst (.int 30)) (op2 dMul (cst (.int 12)) (vr 9))) (argC (vr 1) (argC (vr 2) argN)))))) (ifS (tst (op2 dNe (op2 dIn (vr 10) (vr 8)) (op2 dLe (calF m_slips (argC (vr 10) (argC (vr 6) argN))) (vr 7)))) (reS (cst (.bl false))) nxS)))))) nxS) (sqS (asS 3 (ofL (lcO (rgF (op2 dAdd (vr 2) (cst (.int 1)))) [9] (.nm 9) yesT (calF m_how_many_within (argC (vr 2) (argC (vr 9) (argC (opN cLen (argC (vr 1) argN)) argN))))))) (sqS (ifS (orT (tst (op2 dNe (op2 dIx (vr 3) (cst (.int 0))) (cst (.int 1)))) (tst (op2 dNe (vr 3) (opN cSortD (argC (vr 3) argN))))) (reS (cst (.bl false))) nxS) (sqS (ifS (tst (op2 dNe (op2 dIx (vr 3) (op1 dNeg (cst (.int 1)))) (calF m__law_power (argC (opN cLen (argC (vr 1) argN)) (argC (vr 2) argN))))) (reS (cst (.bl false))) nxS) (sqS (asS 4 (ofL (lcO (ziF (slF (vr 3) (soP (cst (.int 1))) noP) (vr 3)) [10, 11] (.tp [10, 11]) yesT (op2 dSub (vr 10) (vr 11))))) (sqS (ifS (tst (op2 dNe (op2 dIx (vr 4) (cst (.int 0))) (op2 dMul (vr 2) (op2 dSub (opN cLen (argC (vr 1) argN)) (cst (.int 1)))))) (reS (cst (.bl false))) nxS) (sqS (asS 5 (op2 dSub (opN cLen (argC (vr 1) argN)) (cst (.int 1)))) (reS (op2 dEq (ofL (lcO (rg2F (cst (.int 1)) (vr 2)) [9] (.nm 9) (tst (op2 dNe (op2 dMul (op2 dIx (vr 4) (vr 9)) (op2 dAdd (vr 9) (cst (.int 1)))) (op2 dMul (op2 dMul (op2 dIx (vr 4) (op2 dSub (vr 9) (cst (.int 1)))) (op2 dSub (vr 2) (vr 9))) (vr 5)))) (vr 9))) (lstF argN)))))))))))))
/-! what the head tells -/
structure Fx (K : PySem.W.Frag) (mg : Str → Option Value) : Prop where
  g_all : mg "all" = none
  g_bool : mg "bool" = none
  g_int : mg "int" = none
  g_isinstance : mg "isinstance" = none
  g_len : mg "len" = none
  g_min : mg "min" = none
  g_range : mg "range" = none
  g_set : mg "set" = none
  g_sorted : mg "sorted" = none
  g_str : mg "str" = none
  g_zip : mg "zip" = none
  i_MOST_WORD : ∃ t, mg "MOST_WORD" = some (.int 40 t)
  s_LETTERS : ∃ t, mg "LETTERS" = some (.str "abcdefghijklmnopqrstuvwxyz" t)
  c_NoAlphabet : mg "NoAlphabet" = some (.ref (He.ga K "NoAlphabet"))
  c_NoNumber : mg "NoNumber" = some (.ref (He.ga K "NoNumber"))
  c_NoWord : mg "NoWord" = some (.ref (He.ga K "NoWord"))
  c_Unlike : mg "Unlike" = some (.ref (He.ga K "Unlike"))
  e_NoAlphabet : (He.Fa.exc "NoAlphabet").ok K = true
  e_NoWord : (He.Fa.exc "NoWord").ok K = true
  x_NoNumber : XfA K "NoNumber" "which"
  x_Unlike : XfA K "Unlike" "lengths"
def chs : List (PySem.W.Frag → Bool) := [fun K => xfaB K "NoNumber" "which", fun K => xfaB K "Unlike" "lengths"]
def chk (K : PySem.W.Frag) : Bool := chs.all fun f => f K
section
variable {P : Program} {w : World} {K : PySem.W.Frag} {mg : Str → Option Value} {base : Heap} {f : Addr} {fd : FuncData}
abbrev FI_NoNumber (K : PySem.W.Frag) (f : Addr) (fd : FuncData) : Prop := FunD K "__init__" "NoNumber.__init__" (defArgs (inn (top 4))) (defBody (inn (top 4))) (defScope (inn (top 4))) [] [] f fd
theorem ini_NoNumber (fx : Fx K mg) (F : FI_NoNumber K (He.fAd K ("NoNumber", some "__init__")) fd) : Ini P w K mg base 1 "NoNumber" "which" :=
  ⟨fx.x_NoNumber, fx.c_NoNumber, fd, ["self", "which"], ini_def fx.x_NoNumber F ⟨rfl, rfl, rfl, by decide +kernel, rfl, by decide +kernel, by decide +kernel⟩ (Or.inl rfl) (Or.inl rfl) (by decide) (by decide) (fun _ _ => rfl), F.bindsN fun _ _ _ _ _ _ us hl => match us, hl with | [_, _], _ => rfl⟩
abbrev FI_Unlike (K : PySem.W.Frag) (f : Addr) (fd : FuncData) : Prop := FunD K "__init__" "Unlike.__init__" (defArgs (inn (top 5))) (defBody (inn (top 5))) (defScope (inn (top 5))) [] [] f fd
theorem ini_Unlike (fx : Fx K mg) (F : FI_Unlike K (He.fAd K ("Unlike", some "__init__")) fd) : Ini P w K mg base 1 "Unlike" "lengths" :=
  ⟨fx.x_Unlike, fx.c_Unlike, fd, ["self", "lengths"], ini_def fx.x_Unlike F ⟨rfl, rfl, rfl, by decide +kernel, rfl, by decide +kernel, by decide +kernel⟩ (Or.inl rfl) (Or.inl rfl) (by decide) (by decide) (fun _ _ => rfl), F.bindsN fun _ _ _ _ _ _ us hl => match us, hl with | [_, _], _ => rfl⟩
abbrev FD_is_number (K : PySem.W.Frag) (f : Addr) (fd : FuncData) : Prop := FunD K "is_number" "is_number" (defArgs (top 9)) (defBody (top 9)) (defScope (top 9)) [] [] f fd
theorem sc_is_number : FnScope ["thing", "least", "most"] ["thing", "least", "most"] (defScope (top 9)) := ⟨rfl, rfl, rfl, by decide +kernel, rfl, by decide +kernel, by decide +kernel⟩
theorem k_is_number (fx : Fx K mg) (F : FD_is_number K f fd)    : FnOk P w K mg base (L2.CX P w) 1 f fd ["thing", "least", "most"] (spP K 3 m_is_number) := by
  refine fn_def F sc_is_number rfl rfl fun cdv A outer s H E hr tk hp => ?_
  have hN := (sc_is_number).nd
  exact (s_one (s_ret (p_anV (p_isi (x := "int") (by rfl) fx.g_isinstance (by rfl) fx.g_int (by decide +kernel) (p_var 0)) (p_anV (p_notV (p_isi (x := "bool") (by rfl) fx.g_isinstance (by rfl) fx.g_bool (by decide +kernel) (p_var 0))) (p_oneA (p_ch o_le o_le (p_var 1) (p_var 0) (p_var 2)))))))
theorem f_is_number (fx : Fx K mg) (F : FD_is_number K f fd) (g : mg "is_number" = some (.ref f))    : Fn P w K mg base 1 "is_number" 3 m_is_number :=
  ⟨⟨f, fd, ["thing", "least", "most"], k_is_number fx F   , g, F.kp, F.bindsN fun _ _ _ _ _ _ us hl => match us, hl with | [_, _, _], _ => rfl⟩, fun ds h => dfM_st h⟩
abbrev FD_need_number (K : PySem.W.Frag) (f : Addr) (fd : FuncData) : Prop := FunD K "need_number" "need_number" (defArgs (top 10)) (defBody (top 10)) (defScope (top 10)) [] [("least", .int 0), ("most", .int 40)] f fd
theorem sc_need_number : FnScope ["thing", "which", "least", "most"] ["thing", "which", "least", "most"] (defScope (top 10)) := ⟨rfl, rfl, rfl, by decide +kernel, rfl, by decide +kernel, by decide +kernel⟩
theorem k_need_number (fx : Fx K mg) (F : FD_need_number K f fd) (F_is_number : Fn P w K mg base 1 "is_number" 3 m_is_number)  (I_NoNumber : Ini P w K mg base 1 "NoNumber" "which") : FnOk P w K mg base (L2.CX P w) 3 f fd ["thing", "which", "least", "most"] (spP K 4 m_need_number) := by
  refine fn_def F sc_need_number rfl rfl fun cdv A outer s H E hr tk hp => ?_
  have hN := (sc_need_number).nd
  exact (s_one (s_if (p_not (p_val (p_call F_is_number hr tk (p_cons (p_var 0) (p_cons (p_var 2) (p_cons (p_var 3) p_nil)))))) (s_one (s_raiseX 4 I_NoNumber hr rfl tk (p_var 1))) s_nil))
abbrev FnK1 (P : Program) (w : World) (K : PySem.W.Frag) (mg : Str → Option Value) (base : Heap) : Prop := FnKw P w K mg base 3 "need_number" 4 m_need_number 1 ["which", "least"] [(0, 0), (2, 0), (2, 1), (1, 0)] [.int 40]
theorem kw_1 (fx : Fx K mg) (F : FD_need_number K f fd) (g : mg "need_number" = some (.ref f)) (F_is_number : Fn P w K mg base 1 "is_number" 3 m_is_number)  (I_NoNumber : Ini P w K mg base 1 "NoNumber" "which") : FnK1 P w K mg base := by
  have kb := FunD.kbinds0 (ps := ["thing", "which", "least", "most"]) F 1 ["which", "least"] [("most", .int 40)] (fun {α} us mv ws => pick [(0, 0), (2, 0), (2, 1), (1, 0)] us mv ws) (by simp) (by simp) (fun h1 h2 h3 => pick_rel h1 h2 h3) (fun D doc pm an cdv ct us mv ws h1 h2 h3 => match us, mv, ws, h1, h2, h3 with | [_], [_], [_, _], _, _, _ => ⟨_, _, _, _, _, _, rfl, rfl, rfl⟩)
  obtain ⟨mv, kb⟩ := kb
  exact ⟨⟨f, fd, ["thing", "which", "least", "most"], _, _, k_need_number fx F F_is_number  I_NoNumber, g, F.kp, kb, fun B => (.cons (.int _) .nil)⟩, fun ds h => dfM_st h⟩
abbrev FnK2 (P : Program) (w : World) (K : PySem.W.Frag) (mg : Str → Option Value) (base : Heap) : Prop := FnKw P w K mg base 3 "need_number" 4 m_need_number 1 ["which", "least", "most"] [(0, 0), (2, 0), (2, 1), (2, 2)] []
theorem kw_2 (fx : Fx K mg) (F : FD_need_number K f fd) (g : mg "need_number" = some (.ref f)) (F_is_number : Fn P w K mg base 1 "is_number" 3 m_is_number)  (I_NoNumber : Ini P w K mg base 1 "NoNumber" "which") : FnK2 P w K mg base := by
  have kb := FunD.kbinds0 (ps := ["thing", "which", "least", "most"]) F 1 ["which", "least", "most"] [] (fun {α} us mv ws => pick [(0, 0), (2, 0), (2, 1), (2, 2)] us mv ws) (by simp) (by simp) (fun h1 h2 h3 => pick_rel h1 h2 h3) (fun D doc pm an cdv ct us mv ws h1 h2 h3 => match us, mv, ws, h1, h2, h3 with | [_], [], [_, _, _], _, _, _ => rfl)
  obtain ⟨mv, kb⟩ := kb
  exact ⟨⟨f, fd, ["thing", "which", "least", "most"], _, _, k_need_number fx F F_is_number  I_NoNumber, g, F.kp, kb, fun B => .nil⟩, fun ds h => dfM_st h⟩
abbrev FnK0 (P : Program) (w : World) (K : PySem.W.Frag) (mg : Str → Option Value) (base : Heap) : Prop := FnKw P w K mg base 3 "need_number" 4 m_need_number 1 ["which", "most"] [(0, 0), (2, 0), (1, 0), (2, 1)] [.int 0]
theorem kw_0 (fx : Fx K mg) (F : FD_need_number K f fd) (g : mg "need_number" = some (.ref f)) (F_is_number : Fn P w K mg base 1 "is_number" 3 m_is_number)  (I_NoNumber : Ini P w K mg base 1 "NoNumber" "which") : FnK0 P w K mg base := by
  have kb := FunD.kbinds0 (ps := ["thing", "which", "least", "most"]) F 1 ["which", "most"] [("least", .int 0)] (fun {α} us mv ws => pick [(0, 0), (2, 0), (1, 0), (2, 1)] us mv ws) (by simp) (by simp) (fun h1 h2 h3 => pick_rel h1 h2 h3) (fun D doc pm an cdv ct us mv ws h1 h2 h3 => match us, mv, ws, h1, h2, h3 with | [_], [_], [_, _], _, _, _ => ⟨_, _, _, _, _, _, rfl, rfl, rfl⟩)
  obtain ⟨mv, kb⟩ := kb
  exact ⟨⟨f, fd, ["thing", "which", "least", "most"], _, _, k_need_number fx F F_is_number  I_NoNumber, g, F.kp, kb, fun B => (.cons (.int _) .nil)⟩, fun ds h => dfM_st h⟩
abbrev FD_is_alphabet (K : PySem.W.Frag) (f : Addr) (fd : FuncData) : Prop := FunD K "is_alphabet" "is_alphabet" (defArgs (top 11)) (defBody (top 11)) (defScope (top 11)) [] [] f fd
theorem sc_is_alphabet : FnScope ["thing", "one", "other", "sign"] ["thing"] (defScope (top 11)) := ⟨rfl, rfl, rfl, by decide +kernel, rfl, by decide +kernel, by decide +kernel⟩
theorem k_is_alphabet (fx : Fx K mg) (F : FD_is_alphabet K f fd)    : FnOk P w K mg base (L2.CX P w) 1 f fd ["thing"] (spP K 1 m_is_alphabet) := by
  refine fn_def F sc_is_alphabet rfl rfl fun cdv A outer s H E hr tk hp => ?_
  have hN := (sc_is_alphabet).nd
  have hu65 : (A.deeper (envOfC "is_alphabet" (defScope (top 11)) s.heap.objs.size f cdv)).units + 65 < cLine := by have := hr.un; omega
  exact (s_cons (s_if (PW.pt (p_or (p_not (p_val (p_isi (x := "str") (by rfl) fx.g_isinstance (by rfl) fx.g_str (by decide +kernel) (p_var 0)))) (p_or (p_not (p_tch o_le o_le p_int (p_callB c_len (by rfl) fx.g_len (by decide +kernel) (p_cons (p_var 0) p_nil)) p_int)) (p_or1 (p_not (p_val (p_callB (c_all (by rfl)) (by rfl) fx.g_all (by decide +kernel) (p_cons (p_lc rfl hN (i_data (p_var 0)) (blkOk_by (own := [("sign", 3)]) (by with_unfolding_all rfl)) (fun s H C cl fp => (g_nm 3 hN)) (fun s H C cl fp => t_no) (fun s H C cl fp => (p_cmp (o_in hu65) (p_var 3) (p_gstr (by rfl) fx.s_LETTERS)))) p_nil)))))))) (s_one (s_ret p_bl)) s_nil) (s_one (s_ret (p_callB (c_all (by rfl)) (by rfl) fx.g_all (by decide +kernel) (p_cons (p_lc rfl hN (i_zip (by rfl) fx.g_zip (p_var 0) (p_sl (p_var 0) (p_soP p_int) p_noP)) (blkOk_by (own := [("one", 1), ("other", 2)]) (by with_unfolding_all rfl)) (fun s H C cl fp => (g_tp rfl (gn_cons (g_nm 1 hN) (gn_cons (g_nm 2 hN) gn_nil)))) (fun s H C cl fp => t_no) (fun s H C cl fp => (p_cmp o_lt (p_var 1) (p_var 2)))) p_nil)))))
theorem f_is_alphabet (fx : Fx K mg) (F : FD_is_alphabet K f fd) (g : mg "is_alphabet" = some (.ref f))    : Fn P w K mg base 1 "is_alphabet" 1 m_is_alphabet :=
  ⟨⟨f, fd, ["thing"], k_is_alphabet fx F   , g, F.kp, F.bindsN fun _ _ _ _ _ _ us hl => match us, hl with | [_], _ => rfl⟩, fun ds h => dfM_st h⟩
abbrev FD_need_alphabet (K : PySem.W.Frag) (f : Addr) (fd : FuncData) : Prop := FunD K "need_alphabet" "need_alphabet" (defArgs (top 12)) (defBody (top 12)) (defScope (top 12)) [] [] f fd
theorem sc_need_alphabet : FnScope ["alphabet"] ["alphabet"] (defScope (top 12)) := ⟨rfl, rfl, rfl, by decide +kernel, rfl, by decide +kernel, by decide +kernel⟩
theorem k_need_alphabet (fx : Fx K mg) (F : FD_need_alphabet K f fd) (F_is_alphabet : Fn P w K mg base 1 "is_alphabet" 1 m_is_alphabet)   : FnOk P w K mg base (L2.CX P w) 2 f fd ["alphabet"] (spP K 1 m_need_alphabet) := by
  refine fn_def F sc_need_alphabet rfl rfl fun cdv A outer s H E hr tk hp => ?_
  have hN := (sc_need_alphabet).nd
  exact (s_one (s_if (p_not (p_val (p_call F_is_alphabet hr tk (p_cons (p_var 0) p_nil)))) (s_one (s_raise 1 rfl tk fx.c_NoAlphabet fx.e_NoAlphabet)) s_nil))
theorem f_need_alphabet (fx : Fx K mg) (F : FD_need_alphabet K f fd) (g : mg "need_alphabet" = some (.ref f)) (F_is_alphabet : Fn P w K mg base 1 "is_alphabet" 1 m_is_alphabet)   : Fn P w K mg base 2 "need_alphabet" 1 m_need_alphabet :=
  ⟨⟨f, fd, ["alphabet"], k_need_alphabet fx F F_is_alphabet  , g, F.kp, F.bindsN fun _ _ _ _ _ _ us hl => match us, hl with | [_], _ => rfl⟩, fun ds h => dfM_st h⟩
abbrev FD_is_plain (K : PySem.W.Frag) (f : Addr) (fd : FuncData) : Prop := FunD K "is_plain" "is_plain" (defArgs (top 13)) (defBody (top 13)) (defScope (top 13)) [] [] f fd
theorem sc_is_plain : FnScope ["thing", "sign"] ["thing"] (defScope (top 13)) := ⟨rfl, rfl, rfl, by decide +kernel, rfl, by decide +kernel, by decide +kernel⟩
theorem k_is_plain (fx : Fx K mg) (F : FD_is_plain K f fd)    : FnOk P w K mg base (L2.CX P w) 1 f fd ["thing"] (spP K 1 m_is_plain) := by
  refine fn_def F sc_is_plain rfl rfl fun cdv A outer s H E hr tk hp => ?_
  have hN := (sc_is_plain).nd
  have hu65 : (A.deeper (envOfC "is_plain" (defScope (top 13)) s.heap.objs.size f cdv)).units + 65 < cLine := by have := hr.un; omega
  exact (s_one (s_ret (p_anV (p_isi (x := "str") (by rfl) fx.g_isinstance (by rfl) fx.g_str (by decide +kernel) (p_var 0)) (p_anV (p_ch o_le o_le p_int (p_callB c_len (by rfl) fx.g_len (by decide +kernel) (p_cons (p_var 0) p_nil)) (p_gint (by rfl) fx.i_MOST_WORD)) (p_oneA (p_callB (c_all (by rfl)) (by rfl) fx.g_all (by decide +kernel) (p_cons (p_lc rfl hN (i_data (p_var 0)) (blkOk_by (own := [("sign", 1)]) (by with_unfolding_all rfl)) (fun s H C cl fp => (g_nm 1 hN)) (fun s H C cl fp => t_no) (fun s H C cl fp => (p_cmp (o_in hu65) (p_var 1) (p_gstr (by rfl) fx.s_LETTERS)))) p_nil)))))))
theorem f_is_plain (fx : Fx K mg) (F : FD_is_plain K f fd) (g : mg "is_plain" = some (.ref f))    : Fn P w K mg base 1 "is_plain" 1 m_is_plain :=
  ⟨⟨f, fd, ["thing"], k_is_plain fx F   , g, F.kp, F.bindsN fun _ _ _ _ _ _ us hl => match us, hl with | [_], _ => rfl⟩, fun ds h => dfM_st h⟩
abbrev FD_is_word (K : PySem.W.Frag) (f : Addr) (fd : FuncData) : Prop := FunD K "is_word" "is_word" (defArgs (top 14)) (defBody (top 14)) (defScope (top 14)) [] [] f fd
theorem sc_is_word : FnScope ["thing", "alphabet", "sign"] ["thing", "alphabet"] (defScope (top 14)) := ⟨rfl, rfl, rfl, by decide +kernel, rfl, by decide +kernel, by decide +kernel⟩
theorem k_is_word (fx : Fx K mg) (F : FD_is_word K f fd) (F_is_plain : Fn P w K mg base 1 "is_plain" 1 m_is_plain) (F_need_alphabet : Fn P w K mg base 2 "need_alphabet" 1 m_need_alphabet)   : FnOk P w K mg base (L2.CX P w) 3 f fd ["thing", "alphabet"] (spP K 2 m_is_word) := by
  refine fn_def F sc_is_word rfl rfl fun cdv A outer s H E hr tk hp => ?_
  have hN := (sc_is_word).nd
  have hu65 : (A.deeper (envOfC "is_word" (defScope (top 14)) s.heap.objs.size f cdv)).units + 65 < cLine := by have := hr.un; omega
  exact (s_cons (s_expr (p_call F_need_alphabet hr tk (p_cons (p_var 1) p_nil))) (s_one (s_ret (p_anV (p_call F_is_plain hr tk (p_cons (p_var 0) p_nil)) (p_oneA (p_callB (c_all (by rfl)) (by rfl) fx.g_all (by decide +kernel) (p_cons (p_lc rfl hN (i_data (p_var 0)) (blkOk_by (own := [("sign", 2)]) (by with_unfolding_all rfl)) (fun s H C cl fp => (g_nm 2 hN)) (fun s H C cl fp => t_no) (fun s H C cl fp => (p_cmp (o_in hu65) (p_var 2) (p_var 1)))) p_nil)))))))
theorem f_is_word (fx : Fx K mg) (F : FD_is_word K f fd) (g : mg "is_word" = some (.ref f)) (F_is_plain : Fn P w K mg base 1 "is_plain" 1 m_is_plain) (F_need_alphabet : Fn P w K mg base 2 "need_alphabet" 1 m_need_alphabet)   : Fn P w K mg base 3 "is_word" 2 m_is_word :=
  ⟨⟨f, fd, ["thing", "alphabet"], k_is_word fx F F_is_plain F_need_alphabet  , g, F.kp, F.bindsN fun _ _ _ _ _ _ us hl => match us, hl with | [_, _], _ => rfl⟩, fun ds h => dfM_st h⟩
abbrev FD_need_plain (K : PySem.W.Frag) (f : Addr) (fd : FuncData) : Prop := FunD K "need_plain" "need_plain" (defArgs (top 15)) (defBody (top 15)) (defScope (top 15)) [] [] f fd
theorem sc_need_plain : FnScope ["word"] ["word"] (defScope (top 15)) := ⟨rfl, rfl, rfl, by decide +kernel, rfl, by decide +kernel, by decide +kernel⟩
theorem k_need_plain (fx : Fx K mg) (F : FD_need_plain K f fd) (F_is_plain : Fn P w K mg base 1 "is_plain" 1 m_is_plain)   : FnOk P w K mg base (L2.CX P w) 2 f fd ["word"] (spP K 1 m_need_plain) := by
  refine fn_def F sc_need_plain rfl rfl fun cdv A outer s H E hr tk hp => ?_
  have hN := (sc_need_plain).nd
  exact (s_one (s_if (p_not (p_val (p_call F_is_plain hr tk (p_cons (p_var 0) p_nil)))) (s_one (s_raise 2 rfl tk fx.c_NoWord fx.e_NoWord)) s_nil))
theorem f_need_plain (fx : Fx K mg) (F : FD_need_plain K f fd) (g : mg "need_plain" = some (.ref f)) (F_is_plain : Fn P w K mg base 1 "is_plain" 1 m_is_plain)   : Fn P w K mg base 2 "need_plain" 1 m_need_plain :=
  ⟨⟨f, fd, ["word"], k_need_plain fx F F_is_plain  , g, F.kp, F.bindsN fun _ _ _ _ _ _ us hl => match us, hl with | [_], _ => rfl⟩, fun ds h => dfM_st h⟩
abbrev FD_need_word (K : PySem.W.Frag) (f : Addr) (fd : FuncData) : Prop := FunD K "need_word" "need_word" (defArgs (top 16)) (defBody (top 16)) (defScope (top 16)) [] [] f fd
theorem sc_need_word : FnScope ["word", "alphabet"] ["word", "alphabet"] (defScope (top 16)) := ⟨rfl, rfl, rfl, by decide +kernel, rfl, by decide +kernel, by decide +kernel⟩
theorem k_need_word (fx : Fx K mg) (F : FD_need_word K f fd) (F_is_word : Fn P w K mg base 3 "is_word" 2 m_is_word)   : FnOk P w K mg base (L2.CX P w) 4 f fd ["word", "alphabet"] (spP K 2 m_need_word) := by
  refine fn_def F sc_need_word rfl rfl fun cdv A outer s H E hr tk hp => ?_
  have hN := (sc_need_word).nd
  exact (s_one (s_if (p_not (p_val (p_call F_is_word hr tk (p_cons (p_var 0) (p_cons (p_var 1) p_nil))))) (s_one (s_raise 2 rfl tk fx.c_NoWord fx.e_NoWord)) s_nil))
theorem f_need_word (fx : Fx K mg) (F : FD_need_word K f fd) (g : mg "need_word" = some (.ref f)) (F_is_word : Fn P w K mg base 3 "is_word" 2 m_is_word)   : Fn P w K mg base 4 "need_word" 2 m_need_word :=
  ⟨⟨f, fd, ["word", "alphabet"], k_need_word fx F F_is_word  , g, F.kp, F.bindsN fun _ _ _ _ _ _ us hl => match us, hl with | [_, _], _ => rfl⟩, fun ds h => dfM_st h⟩
abbrev FD_unlike (K : PySem.W.Frag) (f : Addr) (fd : FuncData) : Prop := FunD K "unlike" "unlike" (defArgs (top 17)) (defBody (top 17)) (defScope (top 17)) [] [] f fd
theorem sc_unlike : FnScope ["one", "other", "here", "there"] ["one", "other"] (defScope (top 17)) := ⟨rfl, rfl, rfl, by decide +kernel, rfl, by decide +kernel, by decide +kernel⟩
theorem k_unlike (fx : Fx K mg) (F : FD_unlike K f fd)    : FnOk P w K mg base (L2.CX P w) 1 f fd ["one", "other"] (spP K 2 m_unlike) := by
  refine fn_def F sc_unlike rfl rfl fun cdv A outer s H E hr tk hp => ?_
  have hN := (sc_unlike).nd
  have hu64 : (A.deeper (envOfC "unlike" (defScope (top 17)) s.heap.objs.size f cdv)).units + 64 < cLine := by have := hr.un; omega
  exact (s_one (s_ret (p_callB c_len (by rfl) fx.g_len (by decide +kernel) (p_cons (p_lc rfl hN (i_zip (by rfl) fx.g_zip (p_var 0) (p_var 1)) (blkOk_by (own := [("here", 2), ("there", 3)]) (by with_unfolding_all rfl)) (fun s H C cl fp => (g_tp rfl (gn_cons (g_nm 2 hN) (gn_cons (g_nm 3 hN) gn_nil)))) (fun s H C cl fp => (t_one (p_tcmp (o_ne hu64) (p_var 2) (p_var 3)))) (fun s H C cl fp => p_int)) p_nil))))
theorem f_unlike (fx : Fx K mg) (F : FD_unlike K f fd) (g : mg "unlike" = some (.ref f))    : Fn P w K mg base 1 "unlike" 2 m_unlike :=
  ⟨⟨f, fd, ["one", "other"], k_unlike fx F   , g, F.kp, F.bindsN fun _ _ _ _ _ _ us hl => match us, hl with | [_, _], _ => rfl⟩, fun ds h => dfM_st h⟩
abbrev FD_slips (K : PySem.W.Frag) (f : Addr) (fd : FuncData) : Prop := FunD K "slips" "slips" (defArgs (top 18)) (defBody (top 18)) (defScope (top 18)) [] [] f fd
theorem sc_slips : FnScope ["one", "other"] ["one", "other"] (defScope (top 18)) := ⟨rfl, rfl, rfl, by decide +kernel, rfl, by decide +kernel, by decide +kernel⟩
theorem k_slips (fx : Fx K mg) (F : FD_slips K f fd) (F_need_plain : Fn P w K mg base 2 "need_plain" 1 m_need_plain) (F_unlike : Fn P w K mg base 1 "unlike" 2 m_unlike)  (I_Unlike : Ini P w K mg base 1 "Unlike" "lengths") : FnOk P w K mg base (L2.CX P w) 3 f fd ["one", "other"] (spP K 2 m_slips) := by
  refine fn_def F sc_slips rfl rfl fun cdv A outer s H E hr tk hp => ?_
  have hN := (sc_slips).nd
  have hu64 : (A.deeper (envOfC "slips" (defScope (top 18)) s.heap.objs.size f cdv)).units + 64 < cLine := by have := hr.un; omega
  exact (s_cons (s_expr (p_call F_need_plain hr tk (p_cons (p_var 0) p_nil))) (s_cons (s_expr (p_call F_need_plain hr tk (p_cons (p_var 1) p_nil))) (s_cons (s_if (p_tcmp (o_ne hu64) (p_callB c_len (by rfl) fx.g_len (by decide +kernel) (p_cons (p_var 0) p_nil)) (p_callB c_len (by rfl) fx.g_len (by decide +kernel) (p_cons (p_var 1) p_nil))) (s_one (s_raiseX 8 I_Unlike hr rfl tk (p_tup (p_cons (p_callB c_len (by rfl) fx.g_len (by decide +kernel) (p_cons (p_var 0) p_nil)) (p_cons (p_callB c_len (by rfl) fx.g_len (by decide +kernel) (p_cons (p_var 1) p_nil)) p_nil))))) s_nil) (s_one (s_ret (p_call F_unlike hr tk (p_cons (p_var 0) (p_cons (p_var 1) p_nil))))))))
theorem f_slips (fx : Fx K mg) (F : FD_slips K f fd) (g : mg "slips" = some (.ref f)) (F_need_plain : Fn P w K mg base 2 "need_plain" 1 m_need_plain) (F_unlike : Fn P w K mg base 1 "unlike" 2 m_unlike)  (I_Unlike : Ini P w K mg base 1 "Unlike" "lengths") : Fn P w K mg base 3 "slips" 2 m_slips :=
  ⟨⟨f, fd, ["one", "other"], k_slips fx F F_need_plain F_unlike  I_Unlike, g, F.kp, F.bindsN fun _ _ _ _ _ _ us hl => match us, hl with | [_, _], _ => rfl⟩, fun ds h => dfM_st h⟩
abbrev FD_near (K : PySem.W.Frag) (f : Addr) (fd : FuncData) : Prop := FunD K "near" "near" (defArgs (top 19)) (defBody (top 19)) (defScope (top 19)) [] [] f fd
theorem sc_near : FnScope ["word", "many", "alphabet", "rows", "sign", "more", "start", "left", "letter"] ["word", "many", "alphabet"] (defScope (top 19)) := ⟨rfl, rfl, rfl, by decide +kernel, rfl, by decide +kernel, by decide +kernel⟩
theorem k_near (fx : Fx K mg) (F : FD_near K f fd)    : FnOk P w K mg base (L2.CX P w) 1 f fd ["word", "many", "alphabet"] (spP K 3 m_near) := by
  refine fn_def F sc_near rfl rfl fun cdv A outer s H E hr tk hp => ?_
  have hN := (sc_near).nd
  have hu64 : (A.deeper (envOfC "near" (defScope (top 19)) s.heap.objs.size f cdv)).units + 64 < cLine := by have := hr.un; omega
  exact (s_cons (s_set 3 hN (p_lst (p_cons (p_tup (p_cons p_str (p_cons (p_var 1) p_nil))) p_nil))) (s_cons (s_for hp rfl (i_data (p_var 0)) (g_nm 4 hN) (s_cons (s_setO 5 hN (o_lst p_nil)) (s_cons (s_for hp rfl (i_data (p_var 3)) (g_tp rfl (gn_cons (g_nm 6 hN) (gn_cons (g_nm 7 hN) gn_nil))) (s_one (s_for hp rfl (i_data (p_var 2)) (g_nm 8 hN) (s_one (s_if (PW.pt (p_or (p_tcmp (o_eq hu64) (p_var 8) (p_var 4)) (p_or1 (p_tcmp o_gt (p_var 7) p_int)))) (s_one (s_app 5 (p_tup (p_cons (p_op o_add (p_var 6) (p_var 8)) (p_cons (p_op o_sub (p_var 7) (p_callTy c_int (by rfl) fx.g_int (by decide +kernel) (p_cons (p_cmp (o_ne hu64) (p_var 8) (p_var 4)) p_nil))) p_nil))))) s_nil))))) (s_one (s_fz [5] (s_set 3 hN (p_var 5))))))) (s_one (s_ret (p_lc rfl hN (i_data (p_var 3)) (blkOk_by (own := [("start", 6), ("left", 7)]) (by with_unfolding_all rfl)) (fun s H C cl fp => (g_tp rfl (gn_cons (g_nm 6 hN) (gn_cons (g_nm 7 hN) gn_nil)))) (fun s H C cl fp => t_no) (fun s H C cl fp => (p_var 6)))))))
theorem f_near (fx : Fx K mg) (F : FD_near K f fd) (g : mg "near" = some (.ref f))    : Fn P w K mg base 1 "near" 3 m_near :=
  ⟨⟨f, fd, ["word", "many", "alphabet"], k_near fx F   , g, F.kp, F.bindsN fun _ _ _ _ _ _ us hl => match us, hl with | [_, _, _], _ => rfl⟩, fun ds h => dfM_st h⟩
abbrev FD_how_many (K : PySem.W.Frag) (f : Addr) (fd : FuncData) : Prop := FunD K "how_many" "how_many" (defArgs (top 21)) (defBody (top 21)) (defScope (top 21)) [] [] f fd
theorem sc_how_many : FnScope ["length", "many", "letters", "number", "found", "ways"] ["length", "many", "letters"] (defScope (top 21)) := ⟨rfl, rfl, rfl, by decide +kernel, rfl, by decide +kernel, by decide +kernel⟩
theorem k_how_many (fx : Fx K mg) (F : FD_how_many K f fd)    : FnOk P w K mg base (L2.CX P w) 1 f fd ["length", "many", "letters"] (spP K 3 m_how_many) := by
  refine fn_def F sc_how_many rfl rfl fun cdv A outer s H E hr tk hp => ?_
  have hN := (sc_how_many).nd
  exact (s_cons (s_asgT (p_tup (p_cons p_int (p_cons p_int p_nil))) (g_tp rfl (gn_cons (g_nm 4 hN) (gn_cons (g_nm 5 hN) gn_nil)))) (s_cons (s_for hp rfl (i_range (by rfl) fx.g_range (p_op o_add (p_var 1) p_int)) (g_nm 3 hN) (s_cons (s_aug 4 hN (p_var 5)) (s_one (s_set 5 hN (p_op o_fdiv (p_op o_mul (p_op o_mul (p_var 5) (p_op o_sub (p_var 0) (p_var 3))) (p_op o_sub (p_var 2) p_int)) (p_op o_add (p_var 3) p_int)))))) (s_one (s_ret (p_var 4)))))
theorem f_how_many (fx : Fx K mg) (F : FD_how_many K f fd) (g : mg "how_many" = some (.ref f))    : Fn P w K mg base 1 "how_many" 3 m_how_many :=
  ⟨⟨f, fd, ["length", "many", "letters"], k_how_many fx F   , g, F.kp, F.bindsN fun _ _ _ _ _ _ us hl => match us, hl with | [_, _, _], _ => rfl⟩, fun ds h => dfM_st h⟩
abbrev FD_words_within (K : PySem.W.Frag) (f : Addr) (fd : FuncData) : Prop := FunD K "words_within" "words_within" (defArgs (top 20)) (defBody (top 20)) (defScope (top 20)) [] [] f fd
theorem sc_words_within : FnScope ["word", "many", "alphabet"] ["word", "many", "alphabet"] (defScope (top 20)) := ⟨rfl, rfl, rfl, by decide +kernel, rfl, by decide +kernel, by decide +kernel⟩
theorem k_words_within (fx : Fx K mg) (F : FD_words_within K f fd) (F_how_many : Fn P w K mg base 1 "how_many" 3 m_how_many) (F_near : Fn P w K mg base 1 "near" 3 m_near) (F_need_alphabet : Fn P w K mg base 2 "need_alphabet" 1 m_need_alphabet) (F_need_word : Fn P w K mg base 4 "need_word" 2 m_need_word) (K0 : FnK0 P w K mg base) (I_NoNumber : Ini P w K mg base 1 "NoNumber" "which") : FnOk P w K mg base (L2.CX P w) 5 f fd ["word", "many", "alphabet"] (spP K 3 m_words_within) := by
  refine fn_def F sc_words_within rfl rfl fun cdv A outer s H E hr tk hp => ?_
  have hN := (sc_words_within).nd
  exact (s_cons (s_expr (p_call F_need_alphabet hr tk (p_cons (p_var 2) p_nil))) (s_cons (s_expr (p_call F_need_word hr tk (p_cons (p_var 0) (p_cons (p_var 2) p_nil)))) (s_cons (s_expr (p_callK K0 hr tk (p_cons (p_var 1) p_nil) (k_cons p_str (k_cons (p_callB c_len (by rfl) fx.g_len (by decide +kernel) (p_cons (p_var 0) p_nil)) k_nil)))) (s_cons (s_if (p_tcmp o_gt (p_call F_how_many hr tk (p_cons (p_callB c_len (by rfl) fx.g_len (by decide +kernel) (p_cons (p_var 0) p_nil)) (p_cons (p_var 1) (p_cons (p_callB c_len (by rfl) fx.g_len (by decide +kernel) (p_cons (p_var 2) p_nil)) p_nil)))) p_int) (s_one (s_raiseX 4 I_NoNumber hr rfl tk p_str)) s_nil) (s_one (s_ret (p_call F_near hr tk (p_cons (p_var 0) (p_cons (p_var 1) (p_cons (p_var 2) p_nil))))))))))
theorem f_words_within (fx : Fx K mg) (F : FD_words_within K f fd) (g : mg "words_within" = some (.ref f)) (F_how_many : Fn P w K mg base 1 "how_many" 3 m_how_many) (F_near : Fn P w K mg base 1 "near" 3 m_near) (F_need_alphabet : Fn P w K mg base 2 "need_alphabet" 1 m_need_alphabet) (F_need_word : Fn P w K mg base 4 "need_word" 2 m_need_word) (K0 : FnK0 P w K mg base) (I_NoNumber : Ini P w K mg base 1 "NoNumber" "which") : Fn P w K mg base 5 "words_within" 3 m_words_within :=
  ⟨⟨f, fd, ["word", "many", "alphabet"], k_words_within fx F F_how_many F_near F_need_alphabet F_need_word K0 I_NoNumber, g, F.kp, F.bindsN fun _ _ _ _ _ _ us hl => match us, hl with | [_, _, _], _ => rfl⟩, fun ds h => dfM_st h⟩
abbrev FD_how_many_within (K : PySem.W.Frag) (f : Addr) (fd : FuncData) : Prop := FunD K "how_many_within" "how_many_within" (defArgs (top 22)) (defBody (top 22)) (defScope (top 22)) [] [] f fd
theorem sc_how_many_within : FnScope ["length", "many", "letters"] ["length", "many", "letters"] (defScope (top 22)) := ⟨rfl, rfl, rfl, by decide +kernel, rfl, by decide +kernel, by decide +kernel⟩
theorem k_how_many_within (fx : Fx K mg) (F : FD_how_many_within K f fd) (F_how_many : Fn P w K mg base 1 "how_many" 3 m_how_many) (K1 : FnK1 P w K mg base) (K2 : FnK2 P w K mg base) (K0 : FnK0 P w K mg base)  : FnOk P w K mg base (L2.CX P w) 4 f fd ["length", "many", "letters"] (spP K 3 m_how_many_within) := by
  refine fn_def F sc_how_many_within rfl rfl fun cdv A outer s H E hr tk hp => ?_
  have hN := (sc_how_many_within).nd
  exact (s_cons (s_expr (p_callK K1 hr tk (p_cons (p_var 0) p_nil) (k_cons p_str (k_cons p_int k_nil)))) (s_cons (s_expr (p_callK K0 hr tk (p_cons (p_var 1) p_nil) (k_cons p_str (k_cons (p_var 0) k_nil)))) (s_cons (s_expr (p_callK K2 hr tk (p_cons (p_var 2) p_nil) (k_cons p_str (k_cons p_int (k_cons p_int k_nil))))) (s_one (s_ret (p_call F_how_many hr tk (p_cons (p_var 0) (p_cons (p_var 1) (p_cons (p_var 2) p_nil)))))))))
theorem f_how_many_within (fx : Fx K mg) (F : FD_how_many_within K f fd) (g : mg "how_many_within" = some (.ref f)) (F_how_many : Fn P w K mg base 1 "how_many" 3 m_how_many) (K1 : FnK1 P w K mg base) (K2 : FnK2 P w K mg base) (K0 : FnK0 P w K mg base)  : Fn P w K mg base 4 "how_many_within" 3 m_how_many_within :=
  ⟨⟨f, fd, ["length", "many", "letters"], k_how_many_within fx F F_how_many K1 K2 K0 , g, F.kp, F.bindsN fun _ _ _ _ _ _ us hl => match us, hl with | [_, _, _], _ => rfl⟩, fun ds h => dfM_st h⟩
abbrev FD__law_drawn (K : PySem.W.Frag) (f : Addr) (fd : FuncData) : Prop := FunD K "_law_drawn" "_law_drawn" (defArgs (top 24)) (defBody (top 24)) (defScope (top 24)) [] [] f fd
theorem sc__law_drawn : FnScope ["script", "k", "many", "cell", "turn", "rest"] ["script", "k", "many"] (defScope (top 24)) := ⟨rfl, rfl, rfl, by decide +kernel, rfl, by decide +kernel, by decide +kernel⟩
theorem k__law_drawn (fx : Fx K mg) (F : FD__law_drawn K f fd)    : FnOk P w K mg base (L2.CX P w) 1 f fd ["script", "k", "many"] (spP K 3 m__law_drawn) := by
  refine fn_def F sc__law_drawn rfl rfl fun cdv A outer s H E hr tk hp => ?_
  have hN := (sc__law_drawn).nd
  have hu64 : (A.deeper (envOfC "_law_drawn" (defScope (top 24)) s.heap.objs.size f cdv)).units + 64 < cLine := by have := hr.un; omega
  exact (s_cons (s_set 3 hN (p_op o_mul p_int (p_var 1))) (s_cons (s_if (p_tcmp (o_ne hu64) (p_var 0) (p_lst p_nil)) (s_cons (s_set 3 hN (p_ix o_ix (p_var 0) (p_op o_mod (p_var 1) (p_callB c_len (by rfl) fx.g_len (by decide +kernel) (p_cons (p_var 0) p_nil))))) (s_cons (s_set 4 hN (p_op o_fdiv (p_var 1) (p_callB c_len (by rfl) fx.g_len (by decide +kernel) (p_cons (p_var 0) p_nil)))) (s_cons (s_if (PW.pt (p_an (p_tcmp o_ge (p_var 3) (p_op o_pow p_int p_int)) (p_an1 (p_tcmp o_lt (p_var 4) p_int)))) (s_cons (s_set 5 hN (p_op o_fdiv (p_var 3) (p_op o_pow p_int p_int))) (s_cons (s_while 1000 hp (PW.pt (p_an (p_tcmp o_gt (p_var 5) p_int) (p_an1 (p_tcmp o_gt (p_var 4) p_int)))) (s_cons (s_set 5 hN (p_op o_fdiv (p_var 5) p_int)) (s_one (s_set 4 hN (p_op o_sub (p_var 4) p_int))))) (s_one (s_if (p_tcmp o_gt (p_var 5) p_int) (s_one (s_ret (p_op o_mod (p_op o_mod (p_var 5) p_int) (p_var 2)))) s_nil)))) s_nil) (s_one (s_set 3 hN (p_op o_add (p_var 3) (p_op o_mul p_int (p_op o_fdiv (p_var 1) (p_callB c_len (by rfl) fx.g_len (by decide +kernel) (p_cons (p_var 0) p_nil)))))))))) s_nil) (s_cons (s_set 3 hN (p_op o_mod (p_op o_add (p_op o_mul (p_op o_mod (p_var 3) p_int) p_int) (p_op o_mul p_int (p_op o_add (p_var 1) p_int))) p_int)) (s_cons (s_set 3 hN (p_op o_mod (p_op o_add (p_op o_mul (p_var 3) (p_var 3)) (p_op o_fdiv (p_var 3) p_int)) p_int)) (s_one (s_ret (p_op o_mod (p_op o_fdiv (p_op o_mod (p_op o_add (p_op o_mul (p_var 3) (p_var 3)) (p_op o_fdiv (p_var 3) p_int)) p_int) p_int) (p_var 2))))))))
theorem f__law_drawn (fx : Fx K mg) (F : FD__law_drawn K f fd) (g : mg "_law_drawn" = some (.ref f))    : Fn P w K mg base 1 "_law_drawn" 3 m__law_drawn :=
  ⟨⟨f, fd, ["script", "k", "many"], k__law_drawn fx F   , g, F.kp, F.bindsN fun _ _ _ _ _ _ us hl => match us, hl with | [_, _, _], _ => rfl⟩, fun ds h => dfM_st h⟩
abbrev FD__law_alphabet (K : PySem.W.Frag) (f : Addr) (fd : FuncData) : Prop := FunD K "_law_alphabet" "_law_alphabet" (defArgs (top 25)) (defBody (top 25)) (defScope (top 25)) [] [] f fd
theorem sc__law_alphabet : FnScope ["script", "at"] ["script", "at"] (defScope (top 25)) := ⟨rfl, rfl, rfl, by decide +kernel, rfl, by decide +kernel, by decide +kernel⟩
theorem k__law_alphabet (fx : Fx K mg) (F : FD__law_alphabet K f fd) (F__law_drawn : Fn P w K mg base 1 "_law_drawn" 3 m__law_drawn)   : FnOk P w K mg base (L2.CX P w) 2 f fd ["script", "at"] (spP K 2 m__law_alphabet) := by
  refine fn_def F sc__law_alphabet rfl rfl fun cdv A outer s H E hr tk hp => ?_
  have hN := (sc__law_alphabet).nd
  exact (s_one (s_ret (p_ix o_ix (p_lst (p_cons p_str (p_cons p_str (p_cons p_str (p_cons p_str p_nil))))) (p_call F__law_drawn hr tk (p_cons (p_var 0) (p_cons (p_var 1) (p_cons p_int p_nil)))))))
theorem f__law_alphabet (fx : Fx K mg) (F : FD__law_alphabet K f fd) (g : mg "_law_alphabet" = some (.ref f)) (F__law_drawn : Fn P w K mg base 1 "_law_drawn" 3 m__law_drawn)   : Fn P w K mg base 2 "_law_alphabet" 2 m__law_alphabet :=
  ⟨⟨f, fd, ["script", "at"], k__law_alphabet fx F F__law_drawn  , g, F.kp, F.bindsN fun _ _ _ _ _ _ us hl => match us, hl with | [_, _], _ => rfl⟩, fun ds h => dfM_st h⟩
abbrev FD__law_word (K : PySem.W.Frag) (f : Addr) (fd : FuncData) : Prop := FunD K "_law_word" "_law_word" (defArgs (top 26)) (defBody (top 26)) (defScope (top 26)) [] [] f fd
theorem sc__law_word : FnScope ["script", "at", "alphabet", "length", "k"] ["script", "at", "alphabet", "length"] (defScope (top 26)) := ⟨rfl, rfl, rfl, by decide +kernel, rfl, by decide +kernel, by decide +kernel⟩
theorem k__law_word (fx : Fx K mg) (F : FD__law_word K f fd) (F__law_drawn : Fn P w K mg base 1 "_law_drawn" 3 m__law_drawn)   : FnOk P w K mg base (L2.CX P w) 2 f fd ["script", "at", "alphabet", "length"] (spP K 4 m__law_word) := by
  refine fn_def F sc__law_word rfl rfl fun cdv A outer s H E hr tk hp => ?_
  have hN := (sc__law_word).nd
  exact (s_one (s_ret (p_join p_str (p_lc rfl hN (i_range (by rfl) fx.g_range (p_var 3)) (blkOk_by (own := [("k", 4)]) (by with_unfolding_all rfl)) (fun s H C cl fp => (g_nm 4 hN)) (fun s H C cl fp => t_no) (fun s H C cl fp => (p_ix o_ix (p_var 2) (p_call F__law_drawn hr L2.takes0 (p_cons (p_var 0) (p_cons (p_op o_add (p_var 1) (p_var 4)) (p_cons (p_callB c_len (by rfl) fx.g_len (by decide +kernel) (p_cons (p_var 2) p_nil)) p_nil))))))))))
theorem f__law_word (fx : Fx K mg) (F : FD__law_word K f fd) (g : mg "_law_word" = some (.ref f)) (F__law_drawn : Fn P w K mg base 1 "_law_drawn" 3 m__law_drawn)   : Fn P w K mg base 2 "_law_word" 4 m__law_word :=
  ⟨⟨f, fd, ["script", "at", "alphabet", "length"], k__law_word fx F F__law_drawn  , g, F.kp, F.bindsN fun _ _ _ _ _ _ us hl => match us, hl with | [_, _, _, _], _ => rfl⟩, fun ds h => dfM_st h⟩
abbrev FD__law_power (K : PySem.W.Frag) (f : Addr) (fd : FuncData) : Prop := FunD K "_law_power" "_law_power" (defArgs (top 27)) (defBody (top 27)) (defScope (top 27)) [] [] f fd
theorem sc__law_power : FnScope ["number", "many", "found", "k"] ["number", "many"] (defScope (top 27)) := ⟨rfl, rfl, rfl, by decide +kernel, rfl, by decide +kernel, by decide +kernel⟩
theorem k__law_power (fx : Fx K mg) (F : FD__law_power K f fd)    : FnOk P w K mg base (L2.CX P w) 1 f fd ["number", "many"] (spP K 2 m__law_power) := by
  refine fn_def F sc__law_power rfl rfl fun cdv A outer s H E hr tk hp => ?_
  have hN := (sc__law_power).nd
  exact (s_cons (s_set 2 hN p_int) (s_cons (s_for hp rfl (i_range (by rfl) fx.g_range (p_var 1)) (g_nm 3 hN) (s_one (s_set 2 hN (p_op o_mul (p_var 2) (p_var 0))))) (s_one (s_ret (p_var 2)))))
theorem f__law_power (fx : Fx K mg) (F : FD__law_power K f fd) (g : mg "_law_power" = some (.ref f))    : Fn P w K mg base 1 "_law_power" 2 m__law_power :=
  ⟨⟨f, fd, ["number", "many"], k__law_power fx F   , g, F.kp, F.bindsN fun _ _ _ _ _ _ us hl => match us, hl with | [_, _], _ => rfl⟩, fun ds h => dfM_st h⟩
abbrev FD_law (K : PySem.W.Frag) (f : Addr) (fd : FuncData) : Prop := FunD K "law" "law" (defArgs (top 28)) (defBody (top 28)) (defScope (top 28)) [] [] f fd
theorem sc_law : FnScope ["script", "alphabet", "length", "counts", "just", "size", "word", "many", "told", "k", "one", "other"] ["script"] (defScope (top 28)) := ⟨rfl, rfl, rfl, by decide +kernel, rfl, by decide +kernel, by decide +kernel⟩
theorem k_law (fx : Fx K mg) (F : FD_law K f fd) (F__law_alphabet : Fn P w K mg base 2 "_law_alphabet" 2 m__law_alphabet) (F__law_drawn : Fn P w K mg base 1 "_law_drawn" 3 m__law_drawn) (F__law_power : Fn P w K mg base 1 "_law_power" 2 m__law_power) (F__law_word : Fn P w K mg base 2 "_law_word" 4 m__law_word) (F_how_many_within : Fn P w K mg base 4 "how_many_within" 3 m_how_many_within) (F_slips : Fn P w K mg base 3 "slips" 2 m_slips) (F_words_within : Fn P w K mg base 5 "words_within" 3 m_words_within)   : FnOk P w K mg base (L2.CX P w) 6 f fd ["script"] (spP K 1 m_law) := by
  refine fn_def F sc_law rfl rfl fun cdv A outer s H E hr tk hp => ?_
  have hN := (sc_law).nd
  have hu64 : (A.deeper (envOfC "law" (defScope (top 28)) s.heap.objs.size f cdv)).units + 64 < cLine := by have := hr.un; omega
  have hu65 : (A.deeper (envOfC "law" (defScope (top 28)) s.heap.objs.size f cdv)).units + 65 < cLine := by have := hr.un; omega
  exact (s_cons (s_set 1 hN (p_call F__law_alphabet hr tk (p_cons (p_var 0) (p_cons p_int p_nil)))) (s_cons (s_set 2 hN (p_op o_add p_int (p_call F__law_drawn hr tk (p_cons (p_var 0) (p_cons p_int (p_cons p_int p_nil)))))) (s_cons (s_asgT (p_tup (p_cons (p_call F__law_word hr tk (p_cons (p_var 0) (p_cons p_int (p_cons (p_var 1) (p_cons (p_var 2) p_nil))))) (p_cons (p_call F__law_drawn hr tk (p_cons (p_var 0) (p_cons p_int (p_cons (p_op o_add (p_callB (c_min (by rfl)) (by rfl) fx.g_min (by decide +kernel) (p_cons (p_var 2) (p_cons p_int p_nil))) p_int) p_nil)))) p_nil))) (g_tp rfl (gn_cons (g_nm 6 hN) (gn_cons (g_nm 7 hN) gn_nil)))) (s_cons (s_if (p_tcmp o_le (p_call F_how_many_within hr tk (p_cons (p_var 2) (p_cons (p_var 7) (p_cons (p_callB c_len (by rfl) fx.g_len (by decide +kernel) (p_cons (p_var 1) p_nil)) p_nil)))) p_int) (s_cons (s_set 8 hN (p_call F_words_within hr tk (p_cons (p_var 6) (p_cons (p_var 7) (p_cons (p_var 1) p_nil))))) (s_cons (s_if (PW.pt (p_or (p_tcmp (o_ne hu64) (p_var 8) (p_sset (by rfl) hu64 (by rfl) fx.g_sorted (by rfl) fx.g_set (p_var 8))) (p_or1 (p_tcmp (o_ne hu64) (p_callB c_len (by rfl) fx.g_len (by decide +kernel) (p_cons (p_var 8) p_nil)) (p_call F_how_many_within hr tk (p_cons (p_var 2) (p_cons (p_var 7) (p_cons (p_callB c_len (by rfl) fx.g_len (by decide +kernel) (p_cons (p_var 1) p_nil)) p_nil)))))))) (s_one (s_ret p_bl)) s_nil) (s_cons (s_if (p_tcmp (o_ne hu64) (p_lc rfl hN (i_data (p_var 8)) (blkOk_by (own := [("one", 10)]) (by with_unfolding_all rfl)) (fun s H C cl fp => (g_nm 10 hN)) (fun s H C cl fp => (t_one (p_tcmp o_gt (p_call F_slips hr L2.takes0 (p_cons (p_var 10) (p_cons (p_var 6) p_nil))) (p_var 7)))) (fun s H C cl fp => (p_var 10))) (p_lst p_nil)) (s_one (s_ret p_bl)) s_nil) (s_one (s_for hp rfl (i_range (by rfl) fx.g_range p_int) (g_nm 9 hN) (s_cons (s_set 10 hN (p_call F__law_word hr tk (p_cons (p_var 0) (p_cons (p_op o_add p_int (p_op o_mul p_int (p_var 9))) (p_cons (p_var 1) (p_cons (p_var 2) p_nil)))))) (s_one (s_if (p_tcmp (o_ne hu64) (p_cmp (o_in hu65) (p_var 10) (p_var 8)) (p_cmp o_le (p_call F_slips hr tk (p_cons (p_var 10) (p_cons (p_var 6) p_nil))) (p_var 7))) (s_one (s_ret p_bl)) s_nil)))))))) s_nil) (s_cons (s_lc rfl hN (i_range (by rfl) fx.g_range (p_op o_add (p_var 2) p_int)) (blkOk_by (own := [("k", 9)]) (by with_unfolding_all rfl)) (fun s H C cl fp => (g_nm 9 hN)) (fun s H C cl fp => t_no) (fun s H C cl fp => (p_call F_how_many_within hr L2.takes0 (p_cons (p_var 2) (p_cons (p_var 9) (p_cons (p_callB c_len (by rfl) fx.g_len (by decide +kernel) (p_cons (p_var 1) p_nil)) p_nil)))))) (s_cons (s_if (PW.pt (p_or (p_tcmp (o_ne hu64) (p_ix o_ix (p_var 3) p_int) p_int) (p_or1 (p_tcmp (o_ne hu64) (p_var 3) (p_callB (c_sortD hu64) (by rfl) fx.g_sorted (by decide +kernel) (p_cons (p_var 3) p_nil)))))) (s_one (s_ret p_bl)) s_nil) (s_cons (s_if (p_tcmp (o_ne hu64) (p_ix o_ix (p_var 3) (p_un o_neg p_int)) (p_call F__law_power hr tk (p_cons (p_callB c_len (by rfl) fx.g_len (by decide +kernel) (p_cons (p_var 1) p_nil)) (p_cons (p_var 2) p_nil)))) (s_one (s_ret p_bl)) s_nil) (s_cons (s_set 4 hN (p_lc rfl hN (i_zip (by rfl) fx.g_zip (p_sl (p_var 3) (p_soP p_int) p_noP) (p_var 3)) (blkOk_by (own := [("one", 10), ("other", 11)]) (by with_unfolding_all rfl)) (fun s H C cl fp => (g_tp rfl (gn_cons (g_nm 10 hN) (gn_cons (g_nm 11 hN) gn_nil)))) (fun s H C cl fp => t_no) (fun s H C cl fp => (p_op o_sub (p_var 10) (p_var 11))))) (s_cons (s_if (p_tcmp (o_ne hu64) (p_ix o_ix (p_var 4) p_int) (p_op o_mul (p_var 2) (p_op o_sub (p_callB c_len (by rfl) fx.g_len (by decide +kernel) (p_cons (p_var 1) p_nil)) p_int))) (s_one (s_ret p_bl)) s_nil) (s_cons (s_set 5 hN (p_op o_sub (p_callB c_len (by rfl) fx.g_len (by decide +kernel) (p_cons (p_var 1) p_nil)) p_int)) (s_one (s_ret (p_cmp (o_eq hu64) (p_lc rfl hN (i_range2 (by rfl) fx.g_range p_int (p_var 2)) (blkOk_by (own := [("k", 9)]) (by with_unfolding_all rfl)) (fun s H C cl fp => (g_nm 9 hN)) (fun s H C cl fp => (t_one (p_tcmp (o_ne hu64) (p_op o_mul (p_ix o_ix (p_var 4) (p_var 9)) (p_op o_add (p_var 9) p_int)) (p_op o_mul (p_op o_mul (p_ix o_ix (p_var 4) (p_op o_sub (p_var 9) p_int)) (p_op o_sub (p_var 2) (p_var 9))) (p_var 5))))) (fun s H C cl fp => (p_var 9))) (p_lst p_nil))))))))))))))
theorem f_law (fx : Fx K mg) (F : FD_law K f fd) (g : mg "law" = some (.ref f)) (F__law_alphabet : Fn P w K mg base 2 "_law_alphabet" 2 m__law_alphabet) (F__law_drawn : Fn P w K mg base 1 "_law_drawn" 3 m__law_drawn) (F__law_power : Fn P w K mg base 1 "_law_power" 2 m__law_power) (F__law_word : Fn P w K mg base 2 "_law_word" 4 m__law_word) (F_how_many_within : Fn P w K mg base 4 "how_many_within" 3 m_how_many_within) (F_slips : Fn P w K mg base 3 "slips" 2 m_slips) (F_words_within : Fn P w K mg base 5 "words_within" 3 m_words_within)   : Fn P w K mg base 6 "law" 1 m_law :=
  ⟨⟨f, fd, ["script"], k_law fx F F__law_alphabet F__law_drawn F__law_power F__law_word F_how_many_within F_slips F_words_within  , g, F.kp, F.bindsN fun _ _ _ _ _ _ us hl => match us, hl with | [_], _ => rfl⟩, fun ds h => dfM_st h⟩
end
end Lk03

namespace Lk03
open PySem L2 Pu Pu.Sp
theorem num_in' {lo hi i : Int} (h1 : lo ≤ i) (h2 : i ≤ hi) : numB lo hi (.int i) = true := by
  show (decide (lo ≤ i) && decide (i ≤ hi)) = true
  rw [decide_eq_true h1, decide_eq_true h2]
  rfl
theorem hmw_ok {L m a : Int} {v : D} (h1 : 1 ≤ L) (h2 : L ≤ 40) (h3 : 0 ≤ m) (h4 : m ≤ L) (h5 : 2 ≤ a) (h6 : a ≤ 26) (hh : m_how_many [.int L, .int m, .int a] = .ok v) : m_how_many_within [.int L, .int m, .int a] = .ok v :=
  dm rfl (sq_to (ex_nx (((eKw (xs := [.int L]) (zs := [.str [108, 101, 110, 103, 116, 104], .int 1]) rfl rfl).trans rfl).trans (need_number_ok (d := .int L) trivial (num_in' h1 h2)))) (sq_to (ex_nx (((eKw (xs := [.int m]) (zs := [.str [109, 97, 110, 121], .int L]) rfl rfl).trans rfl).trans (need_number_ok (d := .int m) trivial (num_in' h3 h4)))) (sq_to (ex_nx (((eKw (xs := [.int a]) (zs := [.str [108, 101, 116, 116, 101, 114, 115], .int 2, .int 26]) rfl rfl).trans rfl).trans (need_number_ok (d := .int a) trivial (num_in' h5 h6)))) (re_to ((eK rfl).trans hh)))))
theorem slips_ok {u v : List Nat} (hu : plainB (.str u) = true) (hv : plainB (.str v) = true) (hl : u.length = v.length) (n : u.length ≤ 40) : m_slips [.str u, .str v] = .ok (.int (cnt u v)) := by
  refine dm rfl (sq_to (ex_nx ((eK (eC rfl rfl)).trans (need_plain_ok (plain_ok hu) hu))) (sq_to (ex_nx ((eK (eC rfl rfl)).trans (need_plain_ok (plain_ok hv) hv))) (sq_to (if_nx ((tB (e2 (eN (eC rfl rfl) (lenq (by omega))) (eN (eC rfl rfl) (lenq (by omega))) (neq (by simp) (by simp)))).trans ?_)) (re_to ((eK (eC rfl (eC rfl rfl))).trans (unlike_ok (by omega)))))))
  rw [eqd_int, hl, decide_eq_true rfl]
  rfl
theorem empty_strs (l : List (List Nat)) : eqd (.lst (l.map .str)) (.lst []) = l.isEmpty := by
  cases l with
  | nil => rw [List.map_nil, eqd_refl]; rfl
  | cons w r => rw [List.map_cons, eqd_lst, eqdL_cn]; rfl
theorem strs_ne (l : List (List Nat)) : dNe (.lst (l.map .str)) (.lst []) = some (.bl (!l.isEmpty)) := by rw [neq (dep_strs _) (by decide), empty_strs]
theorem filter_no {α : Type} (l : List α) : (l.filter fun _ => false) = [] := by simp
theorem same_no {ε : Pu.Env} {f g : F} {l : List (List Nat)} (h1 : f ε = .ok (.lst (l.map .str))) (h2 : g ε = .ok (.lst (l.map .str))) : (tst (op2 dNe f g)) ε = .ok false := (tB (e2 h1 h2 (neq (dep_strs _) (dep_strs _)))).trans (by rw [eqd_refl]; rfl)
theorem int_no {ε : Pu.Env} {f g : F} {i : Int} (h1 : f ε = .ok (.int i)) (h2 : g ε = .ok (.int i)) : (tst (op2 dNe f g)) ε = .ok false := (tB (e2 h1 h2 (neq (Nat.zero_le _) (Nat.zero_le _)))).trans (by rw [eqd_refl]; rfl)
theorem dep_ints (l : List Int) : dep (.lst (l.map .int)) ≤ 60 := by
  have : depL (l.map D.int) ≤ 0 := depL_map fun _ _ => Nat.le_refl _
  rw [dep_lst]
  omega
theorem sort_ints {l : List Int} (h : l.Pairwise (· ≤ ·)) : cSortD [.lst (l.map .int)] = some (.lst (l.map .int)) := by
  have e : srt1 leD (l.map .int) = l.map .int := srt1_sorted (List.pairwise_map.mpr (h.imp fun z => by rw [leD_int]; exact decide_eq_true z))
  refine (if_pos ⟨Nat.le_trans (depL_map (n := 0) fun _ _ => Nat.le_refl _) (by decide), okA_of (fun b b' => by show PySem.W.alike (.int _) (.int _) = true; simp [PySem.W.alike]) l, .inr ?_⟩).trans (by rw [e])
  rw [List.all_map]
  exact List.all_eq_true.mpr fun _ _ => rfl
theorem zi_ints : ∀ u v : List Int, ziD (u.map .int) (v.map .int) = (u.zip v).map fun p => D.tup [.int p.1, .int p.2]
  | [], _ => rfl
  | _ :: _, [] => rfl
  | x :: u, y :: v => congrArg (D.tup [.int x, .int y] :: ·) (zi_ints u v)
def cs (a L : Nat) : List Int := (List.range (L + 1)).map fun k => ((NB a L k : Nat) : Int)
def js (a L : Nat) : List Int := ((cs a L).drop 1 |>.zip (cs a L)).map fun p => p.1 - p.2
def okK (a L : Nat) : Bool := decide ((cs a L).Pairwise (· ≤ ·)) && decide ((cs a L).getD 0 0 = 1) && decide ((cs a L).getD L 0 = ((a ^ L : Nat) : Int)) && decide ((js a L).length = L) && decide ((js a L).getD 0 0 = ((L : Nat) : Int) * (((a : Nat) : Int) - 1)) &&
  ((List.range' 1 (L - 1)).all fun k => decide ((js a L).getD k 0 * (((k : Nat) : Int) + 1) = (js a L).getD (k - 1) 0 * (((L : Nat) : Int) - ((k : Nat) : Int)) * (((a : Nat) : Int) - 1)) && decide (((js a L).getD k 0).natAbs < 2 ^ 60 ∧ ((js a L).getD (k - 1) 0 * (((L : Nat) : Int) - ((k : Nat) : Int))).natAbs < 2 ^ 60 ∧ ((js a L).getD (k - 1) 0).natAbs < 2 ^ 60))
theorem okK_all : ([2, 3, 4].all fun a => [1, 2, 3, 4, 5, 6, 7, 8, 9].all fun L => okK a L) = true := by decide +kernel
theorem plain (ns : List Int) (h : ns.length ≤ 63) : m_law [.frl (ns.map .int)] = .ok (.bl true) := by
  have hl : ns.length ≤ 1000 := by omega
  obtain ⟨a, ha, ea⟩ := alpha_ok ns hl 0 (by decide)
  obtain ⟨al, a0, a1⟩ := a4_let a ha
  have al4 := al_len a ha
  have hs := a4_sorted a ha
  refine dm rfl (sq_to (as_nx ((eK rfl).trans ea)) ?_)
  obtain ⟨r1, hr1, er1⟩ := drawn_ok ns 1 9 (by decide) (by decide) hl
  have c1 : (1 : Int) + ((r1 : Nat) : Int) = ((1 + r1 : Nat) : Int) := by omega
  refine sq_to (as_nx (d := .int ((1 + r1 : Nat) : Int)) ((e2 rfl ((eK rfl).trans er1) rfl).trans (by rw [c1]))) ?_
  generalize hL : 1 + r1 = L at *
  obtain ⟨w, hw, ew⟩ := word_ok ns hl 2 (by decide) a a0 (by omega) L (by omega)
  obtain ⟨m, hm, em⟩ := drawn_ok ns 20 (min L 3 + 1) (by omega) (by omega) hl
  have mn : cMin [.int ((L : Nat) : Int), .int 3] = some (.int ((min L 3 : Nat) : Int)) := by
    show some (D.int (if (3 : Int) < ((L : Nat) : Int) then 3 else ((L : Nat) : Int))) = _
    refine congrArg (fun z => some (D.int z)) ?_
    split <;> omega
  have cm : ((min L 3 : Nat) : Int) + 1 = ((min L 3 + 1 : Nat) : Int) := by omega
  refine sq_to (at_nx (ps := [(6, .str w), (7, .int (m : Nat))]) (eTu (eC ((eK rfl).trans ew) (eC ((eK (eC rfl (eC rfl (eC ((e2 (eN (eC rfl (eC rfl rfl)) mn) rfl rfl).trans (by rw [cm])) rfl)))).trans em) rfl)) (Nat.le_of_ble_eq_true rfl)) rfl) ?_
  have lw : w.length = L := hw.1
  have pw : plainB (.str w) = true := wd_plain al hw (by omega) (by omega)
  have hmw : ∀ k : Nat, k ≤ L → m_how_many_within [.int ((L : Nat) : Int), .int ((k : Nat) : Int), .int ((a.length : Nat) : Int)] = .ok (.int ((NB a.length L k : Nat) : Int)) := fun k hk => hmw_ok (by omega) (by omega) (by omega) (by omega) (by omega) (by omega) (hm_ok (by omega) (by omega) (by omega) hk)
  have la : ∀ {ε : Pu.Env}, vr 1 ε = .ok (.str a) → (opN cLen (argC (vr 1) argN)) ε = .ok (.int ((a.length : Nat) : Int)) := fun h => eN (eC h rfl) (lenq (by omega))
  -- the words told
  obtain ⟨x8, x9, x10, e8⟩ : ∃ x8 x9 x10 : Sl, (ifS (tst (op2 dLe (calF m_how_many_within (argC (vr 2) (argC (vr 7) (argC (opN cLen (argC (vr 1) argN)) argN)))) (cst (.int 1500)))) (sqS (asS 8 (calF m_words_within (argC (vr 6) (argC (vr 7) (argC (vr 1) argN))))) (sqS (ifS (orT (tst (op2 dNe (vr 8) (op1 dSSet (vr 8)))) (tst (op2 dNe (opN cLen (argC (vr 8) argN)) (calF m_how_many_within (argC (vr 2) (argC (vr 7) (argC (opN cLen (argC (vr 1) argN)) argN))))))) (reS (cst (.bl false))) nxS) (sqS (ifS (tst (op2 dNe (ofL (lcO (itF (vr 8)) [10] (.nm 10) (tst (op2 dGt (calF m_slips (argC (vr 10) (argC (vr 6) argN))) (vr 7))) (vr 10))) (lstF argN))) (reS (cst (.bl false))) nxS) (forS (rgF (cst (.int 4))) (.nm 9) (sqS (asS 10 (calF m__law_word (argC (vr 0) (argC (op2 dAdd (cst (.int 30)) (op2 dMul (cst (.int 12)) (vr 9))) (argC (vr 1) (argC (vr 2) argN)))))) (ifS (tst (op2 dNe (op2 dIn (vr 10) (vr 8)) (op2 dLe (calF m_slips (argC (vr 10) (argC (vr 6) argN))) (vr 7)))) (reS (cst (.bl false))) nxS)))))) nxS) [.sh (.frl (ns.map .int)), .sh (.str a), .sh (.int (L : Nat)), .no, .no, .no, .sh (.str w), .sh (.int (m : Nat)), .no, .no, .no, .no] = .nx [.sh (.frl (ns.map .int)), .sh (.str a), .sh (.int (L : Nat)), .no, .no, .no, .sh (.str w), .sh (.int (m : Nat)), x8, x9, x10, .no] := by
    have t0 : (tst (op2 dLe (calF m_how_many_within (argC (vr 2) (argC (vr 7) (argC (opN cLen (argC (vr 1) argN)) argN)))) (cst (.int 1500)))) (pkv [.sh (.frl (ns.map .int)), .sh (.str a), .sh (.int (L : Nat)), .no, .no, .no, .sh (.str w), .sh (.int (m : Nat)), .no, .no, .no, .no]) = .ok (decide (((NB a.length L m : Nat) : Int) ≤ 1500)) := tB (e2 ((eK (eC rfl (eC rfl (eC (la rfl) rfl)))).trans (hmw m (by omega))) rfl rfl)
    by_cases c : NB a.length L m ≤ 1500
    · have mo := many_ok (al_one a ha) w (fun s hs' => hw.2 s hs') m
      rw [lw] at mo
      have en := nrs_eq (al := a) (m := ((m : Nat) : Int)) (by omega) w
      rw [lw] at en
      have nl : (nrs a [([], ((m : Nat) : Int))] w).length = NB a.length L m := by rw [en, List.length_map]; exact mo
      have hm' := hm_ok (L := L) (m := m) (a := a.length) (by omega) (by omega) (by omega) (by omega)
      rw [← lw] at hm'
      have wi := within_ok (m := m) ha pw (fun c hc => hw.2 c hc) (by omega) hm' (by rw [lw]; omega) (by omega)
      rw [en, List.map_map, show ((fun r : List Nat × Int => D.str r.1) ∘ fun u => (u, ((m : Nat) : Int) - ((cnt u w : Nat) : Int))) = D.str from rfl] at wi
      generalize eW : (allw a L).filter (okU w ((m : Nat) : Int)) = T at *
      have mT : ∀ u, u ∈ T ↔ u ∈ allw a L ∧ ((cnt u w : Nat) : Int) ≤ ((m : Nat) : Int) := fun u => by rw [← eW, List.mem_filter, decide_eq_true_iff]
      have sT : T.Pairwise (· < ·) := eW ▸ (allw_sorted hs L).filter _
      have okw : ∀ u, u ∈ allw a L → plainB (.str u) = true ∧ u.length = L := fun u hu => ⟨wd_plain al (n := L) ⟨allw_len hu, allw_in hu⟩ (by omega) (by omega), allw_len hu⟩
      have lT : cLen [.lst (T.map .str)] = some (.int (NB a.length L m : Nat)) := by
        show some (D.int (((T.map D.str).length : Nat) : Int)) = _
        rw [List.length_map, mo]
      have step : ∀ (l : List Nat) (x9 x10 : Sl), (∀ k ∈ l, k < 4) → ∃ x9' x10', forGo (.nm 9) (sqS (asS 10 (calF m__law_word (argC (vr 0) (argC (op2 dAdd (cst (.int 30)) (op2 dMul (cst (.int 12)) (vr 9))) (argC (vr 1) (argC (vr 2) argN)))))) (ifS (tst (op2 dNe (op2 dIn (vr 10) (vr 8)) (op2 dLe (calF m_slips (argC (vr 10) (argC (vr 6) argN))) (vr 7)))) (reS (cst (.bl false))) nxS)) (l.map fun i => D.int (i : Nat)) [.sh (.frl (ns.map .int)), .sh (.str a), .sh (.int (L : Nat)), .no, .no, .no, .sh (.str w), .sh (.int (m : Nat)), .sh (.lst (T.map .str)), x9, x10, .no] = .nx [.sh (.frl (ns.map .int)), .sh (.str a), .sh (.int (L : Nat)), .no, .no, .no, .sh (.str w), .sh (.int (m : Nat)), .sh (.lst (T.map .str)), x9', x10', .no] := by
        intro l
        induction l with
        | nil => exact fun x9 x10 _ => ⟨x9, x10, rfl⟩
        | cons k l ih =>
          intro x9 x10 hk
          have k8 := hk k List.mem_cons_self
          obtain ⟨u, hu, eu⟩ := word_ok ns hl (30 + 12 * k) (by omega) a a0 (by omega) L (by omega)
          obtain ⟨x9', x10', e⟩ := ih (.sh (.int (k : Nat))) (.sh (.str u)) fun j hj => hk j (List.mem_cons_of_mem _ hj)
          refine ⟨x9', x10', ?_⟩
          rw [List.map_cons, for_cons (ps := [(9, .int (k : Nat))]) (ρ' := [.sh (.frl (ns.map .int)), .sh (.str a), .sh (.int (L : Nat)), .no, .no, .no, .sh (.str w), .sh (.int (m : Nat)), .sh (.lst (T.map .str)), .sh (.int (k : Nat)), .sh (.str u), .no]) rfl, e]
          have e6 : (30 : Int) + 12 * ((k : Nat) : Int) = ((30 + 12 * k : Nat) : Int) := by omega
          have bk : ((k : Nat) : Int).natAbs < 2 ^ 100 := by
            have : ((k : Nat) : Int).natAbs = k := by omega
            rw [this]
            exact Nat.lt_of_le_of_lt (show k ≤ 100 by omega) (by decide)
          have pu : plainB (.str u) = true := wd_plain al hu (by omega) (by omega)
          have lu : u.length = L := hu.1
          refine (sq_nx (as_nx ((eK (eC rfl (eC ((e2 rfl (e2 rfl rfl (mulq (by decide) bk)) rfl).trans (by rw [e6])) (eC rfl (eC rfl rfl))))).trans eu))).trans ?_
          refine if_nx ((tB (e2 (e2 rfl rfl (in_s u _)) (e2 (z := .bl (decide (((cnt u w : Nat) : Int) ≤ ((m : Nat) : Int)))) ((eK rfl).trans (slips_ok pu pw (by omega) (by omega))) rfl rfl) (neq (Nat.zero_le _) (Nat.zero_le _)))).trans ?_)
          have e9 : decide (u ∈ T) = decide (((cnt u w : Nat) : Int) ≤ ((m : Nat) : Int)) := decide_eq_decide.mpr ⟨fun z => ((mT u).mp z).2, fun z => (mT u).mpr ⟨Pu.Sh.allw_mem.mpr hu, z⟩⟩
          rw [e9, eqd_refl]
          rfl
      obtain ⟨x9, x10, es⟩ := step (List.range 4) .no .no fun k hk => List.mem_range.mp hk
      refine ⟨.sh (.lst (T.map .str)), x9, x10, (if_yes (t0.trans (congrArg Res.ok (decide_eq_true (by omega))))).trans ((sq_nx (as_nx ((eK rfl).trans wi))).trans ((sq_nx (if_nx (tOr (x := false) (y := false) (same_no rfl (e1 rfl (sset_lt sT (by omega)))) fun _ => int_no (eN (eC rfl rfl) lT) ((eK (eC rfl (eC rfl (eC (la rfl) rfl)))).trans (hmw m (by omega)))))).trans ((sq_nx (if_nx (tB (e2 ((eO (eLc (ds := T.map .str) rfl (by rw [List.length_map]; omega) (lcGo_imf (h := .str) (g := .str) (b := fun _ => false) (ps := fun u => [(10, .str u)]) fun u hu => ⟨rfl, ?_, fun z => nomatch z⟩))).trans (by rw [filter_no])) (eL rfl (by decide)) (strs_ne []))))).trans ((for_go (ds := (List.range 4).map fun i => D.int (i : Nat)) rfl).trans es))))⟩
      obtain ⟨u1, u2⟩ := (mT u).mp hu
      obtain ⟨pu, lu⟩ := okw u u1
      exact (tB (e2 ((eK rfl).trans (slips_ok pu pw (by omega) (by omega))) rfl rfl)).trans (congrArg Res.ok (decide_eq_false (by omega)))
    · exact ⟨.no, .no, .no, if_nx (t0.trans (congrArg Res.ok (decide_eq_false (by omega))))⟩
  refine sq_to e8 ?_
  -- counts
  have kk : okK a.length L = true := by
    refine List.all_eq_true.mp (List.all_eq_true.mp okK_all a.length ?_) L ?_
    · rcases al4 with z | z | z <;> rw [z] <;> decide
    · have : L = 1 ∨ L = 2 ∨ L = 3 ∨ L = 4 ∨ L = 5 ∨ L = 6 ∨ L = 7 ∨ L = 8 ∨ L = 9 := by omega
      rcases this with rfl | rfl | rfl | rfl | rfl | rfl | rfl | rfl | rfl <;> decide
  unfold okK at kk
  simp only [Bool.and_eq_true] at kk
  obtain ⟨⟨⟨⟨⟨k1, k2⟩, k3⟩, k4⟩, k5⟩, k6⟩ := kk
  have k1 := of_decide_eq_true k1
  have k2 := of_decide_eq_true k2
  have k3 := of_decide_eq_true k3
  have k4 := of_decide_eq_true k4
  have k5 := of_decide_eq_true k5
  have cl : (cs a.length L).length = L + 1 := by unfold cs; rw [List.length_map, List.length_range]
  have c9 : ((L : Nat) : Int) + 1 = ((L + 1 : Nat) : Int) := by omega
  refine sq_to (as_nx (d := .lst ((cs a.length L).map .int)) ((eO (eLc (ds := (List.range (L + 1)).map fun i => D.int (i : Nat)) ((eR ((e2 rfl rfl rfl).trans (by rw [c9])) (by omega)).trans (by rw [rgD_nat])) (by rw [List.length_map, List.length_range]; omega) (lcGo_im (h := fun i => D.int (i : Nat)) (g := fun i => D.int ((NB a.length L i : Nat) : Int)) (ps := fun i => [(9, D.int (i : Nat))]) fun i hi => ⟨rfl, (eK (eC rfl (eC rfl (eC (la rfl) rfl)))).trans (hmw i (by have := List.mem_range.mp hi; omega))⟩))).trans (by unfold cs; rw [List.map_map]; rfl))) ?_
  generalize eCC : cs a.length L = C at *
  refine sq_to (if_nx (tOr (x := false) (y := false) (int_no (e2 rfl rfl ((rowAt (j := 0) (by omega)).trans (by rw [k2]))) rfl) fun _ => (tB (e2 rfl (eN (eC rfl rfl) (sort_ints k1)) (neq (dep_ints _) (dep_ints _)))).trans (by rw [eqd_refl]; rfl))) ?_
  have pb : a.length ^ L < 2 ^ 3000 := Pu.Sh.pw_small (by omega) (by omega)
  have al2 : a.length < 2 ^ 3000 := Nat.lt_of_lt_of_le (show a.length < 2 ^ 3 by show _ < 8; omega) (Nat.pow_le_pow_right (by decide) (by decide))
  have po : m__law_power [.int ((a.length : Nat) : Int), .int ((L : Nat) : Int)] = .ok (.int ((a.length ^ L : Nat) : Int)) := Pu.Sh.power_ok (by omega) al2 (by omega) pb
  refine sq_to (if_nx (int_no (e2 rfl (e1 (p := dNeg) (d := .int 1) (z := .int (-1)) rfl rfl) ((lastAt cl).trans (by rw [k3]))) ((eK (eC (la rfl) (eC rfl rfl))).trans po))) ?_
  have dr : cut (C.map D.int) (some 1) none = (C.drop 1).map .int := by
    have := cutL_from (x := C.map D.int) (p := 1) (by rw [List.length_map]; omega)
    rw [← List.map_drop] at this
    exact this
  have ej : js a.length L = ((C.drop 1).zip C).map fun p => p.1 - p.2 := by unfold js; rw [eCC]
  refine sq_to (as_nx (d := .lst ((js a.length L).map .int)) ((eO (eLc (ds := ((C.drop 1).zip C).map fun p => D.tup [.int p.1, .int p.2]) ((eZ (eS rfl (eP rfl) rfl rfl) rfl rfl rfl).trans (by rw [dr, zi_ints])) (by rw [List.length_map, List.length_zip]; omega) (lcGo_im (h := fun p : Int × Int => D.tup [.int p.1, .int p.2]) (g := fun p => D.int (p.1 - p.2)) (ps := fun p => [(10, D.int p.1), (11, D.int p.2)]) fun p _ => ⟨rfl, e2 rfl rfl rfl⟩))).trans (by rw [ej, List.map_map]; rfl))) ?_
  have small : ∀ k : Nat, k ≤ 100 → ((k : Nat) : Int).natAbs < 2 ^ 100 := fun k hk => by
    have : ((k : Nat) : Int).natAbs = k := by omega
    rw [this]
    exact Nat.lt_of_le_of_lt hk (by decide)
  have sa : (((a.length : Nat) : Int) - 1).natAbs < 2 ^ 100 := by
    have : (((a.length : Nat) : Int) - 1).natAbs = a.length - 1 := by omega
    rw [this]
    exact Nat.lt_of_le_of_lt (show a.length - 1 ≤ 100 by omega) (by decide)
  generalize eJ : js a.length L = J at *
  refine sq_to (if_nx (int_no (e2 rfl rfl ((rowAt (j := 0) (by omega)).trans (by rw [k5]))) (e2 rfl (e2 (la rfl) rfl rfl) (mulq (small L (by omega)) sa)))) ?_
  refine sq_to (as_nx (e2 (la rfl) rfl rfl)) ?_
  refine re_to (e2 (d := .lst (([] : List (List Nat)).map .str)) ((eO (eLc (ds := (List.range' 1 (L - 1)).map fun k => D.int (k : Nat)) ((eR2 rfl rfl (by omega)).trans (by rw [← rgD_from]; rfl)) (by rw [List.length_map, List.length_range']; omega) (lcGo_imf (h := fun k => D.int (k : Nat)) (g := fun k => D.int (k : Nat)) (b := fun _ => false) (ps := fun k => [(9, D.int (k : Nat))]) fun k hk => ⟨rfl, ?_, fun z => nomatch z⟩))).trans (by rw [filter_no]; rfl)) (eL rfl (by decide)) ((eqq (by decide) (by decide)).trans (by rw [List.map_nil, eqd_refl])))
  obtain ⟨h1, h2⟩ := List.mem_range'_1.mp hk
  have kb := List.all_eq_true.mp k6 k hk
  rw [Bool.and_eq_true] at kb
  obtain ⟨b1, b2, b3⟩ := of_decide_eq_true kb.2
  have kb := of_decide_eq_true kb.1
  have cK : ((k : Nat) : Int) + 1 = ((k + 1 : Nat) : Int) := by omega
  have ck : ((k : Nat) : Int) - 1 = ((k - 1 : Nat) : Int) := by omega
  have cl2 : ((L : Nat) : Int) - ((k : Nat) : Int) = ((L - k : Nat) : Int) := by omega
  refine int_no (e2 (e2 rfl rfl (rowAt (j := k) (by omega))) (e2 rfl rfl rfl) (mulq (b100 b1) (by rw [cK]; exact small (k + 1) (by omega)))) ?_
  rw [kb]
  exact e2 (e2 (e2 rfl ((e2 rfl rfl rfl).trans (by rw [ck])) (rowAt (j := k - 1) (by omega))) (e2 rfl rfl rfl) (mulq (b100 b3) (by rw [cl2]; exact small (L - k) (by omega)))) rfl (mulq (b100 b2) sa)
end Lk03

namespace Lk03
open PySem PySem.Spec PyProof.Rows L2 Pu
def d_is_number : He.DefD := ⟨("is_number", none), "is_number", "is_number", defArgs (top 9), defBody (top 9), defScope (top 9), [], []⟩
def d_need_number : He.DefD := ⟨("need_number", none), "need_number", "need_number", defArgs (top 10), defBody (top 10), defScope (top 10), [], [("least", .int 0), ("most", .int 40)]⟩
def d_is_alphabet : He.DefD := ⟨("is_alphabet", none), "is_alphabet", "is_alphabet", defArgs (top 11), defBody (top 11), defScope (top 11), [], []⟩
def d_need_alphabet : He.DefD := ⟨("need_alphabet", none), "need_alphabet", "need_alphabet", defArgs (top 12), defBody (top 12), defScope (top 12), [], []⟩
def d_is_plain : He.DefD := ⟨("is_plain", none), "is_plain", "is_plain", defArgs (top 13), defBody (top 13), defScope (top 13), [], []⟩
def d_is_word : He.DefD := ⟨("is_word", none), "is_word", "is_word", defArgs (top 14), defBody (top 14), defScope (top 14), [], []⟩
def d_need_plain : He.DefD := ⟨("need_plain", none), "need_plain", "need_plain", defArgs (top 15), defBody (top 15), defScope (top 15), [], []⟩
def d_need_word : He.DefD := ⟨("need_word", none), "need_word", "need_word", defArgs (top 16), defBody (top 16), defScope (top 16), [], []⟩
def d_unlike : He.DefD := ⟨("unlike", none), "unlike", "unlike", defArgs (top 17), defBody (top 17), defScope (top 17), [], []⟩
def d_slips : He.DefD := ⟨("slips", none), "slips", "slips", defArgs (top 18), defBody (top 18), defScope (top 18), [], []⟩
def d_near : He.DefD := ⟨("near", none), "near", "near", defArgs (top 19), defBody (top 19), defScope (top 19), [], []⟩
def d_how_many : He.DefD := ⟨("how_many", none), "how_many", "how_many", defArgs (top 21), defBody (top 21), defScope (top 21), [], []⟩
def d_words_within : He.DefD := ⟨("words_within", none), "words_within", "words_within", defArgs (top 20), defBody (top 20), defScope (top 20), [], []⟩
def d_how_many_within : He.DefD := ⟨("how_many_within", none), "how_many_within", "how_many_within", defArgs (top 22), defBody (top 22), defScope (top 22), [], []⟩
def d__law_drawn : He.DefD := ⟨("_law_drawn", none), "_law_drawn", "_law_drawn", defArgs (top 24), defBody (top 24), defScope (top 24), [], []⟩
def d__law_alphabet : He.DefD := ⟨("_law_alphabet", none), "_law_alphabet", "_law_alphabet", defArgs (top 25), defBody (top 25), defScope (top 25), [], []⟩
def d__law_word : He.DefD := ⟨("_law_word", none), "_law_word", "_law_word", defArgs (top 26), defBody (top 26), defScope (top 26), [], []⟩
def d__law_power : He.DefD := ⟨("_law_power", none), "_law_power", "_law_power", defArgs (top 27), defBody (top 27), defScope (top 27), [], []⟩
def d_law : He.DefD := ⟨("law", none), "law", "law", defArgs (top 28), defBody (top 28), defScope (top 28), [], []⟩
def d_ini_Unlike : He.DefD := ⟨("Unlike", some "__init__"), "__init__", "Unlike.__init__", defArgs (inn (top 5)), defBody (inn (top 5)), defScope (inn (top 5)), [], []⟩
def d_ini_NoNumber : He.DefD := ⟨("NoNumber", some "__init__"), "__init__", "NoNumber.__init__", defArgs (inn (top 4)), defBody (inn (top 4)), defScope (inn (top 4)), [], []⟩
def fn : List He.DefD := [d_is_number, d_need_number, d_is_alphabet, d_need_alphabet, d_is_plain, d_is_word, d_need_plain, d_need_word, d_unlike, d_slips, d_near, d_how_many, d_words_within, d_how_many_within, d__law_drawn, d__law_alphabet, d__law_word, d__law_power, d_law, d_ini_Unlike, d_ini_NoNumber]
def fa : List He.Fa := [.free "all", .free "bool", .free "int", .free "isinstance", .free "len", .free "min", .free "range", .free "set", .free "sorted", .free "str", .free "zip", .int "MOST_WORD" 40, .str "LETTERS" "abcdefghijklmnopqrstuvwxyz", .glo "NoAlphabet", .glo "NoNumber", .glo "NoWord", .glo "Unlike", .exc "NoAlphabet", .exc "NoWord", .glo "is_number", .glo "need_number", .glo "is_alphabet", .glo "need_alphabet", .glo "is_plain", .glo "is_word", .glo "need_plain", .glo "need_word", .glo "unlike", .glo "slips", .glo "near", .glo "how_many", .glo "words_within", .glo "how_many_within", .glo "_law_drawn", .glo "_law_alphabet", .glo "_law_word", .glo "_law_power", .glo "law"]
abbrev R : PySem.W.OpenRow := PySem.W.OpenLaw.row PySem.Challenge.rw_slipmotes_k03_whole_within
abbrev hk : PySem.W.Hook := hkC 5 fa fn chk
def ob (s : PySem.W.SharedT) : He.AlD × Bool := obC 5 fa fn chk s
theorem run (w : World) : HandSHeadRun.RunEq R (PySem.W.view R.prog [28]) hk ob 3000 ("SlipError" :: "NoAlphabet" :: "NoWord" :: "NoNumber" :: "Unlike" :: "LETTERS" :: "MOST_WORD" :: "is_number" :: "need_number" :: "is_alphabet" :: "need_alphabet" :: "is_plain" :: "is_word" :: "need_plain" :: "need_word" :: "unlike" :: "slips" :: "near" :: "words_within" :: "how_many" :: "how_many_within" :: "_law_drawn" :: "_law_alphabet" :: "_law_word" :: "_law_power" :: []) w := by
  intro os
  kernel_rfl
theorem fx_of {K : PySem.W.Frag} {h : Heap} {mg : Str → Option Value} (X : K.In h) (G : h.Ns mainGlobals mg) (c : He.SaysD fa fn K) (d : chk K = true) : Fx K mg := by
  have d := List.all_eq_true.mp d
  exact {
    g_all := He.free_ok X G (c.fact 0 (f := .free "all") rfl)
    g_bool := He.free_ok X G (c.fact 1 (f := .free "bool") rfl)
    g_int := He.free_ok X G (c.fact 2 (f := .free "int") rfl)
    g_isinstance := He.free_ok X G (c.fact 3 (f := .free "isinstance") rfl)
    g_len := He.free_ok X G (c.fact 4 (f := .free "len") rfl)
    g_min := He.free_ok X G (c.fact 5 (f := .free "min") rfl)
    g_range := He.free_ok X G (c.fact 6 (f := .free "range") rfl)
    g_set := He.free_ok X G (c.fact 7 (f := .free "set") rfl)
    g_sorted := He.free_ok X G (c.fact 8 (f := .free "sorted") rfl)
    g_str := He.free_ok X G (c.fact 9 (f := .free "str") rfl)
    g_zip := He.free_ok X G (c.fact 10 (f := .free "zip") rfl)
    i_MOST_WORD := He.int_ok X G (c.fact 11 (f := .int "MOST_WORD" 40) rfl)
    s_LETTERS := He.str_ok X G (c.fact 12 (f := .str "LETTERS" "abcdefghijklmnopqrstuvwxyz") rfl)
    c_NoAlphabet := He.glo_ok X G (c.fact 13 (f := .glo "NoAlphabet") rfl)
    c_NoNumber := He.glo_ok X G (c.fact 14 (f := .glo "NoNumber") rfl)
    c_NoWord := He.glo_ok X G (c.fact 15 (f := .glo "NoWord") rfl)
    c_Unlike := He.glo_ok X G (c.fact 16 (f := .glo "Unlike") rfl)
    e_NoAlphabet := c.fact 17 (f := .exc "NoAlphabet") rfl
    e_NoWord := c.fact 18 (f := .exc "NoWord") rfl
    x_NoNumber := xfaB_ok (d _ (List.mem_of_getElem? (i := 0) rfl))
    x_Unlike := xfaB_ok (d _ (List.mem_of_getElem? (i := 1) rfl))
  }
theorem facts {P : Program} {w : World} {K : PySem.W.Frag} {h : Heap} {mg : Str → Option Value} {f : Addr} (X : K.In h) (G : h.Ns mainGlobals mg) (hfa : mg ("law" : Str) = some (.ref f)) (c : He.SaysD fa fn K) (d : chk K = true) :
    ∃ fd : FuncData, (∀ (s : Shared) (v : Value), BindsTo s fd ⟨[v], []⟩ [("script", v)]) ∧ ∀ base : Heap, K.In base → base.Ns mainGlobals mg → FnOk P w K mg base (L2.CX P w) 6 f fd ["script"] (spP K 1 m_law) := by
  have fx := fx_of X G c d
  obtain ⟨fd_is_number, F_is_number⟩ := c.def_ 0 (d := d_is_number) rfl
  have g_is_number := He.glo_ok X G (c.fact 19 (f := .glo "is_number") rfl)
  obtain ⟨fd_need_number, F_need_number⟩ := c.def_ 1 (d := d_need_number) rfl
  have g_need_number := He.glo_ok X G (c.fact 20 (f := .glo "need_number") rfl)
  obtain ⟨fd_is_alphabet, F_is_alphabet⟩ := c.def_ 2 (d := d_is_alphabet) rfl
  have g_is_alphabet := He.glo_ok X G (c.fact 21 (f := .glo "is_alphabet") rfl)
  obtain ⟨fd_need_alphabet, F_need_alphabet⟩ := c.def_ 3 (d := d_need_alphabet) rfl
  have g_need_alphabet := He.glo_ok X G (c.fact 22 (f := .glo "need_alphabet") rfl)
  obtain ⟨fd_is_plain, F_is_plain⟩ := c.def_ 4 (d := d_is_plain) rfl
  have g_is_plain := He.glo_ok X G (c.fact 23 (f := .glo "is_plain") rfl)
  obtain ⟨fd_is_word, F_is_word⟩ := c.def_ 5 (d := d_is_word) rfl
  have g_is_word := He.glo_ok X G (c.fact 24 (f := .glo "is_word") rfl)
  obtain ⟨fd_need_plain, F_need_plain⟩ := c.def_ 6 (d := d_need_plain) rfl
  have g_need_plain := He.glo_ok X G (c.fact 25 (f := .glo "need_plain") rfl)
  obtain ⟨fd_need_word, F_need_word⟩ := c.def_ 7 (d := d_need_word) rfl
  have g_need_word := He.glo_ok X G (c.fact 26 (f := .glo "need_word") rfl)
  obtain ⟨fd_unlike, F_unlike⟩ := c.def_ 8 (d := d_unlike) rfl
  have g_unlike := He.glo_ok X G (c.fact 27 (f := .glo "unlike") rfl)
  obtain ⟨fd_slips, F_slips⟩ := c.def_ 9 (d := d_slips) rfl
  have g_slips := He.glo_ok X G (c.fact 28 (f := .glo "slips") rfl)
  obtain ⟨fd_near, F_near⟩ := c.def_ 10 (d := d_near) rfl
  have g_near := He.glo_ok X G (c.fact 29 (f := .glo "near") rfl)
  obtain ⟨fd_how_many, F_how_many⟩ := c.def_ 11 (d := d_how_many) rfl
  have g_how_many := He.glo_ok X G (c.fact 30 (f := .glo "how_many") rfl)
  obtain ⟨fd_words_within, F_words_within⟩ := c.def_ 12 (d := d_words_within) rfl
  have g_words_within := He.glo_ok X G (c.fact 31 (f := .glo "words_within") rfl)
  obtain ⟨fd_how_many_within, F_how_many_within⟩ := c.def_ 13 (d := d_how_many_within) rfl
  have g_how_many_within := He.glo_ok X G (c.fact 32 (f := .glo "how_many_within") rfl)
  obtain ⟨fd__law_drawn, F__law_drawn⟩ := c.def_ 14 (d := d__law_drawn) rfl
  have g__law_drawn := He.glo_ok X G (c.fact 33 (f := .glo "_law_drawn") rfl)
  obtain ⟨fd__law_alphabet, F__law_alphabet⟩ := c.def_ 15 (d := d__law_alphabet) rfl
  have g__law_alphabet := He.glo_ok X G (c.fact 34 (f := .glo "_law_alphabet") rfl)
  obtain ⟨fd__law_word, F__law_word⟩ := c.def_ 16 (d := d__law_word) rfl
  have g__law_word := He.glo_ok X G (c.fact 35 (f := .glo "_law_word") rfl)
  obtain ⟨fd__law_power, F__law_power⟩ := c.def_ 17 (d := d__law_power) rfl
  have g__law_power := He.glo_ok X G (c.fact 36 (f := .glo "_law_power") rfl)
  obtain ⟨fd_law, F_law⟩ := c.def_ 18 (d := d_law) rfl
  have g_law := He.glo_ok X G (c.fact 37 (f := .glo "law") rfl)
  obtain ⟨fdi_Unlike, FI_Unlike⟩ := c.def_ 19 (d := d_ini_Unlike) rfl
  obtain ⟨fdi_NoNumber, FI_NoNumber⟩ := c.def_ 20 (d := d_ini_NoNumber) rfl
  have e := hfa.symm.trans g_law
  cases e
  have b := FunD.bindsA (ps := ["script"]) F_law fun _ _ _ _ _ _ us hl => match us, hl with | [_], _ => rfl
  refine ⟨fd_law, fun s v => b s [v] rfl, fun base _ _ => ?_⟩
  have I_Unlike : Ini P w K mg base 1 "Unlike" "lengths" := ini_Unlike fx FI_Unlike
  have I_NoNumber : Ini P w K mg base 1 "NoNumber" "which" := ini_NoNumber fx FI_NoNumber
  have N_is_number := f_is_number (P := P) (w := w) (base := base) fx F_is_number g_is_number 
  have K1 := kw_1 (P := P) (w := w) (base := base) fx F_need_number g_need_number N_is_number I_NoNumber
  have K2 := kw_2 (P := P) (w := w) (base := base) fx F_need_number g_need_number N_is_number I_NoNumber
  have K0 := kw_0 (P := P) (w := w) (base := base) fx F_need_number g_need_number N_is_number I_NoNumber
  have N_is_alphabet := f_is_alphabet (P := P) (w := w) (base := base) fx F_is_alphabet g_is_alphabet 
  have N_need_alphabet := f_need_alphabet (P := P) (w := w) (base := base) fx F_need_alphabet g_need_alphabet N_is_alphabet
  have N_is_plain := f_is_plain (P := P) (w := w) (base := base) fx F_is_plain g_is_plain 
  have N_is_word := f_is_word (P := P) (w := w) (base := base) fx F_is_word g_is_word N_is_plain N_need_alphabet
  have N_need_plain := f_need_plain (P := P) (w := w) (base := base) fx F_need_plain g_need_plain N_is_plain
  have N_need_word := f_need_word (P := P) (w := w) (base := base) fx F_need_word g_need_word N_is_word
  have N_unlike := f_unlike (P := P) (w := w) (base := base) fx F_unlike g_unlike 
  have N_slips := f_slips (P := P) (w := w) (base := base) fx F_slips g_slips N_need_plain N_unlike I_Unlike
  have N_near := f_near (P := P) (w := w) (base := base) fx F_near g_near 
  have N_how_many := f_how_many (P := P) (w := w) (base := base) fx F_how_many g_how_many 
  have N_words_within := f_words_within (P := P) (w := w) (base := base) fx F_words_within g_words_within N_how_many N_near N_need_alphabet N_need_word K0 I_NoNumber
  have N_how_many_within := f_how_many_within (P := P) (w := w) (base := base) fx F_how_many_within g_how_many_within N_how_many K1 K2 K0
  have N__law_drawn := f__law_drawn (P := P) (w := w) (base := base) fx F__law_drawn g__law_drawn 
  have N__law_alphabet := f__law_alphabet (P := P) (w := w) (base := base) fx F__law_alphabet g__law_alphabet N__law_drawn
  have N__law_word := f__law_word (P := P) (w := w) (base := base) fx F__law_word g__law_word N__law_drawn
  have N__law_power := f__law_power (P := P) (w := w) (base := base) fx F__law_power g__law_power 
  exact k_law fx F_law N__law_alphabet N__law_drawn N__law_power N__law_word N_how_many_within N_slips N_words_within
end Lk03

open PySem PySem.W PySem.Calls PyProof.Rows
theorem PySem.Challenge.cw_slipmotes_k03_whole_within_holds : PySem.Challenge.rw_slipmotes_k03_whole_within.Holds := by
  w_on; o_law
  refine HandSHeadRun.head_any (r := OpenLaw.row PySem.Challenge.rw_slipmotes_k03_whole_within) (q := view (OpenLaw.row PySem.Challenge.rw_slipmotes_k03_whole_within).prog [28]) (H := Lk03.hk) (ob := Lk03.ob) (M := 3000) (loose := ("SlipError" :: "NoAlphabet" :: "NoWord" :: "NoNumber" :: "Unlike" :: "LETTERS" :: "MOST_WORD" :: "is_number" :: "need_number" :: "is_alphabet" :: "need_alphabet" :: "is_plain" :: "is_word" :: "need_plain" :: "need_word" :: "unlike" :: "slips" :: "near" :: "words_within" :: "how_many" :: "how_many_within" :: "_law_drawn" :: "_law_alphabet" :: "_law_word" :: "_law_power" :: [])) (d := HandSHeadRun.topDef (OpenLaw.row PySem.Challenge.rw_slipmotes_k03_whole_within).prog 28) (kwd := []) Pu.obC_eq
    (by kernel_rfl) (fun s => by kernel_rfl) Lk03.run (by kernel_rfl) (by kernel_rfl) (by kernel_rfl) (by rfl) (by first | assumption | decide +kernel) (by decide +kernel) ⟨rfl, rfl, rfl, rfl, rfl, by decide +kernel⟩ ?hw ?hc
  case hw => w_witness2
  case hc =>
    refine Pu.walk_x (l := PySem.Challenge.rw_slipmotes_k03_whole_within) (n := 63) (k := 6) (x := "script") rfl (by decide) (by kernel_rfl) ⟨rfl, by decide, by decide⟩ ?F
    intro w mg f h Y G hmg0
    obtain ⟨K, KX, c, ck⟩ := Y
    have hmg : mg ("law" : PySem.Str) = some (.ref f) := by
      have e : (HandSHeadRun.topDef (OpenLaw.row PySem.Challenge.rw_slipmotes_k03_whole_within).prog 28).name = ("law" : PySem.Str) := by kernel_rfl
      rw [← e]
      exact hmg0
    obtain ⟨fd, hb, hF⟩ := Lk03.facts (P := (PySem.Challenge.rw_slipmotes_k03_whole_within).prog) (w := w) KX G hmg c ck
    exact ⟨K, fd, Pu.spP K 1 Lk03.m_law, KX, hb, fun H a ns hl hS => Pu.law_end (Lk03.plain ns hl) hS, hF⟩

