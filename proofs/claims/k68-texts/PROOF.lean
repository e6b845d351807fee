import PyProof.Rows.All
import Wide.All
import OpenK.AllK
import Wide.FinOn
import KE.KStateDown
import KE.GoesEnum
import HandS.ForMost
import HandS.ForExc
import HandS.More
import HandS.Evl
import HandS.Walk
import HandS.Wide
import HandS.WordsExc
import HandS.Defaults
import HandS.CallSlots
import HandS.TryMany
import HandS.ExcInit
import HandS.ExcField
import HandS.ExcIs
import HandS.IsInst
import HandS.Style
import HandS.Deep
import HandS.Conv
import HandS.Flow
import HandS.Zip
import HandS.Head0
import HandS.Head1
import HandS.Head2
import HandS.HeadEnd
import HandS.HeadHook1
import HandS.HeadHook2
import HandS.ExcCtx
import HandS.MakeKwOnly
import HandS.Iter
import KE.KRevSl
import HandS.SortInts
import HandS.SortRule
import HandS.Strs
import KE.DataMinMax
import KE.SortData
import HandS.Replace
import HandS.SetFor
import HandS.TupSets
import HandS.TupAny
import HandS.Text
import KE.GoesSet
import KE.GoesMore
import HandS.DictTup
import KE.KDictWalk
import HandS.DictComp
import KE.KEqDict
import OpenK.KOps
import PyProof.FactsLen
import HandS.Comp
import HandS.Small
import HandS.ListEq
import PyProof.EqAt
import PyProof.EqKinds
import PyProof.MeetsIn
import HandS.Codes
import HandS.OwnEq
import PyProof.InstEq
import HandS.RaiseFrom
import HandS.SuiteRaise
import HandS.RaiseMore
import KE.KUnpackStar
import PySem.Challenge.RW_slipmotes_k68_texts
set_option Elab.async false
set_option linter.all false
set_option maxRecDepth 100000
set_option maxHeartbeats 0
namespace Pu
open PySem PySem.Spec PyProof.Rows L2 Evl

/-- the program's own classes of exceptions; the one field that some of them have -/
def cN : Nat → Str
  | 0 => "SlipError"
  | 1 => "NoAlphabet"
  | 2 => "NoWord"
  | 3 => "NoTexts"
  | 4 => "NoNumber"
  | 5 => "NoPieces"
  | 6 => "NoDeeds"
  | 7 => "NoText"
  | 8 => "Unlike"
  | 9 => "Gone"
  | _ => "NoBack"
def fN : Nat → Str
  | 4 => "which"
  | 8 => "lengths"
  | _ => "number"
/-- the exception that a suite holds: where it lies, its class, its dict -/
abbrev Xa := Option (Addr × Value × Option Addr)
inductive D where
  | non | bl (b : Bool) | int (i : Int) | str (l : List Nat)
  | lst (xs : List D) | tup (xs : List D)
  | frl (xs : List D)
  | tpz (xs : List D)
  | exv (c : Nat)
  | exf (c : Nat) (y : D)
  | obj (c : Str) (fs : List (Str × D))
  | dct (kvs : List ((Int ⊕ List Nat) × D))
  | dco (kvs : List ((Int ⊕ List Nat) × D))
  | adr (a : Nat)
/-- a dict's key: an int or a text -/
abbrev DK := Int ⊕ List Nat

/-- a text by its codes -/
abbrev sOf (l : List Nat) : Str := ⟨l.toArray⟩
theorem sOf_toList (z : Str) : sOf z.cps.toList = z := by
  obtain ⟨a⟩ := z
  rfl
theorem sOf_len (l : List Nat) : (sOf l).length = l.length := by
  show l.toArray.size = l.length
  simp
/-- codes that a text may hold -/
def okS (l : List Nat) : Prop := ∀ c ∈ l, c < 1114112
theorem okS.app {a b : List Nat} (h : okS a) (k : okS b) : okS (a ++ b) := fun c hc => (List.mem_append.mp hc).elim (h c) (k c)
theorem okS.sub {a b : List Nat} (h : okS b) (k : ∀ c ∈ a, c ∈ b) : okS a := fun c hc => h c (k c hc)
theorem okS.nil : okS [] := fun _ h => nomatch h
def okB (l : List Nat) : Bool := l.all fun c => decide (c < 1114112)
theorem okB_ok {l : List Nat} (h : okB l = true) : okS l := fun c hc => of_decide_eq_true (List.all_eq_true.mp h c hc)
theorem sOf_inj {a b : List Nat} (h : sOf a = sOf b) : a = b := by
  have e : (sOf a).cps.toList = (sOf b).cps.toList := by rw [h]
  exact e

def kD : DK → Key
  | .inl i => .inl i
  | .inr l => .inr (sOf l)
def okK : DK → Prop
  | .inl _ => True
  | .inr l => okS l
section
variable (K : PySem.W.Frag) (xa : Xa) (H : Hp)
mutual
inductive R : V → D → Prop
  | non : R .non .non
  | bl (b : Bool) : R (.bl b) (.bl b)
  | int (i : Int) : R (.int i) (.int i)
  | str {l : List Nat} : okS l → R (.str (sOf l)) (.str l)
  | lst {a : Addr} {xs : List V} {ds : List D} : H a = some (.lst xs) → RL xs ds → R (.ref a) (.lst ds)
  | tup {a : Addr} {xs : List V} {ds : List D} : H a = some (.tup xs) → RL xs ds → R (.ref a) (.tup ds)
  | frl {a : Addr} {xs : List V} {ds : List D} : SqL K H a xs → RL xs ds → R (.ref a) (.frl ds)
  | tpz {a : Addr} {o : Obj} {xs : List V} {ds : List D} : H a = some (.frz o (.tup xs)) → o.dict = none → o.cls = .type "tuple" → RL xs ds → R (.ref a) (.tpz ds)
  | exv {a : Addr} {c : Nat} : xa = some (a, .ref (He.ga K (cN c)), none) → R (.ref a) (.exv c)
  | exf {a dd : Addr} {c : Nat} {u : V} {y : D} : xa = some (a, .ref (He.ga K (cN c)), some dd) → H dd = some (.xd [(fN c, u)]) → R u y → R (.ref a) (.exf c y)
  | obj {a dx : Addr} {c : Str} {vs : List (Str × V)} {fs : List (Str × D)} : H a = some (.ins (He.ga K c) dx vs) → RF vs fs → R (.ref a) (.obj c fs)
  | dct {a : Addr} {o : Obj} {vs : List (Key × V)} {kvs : List (DK × D)} : H a = some (.frz o (.dK vs)) → RK vs kvs → R (.ref a) (.dct kvs)
  | dco {a : Addr} {vs : List (Key × V)} {kvs : List (DK × D)} : H a = some (.dK vs) → RK vs kvs → R (.ref a) (.dco kvs)
  | adr (a : Addr) : R (.ref a) (.adr a)
inductive RK : List (Key × V) → List (DK × D) → Prop
  | nil : RK [] []
  | cons {k : DK} {v : V} {vs : List (Key × V)} {d : D} {ds : List (DK × D)} : okK k → R v d → RK vs ds → RK ((kD k, v) :: vs) ((k, d) :: ds)
inductive RL : List V → List D → Prop
  | nil : RL [] []
  | cons {v : V} {vs : List V} {d : D} {ds : List D} : R v d → RL vs ds → RL (v :: vs) (d :: ds)
inductive RF : List (Str × V) → List (Str × D) → Prop
  | nil : RF [] []
  | cons {f : Str} {v : V} {vs : List (Str × V)} {d : D} {ds : List (Str × D)} : R v d → RF vs ds → RF ((f, v) :: vs) ((f, d) :: ds)
end
end

section
variable {K : PySem.W.Frag} {xa : Xa} {H H' : Hp}
mutual
theorem R.mono (e : Ex H H') : ∀ {v : V} {d : D}, R K xa H v d → R K xa H' v d
  | _, _, .non => .non
  | _, _, .bl b => .bl b
  | _, _, .int i => .int i
  | _, _, .str h => .str h
  | _, _, .lst h r => .lst (e _ _ h) (RL.mono e r)
  | _, _, .tup h r => .tup (e _ _ h) (RL.mono e r)
  | _, _, .frl h r => .frl (ex_l e h) (RL.mono e r)
  | _, _, .tpz h a b r => .tpz (e _ _ h) a b (RL.mono e r)
  | _, _, .exv h => .exv h
  | _, _, .exf h k r => .exf h (e _ _ k) (R.mono e r)
  | _, _, .obj h r => .obj (e _ _ h) (RF.mono e r)
  | _, _, .dct h r => .dct (e _ _ h) (RK.mono e r)
  | _, _, .dco h r => .dco (e _ _ h) (RK.mono e r)
  | _, _, .adr a => .adr a
theorem RK.mono (e : Ex H H') : ∀ {vs : List (Key × V)} {ds : List (DK × D)}, RK K xa H vs ds → RK K xa H' vs ds
  | _, _, .nil => .nil
  | _, _, .cons o h r => .cons o (R.mono e h) (RK.mono e r)
theorem RL.mono (e : Ex H H') : ∀ {vs : List V} {ds : List D}, RL K xa H vs ds → RL K xa H' vs ds
  | _, _, .nil => .nil
  | _, _, .cons h r => .cons (R.mono e h) (RL.mono e r)
theorem RF.mono (e : Ex H H') : ∀ {vs : List (Str × V)} {ds : List (Str × D)}, RF K xa H vs ds → RF K xa H' vs ds
  | _, _, .nil => .nil
  | _, _, .cons h r => .cons (R.mono e h) (RF.mono e r)
end
theorem RL.length : ∀ {vs : List V} {ds : List D}, RL K xa H vs ds → vs.length = ds.length
  | _, _, .nil => rfl
  | _, _, .cons _ r => by rw [List.length_cons, List.length_cons, RL.length r]
theorem RL.get : ∀ {vs : List V} {ds : List D} {i : Nat} {d : D}, RL K xa H vs ds → ds[i]? = some d → ∃ v, vs[i]? = some v ∧ R K xa H v d
  | _, _, _, _, .nil, h => by simp at h
  | _, _, 0, _, .cons h _, e => by
    simp at e
    subst e
    exact ⟨_, rfl, h⟩
  | _, _, i + 1, d, .cons _ r, e => by
    obtain ⟨v, e1, q⟩ := RL.get (i := i) (d := d) r (by simpa using e)
    exact ⟨v, by simpa using e1, q⟩
theorem RL.app : ∀ {vs ws : List V} {ds es : List D}, RL K xa H vs ds → RL K xa H ws es → RL K xa H (vs ++ ws) (ds ++ es)
  | _, _, _, _, .nil, s => s
  | _, _, _, _, .cons h r, s => .cons h (RL.app r s)
theorem RL.take : ∀ {vs : List V} {ds : List D} (n : Nat), RL K xa H vs ds → RL K xa H (vs.take n) (ds.take n)
  | _, _, 0, _ => .nil
  | _, _, _ + 1, .nil => .nil
  | _, _, n + 1, .cons h r => .cons h (RL.take n r)
theorem RL.drop : ∀ {vs : List V} {ds : List D} (n : Nat), RL K xa H vs ds → RL K xa H (vs.drop n) (ds.drop n)
  | _, _, 0, r => r
  | _, _, _ + 1, .nil => .nil
  | _, _, n + 1, .cons _ r => RL.drop n r
theorem RL.one {vs : List V} {d : D} (h : RL K xa H vs [d]) : ∃ v, vs = [v] ∧ R K xa H v d := by
  cases h with
  | cons a b =>
    cases b
    exact ⟨_, rfl, a⟩
theorem RL.two {vs : List V} {d e : D} (h : RL K xa H vs [d, e]) : ∃ v w, vs = [v, w] ∧ R K xa H v d ∧ R K xa H w e := by
  cases h with
  | cons a b =>
    obtain ⟨w, rfl, q⟩ := b.one
    exact ⟨_, w, rfl, a, q⟩
end

/-- an exception: its class (by its name), its fields -/
structure Xc where
  c : Nat
  a : Option D
inductive Res (α : Type) where
  | ok (a : α) | ex (x : Xc) | st
def Res.bind {α β : Type} : Res α → (α → Res β) → Res β
  | .ok a, k => k a
  | .ex x, _ => .ex x
  | .st, _ => .st
@[simp] theorem Res.bind_ok {α β : Type} (a : α) (k : α → Res β) : (Res.ok a).bind k = k a := rfl
@[simp] theorem Res.bind_ex {α β : Type} (x : Xc) (k : α → Res β) : (Res.ex x).bind k = .ex x := rfl
@[simp] theorem Res.bind_st {α β : Type} (k : α → Res β) : (Res.st).bind k = .st := rfl
/-- what raises is stuck -/
def Res.pur {α : Type} : Res α → Res α
  | .ok a => .ok a
  | _ => .st
@[simp] theorem Res.pur_ok {α : Type} (a : α) : (Res.ok a).pur = .ok a := rfl
@[simp] theorem Res.pur_ex {α : Type} (x : Xc) : (Res.ex x : Res α).pur = .st := rfl
@[simp] theorem Res.pur_st {α : Type} : (Res.st : Res α).pur = .st := rfl
def ofO {α : Type} : Option α → Res α
  | some a => .ok a
  | none => .st
@[simp] theorem ofO_some {α : Type} (a : α) : ofO (some a) = .ok a := rfl
@[simp] theorem ofO_none {α : Type} : ofO (none : Option α) = .st := rfl

structure Gw (Hb H Hb' H' : Hp) : Prop where
  up : Ex H H'
  bup : Ex Hb Hb'
  le : Ex Hb' H'
  old : ∀ a o, H a = some o → Hb' a = Hb a
theorem Gw.refl {Hb H : Hp} (h : Ex Hb H) : Gw Hb H Hb H := ⟨Ex.refl _, Ex.refl _, h, fun _ _ _ => rfl⟩
theorem Gw.trans {Hb H B1 H1 B2 H2 : Hp} (a : Gw Hb H B1 H1) (b : Gw B1 H1 B2 H2) : Gw Hb H B2 H2 :=
  ⟨a.up.trans b.up, a.bup.trans b.bup, b.le, fun c o h => (b.old c o (a.up c o h)).trans (a.old c o h)⟩
theorem Gw.new {Hb H : Hp} {p : Addr} {o : HO} (h : Ex Hb H) (n : H p = none) : Gw Hb H (upd Hb p o) (upd H p o) := by
  have nb : Hb p = none := fresh_back h n
  refine ⟨Ex.new n, Ex.new nb, fun a u e => ?_, fun a u e => ?_⟩
  · by_cases ha : a = p
    · subst ha
      rw [upd_same] at e ⊢
      exact e
    · rw [upd_ne ha] at e ⊢
      exact h _ _ e
  · rw [upd_ne (ne_of_none e n)]

abbrev Env := List (Option D)
structure RE (K : PySem.W.Frag) (xa : Xa) (Hb : Hp) (σ : L2.St) (ρ : Env) : Prop where
  len : ρ.length ≤ σ.length
  at_ : ∀ (i : Nat) (d : D), ρ[i]? = some (some d) → ∃ v, σ[i]? = some (some v) ∧ R K xa Hb v d
theorem RE.mono {K : PySem.W.Frag} {xa : Xa} {Hb Hb' : Hp} {σ : L2.St} {ρ : Env} (e : Ex Hb Hb') (h : RE K xa Hb σ ρ) : RE K xa Hb' σ ρ := ⟨h.len, fun i d q => by
  obtain ⟨v, e1, r⟩ := h.at_ i d q
  exact ⟨v, e1, r.mono e⟩⟩
theorem RE.set {K : PySem.W.Frag} {xa : Xa} {Hb : Hp} {σ : L2.St} {ρ : Env} {v : V} {d : D} (h : RE K xa Hb σ ρ) (r : R K xa Hb v d) (i : Nat) : RE K xa Hb (σ.set i (some v)) (ρ.set i (some d)) := by
  refine ⟨by rw [List.length_set, List.length_set]; exact h.len, fun j e q => ?_⟩
  by_cases hj : i = j
  · subst hj
    have hi : i < ρ.length := by
      by_cases hi : i < ρ.length
      · exact hi
      · rw [List.getElem?_eq_none (by rw [List.length_set]; omega)] at q
        cases q
    rw [List.getElem?_set_self hi] at q
    cases q
    exact ⟨v, List.getElem?_set_self (Nat.lt_of_lt_of_le hi h.len), r⟩
  · rw [List.getElem?_set_ne hj] at q
    obtain ⟨w, e1, r1⟩ := h.at_ j e q
    exact ⟨w, by rw [List.getElem?_set_ne hj]; exact e1, r1⟩
/-- a slot is forgotten -/
theorem RE.lose {K : PySem.W.Frag} {xa : Xa} {Hb : Hp} {σ : L2.St} {ρ : Env} (h : RE K xa Hb σ ρ) (o : Option V) (i : Nat) : RE K xa Hb (σ.set i o) (ρ.set i none) := by
  refine ⟨by rw [List.length_set, List.length_set]; exact h.len, fun j e q => ?_⟩
  by_cases hj : i = j
  · subst hj
    have hi : i < ρ.length := by
      by_cases hi : i < ρ.length
      · exact hi
      · rw [List.getElem?_eq_none (by rw [List.length_set]; omega)] at q
        cases q
    rw [List.getElem?_set_self hi] at q
    cases q
  · rw [List.getElem?_set_ne hj] at q
    obtain ⟨w, e1, r1⟩ := h.at_ j e q
    exact ⟨w, by rw [List.getElem?_set_ne hj]; exact e1, r1⟩

/-- the exception's class and its dict -/
def XR (K : PySem.W.Frag) (Hb : Hp) (cls : Value) (d : Option Addr) (x : Xc) : Prop :=
  cls = .ref (He.ga K (cN x.c)) ∧ ((x.a = none ∧ d = none) ∨ ∃ a u y, d = some a ∧ Hb a = some (.xd [(fN x.c, u)]) ∧ x.a = some y ∧ R K none Hb u y)
theorem XR.mono {K : PySem.W.Frag} {Hb Hb' : Hp} {cls : Value} {d : Option Addr} {x : Xc} (e : Ex Hb Hb') (h : XR K Hb cls d x) : XR K Hb' cls d x := by
  refine ⟨h.1, ?_⟩
  rcases h.2 with h | ⟨a, u, y, e1, e2, n, r⟩
  · exact .inl h
  · exact .inr ⟨a, u, y, e1, e _ _ e2, n, r.mono e⟩
section
variable (K : PySem.W.Frag) (xa : Xa)
/-- α told by β in a heap -/
def post {α β : Type} (Rel : Hp → β → α → Prop) (E : XK) (Hb H : Hp) (Q : β → Hp → Prop) : Res α → Prop
  | .ok d => ∀ v Hb' H', Gw Hb H Hb' H' → Rel Hb' v d → Q v H'
  | .ex x => ∀ c dx Hb' H', Gw Hb H Hb' H' → XR K Hb' c dx x → E c dx H'
  | .st => False
abbrev RelT : Hp → Bool → Bool → Prop := fun _ b c => b = c
def tPx {α β : Type} (Rel : Hp → β → α → Prop) (W : WX) (f : Env → Res α) : L2.St → Hp → (β → Hp → Prop) → Prop := fun σ H Q =>
  ∃ Hb ρ, Ex Hb H ∧ RE K xa Hb σ ρ ∧ post K Rel (WE W σ) Hb H Q (f ρ)
abbrev tP (W : WX) (f : Env → Res D) : TE := tPx K xa (R K xa) W f
abbrev tPT (W : WX) (f : Env → Res Bool) : TT := tPx K xa RelT W f
abbrev tPA (W : WX) (f : Env → Res (List D)) : TA := tPx K xa (RL K xa) W f
end
section
variable {K : PySem.W.Frag} {xa : Xa} {W : WX}
/-- a first part, then a second one -/
theorem post_bind {α β γ δ : Type} {Rel : Hp → β → α → Prop} {Rel2 : Hp → δ → γ → Prop} {E : XK} {Hb H : Hp} {Q : δ → Hp → Prop} {r : Res α} {k : α → Res γ} {Q1 : β → Hp → Prop} (le : Ex Hb H)
    (h : post K Rel2 E Hb H Q (r.bind k))
    (hk : ∀ d v Hb1 H1, r = .ok d → Gw Hb H Hb1 H1 → Rel Hb1 v d → post K Rel2 E Hb1 H1 Q (k d) → Q1 v H1) : post K Rel E Hb H Q1 r := by
  cases r with
  | ok d =>
    intro v Hb1 H1 g r1
    refine hk d v Hb1 H1 rfl g r1 ?_
    have h : post K Rel2 E Hb H Q (k d) := h
    cases e : k d with
    | ok d2 =>
      rw [e] at h
      exact fun v2 Hb2 H2 g2 r2 => h v2 Hb2 H2 (g.trans g2) r2
    | ex x =>
      rw [e] at h
      exact fun c dx Hb2 H2 g2 r2 => h c dx Hb2 H2 (g.trans g2) r2
    | st =>
      rw [e] at h
      exact h
  | ex x => exact h
  | st => exact h
theorem post_here {α β : Type} {Rel : Hp → β → α → Prop} {E : XK} {Hb H : Hp} {Q : β → Hp → Prop} {d : α} {v : β} (le : Ex Hb H) (h : post K Rel E Hb H Q (.ok d)) (r : Rel Hb v d) : Q v H := h v Hb H (Gw.refl le) r
theorem post_new {α : Type} {Rel : Hp → V → α → Prop} {E : XK} {Hb H : Hp} {Q : VK} {d : α} {p : Addr} {o : HO} (le : Ex Hb H) (h : post K Rel E Hb H Q (.ok d)) (n : H p = none) (r : Rel (upd Hb p o) (.ref p) d) : Q (.ref p) (upd H p o) :=
  h _ _ _ (Gw.new le n) r
end

theorem PE.imp {X : Cx} {e : Expr} {t t' : TE} (h : PE X e t) (k : ∀ σ H Q, t' σ H Q → t σ H Q) : PE X e t' := ⟨fun pins s σ H Q I q => h.run pins s σ H Q I (k σ H Q q)⟩
theorem PT.imp {X : Cx} {e : Expr} {t t' : TT} (h : PT X e t) (k : ∀ σ H Q, t' σ H Q → t σ H Q) : PT X e t' := ⟨fun pins s σ H Q I q => h.run pins s σ H Q I (k σ H Q q)⟩
theorem PW.imp {X : Cx} {e : Expr} {t t' : TT} (h : PW X e t) (k : ∀ σ H Q, t' σ H Q → t σ H Q) : PW X e t' := ⟨fun wh pins s σ H Q I q => h.run wh pins s σ H Q I (k σ H Q q)⟩
theorem PA.imp {X : Cx} {e : List Expr} {t t' : TA} (h : PA X e t) (k : ∀ σ H Q, t' σ H Q → t σ H Q) : PA X e t' := ⟨fun pos pins s σ H Q I q => h.run pos pins s σ H Q I (k σ H Q q)⟩
theorem PS.imp {X : Cx} {e : Stmt} {t t' : TS} (h : PS X e t) (k : ∀ D σ H, t' D σ H → t D σ H) : PS X e t' := ⟨fun pins s σ H D I q => h.run pins s σ H D I (k D σ H q)⟩
theorem PSs.imp {X : Cx} {e : List Stmt} {t t' : TS} (h : PSs X e t) (k : ∀ D σ H, t' D σ H → t D σ H) : PSs X e t' := ⟨fun pins s σ H D I q => h.run pins s σ H D I (k D σ H q)⟩
theorem PI.imp {X : Cx} {tg e : Expr} {t t' : TI} (h : PI X tg e t) (k : ∀ σ H Q, t' σ H Q → t σ H Q) : PI X tg e t' := ⟨fun pins s σ H Q I q => h.run pins s σ H Q I (k σ H Q q)⟩

abbrev F := Env → Res D
abbrev T := Env → Res Bool
abbrev Fs := Env → Res (List D)
def vr (i : Nat) : F := fun ρ => match ρ[i]? with
  | some (some d) => .ok d
  | _ => .st
def cst (d : D) : F := fun _ => .ok d
def op1 (g : D → Option D) (f : F) : F := fun ρ => (f ρ).bind fun x => ofO (g x)
def op2 (g : D → D → Option D) (f h : F) : F := fun ρ => (f ρ).bind fun x => (h ρ).bind fun y => ofO (g x y)
def opN (g : List D → Option D) (as : Fs) : F := fun ρ => (as ρ).bind fun xs => ofO (g xs)
def argN : Fs := fun _ => .ok []
def argC (f : F) (r : Fs) : Fs := fun ρ => (f ρ).bind fun x => (r ρ).bind fun xs => .ok (x :: xs)
def calF (m : List D → Res D) (as : Fs) : F := fun ρ => (as ρ).bind m
def lstF (as : Fs) : F := fun ρ => (as ρ).bind fun xs => if xs.length ≤ 1000 then .ok (.lst xs) else .st
def tupF (as : Fs) : F := fun ρ => (as ρ).bind fun xs => if xs.length ≤ 1000 then .ok (.tup xs) else .st
def toB : D → Option Bool
  | .bl b => some b
  | _ => none
def tst (f : F) : T := fun ρ => (f ρ).bind fun x => ofO (toB x)
def anT (a b : T) : T := fun ρ => (a ρ).bind fun x => if x = true then b ρ else .ok false
def orT (a b : T) : T := fun ρ => (a ρ).bind fun x => if x = true then .ok true else b ρ
def noT (a : T) : T := fun ρ => (a ρ).bind fun x => .ok (!x)
def anF (a b : F) : F := fun ρ => (a ρ).bind fun x => (ofO (toB x)).bind fun c => if c = true then b ρ else .ok (.bl false)
def noF (a : F) : F := fun ρ => (a ρ).bind fun x => (ofO (toB x)).bind fun c => .ok (.bl (!c))
def ifF (c : T) (a b : F) : F := fun ρ => (c ρ).bind fun x => if x = true then a ρ else b ρ
/-- a op b op c -/
def chF (g g' : D → D → Option D) (a b c : F) : F := fun ρ => (a ρ).bind fun x => (b ρ).bind fun y => (ofO (g x y)).bind fun z => (ofO (toB z)).bind fun k => if k = true then (c ρ).bind fun u => ofO (g' y u) else .ok (.bl false)

section
variable (X : Cx) (xa : Xa) (W : WX)
abbrev Pe (e : Expr) (f : F) : Prop := PE X e (tP X.K xa W f)
abbrev Pt (e : Expr) (f : T) : Prop := PT X e (tPT X.K xa W f)
abbrev Pw (e : Expr) (f : T) : Prop := PW X e (tPT X.K xa W f)
abbrev Pa (es : List Expr) (f : Fs) : Prop := PA X es (tPA X.K xa W f)
end

section
variable {X : Cx} {xa : Xa} {W : WX} {pos : Pos} {a b c e : Expr} {es : List Expr} {f h k : F} {fs : Fs}
theorem p_var (i : Nat) {x : Str} (hN : X.N[i]? = some x := by rfl) (hv : Vis X.env.scope x := by first | exact Or.inl rfl | exact Or.inr (Or.inl rfl) | exact Or.inr (Or.inr rfl)) (hd : (x == ("__debug__" : Str)) = false := by decide)
    (hcd : (x == ("__classdict__" : Str)) = false := by decide) : Pe X xa W (.Name x pos) (vr i) := by
  refine PE.imp (pe_var hN hv hd hcd) fun σ H Q hq => ?_
  obtain ⟨Hb, ρ, le, re, p⟩ := hq
  unfold vr at p
  cases q : ρ[i]? with
  | none =>
    rw [q] at p
    exact p.elim
  | some o =>
    cases o with
    | none =>
      rw [q] at p
      exact p.elim
    | some d =>
      rw [q] at p
      obtain ⟨v, e1, r⟩ := re.at_ i d q
      exact ⟨v, e1, post_here le p r⟩
/-- what is the same in every state: a constant -/
theorem p_cst {v : V} {d : D} (h : PE X e (tC v)) (r : ∀ H, R X.K xa H v d) : Pe X xa W e (cst d) := by
  refine PE.imp h fun σ H Q hq => ?_
  obtain ⟨Hb, ρ, le, re, p⟩ := hq
  exact post_here le p (r _)
theorem p_int {i : Int} {j : Nat} : Pe X xa W (.Constant (.int i) j pos) (cst (.int i)) := p_cst pe_int fun _ => .int i
theorem p_bl {b : Bool} {j : Nat} : Pe X xa W (.Constant (.bool b) j pos) (cst (.bl b)) := p_cst pe_bl fun _ => .bl b
theorem p_non {j : Nat} : Pe X xa W (.Constant .none j pos) (cst .non) := p_cst pe_non fun _ => .non
theorem p_str {x : Str} {j : Nat} {l : List Nat} (hx : x = sOf l := by rfl) (hl : okB l = true := by decide) : Pe X xa W (.Constant (.str x) j pos) (cst (.str l)) := by
  subst hx
  exact p_cst pe_str fun _ => .str (okB_ok hl)
theorem p_gint {x : Str} {i : Int} (hg : Gl X x) (hm : ∃ t, X.mg x = some (.int i t)) (hd : (x == ("__debug__" : Str)) = false := by decide) : Pe X xa W (.Name x pos) (cst (.int i)) := by
  obtain ⟨t, hm⟩ := hm
  exact p_cst (v := .int i) (pe_glob hg hm ⟨t, rfl⟩ hd) fun _ => .int i
theorem p_gstr {x : Str} {z : Str} {l : List Nat} (hg : Gl X x) (hm : ∃ t, X.mg x = some (.str z t)) (hz : z = sOf l := by rfl) (hl : okB l = true := by decide) (hd : (x == ("__debug__" : Str)) = false := by decide) : Pe X xa W (.Name x pos) (cst (.str l)) := by
  obtain ⟨t, hm⟩ := hm
  subst hz
  exact p_cst (v := .str (sOf l)) (pe_glob hg hm ⟨t, rfl⟩ hd) fun _ => .str (okB_ok hl)

def rD (K : PySem.W.Frag) (xa : Xa) (g : D → D → Option D) : R2 := fun x y H Q => ∃ Hb d e z, Ex Hb H ∧ R K xa Hb x d ∧ R K xa Hb y e ∧ g d e = some z ∧ ∀ v Hb' H', Gw Hb H Hb' H' → R K xa Hb' v z → Q v H'
def rD1 (K : PySem.W.Frag) (xa : Xa) (g : D → Option D) : V → Hp → VK → Prop := fun x H Q => ∃ Hb d z, Ex Hb H ∧ R K xa Hb x d ∧ g d = some z ∧ ∀ v Hb' H', Gw Hb H Hb' H' → R K xa Hb' v z → Q v H'
def rDN (K : PySem.W.Frag) (xa : Xa) (g : List D → Option D) : List V → Hp → VK → Prop := fun xs H Q => ∃ Hb ds z, Ex Hb H ∧ RL K xa Hb xs ds ∧ g ds = some z ∧ ∀ v Hb' H', Gw Hb H Hb' H' → R K xa Hb' v z → Q v H'
abbrev Op2 (X : Cx) (xa : Xa) (f : Value → Value → Sem Value) (g : D → D → Option D) : Prop := OpR X f (rD X.K xa g)
abbrev Op1 (X : Cx) (xa : Xa) (f : Value → Sem Value) (g : D → Option D) : Prop := UnR X f (rD1 X.K xa g)
abbrev OpC (X : Cx) (xa : Xa) (f : Value) (g : List D → Option D) : Prop := CallR X f (rDN X.K xa g)
theorem rD_of {g : D → D → Option D} {x y : V} {d e : D} {Hb B1 B2 H H1 H2 : Hp} {E : XK} {Q : VK} (g1 : Gw Hb H B1 H1) (r1 : R X.K xa B1 x d) (g2 : Gw B1 H1 B2 H2) (r2 : R X.K xa B2 y e) (p : post X.K (R X.K xa) E B2 H2 Q (ofO (g d e))) : rD X.K xa g x y H2 Q := by
  cases q : g d e with
  | none =>
    rw [q] at p
    exact p.elim
  | some z =>
    rw [q] at p
    exact ⟨B2, d, e, z, g2.le, r1.mono g2.bup, r2, q, p⟩
theorem t_op2 {g : D → D → Option D} {σ : L2.St} {H : Hp} {Q : VK} (hq : tP X.K xa W (op2 g f h) σ H Q) : tOp (rD X.K xa g) (tP X.K xa W f) (tP X.K xa W h) σ H Q := by
  obtain ⟨Hb, ρ, le, re, p⟩ := hq
  refine ⟨Hb, ρ, le, re, post_bind le p fun d v B1 H1 e1 g1 r1 p1 => ?_⟩
  refine ⟨B1, ρ, g1.le, re.mono g1.bup, post_bind g1.le p1 fun d2 v2 B2 H2 e2 g2 r2 p2 => ?_⟩
  exact rD_of g1 r1 g2 r2 p2
theorem p_op {op : Operator} {g : D → D → Option D} (ho : Op2 X xa (binaryOp op) g) (ha : Pe X xa W a f) (hb : Pe X xa W b h) : Pe X xa W (.BinOp a op b pos) (op2 g f h) := PE.imp (pe_op ho ha hb) fun _ _ _ hq => t_op2 hq
theorem p_cmp {op : CmpOp} {g : D → D → Option D} (ho : Op2 X xa (compareOp op) g) (ha : Pe X xa W a f) (hb : Pe X xa W b h) (hm : behindInMarks op b = false := by first | exact nomark _ | rfl) : Pe X xa W (.Compare a [op] [b] pos) (op2 g f h) := PE.imp (pe_cmpR ho ha hb hm) fun _ _ _ hq => t_op2 hq
theorem p_ix {g : D → D → Option D} (ho : IxR X (rD X.K xa g)) (ha : Pe X xa W a f) (hb : Pe X xa W b h) (hs : PlainIx b := by exact fun _ _ => rfl) : Pe X xa W (.Subscript a b pos) (op2 g f h) := PE.imp (pe_ix ho ha hb hs) fun _ _ _ hq => t_op2 hq
theorem p_un {op : UnaryOp} {g : D → Option D} (ho : Op1 X xa (unaryOp op) g) (ha : Pe X xa W a f) : Pe X xa W (.UnaryOp op a pos) (op1 g f) := by
  refine PE.imp (pe_un ho ha) fun σ H Q hq => ?_
  obtain ⟨Hb, ρ, le, re, p⟩ := hq
  refine ⟨Hb, ρ, le, re, post_bind le p fun d v B1 H1 e1 g1 r1 p1 => ?_⟩
  cases q : g d with
  | none =>
    rw [q] at p1
    exact p1.elim
  | some z =>
    rw [q] at p1
    exact ⟨B1, d, z, g1.le, r1, q, p1⟩

theorem p_nil : Pa X xa W [] argN := by
  refine PA.imp pa_nil fun σ H Q hq => ?_
  obtain ⟨Hb, ρ, le, re, p⟩ := hq
  exact post_here le p .nil
theorem p_cons (ha : Pe X xa W e f) (hr : Pa X xa W es fs) (hs : starEach (e :: es) X.env = (false, eval e X.env) :: starEach es X.env := by rfl) : Pa X xa W (e :: es) (argC f fs) := by
  refine PA.imp (pa_cons ha hr hs) fun σ H Q hq => ?_
  obtain ⟨Hb, ρ, le, re, p⟩ := hq
  refine ⟨Hb, ρ, le, re, post_bind le p fun d v B1 H1 e1 g1 r1 p1 => ?_⟩
  refine ⟨B1, ρ, g1.le, re.mono g1.bup, post_bind g1.le p1 fun ds vs B2 H2 e2 g2 r2 p2 => ?_⟩
  exact p2 _ B2 H2 (Gw.refl g2.le) (.cons (r1.mono g2.bup) r2)
theorem le1000 {n : Nat} (h : n ≤ 1000) : n ≤ sizeLine := Nat.le_trans h (by decide)
theorem p_lst (h : Pa X xa W es fs) : Pe X xa W (.List es pos) (lstF fs) := by
  refine PE.imp (pe_lst h) fun σ H Q hq => ?_
  obtain ⟨Hb, ρ, le, re, p⟩ := hq
  refine ⟨Hb, ρ, le, re, post_bind le p fun ds vs B1 H1 e1 g1 r1 p1 => ?_⟩
  by_cases hl : ds.length ≤ 1000
  · rw [if_pos hl] at p1
    refine ⟨by rw [r1.length]; exact le1000 hl, fun q hn => post_new g1.le p1 hn ?_⟩
    exact .lst upd_same (r1.mono (Ex.new (fresh_back g1.le hn)))
  · rw [if_neg hl] at p1
    exact p1.elim
theorem p_tup {x1 : Nat} (h : Pa X xa W es fs) : Pe X xa W (.Tuple es x1 pos) (tupF fs) := by
  refine PE.imp (pe_tup h) fun σ H Q hq => ?_
  obtain ⟨Hb, ρ, le, re, p⟩ := hq
  refine ⟨Hb, ρ, le, re, post_bind le p fun ds vs B1 H1 e1 g1 r1 p1 => ?_⟩
  by_cases hl : ds.length ≤ 1000
  · rw [if_pos hl] at p1
    refine ⟨by rw [r1.length]; exact le1000 hl, fun q hn => post_new g1.le p1 hn ?_⟩
    exact .tup upd_same (r1.mono (Ex.new (fresh_back g1.le hn)))
  · rw [if_neg hl] at p1
    exact p1.elim
theorem t_opN {g : List D → Option D} {σ : L2.St} {H : Hp} {Q : VK} (hq : tP X.K xa W (opN g fs) σ H Q) : tCB (rDN X.K xa g) (tPA X.K xa W fs) σ H Q := by
  obtain ⟨Hb, ρ, le, re, p⟩ := hq
  refine ⟨Hb, ρ, le, re, post_bind le p fun ds vs B1 H1 e1 g1 r1 p1 => ?_⟩
  cases q : g ds with
  | none =>
    rw [q] at p1
    exact p1.elim
  | some z =>
    rw [q] at p1
    exact ⟨B1, ds, z, g1.le, r1, q, p1⟩
theorem p_callB {x : Str} {id : String} {g : List D → Option D} {p : Pos} (hc : OpC X xa (.builtin id) g) (hg : Gl X x) (hm : X.mg x = none) (hv : bootBuiltins x = some (.builtin id)) (ha : Pa X xa W (e :: es) fs) (hn : x ≠ "__name__" := by decide) (hdb : (x == ("__debug__" : Str)) = false := by decide)
    (he : starEach (e :: es) X.env = (false, eval e X.env) :: starEach es X.env := by rfl) (hpl : (backTo pos (starEach es X.env)).any (·.1) = false := by rfl) : Pe X xa W (.Call (.Name x p) (e :: es) [] pos) (opN g fs) :=
  PE.imp (pe_callB hc hg hm hv ha hn hdb he hpl) fun _ _ _ hq => t_opN hq
theorem p_callTy {x : Str} {id : String} {g : List D → Option D} {p : Pos} (hc : OpC X xa (.type id) g) (hg : Gl X x) (hm : X.mg x = none) (hv : bootBuiltins x = some (.type id)) (ha : Pa X xa W (e :: es) fs) (hn : x ≠ "__name__" := by decide) (hdb : (x == ("__debug__" : Str)) = false := by decide)
    (he : starEach (e :: es) X.env = (false, eval e X.env) :: starEach es X.env := by rfl) (hpl : (backTo pos (starEach es X.env)).any (·.1) = false := by rfl) : Pe X xa W (.Call (.Name x p) (e :: es) [] pos) (opN g fs) :=
  PE.imp (pe_callTy hc hg hm hv ha hn hdb he hpl) fun _ _ _ hq => t_opN hq
end
end Pu

namespace Pu
open PySem PySem.Spec PyProof.Rows L2 Evl
theorem szl : sizeLine = 16777216 := sizeLine_eq

mutual
def py : D → PyData
  | .non => .none
  | .bl b => .bool b
  | .int i => .int i
  | .str l => .str (sOf l)
  | .lst xs => .list (pyL xs)
  | .tup xs => .tuple (pyL xs)
  | .frl xs => .list (pyL xs)
  | .tpz xs => .tuple (pyL xs)
  | .exv _ => .none
  | .exf _ _ => .none
  | .obj _ _ => .none
  | .dct _ => .none
  | .dco _ => .none
  | .adr _ => .none
def pyL : List D → List PyData
  | [] => []
  | x :: xs => py x :: pyL xs
end
mutual
def dep : D → Nat
  | .lst xs => depL xs + 1
  | .tup xs => depL xs + 1
  | .frl xs => depL xs + 1
  | .tpz xs => depL xs + 1
  | .exv _ => 1000
  | .exf _ _ => 1000
  | .obj _ _ => 1000
  | .dct _ => 1000
  | .dco _ => 1000
  | .adr _ => 1000
  | .non => 0
  | .bl _ => 0
  | .int _ => 0
  | .str _ => 0
def depL : List D → Nat
  | [] => 0
  | x :: xs => max (dep x) (depL xs)
end
section
variable {K : PySem.W.Frag} {xa : Xa} {H : Hp}
mutual
theorem R.dp : ∀ {v : V} {d : D}, R K xa H v d → dep d ≤ 60 → Dp K H v (py d) ∧ (py d).canLay0 = true ∧ (py d).depth ≤ dep d
  | _, _, .non, _ => ⟨.non, rfl, Nat.le_refl _⟩
  | _, _, .bl b, _ => ⟨.bl b, rfl, Nat.le_refl _⟩
  | _, _, .int i, _ => ⟨.int i, rfl, Nat.le_refl _⟩
  | _, _, .str h, _ => ⟨.str _, by
      show PyData.strOk _ = true
      unfold PyData.strOk
      rw [Array.all_eq_true']
      intro c hc
      exact decide_eq_true (h c (by simpa using hc)), Nat.le_refl _⟩
  | _, _, .lst h r, q => by
    have q : depL _ + 1 ≤ 60 := q
    obtain ⟨a, b, c⟩ := RL.dp r (by omega)
    exact ⟨.lst (SqL.of h) a, b, Nat.succ_le_succ c⟩
  | _, _, .tup h r, q => by
    have q : depL _ + 1 ≤ 60 := q
    obtain ⟨a, b, c⟩ := RL.dp r (by omega)
    exact ⟨.tup (SqT.of h) a, b, Nat.succ_le_succ c⟩
  | _, _, .frl h r, q => by
    have q : depL _ + 1 ≤ 60 := q
    obtain ⟨a, b, c⟩ := RL.dp r (by omega)
    exact ⟨.lst h a, b, Nat.succ_le_succ c⟩
  | _, _, .tpz h _ _ r, q => by
    have q : depL _ + 1 ≤ 60 := q
    obtain ⟨a, b, c⟩ := RL.dp r (by omega)
    exact ⟨.tup (.inl (.inr ⟨_, h⟩)) a, b, Nat.succ_le_succ c⟩
  | _, _, .exv _, q => absurd q (by show ¬ 1000 ≤ 60; omega)
  | _, _, .exf _ _ _, q => absurd q (by show ¬ 1000 ≤ 60; omega)
  | _, _, .obj _ _, q => absurd q (by show ¬ 1000 ≤ 60; omega)
  | _, _, .dct _ _, q => absurd q (by show ¬ 1000 ≤ 60; omega)
  | _, _, .dco _ _, q => absurd q (by show ¬ 1000 ≤ 60; omega)
  | _, _, .adr _, q => absurd q (by show ¬ 1000 ≤ 60; omega)
theorem RL.dp : ∀ {vs : List V} {ds : List D}, RL K xa H vs ds → depL ds ≤ 60 → DpAll K H vs (pyL ds) ∧ PyData.canLayAll0 (pyL ds) = true ∧ PyData.depthAll (pyL ds) ≤ depL ds
  | _, _, .nil, _ => ⟨.nil, rfl, Nat.le_refl _⟩
  | _, _, .cons h r, q => by
    have q : max (dep _) (depL _) ≤ 60 := q
    obtain ⟨a, b, c⟩ := R.dp h (by omega)
    obtain ⟨a', b', c'⟩ := RL.dp r (by omega)
    refine ⟨.cons a a', ?_, ?_⟩
    · show (PyData.canLay0 _ && PyData.canLayAll0 _) = true
      rw [b, b'] <;> rfl
    · show max (PyData.depth _) (PyData.depthAll _) ≤ max (dep _) (depL _)
      omega
end
theorem R.shp {v : V} {d : D} (r : R K xa H v d) (h : dep d ≤ 60) : Dp K H v (py d) ∧ SeqAt.shaped (py d) = true := by
  obtain ⟨a, b, c⟩ := r.dp h
  refine ⟨a, ?_⟩
  unfold SeqAt.shaped
  rw [b, decide_eq_true (show (py d).depth ≤ 64 by omega)] <;> rfl
end
def eqd (d e : D) : Bool := PyData.eqv (py d) (py e)
def eqdL (d e : List D) : Bool := PyData.eqvAll (pyL d) (pyL e)
def dEq (d e : D) : Option D := if dep d ≤ 60 ∧ dep e ≤ 60 then some (.bl (eqd d e)) else none
def dNe (d e : D) : Option D := if dep d ≤ 60 ∧ dep e ≤ 60 then some (.bl (!eqd d e)) else none
section
variable {X : Cx} {xa : Xa} {W : WX}
theorem o_eq (hu : X.A.units + 64 < cLine) : Op2 X xa (compareOp .Eq) dEq := by
  intro pins s σ H x y v u Q I rx ry h
  obtain ⟨Hb, d, e, z, le, r1, r2, hz, q⟩ := h
  unfold dEq at hz
  by_cases c : dep d ≤ 60 ∧ dep e ≤ 60
  · rw [if_pos c] at hz
    cases hz
    obtain ⟨a1, b1⟩ := (r1.mono le).shp c.1
    obtain ⟨a2, b2⟩ := (r2.mono le).shp c.2
    exact op_eqD hu pins s σ H x y v u Q I rx ry ⟨_, _, a1, a2, b1, b2, q _ Hb H (Gw.refl le) (.bl _)⟩
  · rw [if_neg c] at hz
    cases hz
theorem o_ne (hu : X.A.units + 64 < cLine) : Op2 X xa (compareOp .NotEq) dNe := by
  intro pins s σ H x y v u Q I rx ry h
  obtain ⟨Hb, d, e, z, le, r1, r2, hz, q⟩ := h
  unfold dNe at hz
  by_cases c : dep d ≤ 60 ∧ dep e ≤ 60
  · rw [if_pos c] at hz
    cases hz
    obtain ⟨a1, b1⟩ := (r1.mono le).shp c.1
    obtain ⟨a2, b2⟩ := (r2.mono le).shp c.2
    exact op_neD hu pins s σ H x y v u Q I rx ry ⟨_, _, a1, a2, b1, b2, q _ Hb H (Gw.refl le) (.bl _)⟩
  · rw [if_neg c] at hz
    cases hz

theorem sOf_app (a b : List Nat) : sOf a ++ sOf b = sOf (a ++ b) := by
  show (⟨a.toArray ++ b.toArray⟩ : Str) = ⟨(a ++ b).toArray⟩
  rw [List.append_toArray]
def dAdd : D → D → Option D
  | .int i, .int j => some (.int (i + j))
  | .str a, .str b => if a.length + b.length ≤ 16777216 then some (.str (a ++ b)) else none
  | .lst a, .lst b => if a.length + b.length ≤ 16777216 then some (.lst (a ++ b)) else none
  | .tup a, .tup b => if 0 < a.length ∧ a.length + b.length ≤ 16777216 then some (.tup (a ++ b)) else none
  | _, _ => none
theorem o_add : Op2 X xa (binaryOp .Add) dAdd := by
  intro pins s σ H x y v u Q I rx ry h
  obtain ⟨Hb, d, e, z, le, r1, r2, hz, q⟩ := h
  cases r1 with
  | int i =>
    cases r2 with
    | int j =>
      cases hz
      exact op_add pins s σ H _ _ v u Q I rx ry ⟨i, j, rfl, rfl, q _ Hb H (Gw.refl le) (.int _)⟩
    | _ => cases hz
  | @str a h1 =>
    cases r2 with
    | @str b h2 =>
      have hz : (if a.length + b.length ≤ 16777216 then some (D.str (a ++ b)) else none) = some z := hz
      by_cases c : a.length + b.length ≤ 16777216
      · rw [if_pos c] at hz
        cases hz
        refine op_add_str pins s σ H _ _ v u Q I rx ry ⟨_, _, rfl, rfl, by rw [sOf_len, sOf_len, szl]; exact c, ?_⟩
        rw [sOf_app]
        exact q _ Hb H (Gw.refl le) (.str (h1.app h2))
      · rw [if_neg c] at hz
        cases hz
    | _ => cases hz
  | @lst a xs as h1 q1 =>
    cases r2 with
    | @lst b ys bs h2 q2 =>
      have hz : (if as.length + bs.length ≤ 16777216 then some (D.lst (as ++ bs)) else none) = some z := hz
      by_cases c : as.length + bs.length ≤ 16777216
      · rw [if_pos c] at hz
        cases hz
        refine op_cat pins s σ H _ _ v u Q I rx ry ⟨_, _, xs, ys, rfl, rfl, le _ _ h1, le _ _ h2, by rw [q1.length, q2.length, szl]; exact c, fun p hp => ?_⟩
        exact q _ _ _ (Gw.new le hp) (.lst upd_same ((q1.app q2).mono (Ex.new (fresh_back le hp))))
      · rw [if_neg c] at hz
        cases hz
    | _ => cases hz
  | @tup a xs as h1 q1 =>
    cases r2 with
    | @tup b ys bs h2 q2 =>
      have hz : (if 0 < as.length ∧ as.length + bs.length ≤ 16777216 then some (D.tup (as ++ bs)) else none) = some z := hz
      by_cases c : 0 < as.length ∧ as.length + bs.length ≤ 16777216
      · rw [if_pos c] at hz
        cases hz
        have l1 := q1.length
        have l2 := q2.length
        refine op_catT pins s σ H _ _ v u Q I rx ry ⟨_, _, xs, ys, rfl, rfl, ex_t le (SqT.of h1), ex_t le (SqT.of h2), ?_, by rw [szl]; omega, fun e => ?_, fun e p hp => ?_⟩
        · intro e0
          subst e0
          simp at l1
          omega
        · subst e
          have : bs = [] := by
            cases bs with
            | nil => rfl
            | cons _ _ => simp at l2
          subst this
          rw [List.append_nil] at q
          exact q _ Hb H (Gw.refl le) (.tup h1 q1)
        · exact q _ _ _ (Gw.new le hp) (.tup upd_same ((q1.app q2).mono (Ex.new (fresh_back le hp))))
      · rw [if_neg c] at hz
        cases hz
    | _ => cases hz
  | _ => cases hz
def dSub : D → D → Option D
  | .int i, .int j => some (.int (i - j))
  | _, _ => none
theorem o_sub : Op2 X xa (binaryOp .Sub) dSub := by
  intro pins s σ H x y v u Q I rx ry h
  obtain ⟨Hb, d, e, z, le, r1, r2, hz, q⟩ := h
  cases r1 with
  | int i =>
    cases r2 with
    | int j =>
      cases hz
      exact op_sub pins s σ H _ _ v u Q I rx ry ⟨i, j, rfl, rfl, q _ Hb H (Gw.refl le) (.int _)⟩
    | _ => cases hz
  | _ => cases hz
def dFdiv : D → D → Option D
  | .int i, .int j => if 0 < j ∧ j < 2 ^ 4000 then some (.int (i / j)) else none
  | _, _ => none
theorem o_fdiv : Op2 X xa (binaryOp .FloorDiv) dFdiv := by
  intro pins s σ H x y v u Q I rx ry h
  obtain ⟨Hb, d, e, z, le, r1, r2, hz, q⟩ := h
  cases r1 with
  | int i =>
    cases r2 with
    | int j =>
      have hz : (if 0 < j ∧ j < 2 ^ 4000 then some (D.int (i / j)) else none) = some z := hz
      by_cases c : 0 < j ∧ j < 2 ^ 4000
      · rw [if_pos c] at hz
        cases hz
        refine op_fdivW pins s σ H _ _ v u Q I rx ry ⟨i, j, rfl, rfl, wide_div (b := 4000) c.1 ?_ (by decide) (by decide), q _ Hb H (Gw.refl le) (.int _)⟩
        have h1 := c.1
        have h2 := c.2
        have e1 : (j.natAbs : Int) = j := by omega
        have e2 : (j.natAbs : Int) < ((2 ^ 4000 : Nat) : Int) := by
          rw [e1, Int.natCast_pow]
          exact h2
        exact Int.ofNat_lt.mp e2
      · rw [if_neg c] at hz
        cases hz
    | _ => cases hz
  | _ => cases hz
def dMod : D → D → Option D
  | .int i, .int j => if 0 < j then some (.int (i % j)) else none
  | _, _ => none
theorem o_mod : Op2 X xa (binaryOp .Mod) dMod := by
  intro pins s σ H x y v u Q I rx ry h
  obtain ⟨Hb, d, e, z, le, r1, r2, hz, q⟩ := h
  cases r1 with
  | int i =>
    cases r2 with
    | int j =>
      have hz : (if 0 < j then some (D.int (i % j)) else none) = some z := hz
      by_cases c : 0 < j
      · rw [if_pos c] at hz
        cases hz
        exact op_mod pins s σ H _ _ v u Q I rx ry ⟨i, j, rfl, rfl, c, q _ Hb H (Gw.refl le) (.int _)⟩
      · rw [if_neg c] at hz
        cases hz
    | _ => cases hz
  | _ => cases hz
def dPow : D → D → Option D
  | .int i, .int j => if 0 ≤ j ∧ j ≤ 1000 ∧ i.natAbs < 2 ^ 64 then some (.int (i ^ j.toNat)) else none
  | _, _ => none
theorem o_pow : Op2 X xa (binaryOp .Pow) dPow := by
  intro pins s σ H x y v u Q I rx ry h
  obtain ⟨Hb, d, e, z, le, r1, r2, hz, q⟩ := h
  cases r1 with
  | int i =>
    cases r2 with
    | int j =>
      have hz : (if 0 ≤ j ∧ j ≤ 1000 ∧ i.natAbs < 2 ^ 64 then some (D.int (i ^ j.toNat)) else none) = some z := hz
      by_cases c : 0 ≤ j ∧ j ≤ 1000 ∧ i.natAbs < 2 ^ 64
      · rw [if_pos c] at hz
        cases hz
        exact op_pow pins s σ H _ _ v u Q I rx ry ⟨i, j, rfl, rfl, ⟨c.1, by omega, c.2.2⟩, q _ Hb H (Gw.refl le) (.int _)⟩
      · rw [if_neg c] at hz
        cases hz
    | _ => cases hz
  | _ => cases hz
end
end Pu

namespace Pu
open PySem PySem.Spec PyProof.Rows L2 Evl
/-- a size that products and powers keep below -/
def big : Nat := 2 ^ 4000
section
variable {K : PySem.W.Frag} {xa : Xa} {H : Hp}
theorem RL.at {vs : List V} {ds : List D} {i : Int} {d : D} (r : RL K xa H vs ds) (h : atI ds i = some d) : ∃ v, atI vs i = some v ∧ R K xa H v d := by
  unfold atI at h ⊢
  rw [r.length]
  cases e : ixN ds.length i with
  | none =>
    rw [e] at h
    cases h
  | some j =>
    rw [e] at h
    exact r.get h
theorem RL.rep {vs : List V} {ds : List D} (r : RL K xa H vs ds) : ∀ n : Nat, RL K xa H (List.replicate n vs).flatten (List.replicate n ds).flatten
  | 0 => .nil
  | n + 1 => by
    rw [List.replicate_succ, List.replicate_succ, List.flatten_cons, List.flatten_cons]
    exact r.app (RL.rep r n)
end
section
variable {X : Cx} {xa : Xa} {W : WX} {pos : Pos} {a b c e : Expr} {es : List Expr} {f h k : F} {fs : Fs}

def dMul : D → D → Option D
  | .int i, .int j => if i.natAbs < big ∧ j.natAbs < big then some (.int (i * j)) else none
  | .str a, .int j => if 0 ≤ j ∧ a.length * j.toNat ≤ 1000 ∧ j ≤ 1000 then some (.str (List.replicate j.toNat a).flatten) else none
  | .lst a, .int j => if 0 ≤ j ∧ a.length * j.toNat ≤ 1000 ∧ j ≤ 1000 then some (.lst (List.replicate j.toNat a).flatten) else none
  | _, _ => none
theorem foldl_app : ∀ (l : List (List Nat)) (a : List Nat), (l.map List.toArray).foldl (· ++ ·) a.toArray = (a ++ l.flatten).toArray
  | [], a => by simp
  | x :: l, a => by
    rw [List.map_cons, List.foldl_cons, List.append_toArray, foldl_app l (a ++ x), List.flatten_cons, List.append_assoc]
theorem mul_text {a : List Nat} {j : Int} (h0 : 0 ≤ j) : Txt.mul (sOf a) j = sOf (List.replicate j.toNat a).flatten := by
  unfold Txt.mul
  by_cases h1 : j < 1
  · have e : j = 0 := by omega
    subst e
    rfl
  · rw [if_neg h1]
    by_cases h2 : (j == 1 || (sOf a).length == 0) = true
    · rw [if_pos h2]
      rcases Bool.or_eq_true_iff.mp h2 with h3 | h3
      · have e : j = 1 := eq_of_beq h3
        subst e
        show sOf a = sOf (a ++ [])
        rw [List.append_nil]
      · have e : a.length = 0 := by
          have := eq_of_beq h3
          rw [sOf_len] at this
          exact this
        have e2 : a = [] := List.length_eq_zero_iff.mp e
        subst e2
        have : (List.replicate j.toNat ([] : List Nat)).flatten = [] := by simp
        rw [this]
    · rw [if_neg h2]
      have e := foldl_app (List.replicate j.toNat a) []
      rw [List.map_replicate] at e
      show (⟨(List.replicate j.toNat a.toArray).foldl (· ++ ·) #[]⟩ : Str) = _
      rw [show (#[] : Array Nat) = ([] : List Nat).toArray from rfl, e, List.nil_append]
theorem o_mul : Op2 X xa (binaryOp .Mult) dMul := by
  intro pins s σ H x y v u Q I rx ry h
  obtain ⟨Hb, d, e, z, le, r1, r2, hz, q⟩ := h
  cases r1 with
  | int i =>
    cases r2 with
    | int j =>
      have hz : (if i.natAbs < big ∧ j.natAbs < big then some (D.int (i * j)) else none) = some z := hz
      by_cases c : i.natAbs < big ∧ j.natAbs < big
      · rw [if_pos c] at hz
        cases hz
        exact op_mulW pins s σ H _ _ v u Q I rx ry ⟨i, j, rfl, rfl, wide_mul (a := 4000) (b := 4000) c.1 c.2 (by decide) (by decide) (by decide), q _ Hb H (Gw.refl le) (.int _)⟩
      · rw [if_neg c] at hz
        cases hz
    | _ => cases hz
  | @str a h1 =>
    cases r2 with
    | int j =>
      have hz : (if 0 ≤ j ∧ a.length * j.toNat ≤ 1000 ∧ j ≤ 1000 then some (D.str (List.replicate j.toNat a).flatten) else none) = some z := hz
      by_cases c : 0 ≤ j ∧ a.length * j.toNat ≤ 1000 ∧ j ≤ 1000
      · rw [if_pos c] at hz
        cases hz
        obtain ⟨t, rfl⟩ := (show ∃ t, v = Value.str (sOf a) t from rx)
        obtain ⟨t', rfl⟩ := (show ∃ t, u = Value.int j t from ry)
        obtain ⟨c1, c2, c3⟩ := c
        refine SB.mul ⟨?_, fun n1 n2 => ?_, fun n1 n2 => ?_⟩ fun t' k => ⟨.str (Txt.mul (sOf a) j), H, I.tok _, ⟨_, rfl⟩, ?_⟩
        · rw [decide_eq_false (show ¬ j < -(2 ^ 63 : Int) by omega), decide_eq_false (show ¬ j ≥ 2 ^ 63 by omega)] <;> rfl
        · rw [sOf_len]
          have h3 : a.length ≤ 1000 := by
            have h4 : 1 ≤ j.toNat := by omega
            have h5 : a.length * 1 ≤ a.length * j.toNat := Nat.mul_le_mul_left _ h4
            omega
          have h4 : (2 ^ 63 - 1 : Int) / 1000 ≤ (2 ^ 63 - 1) / j := by
            refine Int.le_ediv_of_mul_le (by omega) ?_
            have : (2 ^ 63 - 1 : Int) / 1000 * j ≤ (2 ^ 63 - 1 : Int) / 1000 * 1000 := Int.mul_le_mul_of_nonneg_left c3 (by decide)
            exact Int.le_trans this (by decide)
          have h5 : ((1000 : Nat) : Int) ≤ (2 ^ 63 - 1 : Int) / 1000 := by decide
          omega
        · rw [sOf_len]
          show decide (_ > sizeLine) = false
          rw [szl]
          exact decide_eq_false (by omega)
        · rw [mul_text c1]
          refine q _ Hb H (Gw.refl le) (.str (h1.sub fun x hx => ?_))
          obtain ⟨l, hl, hxl⟩ := List.mem_flatten.mp hx
          rw [(List.mem_replicate.mp hl).2] at hxl
          exact hxl
      · rw [if_neg c] at hz
        cases hz
    | _ => cases hz
  | @lst a xs as h1 q1 =>
    cases r2 with
    | int j =>
      have hz : (if 0 ≤ j ∧ as.length * j.toNat ≤ 1000 ∧ j ≤ 1000 then some (D.lst (List.replicate j.toNat as).flatten) else none) = some z := hz
      by_cases c : 0 ≤ j ∧ as.length * j.toNat ≤ 1000 ∧ j ≤ 1000
      · rw [if_pos c] at hz
        cases hz
        refine op_rep pins s σ H _ _ v u Q I rx ry ⟨_, j, xs, rfl, rfl, le _ _ h1, by omega, by omega, by rw [q1.length, szl]; omega, fun p hp => ?_⟩
        exact q _ _ _ (Gw.new le hp) (.lst upd_same ((q1.rep _).mono (Ex.new (fresh_back le hp))))
      · rw [if_neg c] at hz
        cases hz
    | _ => cases hz
  | _ => cases hz

def dLt : D → D → Option D
  | .int i, .int j => some (.bl (decide (i < j)))
  | .str a, .str b => some (.bl (decide (a < b)))
  | _, _ => none
def dLe : D → D → Option D
  | .int i, .int j => some (.bl (decide (i ≤ j)))
  | _, _ => none
def dGt : D → D → Option D
  | .int i, .int j => some (.bl (decide (j < i)))
  | _, _ => none
def dGe : D → D → Option D
  | .int i, .int j => some (.bl (decide (j ≤ i)))
  | _, _ => none
theorem o_lt : Op2 X xa (compareOp .Lt) dLt := by
  intro pins s σ H x y v u Q I rx ry h
  obtain ⟨Hb, d, e, z, le, r1, r2, hz, q⟩ := h
  cases r1 with
  | int i =>
    cases r2 with
    | int j =>
      cases hz
      exact op_lt pins s σ H _ _ v u Q I rx ry ⟨i, j, rfl, rfl, q _ Hb H (Gw.refl le) (.bl _)⟩
    | _ => cases hz
  | @str a h1 =>
    cases r2 with
    | @str b h2 =>
      cases hz
      exact op_lt_str pins s σ H _ _ v u Q I rx ry ⟨_, _, rfl, rfl, q _ Hb H (Gw.refl le) (.bl _)⟩
    | _ => cases hz
  | _ => cases hz
theorem o_le : Op2 X xa (compareOp .LtE) dLe := by
  intro pins s σ H x y v u Q I rx ry h
  obtain ⟨Hb, d, e, z, le, r1, r2, hz, q⟩ := h
  cases r1 with
  | int i =>
    cases r2 with
    | int j =>
      cases hz
      exact op_le pins s σ H _ _ v u Q I rx ry ⟨i, j, rfl, rfl, q _ Hb H (Gw.refl le) (.bl _)⟩
    | _ => cases hz
  | _ => cases hz
theorem o_gt : Op2 X xa (compareOp .Gt) dGt := by
  intro pins s σ H x y v u Q I rx ry h
  obtain ⟨Hb, d, e, z, le, r1, r2, hz, q⟩ := h
  cases r1 with
  | int i =>
    cases r2 with
    | int j =>
      cases hz
      exact op_gt pins s σ H _ _ v u Q I rx ry ⟨i, j, rfl, rfl, q _ Hb H (Gw.refl le) (.bl _)⟩
    | _ => cases hz
  | _ => cases hz
theorem o_ge : Op2 X xa (compareOp .GtE) dGe := by
  intro pins s σ H x y v u Q I rx ry h
  obtain ⟨Hb, d, e, z, le, r1, r2, hz, q⟩ := h
  cases r1 with
  | int i =>
    cases r2 with
    | int j =>
      cases hz
      exact op_ge pins s σ H _ _ v u Q I rx ry ⟨i, j, rfl, rfl, q _ Hb H (Gw.refl le) (.bl _)⟩
    | _ => cases hz
  | _ => cases hz
def dNeg : D → Option D
  | .int i => some (.int (-i))
  | _ => none
theorem o_neg : Op1 X xa (unaryOp .USub) dNeg := by
  intro pins s σ H x v Q I rx h
  obtain ⟨Hb, d, z, le, r1, hz, q⟩ := h
  cases r1 with
  | int i =>
    cases hz
    exact un_neg pins s σ H _ v Q I rx ⟨i, rfl, q _ Hb H (Gw.refl le) (.int _)⟩
  | _ => cases hz

def mem1 (d : D) (ds : List D) : Bool := ds.any fun z => eqd z d
/-- in a text: a single sign alone -/
def dIn : D → D → Option D
  | .str [c], .str z => some (.bl (decide (c ∈ z)))
  | d, .lst ds => if dep d ≤ 50 ∧ depL ds ≤ 50 then some (.bl (mem1 d ds)) else none
  | d, .tup ds => if dep d = 0 ∧ depL ds = 0 then some (.bl (mem1 d ds)) else none
  | _, _ => none
def dNotIn : D → D → Option D
  | .str [c], .str z => some (.bl (!decide (c ∈ z)))
  | d, .lst ds => if dep d ≤ 50 ∧ depL ds ≤ 50 then some (.bl (!mem1 d ds)) else none
  | d, .tup ds => if dep d = 0 ∧ depL ds = 0 then some (.bl (!mem1 d ds)) else none
  | _, _ => none

theorem any_py (g : PyData → Bool) : ∀ ds : List D, (pyL ds).any g = ds.any fun z => g (py z)
  | [] => rfl
  | x :: xs => by
    show (g (py x) || (pyL xs).any g) = (g (py x) || xs.any fun z => g (py z))
    rw [any_py g xs]
theorem R.flat {K : PySem.W.Frag} {H : Hp} {v : V} {d : D} (r : R K xa H v d) (h : dep d = 0) : flatV v = true := by
  cases r with
  | lst _ _ => exact absurd h (Nat.succ_ne_zero _)
  | tup _ _ => exact absurd h (Nat.succ_ne_zero _)
  | frl _ _ => exact absurd h (Nat.succ_ne_zero _)
  | tpz _ _ _ _ => exact absurd h (Nat.succ_ne_zero _)
  | exv _ => exact absurd h (by intro z; cases z)
  | exf _ _ _ => exact absurd h (by intro z; cases z)
  | obj _ _ => exact absurd h (by show ¬ 1000 = 0; omega)
  | dct _ _ => exact absurd h (by show ¬ 1000 = 0; omega)
  | dco _ _ => exact absurd h (by show ¬ 1000 = 0; omega)
  | adr _ => exact absurd h (by show ¬ 1000 = 0; omega)
  | _ => rfl
theorem R.eqV {K : PySem.W.Frag} {H : Hp} {v w : V} {d e : D} (r : R K xa H v d) (q : R K xa H w e) (h : dep d = 0) (h' : dep e = 0) : L2.eqV v w = eqd d e := by
  cases r with
  | lst _ _ => exact absurd h (Nat.succ_ne_zero _)
  | tup _ _ => exact absurd h (Nat.succ_ne_zero _)
  | frl _ _ => exact absurd h (Nat.succ_ne_zero _)
  | tpz _ _ _ _ => exact absurd h (Nat.succ_ne_zero _)
  | exv _ => exact absurd h (by intro z; cases z)
  | exf _ _ _ => exact absurd h (by intro z; cases z)
  | obj _ _ => exact absurd h (by show ¬ 1000 = 0; omega)
  | dct _ _ => exact absurd h (by show ¬ 1000 = 0; omega)
  | dco _ _ => exact absurd h (by show ¬ 1000 = 0; omega)
  | adr _ => exact absurd h (by show ¬ 1000 = 0; omega)
  | _ =>
    cases q with
    | lst _ _ => exact absurd h' (Nat.succ_ne_zero _)
    | tup _ _ => exact absurd h' (Nat.succ_ne_zero _)
    | frl _ _ => exact absurd h' (Nat.succ_ne_zero _)
    | tpz _ _ _ _ => exact absurd h' (Nat.succ_ne_zero _)
    | exv _ => exact absurd h' (by intro z; cases z)
    | exf _ _ _ => exact absurd h' (by intro z; cases z)
    | obj _ _ => exact absurd h' (by show ¬ 1000 = 0; omega)
    | dct _ _ => exact absurd h' (by show ¬ 1000 = 0; omega)
    | dco _ _ => exact absurd h' (by show ¬ 1000 = 0; omega)
    | adr _ => exact absurd h' (by show ¬ 1000 = 0; omega)
    | _ => rfl
theorem RL.flat {K : PySem.W.Frag} {H : Hp} {w : V} {e : D} (q : R K xa H w e) (h' : dep e = 0) : ∀ {vs : List V} {ds : List D}, RL K xa H vs ds → depL ds = 0 → vs.all flatV = true ∧ inV w vs = mem1 e ds
  | _, _, .nil, _ => ⟨rfl, rfl⟩
  | _, _, .cons (v := v) (vs := vs) (d := d) (ds := ds) r t, h => by
    have h : max (dep d) (depL ds) = 0 := h
    obtain ⟨a, b⟩ := RL.flat q h' t (by omega)
    refine ⟨?_, ?_⟩
    · rw [List.all_cons, a, r.flat (by omega)] <;> rfl
    · show (L2.eqV v w || inV w vs) = (eqd d e || mem1 e ds)
      rw [b, r.eqV q (by omega) h']
theorem o_in (hu : X.A.units + 65 < cLine) : Op2 X xa (compareOp .In) dIn := by
  intro pins s σ H x y v u Q I rx ry h
  obtain ⟨Hb, d, e, z, le, r1, r2, hz, q⟩ := h
  have lists : ∀ {a : Addr} {xs : List V} {ds : List D}, e = .lst ds → R X.K xa Hb y (.lst ds) → dIn d (.lst ds) = some z → wpAny (model X.prog X.w) X.A (compareOp .In v u) (EP X pins σ Q) X.xe s := by
    intro a xs ds _ r3 hz
    have hz : (if dep d ≤ 50 ∧ depL ds ≤ 50 then some (D.bl (mem1 d ds)) else none) = some z := by
      cases d with
      | str l => cases l with
        | nil => exact hz
        | cons c l => cases l <;> exact hz
      | _ => exact hz
    by_cases c : dep d ≤ 50 ∧ depL ds ≤ 50
    · rw [if_pos c] at hz
      cases hz
      obtain ⟨a1, b1⟩ := (r1.mono le).shp (by omega)
      obtain ⟨a2, b2⟩ := (r3.mono le).shp (show depL ds + 1 ≤ 60 by omega)
      refine op_inD hu pins s σ H x y v u Q I rx ry ⟨_, _, a1, a2, b1, b2, ?_⟩
      rw [any_py]
      exact q _ Hb H (Gw.refl le) (.bl _)
    · rw [if_neg c] at hz
      cases hz
  have tups : ∀ {a : Addr} {xs : List V} {ds : List D}, y = .ref a → SqT X.K Hb a xs → RL X.K xa Hb xs ds → dIn d (.tup ds) = some z → wpAny (model X.prog X.w) X.A (compareOp .In v u) (EP X pins σ Q) X.xe s := by
    intro a xs ds ey sq rl hz
    have hz : (if dep d = 0 ∧ depL ds = 0 then some (D.bl (mem1 d ds)) else none) = some z := by
      cases d with
      | str l => cases l with
        | nil => exact hz
        | cons c l => cases l <;> exact hz
      | _ => exact hz
    by_cases c : dep d = 0 ∧ depL ds = 0
    · rw [if_pos c] at hz
      cases hz
      obtain ⟨fl, ei⟩ := RL.flat r1 c.1 rl c.2
      refine op_in_seq pins s σ H x y v u Q I rx ry ⟨a, xs, ey, .inr (ex_t le sq), r1.flat c.1, fl, ?_⟩
      show Q (.bl (inV x xs)) H
      rw [ei]
      exact q _ Hb H (Gw.refl le) (.bl _)
    · rw [if_neg c] at hz
      cases hz
  cases r2 with
  | lst h2 q2 => exact lists (a := 0) (xs := []) rfl (.lst h2 q2) hz
  | tup h2 q2 => exact tups rfl (SqT.of h2) q2 hz
  | @str l h2 =>
    cases r1 with
    | @str l1 h1 =>
      match l1, h1, hz, rx with
      | [], _, hz, _ => cases hz
      | [c], h1, hz, rx =>
        cases hz
        exact op_in_sign pins s σ H _ _ v u Q I rx ry ⟨c, _, rfl, rfl, q _ Hb H (Gw.refl le) (.bl _)⟩
      | _ :: _ :: _, _, hz, _ => cases hz
    | _ => cases hz
  | _ =>
    cases d with
    | str l => cases l with
      | nil => cases hz
      | cons c l => cases l <;> cases hz
    | _ => cases hz
theorem o_notIn (hu : X.A.units + 65 < cLine) : Op2 X xa (compareOp .NotIn) dNotIn := by
  intro pins s σ H x y v u Q I rx ry h
  obtain ⟨Hb, d, e, z, le, r1, r2, hz, q⟩ := h
  have lists : ∀ {a : Addr} {xs : List V} {ds : List D}, e = .lst ds → R X.K xa Hb y (.lst ds) → dNotIn d (.lst ds) = some z → wpAny (model X.prog X.w) X.A (compareOp .NotIn v u) (EP X pins σ Q) X.xe s := by
    intro a xs ds _ r3 hz
    have hz : (if dep d ≤ 50 ∧ depL ds ≤ 50 then some (D.bl (!mem1 d ds)) else none) = some z := by
      cases d with
      | str l => cases l with
        | nil => exact hz
        | cons c l => cases l <;> exact hz
      | _ => exact hz
    by_cases c : dep d ≤ 50 ∧ depL ds ≤ 50
    · rw [if_pos c] at hz
      cases hz
      obtain ⟨a1, b1⟩ := (r1.mono le).shp (by omega)
      obtain ⟨a2, b2⟩ := (r3.mono le).shp (show depL ds + 1 ≤ 60 by omega)
      refine op_notInD hu pins s σ H x y v u Q I rx ry ⟨_, _, a1, a2, b1, b2, ?_⟩
      rw [any_py]
      exact q _ Hb H (Gw.refl le) (.bl _)
    · rw [if_neg c] at hz
      cases hz
  have tups : ∀ {a : Addr} {xs : List V} {ds : List D}, y = .ref a → SqT X.K Hb a xs → RL X.K xa Hb xs ds → dNotIn d (.tup ds) = some z → wpAny (model X.prog X.w) X.A (compareOp .NotIn v u) (EP X pins σ Q) X.xe s := by
    intro a xs ds ey sq rl hz
    have hz : (if dep d = 0 ∧ depL ds = 0 then some (D.bl (!mem1 d ds)) else none) = some z := by
      cases d with
      | str l => cases l with
        | nil => exact hz
        | cons c l => cases l <;> exact hz
      | _ => exact hz
    by_cases c : dep d = 0 ∧ depL ds = 0
    · rw [if_pos c] at hz
      cases hz
      obtain ⟨fl, ei⟩ := RL.flat r1 c.1 rl c.2
      refine op_notIn_seq pins s σ H x y v u Q I rx ry ⟨a, xs, ey, .inr (ex_t le sq), r1.flat c.1, fl, ?_⟩
      show Q (.bl (!inV x xs)) H
      rw [ei]
      exact q _ Hb H (Gw.refl le) (.bl _)
    · rw [if_neg c] at hz
      cases hz
  cases r2 with
  | lst h2 q2 => exact lists (a := 0) (xs := []) rfl (.lst h2 q2) hz
  | tup h2 q2 => exact tups rfl (SqT.of h2) q2 hz
  | @str l h2 =>
    cases r1 with
    | @str l1 h1 =>
      match l1, h1, hz, rx with
      | [], _, hz, _ => cases hz
      | [c], h1, hz, rx =>
        cases hz
        exact op_notIn_sign pins s σ H _ _ v u Q I rx ry ⟨c, _, rfl, rfl, q _ Hb H (Gw.refl le) (.bl _)⟩
      | _ :: _ :: _, _, hz, _ => cases hz
    | _ => cases hz
  | _ =>
    cases d with
    | str l => cases l with
      | nil => cases hz
      | cons c l => cases l <;> cases hz
    | _ => cases hz
def isN : D → Bool
  | .non => true
  | _ => false
theorem R.isN {K : PySem.W.Frag} {H : Hp} {v : V} {d : D} (r : R K xa H v d) : decide (v = .non) = Pu.isN d := by
  cases r <;> first | rfl | exact decide_eq_false (fun z => nomatch z)
def dIsNot : D → D → Option D
  | .bl a, .bl b => some (.bl (!decide (a = b)))
  | d, .non => some (.bl (!isN d))
  | _, _ => none
theorem o_isNot : Op2 X xa (compareOp .IsNot) dIsNot := by
  intro pins s σ H x y v u Q I rx ry h
  obtain ⟨Hb, d, e, z, le, r1, r2, hz, q⟩ := h
  cases r2 with
  | non =>
    have hz : some (D.bl (!Pu.isN d)) = some z := by
      cases d <;> exact hz
    cases hz
    refine op_notN pins s σ H _ _ v u Q I rx ry ⟨rfl, ?_⟩
    rw [r1.isN]
    exact q _ Hb H (Gw.refl le) (.bl _)
  | bl b =>
    cases r1 with
    | bl a =>
      cases hz
      exact op_notBl pins s σ H _ _ v u Q I rx ry ⟨a, b, rfl, rfl, q _ Hb H (Gw.refl le) (.bl _)⟩
    | _ => cases hz
  | _ => cases d <;> cases hz

def dIx : D → D → Option D
  | .lst ds, .int i => atI ds i
  | .tup ds, .int i => atI ds i
  | .frl ds, .int i => atI ds i
  | .str l, .int i => if l.length ≤ 16777216 then (atI l i).map fun c => .str [c] else none
  | _, _ => none
theorem atI_mem {α : Type} {l : List α} {i : Int} {c : α} (h : atI l i = some c) : c ∈ l := by
  obtain ⟨j, _, e, _⟩ := atI_get h
  exact List.mem_of_getElem? e
theorem o_ix : IxR X (rD X.K xa dIx) := by
  intro value slice pins s σ H x y v u Q I rx ry h hsub
  obtain ⟨Hb, d, e, z, le, r1, r2, hz, q⟩ := h
  cases r2 with
  | int i =>
    cases r1 with
    | lst h1 q1 =>
      obtain ⟨w, e1, r⟩ := q1.at (show atI _ i = some z from hz)
      exact ix_list value slice pins s σ H _ _ v u Q I rx ry ⟨_, _, i, w, rfl, rfl, ex_l le (SqL.of h1), e1, q _ Hb H (Gw.refl le) r⟩ hsub
    | frl h1 q1 =>
      obtain ⟨w, e1, r⟩ := q1.at (show atI _ i = some z from hz)
      exact ix_list value slice pins s σ H _ _ v u Q I rx ry ⟨_, _, i, w, rfl, rfl, ex_l le h1, e1, q _ Hb H (Gw.refl le) r⟩ hsub
    | tup h1 q1 =>
      obtain ⟨w, e1, r⟩ := q1.at (show atI _ i = some z from hz)
      exact ix_tup value slice pins s σ H _ _ v u Q I rx ry ⟨_, _, i, w, rfl, rfl, ex_t le (SqT.of h1), e1, q _ Hb H (Gw.refl le) r⟩ hsub
    | @str l h1 =>
      have hz : (if l.length ≤ 16777216 then (atI l i).map fun c => D.str [c] else none) = some z := hz
      by_cases c : l.length ≤ 16777216
      · rw [if_pos c] at hz
        obtain ⟨ch, e1, e2⟩ := Option.map_eq_some_iff.mp hz
        subst e2
        refine ix_str value slice pins s σ H _ _ v u Q I rx ry ⟨_, i, ch, rfl, rfl, by rw [sOf_len, szl]; exact c, e1, ?_⟩ hsub
        refine q (.str (sOf [ch])) Hb H (Gw.refl le) (.str fun c' hc => ?_)
        rw [List.mem_singleton.mp hc]
        exact h1 _ (atI_mem e1)
      · rw [if_neg c] at hz
        cases hz
    | _ => cases hz
  | _ => cases d <;> cases hz
/-- the items from lo to hi -/
def cut {α : Type} (xs : List α) (lo hi : Option Int) : List α := (xs.drop (HT.sIx xs.length 0 lo)).take (HT.sIx xs.length xs.length hi - HT.sIx xs.length 0 lo)
theorem cut_mem {α : Type} {xs : List α} {lo hi : Option Int} {c : α} (h : c ∈ cut xs lo hi) : c ∈ xs := List.mem_of_mem_drop (List.mem_of_mem_take h)
def dSl : D → Option Int → Option Int → Option D
  | .lst ds, lo, hi => some (.lst (cut ds lo hi))
  | .str l, lo, hi => if l.length ≤ 16777216 then some (.str (cut l lo hi)) else none
  | _, _, _ => none
def rDS (K : PySem.W.Frag) (xa : Xa) (g : D → Option Int → Option Int → Option D) : V → Option Int → Option Int → Hp → VK → Prop := fun x lo hi H Q => ∃ Hb d z, Ex Hb H ∧ R K xa Hb x d ∧ g d lo hi = some z ∧ ∀ v Hb' H', Gw Hb H Hb' H' → R K xa Hb' v z → Q v H'
theorem RL.cut {K : PySem.W.Frag} {H : Hp} {vs : List V} {ds : List D} (r : RL K xa H vs ds) (lo hi : Option Int) : RL K xa H (cutV vs lo hi) (Pu.cut ds lo hi) := by
  unfold cutV Pu.cut
  rw [r.length]
  exact (r.drop _).take _
theorem o_sl : SlR X (rDS X.K xa dSl) := by
  intro pins s σ H x v vl vu lo hi sl Q I rx hs pl pu h
  obtain ⟨Hb, d, z, le, r1, hz, q⟩ := h
  cases r1 with
  | lst h1 q1 =>
    cases hz
    exact sl_list pins s σ H _ v vl vu lo hi sl Q I rx hs pl pu ⟨_, _, rfl, ex_l le (SqL.of h1), fun p hp => q _ _ _ (Gw.new le hp) (.lst upd_same ((q1.cut lo hi).mono (Ex.new (fresh_back le hp))))⟩
  | @str l h1 =>
    have hz : (if l.length ≤ 16777216 then some (D.str (Pu.cut l lo hi)) else none) = some z := hz
    by_cases c : l.length ≤ 16777216
    · rw [if_pos c] at hz
      cases hz
      refine sl_str pins s σ H _ v vl vu lo hi sl Q I rx hs pl pu ⟨_, rfl, by rw [sOf_len, szl]; exact c, ?_⟩
      have e : cutS (sOf l) lo hi = sOf (Pu.cut l lo hi) := by
        unfold cutS Pu.cut
        rw [sOf_len]
      rw [e]
      exact q _ Hb H (Gw.refl le) (.str (h1.sub fun _ hc => cut_mem hc))
    · rw [if_neg c] at hz
      cases hz
  | _ => cases hz
/-- a part of a slice -/
abbrev Po (X : Cx) (xa : Xa) (W : WX) (e : Option Expr) (f : Env → Res (Option Int)) : Prop := PO X e (tPx X.K xa (fun _ b c => b = c) W f)
def noP : Env → Res (Option Int) := fun _ => .ok none
def toI : D → Option Int
  | .int i => some i
  | _ => none
def soP (f : F) : Env → Res (Option Int) := fun ρ => (f ρ).bind fun x => (ofO (toI x)).bind fun i => .ok (some i)
theorem PO.imp {e : Option Expr} {t t' : TO} (h : PO X e t) (k : ∀ σ H Q, t' σ H Q → t σ H Q) : PO X e t' := ⟨fun pins s σ H Q I q => h.run pins s σ H Q I (k σ H Q q)⟩
theorem p_noP : Po X xa W none noP := PO.imp po_none fun σ H Q hq => by
  obtain ⟨Hb, ρ, le, re, p⟩ := hq
  exact post_here le p rfl
theorem p_soP (ha : Pe X xa W e f) : Po X xa W (some e) (soP f) := PO.imp (po_some ha) fun σ H Q hq => by
  obtain ⟨Hb, ρ, le, re, p⟩ := hq
  refine ⟨Hb, ρ, le, re, post_bind le p fun d v B1 H1 e1 g1 r1 p1 => ?_⟩
  cases r1 with
  | int i => exact ⟨i, rfl, post_here g1.le p1 rfl⟩
  | _ => exact (show False from p1).elim
def slF (a : F) (lo hi : Env → Res (Option Int)) : F := fun ρ => (a ρ).bind fun x => (lo ρ).bind fun l => (hi ρ).bind fun u => ofO (dSl x l u)
theorem p_sl {lo hi : Option Expr} {fl fh : Env → Res (Option Int)} {p2 : Pos} (ha : Pe X xa W e f) (hl : Po X xa W lo fl) (hh : Po X xa W hi fh) : Pe X xa W (.Subscript e (.Slice lo hi none p2) pos) (slF f fl fh) := by
  refine PE.imp (pe_slice (o_sl (xa := xa)) ha hl hh) fun σ H Q hq => ?_
  obtain ⟨Hb, ρ, le, re, p⟩ := hq
  refine ⟨Hb, ρ, le, re, post_bind le p fun d v B1 H1 e1 g1 r1 p1 => ?_⟩
  refine ⟨B1, ρ, g1.le, re.mono g1.bup, post_bind g1.le p1 fun l1 l2 B2 H2 e2 g2 r2 p2 => ?_⟩
  refine ⟨B2, ρ, g2.le, re.mono (g1.bup.trans g2.bup), post_bind g2.le p2 fun u1 u2 B3 H3 e3 g3 r3 p3 => ?_⟩
  subst r2 r3
  cases q : dSl d l2 u2 with
  | none =>
    rw [q] at p3
    exact p3.elim
  | some z =>
    rw [q] at p3
    exact ⟨B3, d, z, g3.le, r1.mono (g2.bup.trans g3.bup), q, p3⟩
end
end Pu

namespace Pu
open PySem PySem.Spec PyProof.Rows L2 Evl
section
variable {X : Cx} {xa : Xa} {W : WX} {pos : Pos} {a b c e : Expr} {es rest : List Expr} {f h k : F} {fs : Fs} {t u : T}

theorem post_toB {E : XK} {Hb H : Hp} {Q : Bool → Hp → Prop} {v : V} {d : D} {B : Hp} (le : Ex Hb H) (r : R X.K xa B v d) (p : post X.K RelT E Hb H Q (ofO (toB d))) : ∃ k, v = .bl k ∧ Q k H := by
  cases r with
  | bl b => exact ⟨b, rfl, post_here le p rfl⟩
  | _ => exact (show False from p).elim
theorem t_tst {σ : L2.St} {H : Hp} {Q : Bool → Hp → Prop} (hq : tPT X.K xa W (tst f) σ H Q) : tTest (tP X.K xa W f) σ H Q := by
  obtain ⟨Hb, ρ, le, re, p⟩ := hq
  exact ⟨Hb, ρ, le, re, post_bind le p fun d v B1 H1 e1 g1 r1 p1 => post_toB g1.le r1 p1⟩
/-- a value that is True or False, as a test -/
theorem p_val (ha : Pe X xa W e f) (he : ∀ whole, isTrue e X.env whole = (do let v ← whole; standAt e.pos; holding [v] (truthy v)) := by intro _; rfl) : Pt X xa W e (tst f) :=
  PT.imp (pt_val ha he) fun _ _ _ hq => t_tst hq
theorem p_tcmp {op : CmpOp} {g : D → D → Option D} (ho : Op2 X xa (compareOp op) g) (ha : Pe X xa W a f) (hb : Pe X xa W b h) (hm : behindInMarks op b = false := by first | exact nomark _ | rfl) : Pt X xa W (.Compare a [op] [b] pos) (tst (op2 g f h)) := by
  refine PT.imp (pt_cmpR ho ha hb hm) fun σ H Q hq => ?_
  obtain ⟨Hb, ρ, le, re, p⟩ := hq
  refine t_op2 (Q := fun x H' => ∃ k, x = V.bl k ∧ Q k H') ⟨Hb, ρ, le, re, ?_⟩
  exact post_bind le p fun d v B1 H1 e1 g1 r1 p1 => post_toB g1.le r1 p1
theorem t_ch {g g' : D → D → Option D} {σ : L2.St} {H : Hp} {Q : VK} (hq : tP X.K xa W (chF g g' f h k) σ H Q) : tChain (rD X.K xa g) (rD X.K xa g') (tP X.K xa W f) (tP X.K xa W h) (tP X.K xa W k) σ H Q := by
  obtain ⟨Hb, ρ, le, re, p⟩ := hq
  refine ⟨Hb, ρ, le, re, post_bind le p fun d v B1 H1 e1 g1 r1 p1 => ?_⟩
  refine ⟨B1, ρ, g1.le, re.mono g1.bup, post_bind g1.le p1 fun d2 v2 B2 H2 e2 g2 r2 p2 => ?_⟩
  cases q : g d d2 with
  | none =>
    rw [q] at p2
    exact (show False from p2).elim
  | some z =>
    rw [q] at p2
    refine ⟨B2, d, d2, z, g2.le, r1.mono g2.bup, r2, q, fun v3 B3 H3 g3 r3 => ?_⟩
    have p3 := post_bind (Rel := fun _ (_ : Unit) (_ : D) => True) (r := Res.ok z) (Q1 := fun _ H1 => True) g2.le p2 fun _ _ _ _ _ _ _ _ => trivial
    cases r3 with
    | bl kb =>
      refine ⟨kb, rfl, ?_⟩
      have p2 : post X.K (R X.K xa) (WE W σ) B2 H2 Q (if kb = true then (k ρ).bind fun u => ofO (g' d2 u) else .ok (.bl false)) := p2
      cases kb with
      | false => exact p2 (.bl false) B3 H3 g3 (.bl false)
      | true =>
        have p2 : post X.K (R X.K xa) (WE W σ) B2 H2 Q ((k ρ).bind fun u => ofO (g' d2 u)) := p2
        refine ⟨B3, ρ, g3.le, re.mono ((g1.bup.trans g2.bup).trans g3.bup), ?_⟩
        have p4 : post X.K (R X.K xa) (WE W σ) B3 H3 Q ((k ρ).bind fun u => ofO (g' d2 u)) := by
          cases e : ((k ρ).bind fun u => ofO (g' d2 u)) with
          | ok d5 =>
            rw [e] at p2
            exact fun v5 B5 H5 g5 r5 => p2 v5 B5 H5 (g3.trans g5) r5
          | ex x5 =>
            rw [e] at p2
            exact fun c5 dx5 B5 H5 g5 r5 => p2 c5 dx5 B5 H5 (g3.trans g5) r5
          | st =>
            rw [e] at p2
            exact p2
        exact post_bind g3.le p4 fun d4 v4 B4 H4 e4 g4 r4 p5 => rD_of (g1 := g3) (r2.mono g3.bup) g4 r4 p5
    | _ => exact (show False from p2).elim
theorem p_ch {op op' : CmpOp} {g g' : D → D → Option D} (ho : Op2 X xa (compareOp op) g) (ho' : Op2 X xa (compareOp op') g') (ha : Pe X xa W a f) (hb : Pe X xa W b h) (hc : Pe X xa W c k)
    (hm : lastMarks [op, op'] [b, c] = false := by with_unfolding_all rfl) : Pe X xa W (.Compare a [op, op'] [b, c] pos) (chF g g' f h k) := PE.imp (pe_chain ho ho' ha hb hc hm) fun _ _ _ hq => t_ch hq
theorem p_tch {op op' : CmpOp} {g g' : D → D → Option D} (ho : Op2 X xa (compareOp op) g) (ho' : Op2 X xa (compareOp op') g') (ha : Pe X xa W a f) (hb : Pe X xa W b h) (hc : Pe X xa W c k)
    (hm : lastMarks [op, op'] [b, c] = false := by with_unfolding_all rfl) : Pt X xa W (.Compare a [op, op'] [b, c] pos) (tst (chF g g' f h k)) := by
  refine PT.imp (pt_chain ho ho' ha hb hc hm) fun σ H Q hq => ?_
  obtain ⟨Hb, ρ, le, re, p⟩ := hq
  refine t_ch (Q := fun x H' => ∃ k, x = V.bl k ∧ Q k H') ⟨Hb, ρ, le, re, ?_⟩
  exact post_bind le p fun d v B1 H1 e1 g1 r1 p1 => post_toB g1.le r1 p1
theorem p_an1 (ha : Pt X xa W a t) : Pw X xa W (.BoolOp .And [a] pos) t := pw_and1 ha
theorem p_or1 (ha : Pt X xa W a t) : Pw X xa W (.BoolOp .Or [a] pos) t := pw_or1 ha
theorem p_an (ha : Pt X xa W a t) (hb : Pw X xa W (.BoolOp .And (b :: rest) pos) u) : Pw X xa W (.BoolOp .And (a :: b :: rest) pos) (anT t u) := by
  refine PW.imp (pw_and ha hb) fun σ H Q hq => ?_
  obtain ⟨Hb, ρ, le, re, p⟩ := hq
  refine ⟨Hb, ρ, le, re, post_bind le p fun d v B1 H1 e1 g1 r1 p1 => ?_⟩
  subst r1
  cases v with
  | true => exact ⟨B1, ρ, g1.le, re.mono g1.bup, p1⟩
  | false => exact post_here g1.le p1 rfl
theorem p_or (ha : Pt X xa W a t) (hb : Pw X xa W (.BoolOp .Or (b :: rest) pos) u) : Pw X xa W (.BoolOp .Or (a :: b :: rest) pos) (orT t u) := by
  refine PW.imp (pw_or ha hb) fun σ H Q hq => ?_
  obtain ⟨Hb, ρ, le, re, p⟩ := hq
  refine ⟨Hb, ρ, le, re, post_bind le p fun d v B1 H1 e1 g1 r1 p1 => ?_⟩
  subst r1
  cases v with
  | true => exact post_here g1.le p1 rfl
  | false => exact ⟨B1, ρ, g1.le, re.mono g1.bup, p1⟩
theorem p_not (ha : Pt X xa W a t) : Pt X xa W (.UnaryOp .Not a pos) (noT t) := by
  refine PT.imp (pt_not ha) fun σ H Q hq => ?_
  obtain ⟨Hb, ρ, le, re, p⟩ := hq
  refine ⟨Hb, ρ, le, re, post_bind le p fun d v B1 H1 e1 g1 r1 p1 => ?_⟩
  subst r1
  exact post_here g1.le p1 rfl
theorem p_if (hc : Pt X xa W c t) (ha : Pe X xa W a f) (hb : Pe X xa W b h) : Pe X xa W (.IfExp c a b pos) (ifF t f h) := by
  refine PE.imp (pe_ifExp hc ha hb) fun σ H Q hq => ?_
  obtain ⟨Hb, ρ, le, re, p⟩ := hq
  refine ⟨Hb, ρ, le, re, post_bind le p fun d v B1 H1 e1 g1 r1 p1 => ?_⟩
  subst r1
  cases v with
  | true => exact ⟨B1, ρ, g1.le, re.mono g1.bup, p1⟩
  | false => exact ⟨B1, ρ, g1.le, re.mono g1.bup, p1⟩
/-- and, or, not as values -/
theorem p_anV (ha : Pe X xa W a f) (hb : PE X (.BoolOp .And (b :: rest) pos) (tP X.K xa W h)) : Pe X xa W (.BoolOp .And (a :: b :: rest) pos) (anF f h) := by
  refine PE.imp (pe_and ha hb) fun σ H Q hq => ?_
  obtain ⟨Hb, ρ, le, re, p⟩ := hq
  refine ⟨Hb, ρ, le, re, post_bind le p fun d v B1 H1 e1 g1 r1 p1 => ?_⟩
  cases r1 with
  | bl kb =>
    refine ⟨kb, rfl, ?_⟩
    cases kb with
    | true => exact ⟨B1, ρ, g1.le, re.mono g1.bup, p1⟩
    | false => exact post_here (d := D.bl false) g1.le p1 (.bl false)
  | _ => exact (show False from p1).elim
theorem p_oneA (ha : Pe X xa W a f) : Pe X xa W (.BoolOp .And [a] pos) f := pe_one ha
theorem p_notV (ha : Pe X xa W a f) : Pe X xa W (.UnaryOp .Not a pos) (noF f) := by
  refine PE.imp (pe_not ha) fun σ H Q hq => ?_
  obtain ⟨Hb, ρ, le, re, p⟩ := hq
  refine ⟨Hb, ρ, le, re, post_bind le p fun d v B1 H1 e1 g1 r1 p1 => ?_⟩
  cases r1 with
  | bl kb => exact ⟨kb, rfl, post_here (d := D.bl (!kb)) g1.le p1 (.bl _)⟩
  | _ => exact (show False from p1).elim
end
end Pu

namespace Pu
open PySem PySem.Spec PyProof.Rows L2 Evl
def intsOf : List D → Option (List Int)
  | [] => some []
  | .int i :: r => (intsOf r).map (i :: ·)
  | _ => none
def blsOf : List D → Option (List Bool)
  | [] => some []
  | .bl i :: r => (blsOf r).map (i :: ·)
  | _ => none
def strsOf : List D → Option (List (List Nat))
  | [] => some []
  | .str i :: r => (strsOf r).map (i :: ·)
  | _ => none
@[simp] theorem intsOf_map : ∀ ns : List Int, intsOf (ns.map D.int) = some ns
  | [] => rfl
  | n :: ns => by
    show (intsOf (ns.map D.int)).map (n :: ·) = _
    rw [intsOf_map ns] <;> rfl
@[simp] theorem blsOf_map : ∀ ns : List Bool, blsOf (ns.map D.bl) = some ns
  | [] => rfl
  | n :: ns => by
    show (blsOf (ns.map D.bl)).map (n :: ·) = _
    rw [blsOf_map ns] <;> rfl
@[simp] theorem strsOf_map : ∀ ns : List (List Nat), strsOf (ns.map D.str) = some ns
  | [] => rfl
  | n :: ns => by
    show (strsOf (ns.map D.str)).map (n :: ·) = _
    rw [strsOf_map ns] <;> rfl
section
variable {K : PySem.W.Frag} {xa : Xa} {H : Hp}
theorem RL.ints : ∀ {vs : List V} {ds : List D} {ns : List Int}, RL K xa H vs ds → intsOf ds = some ns → vs = ns.map V.int
  | _, _, _, .nil, h => by cases h; rfl
  | _, _, ns, .cons (d := d) (ds := ds) r t, h => by
    cases r with
    | int i =>
      obtain ⟨ms, e1, e2⟩ := Option.map_eq_some_iff.mp (show (intsOf ds).map (i :: ·) = some ns from h)
      subst e2
      rw [RL.ints t e1] <;> rfl
    | _ => cases h
theorem RL.bls : ∀ {vs : List V} {ds : List D} {ns : List Bool}, RL K xa H vs ds → blsOf ds = some ns → vs = ns.map V.bl
  | _, _, _, .nil, h => by cases h; rfl
  | _, _, ns, .cons (d := d) (ds := ds) r t, h => by
    cases r with
    | bl i =>
      obtain ⟨ms, e1, e2⟩ := Option.map_eq_some_iff.mp (show (blsOf ds).map (i :: ·) = some ns from h)
      subst e2
      rw [RL.bls t e1] <;> rfl
    | _ => cases h
theorem RL.strs : ∀ {vs : List V} {ds : List D} {ns : List (List Nat)}, RL K xa H vs ds → strsOf ds = some ns → vs = (ns.map sOf).map V.str ∧ ∀ l ∈ ns, okS l
  | _, _, _, .nil, h => by cases h; exact ⟨rfl, fun _ q => nomatch q⟩
  | _, _, ns, .cons (d := d) (ds := ds) r t, h => by
    cases r with
    | @str i hi =>
      obtain ⟨ms, e1, e2⟩ := Option.map_eq_some_iff.mp (show (strsOf ds).map (i :: ·) = some ns from h)
      subst e2
      obtain ⟨a, b⟩ := RL.strs t e1
      refine ⟨by rw [a] <;> rfl, fun l hl => ?_⟩
      rcases List.mem_cons.mp hl with e | hl
      · rw [e]
        exact hi
      · exact b l hl
    | _ => cases h
end
/-- the least, the greatest of some ints -/
def lmin : List Int → Option Int
  | [] => none
  | x :: r => match lmin r with
    | none => some x
    | some m => some (if x ≤ m then x else m)
def lmax : List Int → Option Int
  | [] => none
  | x :: r => match lmax r with
    | none => some x
    | some m => some (if m ≤ x then x else m)
section
variable {X : Cx} {xa : Xa} {W : WX} {pos : Pos} {a b c e : Expr} {es rest : List Expr} {f h k : F} {fs : Fs} {t u : T}
def cLen : List D → Option D
  | [.lst ds] => some (.int ds.length)
  | [.tup ds] => some (.int ds.length)
  | [.frl ds] => some (.int ds.length)
  | [.str l] => if l.length ≤ 16777216 then some (.int l.length) else none
  | _ => none
theorem c_len : OpC X xa (.builtin "len") cLen := by
  intro pins s σ H vs us Q I r h
  obtain ⟨Hb, ds, z, le, rl, hz, q⟩ := h
  match ds, rl, hz with
  | [], _, hz => cases hz
  | a0 :: b0 :: r0, _, hz => cases a0 <;> cases hz
  | [d], rl, hz =>
    obtain ⟨v, rfl, r1⟩ := rl.one
    cases r1 with
    | lst h1 q1 =>
      cases hz
      refine call_len_seq pins s σ H _ us Q I r ⟨_, _, rfl, .inl (ex_l le (SqL.of h1)), ?_⟩
      rw [q1.length]
      exact q _ Hb H (Gw.refl le) (.int _)
    | frl h1 q1 =>
      cases hz
      refine call_len_seq pins s σ H _ us Q I r ⟨_, _, rfl, .inl (ex_l le h1), ?_⟩
      rw [q1.length]
      exact q _ Hb H (Gw.refl le) (.int _)
    | tup h1 q1 =>
      cases hz
      refine call_len_seq pins s σ H _ us Q I r ⟨_, _, rfl, .inr (ex_t le (SqT.of h1)), ?_⟩
      rw [q1.length]
      exact q _ Hb H (Gw.refl le) (.int _)
    | @str l h1 =>
      have hz : (if l.length ≤ 16777216 then some (D.int l.length) else none) = some z := hz
      by_cases c : l.length ≤ 16777216
      · rw [if_pos c] at hz
        cases hz
        refine call_len_str pins s σ H _ us Q I r ⟨_, rfl, by rw [sOf_len, szl]; exact c, ?_⟩
        rw [sOf_len]
        exact q _ Hb H (Gw.refl le) (.int _)
      · rw [if_neg c] at hz
        cases hz
    | _ => cases hz
def cAll : List D → Option D
  | [.lst ds] => (blsOf ds).map fun ns => .bl (ns.all id)
  | _ => none
theorem c_all (hc : X.calm = true) : OpC X xa (.builtin "all") cAll := by
  intro pins s σ H vs us Q I r h
  obtain ⟨Hb, ds, z, le, rl, hz, q⟩ := h
  match ds, rl, hz with
  | [], _, hz => cases hz
  | a0 :: b0 :: r0, _, hz => cases a0 <;> cases hz
  | [d], rl, hz =>
    obtain ⟨v, rfl, r1⟩ := rl.one
    cases r1 with
    | lst h1 q1 =>
      obtain ⟨ns, e1, e2⟩ := Option.map_eq_some_iff.mp (show (blsOf _).map _ = some z from hz)
      subst e2
      have e3 := q1.bls e1
      subst e3
      exact cr_all hc pins s σ H _ us Q I r ⟨_, ns, rfl, ex_l le (SqL.of h1), q _ Hb H (Gw.refl le) (.bl _)⟩
    | _ => cases hz
/-- list(x), tuple(x) of a list, a tuple -/
def cList : List D → Option D
  | [.lst ds] => some (.lst ds)
  | [.tup ds] => some (.lst ds)
  | _ => none
theorem c_list : OpC X xa (.type "list") cList := by
  intro pins s σ H vs us Q I r h
  obtain ⟨Hb, ds, z, le, rl, hz, q⟩ := h
  match ds, rl, hz with
  | [], _, hz => cases hz
  | a0 :: b0 :: r0, _, hz => cases a0 <;> cases hz
  | [d], rl, hz =>
    obtain ⟨v, rfl, r1⟩ := rl.one
    cases r1 with
    | lst h1 q1 =>
      cases hz
      exact call_list_of pins s σ H _ us Q I r ⟨_, _, rfl, .inl (ex_l le (SqL.of h1)), fun p hp => q _ _ _ (Gw.new le hp) (.lst upd_same (q1.mono (Ex.new (fresh_back le hp))))⟩
    | tup h1 q1 =>
      cases hz
      exact call_list_of pins s σ H _ us Q I r ⟨_, _, rfl, .inr (ex_t le (SqT.of h1)), fun p hp => q _ _ _ (Gw.new le hp) (.lst upd_same (q1.mono (Ex.new (fresh_back le hp))))⟩
    | _ => cases hz
/-- list(range(n)), list(range(a, b)) -/
def rgD (a b : Int) : List D := (List.range (b - a).toNat).map fun i => D.int (a + (i : Nat))
def tyD : D → Option String
  | .non => some "NoneType"
  | .bl _ => some "bool"
  | .int _ => some "int"
  | .str _ => some "str"
  | .lst _ => some "list"
  | .tup _ => some "tuple"
  | .tpz _ => some "tuple"
  | _ => none
/-- whether data is of the built-in class T: str, int, bool, list, tuple -/
def isiD (T : String) (d : D) : Option D := (tyD d).bind fun n => (kitB n T).map D.bl
theorem SqT.ty {K : PySem.W.Frag} {H : Hp} {a : Addr} {xs : List V} (h : SqT K H a xs) : TyX K H (.ref a) (.type "tuple") := by
  rcases h with (h | ⟨o, h⟩) | ⟨o, its, n, h1, h2, _⟩
  · exact .base (.tup h)
  · exact .fTuple h
  · exact .kTuple h1 h2
theorem R.ty {K : PySem.W.Frag} {H : Hp} {v : V} {d : D} {n : String} (r : R K xa H v d) (h : tyD d = some n) : TyX K H v (.type n) := by
  cases r with
  | non => cases h; exact .base .non
  | bl b => cases h; exact .base (.bl b)
  | int b => cases h; exact .base (.int b)
  | str b => cases h; exact .base (.str _)
  | lst h1 _ => cases h; exact .base (.lst h1)
  | tup h1 _ => cases h; exact .base (.tup h1)
  | tpz h1 _ _ _ => cases h; exact SqT.ty (.inl (.inr ⟨_, h1⟩))
  | _ => cases h
theorem p_isi {p p2 : Pos} {x T : String} (hg : Gl X "isinstance") (hm : X.mg "isinstance" = none) (hg2 : Gl X (Str.ofString x)) (hm2 : X.mg (Str.ofString x) = none) (hb : bootBuiltins (Str.ofString x) = some (.type T)) (ha : Pe X xa W a f)
    (hv : bootBuiltins "isinstance" = some (.builtin "isinstance") := by decide +kernel) (n1 : (Str.ofString x) ≠ "__name__" := by decide) (n2 : ((Str.ofString x) == ("__debug__" : Str)) = false := by decide)
    (he : starEach [a, .Name (Str.ofString x) p2] X.env = (false, eval a X.env) :: starEach [.Name (Str.ofString x) p2] X.env := by rfl) (he2 : starEach [.Name (Str.ofString x) p2] X.env = (false, eval (.Name (Str.ofString x) p2) X.env) :: starEach [] X.env := by rfl)
    (hpl : (backTo pos (starEach [.Name (Str.ofString x) p2] X.env)).any (·.1) = false := by rfl) :
    Pe X xa W (.Call (.Name "isinstance" p) [a, .Name (Str.ofString x) p2] [] pos) (op1 (isiD T) f) := by
  have hT : PE X (.Name (Str.ofString x) p2) (tC (.ty T)) := pe_bltn hg2 hm2 hb rfl n1 n2
  refine PE.imp (pe_callB call_isi hg hm hv (pa_cons ha (pa_cons hT pa_nil he2) he) (by decide) (by decide) he hpl) fun σ H Q hq => ?_
  obtain ⟨Hb, ρ, le, re, p⟩ := hq
  refine ⟨Hb, ρ, le, re, post_bind le p fun d v B1 H1 e1 g1 r1 p1 => ?_⟩
  cases q : isiD T d with
  | none =>
    rw [q] at p1
    exact p1.elim
  | some z =>
    rw [q] at p1
    obtain ⟨n, e2, e3⟩ := Option.bind_eq_some_iff.mp q
    obtain ⟨kb, e4, e5⟩ := Option.map_eq_some_iff.mp e3
    subst e5
    exact ⟨v, .ty T, _, _, kb, rfl, .ty T, (r1.mono g1.le).ty e2, kit_ty e4, post_here g1.le p1 (.bl _)⟩
end
end Pu

namespace Pu
open PySem PySem.Spec PyProof.Rows L2 Evl
inductive SV where
  | l (a : Addr) (xs : List V) | t (a : Addr) (xs : List V) | s (z : Str)
def SV.v : SV → V
  | .l a _ => .ref a
  | .t a _ => .ref a
  | .s z => .str z
def chV (z : Str) : List V := z.cps.toList.map fun c => V.str ⟨#[c]⟩
def SV.its : SV → List V
  | .l _ xs => xs
  | .t _ xs => xs
  | .s z => chV z
def SV.G (H : Hp) : SV → Prop
  | .l a xs => H a = some (.lst xs)
  | .t a xs => H a = some (.tup xs) ∨ ∃ o, H a = some (.frz o (.tup xs))
  | .s _ => True
/-- its iterator at it, behind i items -/
def SV.st (u : Value) (it : Addr) (i : Nat) (h : Heap) : SV → Prop
  | .l a _ => h.IsListIter it a i
  | .t a _ => h.IsTupleIter it a i
  | .s z => ∃ t, u = .str z t ∧ h.IsStrIter it (strIterType z) z t i
def SV.ob (u : Value) : SV → Obj
  | .l a _ => { cls := .type "list_iterator", data := .fields #[.ref a, .int 0 0] }
  | .t a _ => { cls := .type "tuple_iterator", data := .fields #[.ref a, .int 0 0] }
  | .s z => { cls := .type (strIterType z), data := .fields #[u, .int 0 0] }
theorem SV.st0 {u : Value} {it : Addr} {h : Heap} (q : SV) (r : RelV q.v u) (e : h.get? it = some (q.ob u)) : q.st u it 0 h := by
  cases q with
  | l a xs => exact ⟨_, e, rfl, rfl⟩
  | t a xs => exact ⟨_, e, rfl, rfl⟩
  | s z =>
    obtain ⟨t, rfl⟩ := r
    exact ⟨t, rfl, _, e, rfl, rfl⟩
section
variable {X : Cx} {pins : List (Addr × Obj)} {σ : L2.St} {H : Hp} {s : Shared}
end
structure Apart5 (z a b c d : Addr) : Prop where
  az : a ≠ z
  bz : b ≠ z
  cz : c ≠ z
  dz : d ≠ z
  ab : a ≠ b
  ac : a ≠ c
  ad : a ≠ d
  bc : b ≠ c
  bd : b ≠ d
  cd : c ≠ d
end Pu

namespace Pu
open PySem PySem.Spec PyProof.Rows L2 Evl
structure Wk (K : PySem.W.Frag) (xa : Xa) (B : Hp) (J : It) (ds : List D) : Prop where
  go : ∀ i B1 H1, Ex B B1 → Ex B1 H1 → i < ds.length → J.go i H1
  stop : ∀ B1 H1, Ex B B1 → Ex B1 H1 → J.stop ds.length H1
  yld : ∀ i B1 H1 x H2 d, Ex B B1 → Ex B1 H1 → ds[i]? = some d → J.yld i H1 x H2 → ∃ B2, Gw B1 H1 B2 H2 ∧ R K xa B2 x d
abbrev Pi (X : Cx) (xa : Xa) (W : WX) (tg e : Expr) (f : Fs) : Prop := PI X tg e (tPx X.K xa (Wk X.K xa) W f)
def itD : D → Option (List D)
  | .lst ds => some ds
  | .tup ds => some ds
  | .str l => some (l.map fun c => .str [c])
  | _ => none
def itF (f : F) : Fs := fun ρ => (f ρ).bind fun x => ofO (itD x)
section
variable {K : PySem.W.Frag} {xa : Xa} {B H : Hp}
theorem wk_list {a : Addr} {xs : List V} {ds : List D} (h : B a = some (.lst xs)) (r : RL K xa B xs ds) : Wk K xa B (Itl K a) ds where
  go := fun i B1 H1 e1 e2 hi => ⟨xs, xs[i]'(by rw [r.length]; exact hi), SqL.of (e2 _ _ (e1 _ _ h)), by simp⟩
  stop := fun B1 H1 e1 e2 => ⟨xs, SqL.of (e2 _ _ (e1 _ _ h)), by rw [r.length]; exact Nat.le_refl _⟩
  yld := fun i B1 H1 x H2 d e1 e2 hd hy => by
    obtain ⟨rfl, hy⟩ := hy
    obtain ⟨v, e3, r3⟩ := r.get hd
    have e4 := hy xs (SqL.of (e2 _ _ (e1 _ _ h)))
    rw [e3] at e4
    cases e4
    exact ⟨B1, Gw.refl e2, r3.mono e1⟩
theorem wk_tup {a : Addr} {xs : List V} {ds : List D} (h : B a = some (.tup xs)) (r : RL K xa B xs ds) : Wk K xa B (Itt K a) ds where
  go := fun i B1 H1 e1 e2 hi => ⟨xs, xs[i]'(by rw [r.length]; exact hi), SqT.of (e2 _ _ (e1 _ _ h)), by simp⟩
  stop := fun B1 H1 e1 e2 => ⟨xs, SqT.of (e2 _ _ (e1 _ _ h)), by rw [r.length]; exact Nat.le_refl _⟩
  yld := fun i B1 H1 x H2 d e1 e2 hd hy => by
    obtain ⟨rfl, hy⟩ := hy
    obtain ⟨v, e3, r3⟩ := r.get hd
    have e4 := hy xs (SqT.of (e2 _ _ (e1 _ _ h)))
    rw [e3] at e4
    cases e4
    exact ⟨B1, Gw.refl e2, r3.mono e1⟩
theorem wk_str {l : List Nat} (h : okS l) : Wk K xa B (Its (sOf l)) (l.map fun c => .str [c]) where
  go := fun i B1 H1 e1 e2 hi => by
    show i < l.toArray.size
    rw [List.length_map] at hi
    simpa using hi
  stop := fun B1 H1 e1 e2 => by
    show l.toArray.size ≤ (l.map _).length
    simp
  yld := fun i B1 H1 x H2 d e1 e2 hd hy => by
    obtain ⟨rfl, c, hc, rfl⟩ := hy
    have hc : l[i]? = some c := by simpa using hc
    rw [List.getElem?_map, hc] at hd
    cases hd
    exact ⟨B1, Gw.refl e2, .str (l := [c]) fun x hx => by rw [List.mem_singleton.mp hx]; exact h _ (List.mem_of_getElem? hc)⟩
theorem wk_range (lo : Int) (n : Nat) : Wk K xa B (Itr lo n) ((List.range n).map fun i => D.int (lo + (i : Nat))) where
  go := fun i B1 H1 e1 e2 hi => by
    rw [List.length_map, List.length_range] at hi
    exact hi
  stop := fun B1 H1 e1 e2 => by
    show n ≤ _
    rw [List.length_map, List.length_range]
    exact Nat.le_refl _
  yld := fun i B1 H1 x H2 d e1 e2 hd hy => by
    obtain ⟨rfl, rfl⟩ := hy
    rw [List.getElem?_map] at hd
    obtain ⟨j, e3, e4⟩ := Option.map_eq_some_iff.mp hd
    have : j = i := by
      have := (List.getElem?_eq_some_iff.mp e3)
      obtain ⟨h1, h2⟩ := this
      simp at h2
      exact h2.symm
    subst this e4
    exact ⟨B1, Gw.refl e2, .int _⟩
end
section
variable {X : Cx} {xa : Xa} {W : WX} {pos : Pos} {a b c e tg : Expr} {es rest : List Expr} {f h k : F} {fs : Fs} {t u : T}
theorem i_data (ha : Pe X xa W e f) : Pi X xa W tg e (itF f) := by
  refine ⟨fun pins s σ H R0 I hq => ?_⟩
  obtain ⟨Hb, ρ, le, re, p⟩ := hq
  unfold itF at p
  have go : ∀ {Q1 : VK}, (∀ d v B1 H1, f ρ = .ok d → Gw Hb H B1 H1 → R X.K xa B1 v d → post X.K (Wk X.K xa) (WE W σ) B1 H1 R0 (ofO (itD d)) → Q1 v H1) → tP X.K xa W f σ H Q1 := fun hk => ⟨Hb, ρ, le, re, post_bind le p fun d v B1 H1 e1 g1 r1 p1 => hk d v B1 H1 e1 g1 r1 p1⟩
  cases hf : f ρ with
  | st =>
    rw [hf] at p
    exact p.elim
  | ex x =>
    exact (pi_list ha).run pins s σ H R0 I (go fun d v B1 H1 e1 g1 r1 p1 => by rw [hf] at e1; cases e1)
  | ok d =>
    cases d with
    | lst ds =>
      refine (pi_list ha).run pins s σ H R0 I (go fun d v B1 H1 e1 g1 r1 p1 => ?_)
      rw [hf] at e1
      cases e1
      cases r1 with
      | lst h1 q1 => exact ⟨_, rfl, ⟨_, SqL.of (g1.le _ _ h1)⟩, post_here g1.le p1 (wk_list h1 q1)⟩
    | tup ds =>
      refine (pi_tup ha).run pins s σ H R0 I (go fun d v B1 H1 e1 g1 r1 p1 => ?_)
      rw [hf] at e1
      cases e1
      cases r1 with
      | tup h1 q1 => exact ⟨_, rfl, ⟨_, SqT.of (g1.le _ _ h1)⟩, post_here g1.le p1 (wk_tup h1 q1)⟩
    | str l =>
      refine (pi_str ha).run pins s σ H R0 I (go fun d v B1 H1 e1 g1 r1 p1 => ?_)
      rw [hf] at e1
      cases e1
      cases r1 with
      | str h1 => exact ⟨_, rfl, post_here g1.le p1 (wk_str h1)⟩
    | _ =>
      rw [hf] at p
      exact (show False from p).elim
def rgF (f : F) : Fs := fun ρ => (f ρ).bind fun x => (ofO (toI x)).bind fun n => if -(2 ^ 62) ≤ n ∧ n < 2 ^ 62 then .ok (rgD 0 n) else .st
def rg2F (f h : F) : Fs := fun ρ => (f ρ).bind fun x => (h ρ).bind fun y => (ofO (toI x)).bind fun m => (ofO (toI y)).bind fun n => if (-(2 ^ 62) ≤ m ∧ m < 2 ^ 62) ∧ (-(2 ^ 62) ≤ n ∧ n < 2 ^ 62) then .ok (rgD m n) else .st
theorem i_range {p : Pos} (hg : Gl X "range") (hm : X.mg "range" = none) (ha : Pe X xa W a f) (hs : starEach [a] X.env = [(false, eval a X.env)] := by rfl) : Pi X xa W tg (.Call (.Name "range" p) [a] [] pos) (rgF f) := by
  refine PI.imp (pi_range1 hg hm (pa_cons ha pa_nil hs) hs) fun σ H R0 hq => ?_
  obtain ⟨Hb, ρ, le, re, p⟩ := hq
  refine ⟨Hb, ρ, le, re, post_bind le p fun d v B1 H1 e1 g1 r1 p1 => ?_⟩
  cases r1 with
  | int n =>
    have p1 : post X.K (Wk X.K xa) (WE W σ) B1 H1 R0 (if -(2 ^ 62) ≤ n ∧ n < 2 ^ 62 then .ok (rgD 0 n) else .st) := p1
    by_cases c : -(2 ^ 62) ≤ n ∧ n < 2 ^ 62
    · rw [if_pos c] at p1
      refine ⟨n, rfl, c.1, c.2, post_here g1.le p1 ?_⟩
      have e : rgD 0 n = (List.range n.toNat).map fun i => D.int (0 + (i : Nat)) := by
        unfold rgD
        rw [Int.sub_zero]
      rw [e]
      exact wk_range 0 n.toNat
    · rw [if_neg c] at p1
      exact p1.elim
  | _ => exact (show False from p1).elim
def ziD (ds es : List D) : List D := List.zipWith (fun d e => .tup [d, e]) ds es
def ziF (f h : F) : Fs := fun ρ => (f ρ).bind fun x => (h ρ).bind fun y => (ofO (itD x)).bind fun ds => (ofO (itD y)).bind fun es => .ok (ziD ds es)
end
end Pu

namespace Pu
open PySem PySem.Spec PyProof.Rows L2 Evl
inductive Tg where
  | nm (i : Nat) | tp (is : List Nat)
def setsV (σ : L2.St) : List (Nat × V) → L2.St
  | [] => σ
  | (i, v) :: r => setsV (σ.set i (some v)) r
def setsE (ρ : Env) : List (Nat × D) → Env
  | [] => ρ
  | (i, d) :: r => setsE (ρ.set i (some d)) r
/-- what a target's slots get -/
def bnd : Tg → D → Option (List (Nat × D))
  | .nm i, d => some [(i, d)]
  | .tp is, .tup ds => if is.length = ds.length then some (is.zip ds) else none
  | .tp is, .lst ds => if is.length = ds.length then some (is.zip ds) else none
  | _, _ => none
def Tg.ix : Tg → List Nat
  | .nm i => [i]
  | .tp is => is
def gD : Tg → TG
  | .nm i => fun v σ H Q => Q (σ.set i (some v)) H
  | .tp is => fun v σ H Q => ∃ a xs, v = .ref a ∧ (H a = some (.tup xs) ∨ H a = some (.lst xs)) ∧ xs.length = is.length ∧ Q (setsV σ (is.zip xs)) H
abbrev Pg (X : Cx) (tg : Expr) (t : Tg) : Prop := PG X tg (gD t)
section
variable {X : Cx} {xa : Xa} {W : WX} {pos : Pos} {e : Expr} {es : List Expr}
theorem g_nm (i : Nat) {x : Str} (hN : X.N.Nodup) (hi : X.N[i]? = some x := by rfl) (hx : Loc X.env.scope x := by first | exact Or.inl rfl | exact Or.inr rfl) (hf : X.fn x = true ∨ X.env.scope.names.lookup x = some .local := by first | exact .inl rfl | exact .inr rfl | assumption) : Pg X (.Name x pos) (.nm i) := pg_name hN hi hx hf
/-- several names -/
def gNames (is : List Nat) : TGs := fun vs σ H Q => vs.length = is.length ∧ Q (setsV σ (is.zip vs)) H
theorem gn_nil : PGs X [] (gNames []) := ⟨fun pins s σ H vs us Q I r h => pgs_nil.run pins s σ H vs us Q I r ⟨List.length_eq_zero_iff.mp h.1, by
  have := h.2
  have e : vs = [] := List.length_eq_zero_iff.mp h.1
  subst e
  exact this⟩⟩
theorem gn_cons {i : Nat} {is : List Nat} (h1 : Pg X e (.nm i)) (h2 : PGs X es (gNames is)) (hs : (assignEach (e :: es) X.env).map (·.2) = assign e X.env :: (assignEach es X.env).map (·.2) := by rfl) : PGs X (e :: es) (gNames (i :: is)) :=
  ⟨fun pins s σ H vs us Q I r h => (pgs_cons h1 h2 hs).run pins s σ H vs us Q I r (by
    obtain ⟨hl, h⟩ := h
    cases vs with
    | nil => cases hl
    | cons v vs => exact ⟨v, vs, rfl, Nat.succ.inj hl, h⟩)⟩
theorem g_tp {is : List Nat} {k : Nat} (hc : X.calm = true) (h : PGs X es (gNames is)) (hn : (assignEach es X.env).length = is.length := by rfl) (hst : (assignEach es X.env).findIdx? (·.1) = none := by rfl) : Pg X (.Tuple es k pos) (.tp is) := by
  refine ⟨fun pins s σ H v u Q I r hw => ?_⟩
  obtain ⟨a, xs, ev, hx, hl, hq⟩ := hw
  rcases hx with hx | hx
  · exact (pg_tup hc h hn hst).run pins s σ H v u Q I r ⟨a, xs, ev, SqT.of hx, hl, hl, hq⟩
  · exact (pg_lst hc h hn hst).run pins s σ H v u Q I r ⟨a, xs, ev, SqL.of hx, hl, hl, hq⟩
end
section
variable {K : PySem.W.Frag} {xa : Xa} {B H : Hp} {σ : L2.St} {ρ : Env}
theorem RE.sets : ∀ (xs : List V) (ds : List D) (is : List Nat) (σ : L2.St) (ρ : Env), RE K xa B σ ρ → RL K xa B xs ds → RE K xa B (setsV σ (is.zip xs)) (setsE ρ (is.zip ds))
  | _, _, [], _, _, re, _ => re
  | _, _, _ :: _, _, _, re, .nil => re
  | _ :: xs, _ :: ds, i :: is, _, _, re, .cons r t => by
    have h := RE.sets xs ds is _ _ (re.set r i) t
    exact h
theorem wipe_set (i : Nat) (x : Option V) : ∀ {vs : List Nat} {σ : L2.St}, i ∈ vs → wipe (σ.set i x) vs = wipe σ vs
  | [], _, h => nomatch h
  | v :: vs, σ, h => by
    show (wipe (σ.set i x) vs).set v none = (wipe σ vs).set v none
    by_cases hv : i ∈ vs
    · rw [wipe_set i x hv]
    · have e : v = i := by
        rcases List.mem_cons.mp h with e | e
        · exact e.symm
        · exact absurd e hv
      subst e
      have key : ∀ (ws : List Nat) (σ : L2.St), v ∉ ws → wipe (σ.set v x) ws = (wipe σ ws).set v x := by
        intro ws
        induction ws with
        | nil => intro σ _; rfl
        | cons w ws ih =>
          intro σ hw
          have h1 : v ≠ w := fun e => hw (by rw [e]; exact List.mem_cons_self)
          have h2 : v ∉ ws := fun m => hw (List.mem_cons_of_mem _ m)
          show (wipe (σ.set v x) ws).set w none = ((wipe σ ws).set w none).set v x
          rw [ih σ h2, List.set_comm _ _ h1]
      rw [key vs σ hv, List.set_set]
theorem wipe_sets {vs : List Nat} : ∀ {ps : List (Nat × V)} {σ : L2.St}, (∀ p ∈ ps, p.1 ∈ vs) → wipe (setsV σ ps) vs = wipe σ vs
  | [], _, _ => rfl
  | (i, v) :: r, σ, h => by
    show wipe (setsV (σ.set i (some v)) r) vs = _
    rw [wipe_sets fun p hp => h p (List.mem_cons_of_mem _ hp), wipe_set i _ (h _ List.mem_cons_self)]
theorem wipe_wipe {vs : List Nat} : ∀ {ws : List Nat} {σ : L2.St}, (∀ i ∈ ws, i ∈ vs) → wipe (wipe σ ws) vs = wipe σ vs
  | [], _, _ => rfl
  | w :: ws, σ, h => by
    show wipe ((wipe σ ws).set w none) vs = _
    rw [wipe_set w _ (h _ List.mem_cons_self), wipe_wipe fun i hi => h i (List.mem_cons_of_mem _ hi)]
def wipeE (ρ : Env) : List Nat → Env
  | [] => ρ
  | v :: vs => (wipeE ρ vs).set v none
theorem RE.wipe (re : RE K xa B σ ρ) : ∀ vs : List Nat, RE K xa B (L2.wipe σ vs) (wipeE ρ vs)
  | [] => re
  | v :: vs => (RE.wipe re vs).lose none v
/-- a target meets its data -/
theorem tg_meet {t : Tg} {v : V} {d : D} {ps : List (Nat × D)} {Q : L2.St → Hp → Prop} (le : Ex B H) (re : RE K xa B σ ρ) (r : R K xa B v d) (h : bnd t d = some ps)
    (k : ∀ qs : List (Nat × V), (∀ p ∈ qs, p.1 ∈ t.ix) → RE K xa B (setsV σ qs) (setsE ρ ps) → Q (setsV σ qs) H) : gD t v σ H Q := by
  cases t with
  | nm i =>
    cases h
    exact k [(i, v)] (fun p hp => by rw [List.mem_singleton.mp hp]; exact List.mem_cons_self) (re.set r i)
  | tp is =>
    cases r with
    | @tup a xs ds h1 q1 =>
      have h : (if is.length = ds.length then some (is.zip ds) else none) = some ps := h
      by_cases c : is.length = ds.length
      · rw [if_pos c] at h
        cases h
        exact ⟨a, xs, rfl, .inl (le _ _ h1), by rw [q1.length, c], k _ (fun p hp => (List.of_mem_zip (b := p.2) hp).1) (RE.sets _ _ is _ _ re q1)⟩
      · rw [if_neg c] at h
        cases h
    | @lst a xs ds h1 q1 =>
      have h : (if is.length = ds.length then some (is.zip ds) else none) = some ps := h
      by_cases c : is.length = ds.length
      · rw [if_pos c] at h
        cases h
        exact ⟨a, xs, rfl, .inr (le _ _ h1), by rw [q1.length, c], k _ (fun p hp => (List.of_mem_zip (b := p.2) hp).1) (RE.sets _ _ is _ _ re q1)⟩
      · rw [if_neg c] at h
        cases h
    | _ => cases h
end
def lcGo (ρ : Env) (t : Tg) (c : T) (f : F) : List D → Res (List D)
  | [] => .ok []
  | d :: ds => (ofO (bnd t d)).bind fun ps => ((c (setsE ρ ps)).pur).bind fun b =>
    if b = true then ((f (setsE ρ ps)).pur).bind fun y => (lcGo ρ t c f ds).bind fun ys => .ok (y :: ys) else lcGo ρ t c f ds
def lcO (it : Fs) (vs : List Nat) (t : Tg) (c : T) (f : F) : Fs := fun ρ => (it ρ).bind fun ds => if ds.length ≤ 16777216 then lcGo (wipeE ρ vs) t c f ds else .st
/-- a list just made, as a value -/
def ofL (g : Fs) : F := fun ρ => (g ρ).bind fun ys => .ok (.lst ys)
/-- a list that nothing else holds -/
def postO (K : PySem.W.Frag) (xa : Xa) (E : XK) (Hb H : Hp) (Q : VK) : Res (List D) → Prop
  | .ok ds => ∀ p xs Hb' H', Gw Hb H Hb' H' → Hb' p = none → H p = none → H' p = some (.lst xs) → RL K xa Hb' xs ds → Q (.ref p) H'
  | .ex x => ∀ c dx Hb' H', Gw Hb H Hb' H' → XR K Hb' c dx x → E c dx H'
  | .st => False
theorem postO_of {K : PySem.W.Frag} {xa : Xa} {E : XK} {Hb H : Hp} {Q : VK} {r : Res (List D)} (h : post K (R K xa) E Hb H Q (r.bind fun ys => .ok (.lst ys))) : postO K xa E Hb H Q r := by
  cases r with
  | ok ds =>
    intro p xs B1 H1 g n1 n2 hp rl
    refine h (.ref p) (upd B1 p (.lst xs)) H1 ⟨g.up, g.bup.trans (Ex.new n1), fun a o e => ?_, fun a o e => ?_⟩ (.lst upd_same (rl.mono (Ex.new n1)))
    · by_cases ha : a = p
      · subst ha
        rw [upd_same] at e
        rw [hp]
        exact e
      · rw [upd_ne ha] at e
        exact g.le _ _ e
    · rw [upd_ne (ne_of_none e n2)]
      exact g.old a o e
  | ex x => exact h
  | st => exact h
theorem postO_bind {α β : Type} {K : PySem.W.Frag} {xa : Xa} {Rel : Hp → β → α → Prop} {E : XK} {Hb H : Hp} {Q : VK} {r : Res α} {k : α → Res (List D)} {Q1 : β → Hp → Prop}
    (h : postO K xa E Hb H Q (r.bind k)) (hk : ∀ d v Hb1 H1, r = .ok d → Gw Hb H Hb1 H1 → Rel Hb1 v d → postO K xa E Hb1 H1 Q (k d) → Q1 v H1) : post K Rel E Hb H Q1 r := by
  cases r with
  | ok d =>
    intro v Hb1 H1 g r1
    refine hk d v Hb1 H1 rfl g r1 ?_
    have h : postO K xa E Hb H Q (k d) := h
    cases e : k d with
    | ok d2 =>
      rw [e] at h
      exact fun p xs Hb2 H2 g2 n1 n2 hp rl => h p xs Hb2 H2 (g.trans g2) n1 (by
        cases z : H p with
        | none => rfl
        | some o =>
          rw [g.up _ _ z] at n2
          cases n2) hp rl
    | ex x =>
      rw [e] at h
      exact fun c dx Hb2 H2 g2 r2 => h c dx Hb2 H2 (g.trans g2) r2
    | st =>
      rw [e] at h
      exact h
  | ex x => exact h
  | st => exact h
def tO (K : PySem.W.Frag) (xa : Xa) (W : WX) (f : Fs) : TE := fun σ H Q => ∃ Hb ρ, Ex Hb H ∧ RE K xa Hb σ ρ ∧ postO K xa (WE W σ) Hb H Q (f ρ)
theorem tO_of {K : PySem.W.Frag} {xa : Xa} {W : WX} {f : Fs} {σ : L2.St} {H : Hp} {Q : VK} (h : tP K xa W (ofL f) σ H Q) : tO K xa W f σ H Q := by
  obtain ⟨Hb, ρ, le, re, p⟩ := h
  exact ⟨Hb, ρ, le, re, postO_of p⟩
abbrev lcF (it : Fs) (vs : List Nat) (t : Tg) (c : T) (f : F) : F := ofL (lcO it vs t c f)
def yesT : T := fun _ => .ok true
abbrev WF : WX := fun _ _ _ _ => False
abbrev Pts (X : Cx) (xa : Xa) (W : WX) (es : List Expr) (c : T) : Prop := PTs X es (tPT X.K xa W c)
section
variable {X : Cx} {xa : Xa} {W : WX} {pos : Pos} {e tg iter elt : Expr} {ifs : List Expr}
theorem t_no : Pts X xa W [] yesT := ⟨fun pins s σ H Q I h => pts_nil.run pins s σ H Q I (by
  obtain ⟨Hb, ρ, le, re, p⟩ := h
  exact post_here le p rfl)⟩
theorem t_one {c : T} (h : Pt X xa W e c) : Pts X xa W [e] c := pts_one h
/-- what must be known at a turn: the list so far at Dl, the rest still to come -/
structure LcI (K : PySem.W.Frag) (xa : Xa) (B1 H1 : Hp) (Dl : Addr) (ρ0 : Env) (t : Tg) (c : T) (f : F) (ds zs : List D) (i : Nat) (H : Hp) : Prop where
  ex : ∃ B acc ys zr, Gw B1 H1 B H ∧ B Dl = none ∧ H Dl = some (.lst acc) ∧ RL K xa B acc ys ∧ lcGo ρ0 t c f (ds.drop i) = .ok zr ∧ ys ++ zr = zs ∧ ys.length ≤ i
theorem drop_at {α : Type} {l : List α} {i : Nat} (h : i < l.length) : l.drop i = l[i] :: l.drop (i + 1) := List.drop_eq_getElem_cons h
theorem t_lc {it : Fs} {t : Tg} {c : T} {f : F} {vs : List Nat} {K : PySem.W.Frag} {σ : L2.St} {H : Hp} {Q : VK} (hx : ∀ i ∈ t.ix, i ∈ vs) (hq : tO K xa W (lcO it vs t c f) σ H Q) :
    tLc (tPx K xa (Wk K xa) W it) (gD t) (tPT K xa WF c) (tP K xa WF f) vs σ H Q := by
  obtain ⟨Hb, ρ, le, re, p⟩ := hq
  refine ⟨Hb, ρ, le, re, postO_bind p fun ds J B1 H1 e1 g1 wk p1 => ?_⟩
  intro Dl hD
  by_cases hz : ds.length ≤ 16777216
  · rw [if_pos hz] at p1
    cases hgo : lcGo (wipeE ρ vs) t c f ds with
    | st =>
      rw [hgo] at p1
      exact p1.elim
    | ex x =>
      exfalso
      have noex : ∀ l x, lcGo (wipeE ρ vs) t c f l ≠ .ex x := by
        intro l
        induction l with
        | nil => intro x z; cases z
        | cons d l ih =>
          intro x z
          unfold lcGo at z
          cases h1 : bnd t d with
          | none => rw [h1] at z; cases z
          | some ps =>
            rw [h1] at z
            simp only [ofO_some, Res.bind_ok] at z
            cases h2 : c (setsE (wipeE ρ vs) ps) with
            | st => rw [h2] at z; cases z
            | ex y => rw [h2] at z; cases z
            | ok b =>
              rw [h2] at z
              simp only [Res.pur_ok, Res.bind_ok] at z
              cases b with
              | false => exact ih x z
              | true =>
                rw [if_pos rfl] at z
                cases h3 : f (setsE (wipeE ρ vs) ps) with
                | st => rw [h3] at z; cases z
                | ex y => rw [h3] at z; cases z
                | ok y =>
                  rw [h3] at z
                  simp only [Res.pur_ok, Res.bind_ok] at z
                  cases h4 : lcGo (wipeE ρ vs) t c f l with
                  | st => rw [h4] at z; cases z
                  | ok ys => rw [h4] at z; cases z
                  | ex y2 => exact ih y2 h4
      exact noex ds x hgo
    | ok zs =>
      rw [hgo] at p1
      have nB : B1 Dl = none := fresh_back g1.le hD
      refine ⟨fun i m H => m = ds.length - i ∧ i ≤ ds.length ∧ LcI K xa B1 H1 Dl (wipeE ρ vs) t c f ds zs i H, ⟨ds.length, rfl, Nat.zero_le _, ⟨B1, [], [], zs, ?_, nB, upd_same, .nil, hgo, rfl, Nat.le_refl _⟩⟩, ?_⟩
      · exact ⟨Ex.new hD, Ex.refl _, (g1.le).trans (Ex.new hD), fun _ _ _ => rfl⟩
      · rintro i m H2 ⟨rfl, hi, ⟨B2, acc, ys, zr, g2, n2, hacc, rl, hgo2, hys, hyl⟩⟩
        by_cases hlt : i < ds.length
        · refine .inr ⟨wk.go i B2 H2 g2.bup g2.le hlt, fun H' => LcI K xa B1 H1 Dl (wipeE ρ vs) t c f ds zs (i + 1) H', fun H' h' => ⟨ds.length - (i + 1), by omega, rfl, hlt, h'⟩, fun x H3 hy => ?_⟩
          obtain ⟨B3, g3, r3⟩ := wk.yld i B2 H2 x H3 ds[i] g2.bup g2.le (List.getElem?_eq_getElem hlt) hy
          have n3 : B3 Dl = none := (g3.old _ _ hacc).trans n2
          rw [drop_at hlt] at hgo2
          unfold lcGo at hgo2
          cases h1 : bnd t ds[i] with
          | none => rw [h1] at hgo2; cases hgo2
          | some ps =>
            rw [h1] at hgo2
            simp only [ofO_some, Res.bind_ok] at hgo2
            refine tg_meet g3.le ((re.mono ((g1.bup.trans g2.bup).trans g3.bup)).wipe vs) r3 h1 fun qs hqs re4 => ⟨?_, ?_⟩
            · rw [wipe_sets fun p hp => hx _ (hqs p hp), wipe_wipe fun i hi => hi]
            · cases h2 : c (setsE (wipeE ρ vs) ps) with
              | st => rw [h2] at hgo2; cases hgo2
              | ex y => rw [h2] at hgo2; cases hgo2
              | ok b =>
                rw [h2] at hgo2
                simp only [Res.pur_ok, Res.bind_ok] at hgo2
                refine ⟨B3, _, g3.le, re4, ?_⟩
                rw [h2]
                intro b' B4 H4 g4 rb
                have rb : b' = b := rb
                subst rb
                have a4 : H4 Dl = some (.lst acc) := g4.up _ _ (g3.up _ _ hacc)
                have n4 : B4 Dl = none := (g4.old _ _ (g3.up _ _ hacc)).trans n3
                cases b' with
                | false =>
                  exact ⟨B4, acc, ys, zr, (g2.trans g3).trans g4, n4, a4, rl.mono (g3.bup.trans g4.bup), hgo2, hys, by omega⟩
                | true =>
                  rw [if_pos rfl] at hgo2
                  cases h3 : f (setsE (wipeE ρ vs) ps) with
                  | st => rw [h3] at hgo2; cases hgo2
                  | ex y => rw [h3] at hgo2; cases hgo2
                  | ok y =>
                    rw [h3] at hgo2
                    simp only [Res.pur_ok, Res.bind_ok] at hgo2
                    cases h4 : lcGo (wipeE ρ vs) t c f (ds.drop (i + 1)) with
                    | st => rw [h4] at hgo2; cases hgo2
                    | ex y2 => rw [h4] at hgo2; cases hgo2
                    | ok ys2 =>
                      rw [h4] at hgo2
                      cases hgo2
                      refine ⟨B4, _, g4.le, re4.mono g4.bup, ?_⟩
                      rw [h3]
                      intro v B5 H5 g5 r5
                      have a5 : H5 Dl = some (.lst acc) := g5.up _ _ a4
                      have n5 : B5 Dl = none := (g5.old _ _ a4).trans n4
                      have gg := ((g2.trans g3).trans g4).trans g5
                      refine ⟨acc, a5, by rw [rl.length, szl]; omega, ⟨B5, acc ++ [v], ys ++ [y], ys2, ⟨Ex.mut gg.up hD, gg.bup, Ex.mut gg.le n5, gg.old⟩, n5, upd_same, (rl.mono ((g3.bup.trans g4.bup).trans g5.bup)).app (.cons r5 .nil), h4, by rw [List.append_assoc]; exact hys, by rw [List.length_append]; show ys.length + 1 ≤ i + 1; omega⟩⟩
        · have ei : i = ds.length := by omega
          subst ei
          refine .inl ⟨wk.stop B2 H2 g2.bup g2.le, ?_⟩
          rw [List.drop_length] at hgo2
          cases hgo2
          rw [List.append_nil] at hys
          subst hys
          exact p1 Dl acc B2 H2 g2 n2 hD hacc rl
  · rw [if_neg hz] at p1
    exact p1.elim
theorem p_lc {scope : Scope} {own : List (Str × Nat)} {it : Fs} {t : Tg} {c : T} {f : F} (hc : X.calm = true) (hN : X.N.Nodup) (hi : Pi X xa W tg iter it) (ok : BlkOk X.N X.env.scope scope own)
    (hg : ∀ (s : Shared) (H : Hp) (C : Addr) (cl : List (Str × Addr)) (fp : List Addr), Pg (X.blk s H scope (compEnvC scope cl C X.env) fp) tg t)
    (ht : ∀ (s : Shared) (H : Hp) (C : Addr) (cl : List (Str × Addr)) (fp : List Addr), Pts (X.blk s H scope (compEnvC scope cl C X.env) fp) xa WF ifs c)
    (he : ∀ (s : Shared) (H : Hp) (C : Addr) (cl : List (Str × Addr)) (fp : List Addr), Pe (X.blk s H scope (compEnvC scope cl C X.env) fp) xa WF elt f)
    (hx : ∀ i ∈ t.ix, i ∈ own.map (·.2) := by decide) (hs : ∀ x, foldedSetIterable iter X.env x = pure x := by intro _; rfl) :
    Pe X xa W (.ListComp elt [⟨tg, iter, ifs, 0⟩] scope pos) (lcF it (own.map (·.2)) t c f) := by
  exact PE.imp (pe_lc (tt := tPT X.K xa WF c) (te := tP X.K xa WF f) hc hN hi ok hg ht he hs) fun σ H Q hq => t_lc hx (tO_of hq)
end
end Pu

namespace Pu
open PySem PySem.Spec PyProof.Rows L2 Evl
/-- what a slot alone holds: a list, a dict -/
inductive Ob where
  | L (ds : List D) | T (kvs : List (DK × D))
inductive Sl where
  | no | sh (d : D) | own (o : Ob)
abbrev Sl.ow (ds : List D) : Sl := .own (.L ds)
abbrev Sl.od (kvs : List (DK × D)) : Sl := .own (.T kvs)
def Ob.d : Ob → D
  | .L ds => .lst ds
  | .T kvs => .dco kvs
inductive RO (K : PySem.W.Frag) (xa : Xa) (B : Hp) : HO → Ob → Prop
  | L {vs : List V} {ds : List D} : RL K xa B vs ds → RO K xa B (.lst vs) (.L ds)
  | T {vs : List (Key × V)} {kvs : List (DK × D)} : RK K xa B vs kvs → RO K xa B (.dK vs) (.T kvs)
theorem RO.mono {K : PySem.W.Frag} {xa : Xa} {B B' : Hp} {u : HO} {o : Ob} (e : Ex B B') (h : RO K xa B u o) : RO K xa B' u o := by
  cases h with
  | L r => exact .L (r.mono e)
  | T r => exact .T (r.mono e)
theorem RO.r {K : PySem.W.Frag} {xa : Xa} {B : Hp} {u : HO} {o : Ob} {a : Addr} (h : RO K xa B u o) (e : B a = some u) : R K xa B (.ref a) o.d := by
  cases h with
  | L r => exact .lst e r
  | T r => exact .dco e r
abbrev SEnv := List Sl
def Sl.see : Sl → Option D
  | .sh d => some d
  | _ => none
def Sl.pk : Sl → Option D
  | .sh d => some d
  | .own o => some o.d
  | .no => none
def Sl.frz : Sl → Sl
  | .own o => .sh o.d
  | s => s
def shv (ρ : SEnv) : Env := ρ.map Sl.see
def pkv (ρ : SEnv) : Env := ρ.map Sl.pk
def frA (ρ : SEnv) : SEnv := ρ.map Sl.frz
theorem shv_frA (ρ : SEnv) : shv (frA ρ) = pkv ρ := by
  unfold shv frA pkv
  rw [List.map_map]
  refine List.map_congr_left fun s _ => ?_
  cases s <;> rfl
/-- some slots give their lists away -/
def frI (ρ : SEnv) (i : Nat) : SEnv := match ρ[i]? with
  | some s => ρ.set i s.frz
  | none => ρ
def frz (is : List Nat) (ρ : SEnv) : SEnv := is.foldl frI ρ
structure RS (K : PySem.W.Frag) (xa : Xa) (B0 H0 B H : Hp) (σ : L2.St) (ρ : SEnv) : Prop where
  gw : Gw B0 H0 B H
  len : ρ.length = σ.length
  sh : ∀ (i : Nat) (d : D), ρ[i]? = some (.sh d) → ∃ v, σ[i]? = some (some v) ∧ R K xa B v d
  own : ∀ (i : Nat) (ds : Ob), ρ[i]? = some (.own ds) → ∃ a vs, σ[i]? = some (some (.ref a)) ∧ H a = some vs ∧ B a = none ∧ H0 a = none ∧ RO K xa B vs ds
  ap : ∀ (i j : Nat) (ds es : Ob) (a : Addr), ρ[i]? = some (.own ds) → ρ[j]? = some (.own es) → σ[i]? = some (some (.ref a)) → σ[j]? = some (some (.ref a)) → i = j
section
variable {K : PySem.W.Frag} {xa : Xa} {B0 H0 B H B' H' : Hp} {σ : L2.St} {ρ : SEnv}
theorem RS.re (r : RS K xa B0 H0 B H σ ρ) : RE K xa B σ (shv ρ) := by
  refine ⟨by unfold shv; rw [List.length_map, r.len]; exact Nat.le_refl _, fun i d h => ?_⟩
  unfold shv at h
  rw [List.getElem?_map] at h
  cases e : ρ[i]? with
  | none => rw [e] at h; cases h
  | some s =>
    rw [e] at h
    cases s with
    | no => cases h
    | own ds => cases h
    | sh d' =>
      cases h
      exact r.sh i d e
theorem RS.grow (r : RS K xa B0 H0 B H σ ρ) (g : Gw B H B' H') : RS K xa B0 H0 B' H' σ ρ := by
  refine ⟨r.gw.trans g, r.len, fun i d h => ?_, fun i ds h => ?_, r.ap⟩
  · obtain ⟨v, e, q⟩ := r.sh i d h
    exact ⟨v, e, q.mono g.bup⟩
  · obtain ⟨a, vs, e1, e2, e3, e4, q⟩ := r.own i ds h
    exact ⟨a, vs, e1, g.up _ _ e2, (g.old _ _ e2).trans e3, e4, q.mono g.bup⟩
/-- behind a look: the base stays as it was -/
theorem RS.keep (r : RS K xa B0 H0 B H σ ρ) (up : Ex H H') : RS K xa B0 H0 B H' σ ρ := by
  refine ⟨⟨r.gw.up.trans up, r.gw.bup, r.gw.le.trans up, r.gw.old⟩, r.len, r.sh, fun i ds h => ?_, r.ap⟩
  obtain ⟨a, vs, e1, e2, e3, e4, q⟩ := r.own i ds h
  exact ⟨a, vs, e1, up _ _ e2, e3, e4, q⟩
open Classical in
theorem RS.frA (r : RS K xa B0 H0 B H σ ρ) : ∃ B', Ex B B' ∧ RS K xa B0 H0 B' H σ (frA ρ) := by
  let own : Addr → Prop := fun a => ∃ (i : Nat) (ds : Ob), ρ[i]? = some (Sl.own ds) ∧ σ[i]? = some (some (V.ref a))
  have ownB : ∀ a, own a → (∃ vs, H a = some vs) ∧ B a = none ∧ H0 a = none := by
    rintro a ⟨i, ds, h1, h2⟩
    obtain ⟨b, vs, e1, e2, e3, e4, q⟩ := r.own i ds h1
    rw [e1] at h2
    cases h2
    exact ⟨⟨vs, e2⟩, e3, e4⟩
  have bb : Ex B (fun a => if own a then H a else B a) := fun a o e => by
    by_cases c : own a
    · rw [(ownB a c).2.1] at e
      cases e
    · show (if own a then H a else B a) = some o
      rw [if_neg c]
      exact e
  refine ⟨fun a => if own a then H a else B a, bb, ⟨⟨r.gw.up, r.gw.bup.trans bb, fun a o e => ?_, fun a o e => ?_⟩, ?_, fun i d h => ?_, fun i ds h => ?_, fun i j ds es a h1 h2 h3 h4 => ?_⟩⟩
  · by_cases c : own a
    · have e : (if own a then H a else B a) = some o := e
      rw [if_pos c] at e
      exact e
    · have e : (if own a then H a else B a) = some o := e
      rw [if_neg c] at e
      exact r.gw.le _ _ e
  · show (if own a then H a else B a) = B0 a
    by_cases c : own a
    · rw [(ownB a c).2.2] at e
      cases e
    · rw [if_neg c]
      exact r.gw.old a o e
  · unfold Pu.frA
    rw [List.length_map, r.len]
  · unfold Pu.frA at h
    rw [List.getElem?_map] at h
    cases e : ρ[i]? with
    | none => rw [e] at h; cases h
    | some s =>
      rw [e] at h
      cases s with
      | no => cases h
      | sh d' =>
        cases h
        obtain ⟨v, e1, q⟩ := r.sh i d e
        exact ⟨v, e1, q.mono bb⟩
      | own ds =>
        cases h
        obtain ⟨a, vs, e1, e2, e3, e4, q⟩ := r.own i ds e
        refine ⟨.ref a, e1, (q.mono bb).r ?_⟩
        show (if own a then H a else B a) = _
        rw [if_pos ⟨i, ds, e, e1⟩]
        exact e2
  · unfold Pu.frA at h
    rw [List.getElem?_map] at h
    cases e : ρ[i]? with
    | none => rw [e] at h; cases h
    | some s =>
      rw [e] at h
      cases s <;> cases h
  · unfold Pu.frA at h1
    rw [List.getElem?_map] at h1
    cases e : ρ[i]? with
    | none => rw [e] at h1; cases h1
    | some s =>
      rw [e] at h1
      cases s <;> cases h1
theorem getset {α : Type} {l : List α} {i j : Nat} {x y : α} (h : (l.set i x)[j]? = some y) : (i = j ∧ x = y ∧ j < l.length) ∨ (i ≠ j ∧ l[j]? = some y) := by
  by_cases e : i = j
  · subst e
    have hi : i < l.length := by
      by_cases hi : i < l.length
      · exact hi
      · rw [List.getElem?_eq_none (by rw [List.length_set]; omega)] at h
        cases h
    rw [List.getElem?_set_self hi] at h
    exact .inl ⟨rfl, Option.some.inj h, hi⟩
  · rw [List.getElem?_set_ne e] at h
    exact .inr ⟨e, h⟩
theorem RS.frI (r : RS K xa B0 H0 B H σ ρ) (i : Nat) : ∃ B', Ex B B' ∧ RS K xa B0 H0 B' H σ (frI ρ i) := by
  unfold Pu.frI
  cases e : ρ[i]? with
  | none => exact ⟨B, Ex.refl _, r⟩
  | some s =>
    have same : ∀ s : Sl, ρ[i]? = some s → ρ.set i s = ρ := fun s e => by
      refine List.ext_getElem? fun j => ?_
      by_cases hj : i = j
      · subst hj
        have hi : i < ρ.length := (List.getElem?_eq_some_iff.mp e).1
        rw [List.getElem?_set_self hi, e]
      · rw [List.getElem?_set_ne hj]
    cases s with
    | no =>
      refine ⟨B, Ex.refl _, ?_⟩
      show RS K xa B0 H0 B H σ (ρ.set i .no)
      rw [same _ e]
      exact r
    | sh d =>
      refine ⟨B, Ex.refl _, ?_⟩
      show RS K xa B0 H0 B H σ (ρ.set i (.sh d))
      rw [same _ e]
      exact r
    | own ds =>
      obtain ⟨a, vs, e1, e2, e3, e4, q⟩ := r.own i ds e
      have bb : Ex B (upd B a vs) := Ex.new e3
      refine ⟨upd B a vs, bb, ?_⟩
      show RS K xa B0 H0 _ H σ (ρ.set i (.sh ds.d))
      refine ⟨⟨r.gw.up, r.gw.bup.trans bb, fun b o z => ?_, fun b o z => ?_⟩, by rw [List.length_set, r.len], fun j d h => ?_, fun j es h => ?_, fun j k es fs b h1 h2 h3 h4 => ?_⟩
      · by_cases hb : b = a
        · subst hb
          rw [upd_same] at z
          rw [e2]
          exact z
        · rw [upd_ne hb] at z
          exact r.gw.le _ _ z
      · rw [upd_ne (ne_of_none z e4)]
        exact r.gw.old b o z
      · rcases getset h with ⟨rfl, z, _⟩ | ⟨n, h⟩
        · cases z
          exact ⟨.ref a, e1, (q.mono bb).r upd_same⟩
        · obtain ⟨v, e5, q5⟩ := r.sh j d h
          exact ⟨v, e5, q5.mono bb⟩
      · rcases getset h with ⟨rfl, z, _⟩ | ⟨n, h⟩
        · cases z
        · obtain ⟨b, ws, f1, f2, f3, f4, f5⟩ := r.own j es h
          refine ⟨b, ws, f1, f2, ?_, f4, f5.mono bb⟩
          rw [upd_ne]
          · exact f3
          · intro z
            subst z
            exact n (r.ap i j ds es b e h e1 f1)
      · rcases getset h1 with ⟨rfl, z, _⟩ | ⟨n, h1⟩
        · cases z
        · rcases getset h2 with ⟨rfl, z, _⟩ | ⟨n2, h2⟩
          · cases z
          · exact r.ap j k es fs b h1 h2 h3 h4
theorem RS.frz : ∀ (is : List Nat) {B : Hp} {ρ : SEnv}, RS K xa B0 H0 B H σ ρ → ∃ B', Ex B B' ∧ RS K xa B0 H0 B' H σ (frz is ρ)
  | [], B, _, r => ⟨B, Ex.refl _, r⟩
  | i :: is, B, ρ, r => by
    obtain ⟨B1, e1, r1⟩ := r.frI i
    obtain ⟨B2, e2, r2⟩ := RS.frz is r1
    exact ⟨B2, e1.trans e2, r2⟩
/-- slot l stands where slot φ l stood -/
theorem RS.pull {σ' : L2.St} {ρ' : SEnv} (r : RS K xa B0 H0 B H σ ρ) (φ : Nat → Nat) (inj : ∀ i j, i < ρ'.length → j < ρ'.length → φ i = φ j → i = j) (hl : ρ'.length = σ'.length) (hσ : ∀ i, i < ρ'.length → σ'[i]? = σ[φ i]?) (hρ : ∀ i, i < ρ'.length → ρ'[i]? = ρ[φ i]?) : RS K xa B0 H0 B H σ' ρ' := by
  have lt : ∀ {i : Nat} {s : Sl}, ρ'[i]? = some s → i < ρ'.length := fun h => (List.getElem?_eq_some_iff.mp h).1
  refine ⟨r.gw, hl, fun i d h => ?_, fun i ds h => ?_, fun i j ds es a h1 h2 h3 h4 => ?_⟩
  · rw [hσ i (lt h)]
    exact r.sh _ d ((hρ i (lt h)).symm.trans h)
  · rw [hσ i (lt h)]
    exact r.own _ ds ((hρ i (lt h)).symm.trans h)
  · exact inj i j (lt h1) (lt h2) (r.ap _ _ ds es a ((hρ i (lt h1)).symm.trans h1) ((hρ j (lt h2)).symm.trans h2) ((hσ i (lt h1)).symm.trans h3) ((hσ j (lt h2)).symm.trans h4))
theorem RS.set {v : V} {d : D} (r : RS K xa B0 H0 B H σ ρ) (q : R K xa B v d) (i : Nat) : RS K xa B0 H0 B H (σ.set i (some v)) (ρ.set i (.sh d)) := by
  have ns : ∀ {j : Nat} {es : Ob} {a : Addr}, (ρ.set i (.sh d))[j]? = some (.own es) → (σ.set i (some v))[j]? = some (some (.ref a)) → ρ[j]? = some (.own es) ∧ σ[j]? = some (some (.ref a)) := fun h h' => by
    rcases getset h with ⟨_, z, _⟩ | ⟨n, h⟩
    · cases z
    · rw [List.getElem?_set_ne n] at h'
      exact ⟨h, h'⟩
  refine ⟨r.gw, by rw [List.length_set, List.length_set, r.len], fun j e h => ?_, fun j ds h => ?_, fun j k ds es a h1 h2 h3 h4 => ?_⟩
  · rcases getset h with ⟨rfl, z, hl⟩ | ⟨n, h⟩
    · cases z
      exact ⟨v, List.getElem?_set_self (by rw [← r.len]; exact hl), q⟩
    · obtain ⟨w, e1, q1⟩ := r.sh j e h
      exact ⟨w, by rw [List.getElem?_set_ne n]; exact e1, q1⟩
  · rcases getset h with ⟨_, z, _⟩ | ⟨n, h⟩
    · cases z
    · rw [List.getElem?_set_ne n]
      exact r.own j ds h
  · obtain ⟨a1, a2⟩ := ns h1 h3
    obtain ⟨b1, b2⟩ := ns h2 h4
    exact r.ap j k ds es a a1 b1 a2 b2
theorem RS.lose (r : RS K xa B0 H0 B H σ ρ) (o : Option V) (i : Nat) : RS K xa B0 H0 B H (σ.set i o) (ρ.set i .no) := by
  have ns : ∀ {j : Nat} {es : Ob} {a : Addr}, (ρ.set i .no)[j]? = some (.own es) → (σ.set i o)[j]? = some (some (.ref a)) → ρ[j]? = some (.own es) ∧ σ[j]? = some (some (.ref a)) := fun h h' => by
    rcases getset h with ⟨_, z, _⟩ | ⟨n, h⟩
    · cases z
    · rw [List.getElem?_set_ne n] at h'
      exact ⟨h, h'⟩
  refine ⟨r.gw, by rw [List.length_set, List.length_set, r.len], fun j e h => ?_, fun j ds h => ?_, fun j k ds es a h1 h2 h3 h4 => ?_⟩
  · rcases getset h with ⟨_, z, _⟩ | ⟨n, h⟩
    · cases z
    · rw [List.getElem?_set_ne n]
      exact r.sh j e h
  · rcases getset h with ⟨_, z, _⟩ | ⟨n, h⟩
    · cases z
    · rw [List.getElem?_set_ne n]
      exact r.own j ds h
  · obtain ⟨a1, a2⟩ := ns h1 h3
    obtain ⟨b1, b2⟩ := ns h2 h4
    exact r.ap j k ds es a a1 b1 a2 b2
/-- an own list is changed in its place -/
theorem RS.mutOb {a : Addr} {xs : HO} {i : Nat} {ds ds' : Ob} (r : RS K xa B0 H0 B H σ ρ) (hi : ρ[i]? = some (.own ds)) (ha : σ[i]? = some (some (.ref a))) (q : RO K xa B xs ds') : RS K xa B0 H0 B (upd H a xs) σ (ρ.set i (.own ds')) := by
  obtain ⟨b, vs, e1, e2, e3, e4, _⟩ := r.own i ds hi
  rw [e1] at ha
  cases ha
  refine ⟨⟨Ex.mut r.gw.up e4, r.gw.bup, Ex.mut r.gw.le e3, r.gw.old⟩, by rw [List.length_set, r.len], fun j e h => ?_, fun j es h => ?_, fun j k es fs c h1 h2 h3 h4 => ?_⟩
  · rcases getset h with ⟨_, z, _⟩ | ⟨n, h⟩
    · cases z
    · exact r.sh j e h
  · rcases getset h with ⟨rfl, z, hl⟩ | ⟨n, h⟩
    · cases z
      exact ⟨a, xs, e1, upd_same, e3, e4, q⟩
    · obtain ⟨c, ws, f1, f2, f3, f4, f5⟩ := r.own j es h
      have hc : c ≠ a := by
        intro z
        subst z
        exact n (r.ap i j ds es c hi h e1 f1)
      exact ⟨c, ws, f1, by rw [upd_ne hc]; exact f2, f3, f4, f5⟩
  · have back : ∀ {j : Nat} {es : Ob}, (ρ.set i (.own ds'))[j]? = some (.own es) → ∃ es', ρ[j]? = some (.own es') := fun {j es} h => by
      rcases getset h with ⟨rfl, z, _⟩ | ⟨_, h⟩
      · exact ⟨ds, hi⟩
      · exact ⟨es, h⟩
    obtain ⟨es', h1⟩ := back h1
    obtain ⟨fs', h2⟩ := back h2
    exact r.ap j k es' fs' c h1 h2 h3 h4
theorem RS.mut {a : Addr} {xs : List V} {i : Nat} {ds ds' : List D} (r : RS K xa B0 H0 B H σ ρ) (hi : ρ[i]? = some (.ow ds)) (ha : σ[i]? = some (some (.ref a))) (q : RL K xa B xs ds') : RS K xa B0 H0 B (upd H a (.lst xs)) σ (ρ.set i (.ow ds')) := r.mutOb hi ha (.L q)
theorem RS.ow (r : RS K xa B0 H0 B H σ ρ) (i : Nat) (ds : List D) (h : ρ[i]? = some (.ow ds)) : ∃ a vs, σ[i]? = some (some (.ref a)) ∧ H a = some (.lst vs) ∧ B a = none ∧ H0 a = none ∧ RL K xa B vs ds := by
  obtain ⟨a, u, e1, e2, e3, e4, q⟩ := r.own i _ h
  cases q with
  | L q => exact ⟨a, _, e1, e2, e3, e4, q⟩
theorem RS.od (r : RS K xa B0 H0 B H σ ρ) (i : Nat) (ds : List (DK × D)) (h : ρ[i]? = some (.od ds)) : ∃ a vs, σ[i]? = some (some (.ref a)) ∧ H a = some (.dK vs) ∧ B a = none ∧ H0 a = none ∧ RK K xa B vs ds := by
  obtain ⟨a, u, e1, e2, e3, e4, q⟩ := r.own i _ h
  cases q with
  | T q => exact ⟨a, _, e1, e2, e3, e4, q⟩
end
inductive Out where
  | nx (ρ : SEnv) | rt (d : D) | bk (ρ : SEnv) | ct (ρ : SEnv) | ex (x : Xc) (ρ : SEnv) | st
def pS (K : PySem.W.Frag) (xa : Xa) (W : WX) (B0 H0 : Hp) (Dn : Ends) : Out → Prop
  | .nx ρ => ∀ σ B H, RS K xa B0 H0 B H σ ρ → Dn.nx σ H
  | .rt d => ∀ v B H, Gw B0 H0 B H → R K xa B v d → Dn.rt v H
  | .bk ρ => ∀ σ B H, RS K xa B0 H0 B H σ ρ → Dn.bk σ H
  | .ct ρ => ∀ σ B H, RS K xa B0 H0 B H σ ρ → Dn.ct σ H
  | .ex x ρ => ∀ c dx σ B H, RS K xa B0 H0 B H σ ρ → XR K B c dx x → W c dx σ H
  | .st => False
abbrev SF := SEnv → Out
def tS (K : PySem.W.Frag) (xa : Xa) (W : WX) (f : SF) : TS := fun Dn σ H => ∃ B0 H0 B ρ, RS K xa B0 H0 B H σ ρ ∧ pS K xa W B0 H0 Dn (f ρ)
abbrev Ps (X : Cx) (xa : Xa) (W : WX) (st : Stmt) (f : SF) : Prop := PS X st (tS X.K xa W f)
abbrev Pss (X : Cx) (xa : Xa) (W : WX) (st : List Stmt) (f : SF) : Prop := PSs X st (tS X.K xa W f)
def sqS (f g : SF) : SF := fun ρ => match f ρ with
  | .nx ρ' => g ρ'
  | o => o
def nxS : SF := fun ρ => .nx ρ
/-- behind a part: share, look -/
def shB {α : Type} (r : Res α) (ρ : SEnv) (k : α → Out) : Out := match r with
  | .ok a => k a
  | .ex x => .ex x ρ
  | .st => .st
def exS (f : F) : SF := fun ρ => shB (f (pkv ρ)) (frA ρ) fun _ => .nx ρ
def reS (f : F) : SF := fun ρ => shB (f (pkv ρ)) (frA ρ) fun d => .rt d
def ifS (c : T) (f g : SF) : SF := fun ρ => shB (c (pkv ρ)) (frA ρ) fun b => if b = true then f ρ else g ρ
def imm : D → Bool
  | .non => true
  | .bl _ => true
  | .int _ => true
  | .str _ => true
  | _ => false
def asS (i : Nat) (f : F) : SF := fun ρ => shB (f (shv ρ)) ρ fun d => .nx (ρ.set i (.sh d))
def setsS (ρ : SEnv) : List (Nat × D) → SEnv
  | [] => ρ
  | (i, d) :: r => setsS (ρ.set i (.sh d)) r
theorem R.imm {K : PySem.W.Frag} {xa : Xa} {B B' : Hp} {v : V} {d : D} (h : R K xa B v d) (i : imm d = true) : R K xa B' v d := by
  cases h with
  | non => exact .non
  | bl b => exact .bl b
  | int b => exact .int b
  | str b => exact .str b
  | lst _ _ => cases i
  | tup _ _ => cases i
  | frl _ _ => cases i
  | tpz _ _ _ _ => cases i
  | exv _ => cases i
  | exf _ _ _ => cases i
  | obj _ _ => cases i
  | dct _ _ => cases i
  | dco _ _ => cases i
  | adr _ => cases i
section
variable {X : Cx} {xa : Xa} {W : WX} {pos : Pos} {e c : Expr} {st : Stmt} {rest sa sb : List Stmt} {f g : SF} {h : F}
theorem s_nil : Pss X xa W [] nxS := PSs.imp pss_nil fun Dn σ H ⟨B0, H0, B, ρ, r, p⟩ => p σ B H r
theorem s_cons (h1 : Ps X xa W st f) (h2 : Pss X xa W rest g) : Pss X xa W (st :: rest) (sqS f g) := by
  refine PSs.imp (pss_cons h1 h2) fun Dn σ H ⟨B0, H0, B, ρ, r, p⟩ => ⟨B0, H0, B, ρ, r, ?_⟩
  unfold sqS at p
  cases q : f ρ with
  | nx ρ' =>
    rw [q] at p
    exact fun σ' B' H' r' => ⟨B0, H0, B', ρ', r', p⟩
  | rt d => rw [q] at p; exact p
  | bk ρ' => rw [q] at p; exact p
  | ct ρ' => rw [q] at p; exact p
  | ex x ρ' => rw [q] at p; exact p
  | st => rw [q] at p; exact p
theorem s_one (h1 : Ps X xa W st f) : Pss X xa W [st] f := pss_one h1
/-- a part that shares -/
theorem meet {α β : Type} {Rel : Hp → β → α → Prop} {K : PySem.W.Frag} {q : Env → Res α} {B0 H0 B H : Hp} {σ : L2.St} {ρ : SEnv} {Dn : Ends} {k : α → Out} {Q : β → Hp → Prop} (r : RS K xa B0 H0 B H σ ρ) (p : pS K xa W B0 H0 Dn (shB (q (shv ρ)) ρ k))
    (hk : ∀ d v B' H', Gw B H B' H' → Rel B' v d → RS K xa B0 H0 B' H' σ ρ → pS K xa W B0 H0 Dn (k d) → Q v H') : tPx K xa Rel W q σ H Q := by
  refine ⟨B, shv ρ, r.gw.le, r.re, ?_⟩
  cases z : q (shv ρ) with
  | ok d =>
    rw [z] at p
    exact fun v B' H' g rel => hk d v B' H' g rel (r.grow g) p
  | ex x =>
    rw [z] at p
    exact fun c dx B' H' g xr => p c dx σ B' H' (r.grow g) xr
  | st =>
    rw [z] at p
    exact p
/-- a part that only looks -/
theorem peek {α β : Type} {Rel : Hp → β → α → Prop} {K : PySem.W.Frag} {q : Env → Res α} {B0 H0 B H : Hp} {σ : L2.St} {ρ : SEnv} {Dn : Ends} {k : α → Out} {Q : β → Hp → Prop} (r : RS K xa B0 H0 B H σ ρ) (p : pS K xa W B0 H0 Dn (shB (q (pkv ρ)) (frA ρ) k))
    (hk : ∀ d v B' H', Gw B0 H0 B' H' → Rel B' v d → RS K xa B0 H0 B H' σ ρ → pS K xa W B0 H0 Dn (k d) → Q v H') : tPx K xa Rel W q σ H Q := by
  obtain ⟨B1, e1, r1⟩ := r.frA
  refine ⟨B1, shv (frA ρ), r1.gw.le, r1.re, ?_⟩
  rw [shv_frA]
  cases z : q (pkv ρ) with
  | ok d =>
    rw [z] at p
    exact fun v B' H' g rel => hk d v B' H' (r1.gw.trans g) rel (r.keep g.up) p
  | ex x =>
    rw [z] at p
    exact fun c dx B' H' g xr => p c dx σ B' H' (r1.grow g) xr
  | st =>
    rw [z] at p
    exact p
theorem s_expr (he : Pe X xa W e h) (hs : swapsWith e none pos.line X.env = pure false := by rfl) : Ps X xa W (.Expr e pos) (exS h) := by
  refine PS.imp (ps_expr he hs) fun Dn σ H ⟨B0, H0, B, ρ, r, p⟩ => ?_
  exact peek r p fun d v B' H' g rel r' k => k σ B H' r'
theorem s_ret (he : Pe X xa W e h) : Ps X xa W (.Return (some e) pos) (reS h) := by
  refine PS.imp (ps_ret he) fun Dn σ H ⟨B0, H0, B, ρ, r, p⟩ => ?_
  exact peek r p fun d v B' H' g rel r' k => k v B' H' g rel
theorem s_if {q : T} (hc : Pt X xa W c q) (ha : Pss X xa W sa f) (hb : Pss X xa W sb g) : Ps X xa W (.If c sa sb pos) (ifS q f g) := by
  refine PS.imp (ps_if hc ha hb) fun Dn σ H ⟨B0, H0, B, ρ, r, p⟩ => ?_
  refine peek r p fun d v B' H' g rel r' k => ?_
  have rel : v = d := rel
  subst rel
  cases v with
  | true => exact ⟨B0, H0, B, ρ, r', k⟩
  | false => exact ⟨B0, H0, B, ρ, r', k⟩
theorem s_set (i : Nat) {x : Str} {pos' : Pos} (hN : X.N.Nodup) (he : Pe X xa W e h) (hi : X.N[i]? = some x := by rfl) (hx : Loc X.env.scope x := by first | exact Or.inl rfl | exact Or.inr rfl) (hs : swapsWith e (some (.Name x pos')) pos.line X.env = pure false := by rfl) (hf : X.fn x = true ∨ X.env.scope.names.lookup x = some .local := by first | exact .inl rfl | exact .inr rfl) :
    Ps X xa W (.Assign [.Name x pos'] e pos) (asS i h) := by
  refine PS.imp (ps_set hN hi hx he hs hf) fun Dn σ H ⟨B0, H0, B, ρ, r, p⟩ => ?_
  exact meet r p fun d v B' H' g rel r' k => k _ B' H' (r'.set rel i)
theorem RS.sets {K : PySem.W.Frag} {B0 H0 B H : Hp} : ∀ (xs : List V) (ds : List D) (is : List Nat) (σ : L2.St) (ρ : SEnv), RS K xa B0 H0 B H σ ρ → RL K xa B xs ds → RS K xa B0 H0 B H (setsV σ (is.zip xs)) (setsS ρ (is.zip ds))
  | _, _, [], _, _, re, _ => re
  | _, _, _ :: _, _, _, re, .nil => re
  | _ :: xs, _ :: ds, i :: is, _, _, re, .cons r t => by
    have h := RS.sets xs ds is _ _ (re.set r i) t
    exact h
theorem tg_meetS {K : PySem.W.Frag} {B0 H0 B H : Hp} {σ : L2.St} {ρ : SEnv} {t : Tg} {v : V} {d : D} {ps : List (Nat × D)} {Q : L2.St → Hp → Prop} (rs : RS K xa B0 H0 B H σ ρ) (r : R K xa B v d) (h : bnd t d = some ps)
    (k : ∀ σ', RS K xa B0 H0 B H σ' (setsS ρ ps) → Q σ' H) : gD t v σ H Q := by
  have le := rs.gw.le
  cases t with
  | nm i =>
    cases h
    exact k _ (rs.set r i)
  | tp is =>
    cases r with
    | @tup a xs ds h1 q1 =>
      have h : (if is.length = ds.length then some (is.zip ds) else none) = some ps := h
      by_cases c : is.length = ds.length
      · rw [if_pos c] at h
        cases h
        exact ⟨a, xs, rfl, .inl (le _ _ h1), by rw [q1.length, c], k _ (RS.sets _ _ is _ _ rs q1)⟩
      · rw [if_neg c] at h
        cases h
    | @lst a xs ds h1 q1 =>
      have h : (if is.length = ds.length then some (is.zip ds) else none) = some ps := h
      by_cases c : is.length = ds.length
      · rw [if_pos c] at h
        cases h
        exact ⟨a, xs, rfl, .inr (le _ _ h1), by rw [q1.length, c], k _ (RS.sets _ _ is _ _ rs q1)⟩
      · rw [if_neg c] at h
        cases h
    | _ => cases h
end
end Pu

namespace Pu
open PySem PySem.Spec PyProof.Rows L2 Evl
def spP (K : PySem.W.Frag) (n : Nat) (m : List D → Res D) : Sp := fun vs H Q E => vs.length = n ∧ ∃ Hb ds, Ex Hb H ∧ RL K none Hb vs ds ∧ post K (R K none) E Hb H Q (m ds)
def outR : Out → Res D
  | .nx _ => .ok .non
  | .rt d => .ok d
  | .ex x _ => .ex x
  | _ => .st
def noS : Nat → SEnv
  | 0 => []
  | k + 1 => .no :: noS k
theorem noS_eq (k : Nat) : noS k = List.replicate k .no := by
  induction k with
  | zero => rfl
  | succ k ih => rw [noS, ih, List.replicate_succ]
def dfM (n k : Nat) (f : SF) : List D → Res D := fun ds => if ds.length = n then outR (f (ds.map .sh ++ noS k)) else .st
theorem dfM_st {n k : Nat} {f : SF} {ds : List D} (h : ds.length ≠ n) : dfM n k f ds = .st := if_neg h
/-- what a call may need of the def named x -/
structure Fn (P : Program) (w : World) (K : PySem.W.Frag) (mg : Str → Option Value) (base : Heap) (k : Nat) (x : Str) (n : Nat) (m : List D → Res D) : Prop where
  ex : ∃ (f : Addr) (fd : FuncData) (ps : List Str), FnOk P w K mg base (L2N.CX P w) k f fd ps (spP K n m) ∧ mg x = some (.ref f) ∧ PySem.W.keepIn K (.ref f) = true ∧ Binds K fd ps []
  st : ∀ ds, ds.length ≠ n → m ds = .st
theorem RS.start {K : PySem.W.Frag} {B H : Hp} {vs : List V} {ds : List D} {k : Nat} {N : List Str} (le : Ex B H) (r : RL K none B vs ds) (hk : N.length = ds.length + k) : RS K none B H B H (L2.start N vs) (ds.map .sh ++ noS k) := by
  have hl := r.length
  rw [noS_eq]
  have only : ∀ {i : Nat} {s : Sl}, (ds.map Sl.sh ++ List.replicate k Sl.no)[i]? = some s → s = .no ∨ ∃ d, s = .sh d ∧ ds[i]? = some d := fun {i s} h => by
    by_cases hi : i < ds.length
    · rw [List.getElem?_append_left (by rw [List.length_map]; exact hi), List.getElem?_map, List.getElem?_eq_getElem hi] at h
      cases h
      exact .inr ⟨_, rfl, List.getElem?_eq_getElem hi⟩
    · rw [List.getElem?_append_right (by rw [List.length_map]; omega)] at h
      have h2 := List.mem_of_getElem? h
      exact .inl (List.eq_of_mem_replicate h2)
  refine ⟨Gw.refl le, ?_, fun i d h => ?_, fun i es h => ?_, fun i j es fs a h _ _ _ => ?_⟩
  · unfold L2.start
    rw [List.length_append, List.length_append, List.length_map, List.length_map, List.length_replicate, List.length_replicate, hl]
    omega
  · rcases only h with z | ⟨d', z, e⟩
    · cases z
    · cases z
      obtain ⟨v, e1, q⟩ := r.get e
      refine ⟨v, ?_, q⟩
      have hi : i < vs.length := (List.getElem?_eq_some_iff.mp e1).1
      unfold L2.start
      rw [List.getElem?_append_left (by rw [List.length_map]; exact hi), List.getElem?_map, e1]
      rfl
  · rcases only h with z | ⟨d', z, e⟩ <;> cases z
  · rcases only h with z | ⟨d', z, e⟩ <;> cases z
abbrev WO (E : XK) : WX := fun c d _ H => E c d H
theorem fn_def {P : Program} {w : World} {K : PySem.W.Frag} {mg : Str → Option Value} {base : Heap} {x qual : Str} {params : Arguments} {body : List Stmt} {scope : Scope} {dvs : List V} {kws : List (Str × V)} {f : Addr} {fd : FuncData} {N ps : List Str} {k n m : Nat} {g : SF}
    (F : FunD K x qual params body scope dvs kws f fd) (S : FnScope N ps scope) (hn : ps.length = n) (hk : N.length = n + m)
    (hbody : ∀ (cdv : Value) (A : Around) (outer : List PySem.Env) (s : Shared) (H : Hp) (E : XK), Room k (A.deeper (envOfC qual scope s.heap.objs.size f cdv)) → L2N.Takes (cxOf (L2N.CX P w) P w K mg base N qual scope f cdv A outer s H E) (WO E) →
      PassesOwn (model P w) (A.deeper (envOfC qual scope s.heap.objs.size f cdv)) (envOfC qual scope s.heap.objs.size f cdv) (cxOf (L2N.CX P w) P w K mg base N qual scope f cdv A outer s H E).xe →
      Pss (cxOf (L2N.CX P w) P w K mg base N qual scope f cdv A outer s H E) none (WO E) body g) : FnOk P w K mg base (L2N.CX P w) (k + 1) f fd ps (spP K n (dfM n m g)) := by
  refine F.ok S (fun vs H Q E h => by rw [hn]; exact h.1) (fun cdv A outer s H vs Q E hr h => ⟨_, hbody cdv A outer s H E hr (L2N.takes_of rfl rfl rfl rfl) (passes_of (K := fun e s'' => L2N.CX P w outer H s E e s'') rfl), ?_⟩)
  obtain ⟨hl, Hb, ds, le, rl, p⟩ := h
  have hd : ds.length = n := by rw [← rl.length, hl]
  have rs : RS K none Hb H Hb H (L2.start N vs) (ds.map Sl.sh ++ noS m) := RS.start le rl (by rw [hd]; exact hk)
  refine ⟨Hb, H, Hb, ds.map Sl.sh ++ noS m, rs, ?_⟩
  unfold dfM at p
  rw [if_pos hd] at p
  cases z : g (ds.map .sh ++ noS m) with
  | nx ρ =>
    rw [z] at p
    exact fun σ B H' r => p .non B H' r.gw .non
  | rt d =>
    rw [z] at p
    exact fun v B H' gw r => p v B H' gw r
  | ex x ρ =>
    rw [z] at p
    exact fun c dx σ B H' r xr => p c dx B H' r.gw xr
  | bk ρ => rw [z] at p; exact p.elim
  | ct ρ => rw [z] at p; exact p.elim
  | st => rw [z] at p; exact p.elim
section
variable {X : Cx} {W : WX} {pos : Pos} {e : Expr} {es : List Expr} {fs : Fs}
theorem tk0 {X : Cx} : L2N.Takes X fun _ _ _ _ => False := fun _ _ ⟨_, _, _, _, _, _, _, _, _, _, _, _, _, _, _, _, z⟩ => z.elim
theorem p_call {x : Str} {k j n : Nat} {m : List D → Res D} {p : Pos} (F : Fn X.prog X.w X.K X.mg X.base k x n m) (hr : Room j X.A) (tk : L2N.Takes X W) (ha : Pa X none W (e :: es) fs) (hk : k ≤ j := by decide) (hg : Gl X x := by rfl) (hdb : (x == ("__debug__" : Str)) = false := by decide)
    (he : starEach (e :: es) X.env = (false, eval e X.env) :: starEach es X.env := by rfl) (hpl : (backTo pos (starEach es X.env)).any (·.1) = false := by rfl) : Pe X none W (.Call (.Name x p) (e :: es) [] pos) (calF m fs) := by
  obtain ⟨f, fd, ps, F1, hm, hkp, hb⟩ := F.ex
  refine PE.imp (pe_callS F1 (hr.mono hk) hg hm hkp hb (fun σ => L2N.passAt tk σ) ha hdb he hpl) fun σ H Q hq => ?_
  obtain ⟨Hb, ρ, le, re, p⟩ := hq
  refine ⟨Hb, ρ, le, re, post_bind le p fun ds vs B1 H1 e1 g1 r1 p1 => ?_⟩
  by_cases hl : ds.length = n
  · exact ⟨by rw [r1.length, hl], B1, ds, g1.le, r1, p1⟩
  · rw [F.st ds hl] at p1
    exact p1.elim
end
def forGo (t : Tg) (f : SF) : List D → SEnv → Out
  | [], ρ => .nx ρ
  | d :: ds, ρ => match bnd t d with
    | none => .st
    | some ps => match f (setsS ρ ps) with
      | .nx ρ' => forGo t f ds ρ'
      | .ct ρ' => forGo t f ds ρ'
      | .bk ρ' => .nx ρ'
      | o => o
def forS (it : Fs) (t : Tg) (f : SF) : SF := fun ρ => shB (it (shv ρ)) ρ fun ds => forGo t f ds ρ
section
variable {K : PySem.W.Frag} {xa : Xa} {W : WX} {B0 H0 B1 H1 B H : Hp} {σ : L2.St} {ρ : SEnv}
/-- the floor is lifted -/
theorem Gw.low (g : Gw B0 H0 B1 H1) (h : Gw B1 H0 B H) : Gw B0 H0 B H := ⟨h.up, g.bup.trans h.bup, h.le, fun a o e => (h.old a o e).trans (g.old a o e)⟩
theorem RS.low (g : Gw B0 H0 B1 H1) (r : RS K xa B1 H0 B H σ ρ) : RS K xa B0 H0 B H σ ρ := ⟨g.low r.gw, r.len, r.sh, r.own, r.ap⟩
theorem RS.lift (r : RS K xa B0 H0 B H σ ρ) : RS K xa B H0 B H σ ρ := ⟨⟨r.gw.up, Ex.refl _, r.gw.le, fun _ _ _ => rfl⟩, r.len, r.sh, r.own, r.ap⟩
theorem pS.lift {Dn : Ends} {o : Out} (g : Gw B0 H0 B1 H1) (p : pS K xa W B0 H0 Dn o) : pS K xa W B1 H0 Dn o := by
  cases o with
  | nx ρ => exact fun σ B H r => p σ B H (r.low g)
  | rt d => exact fun v B H r q => p v B H (g.low r) q
  | bk ρ => exact fun σ B H r => p σ B H (r.low g)
  | ct ρ => exact fun σ B H r => p σ B H (r.low g)
  | ex x ρ => exact fun c dx σ B H r q => p c dx σ B H (r.low g) q
  | st => exact p
end
section
variable {X : Cx} {xa : Xa} {W : WX} {pos : Pos} {tg iter c : Expr} {body : List Stmt}
theorem s_for {it : Fs} {t : Tg} {f : SF} (hp : PassesOwn (model X.prog X.w) X.A X.env X.xe) (hc : X.calm = true) (hi : Pi X xa W tg iter it) (hg : Pg X tg t) (hb : Pss X xa W body f) (hs : ∀ x, foldedSetIterable iter X.env x = pure x := by intro _; rfl) :
    Ps X xa W (.For tg iter body [] pos) (forS it t f) := by
  refine PS.imp (ps_for hp hc hi hg hb hs) fun Dn σ H ⟨B0, H0, B, ρ, r, p⟩ => ?_
  refine meet r p fun ds J B1 H1 g1 wk r1 p1 => ?_
  have p1 := p1.lift r1.gw
  have r1 := r1.lift
  refine ⟨fun i m σ H => m = ds.length - i ∧ i ≤ ds.length ∧ ∃ B ρ, RS X.K xa B1 H0 B H σ ρ ∧ pS X.K xa W B1 H0 Dn (forGo t f (ds.drop i) ρ), ⟨ds.length, rfl, Nat.zero_le _, B1, ρ, r1, by rw [List.drop_zero]; exact p1⟩, ?_⟩
  rintro i m σ H ⟨rfl, hi, B, ρ, r, p⟩
  have eb := r.gw.bup
  by_cases hlt : i < ds.length
  · rw [drop_at hlt] at p
    unfold forGo at p
    refine .inr ⟨wk.go i B H eb r.gw.le hlt, fun σ' H' => ∃ B' ρ', RS X.K xa B1 H0 B' H' σ' ρ' ∧ pS X.K xa W B1 H0 Dn (forGo t f (ds.drop (i + 1)) ρ'), fun σ' H' h' => ⟨ds.length - (i + 1), by omega, rfl, hlt, h'⟩, fun x H3 hy => ?_⟩
    obtain ⟨B3, g3, r3⟩ := wk.yld i B H x H3 ds[i] eb r.gw.le (List.getElem?_eq_getElem hlt) hy
    cases h1 : bnd t ds[i] with
    | none => rw [h1] at p; exact p.elim
    | some ps =>
      rw [h1] at p
      dsimp only at p
      refine tg_meetS (r.grow g3) r3 h1 fun σ' r4 => ⟨B1, H0, B3, _, r4, ?_⟩
      cases h2 : f (setsS ρ ps) with
      | nx ρ' =>
        rw [h2] at p
        exact fun σ'' B'' H'' r'' => ⟨B'', ρ', r'', p⟩
      | ct ρ' =>
        rw [h2] at p
        exact fun σ'' B'' H'' r'' => ⟨B'', ρ', r'', p⟩
      | bk ρ' => rw [h2] at p; exact p
      | rt d => rw [h2] at p; exact p
      | ex x ρ' => rw [h2] at p; exact p
      | st => rw [h2] at p; exact p
  · have ei : i = ds.length := by omega
    subst ei
    rw [List.drop_length] at p
    exact .inl ⟨wk.stop B H eb r.gw.le, p σ B H r⟩
def whGo (q : T) (f : SF) : Nat → SEnv → Out
  | 0, _ => .st
  | n + 1, ρ => shB (q (pkv ρ)) (frA ρ) fun b => if b = true then (match f ρ with
      | .nx ρ' => whGo q f n ρ'
      | .ct ρ' => whGo q f n ρ'
      | .bk ρ' => .nx ρ'
      | o => o) else .nx ρ
def whS (n : Nat) (q : T) (f : SF) : SF := fun ρ => whGo q f n ρ
theorem s_while (n : Nat) {q : T} {f : SF} (hp : PassesOwn (model X.prog X.w) X.A X.env X.xe) (hc : Pt X xa W c q) (hb : Pss X xa W body f) : Ps X xa W (.While c body [] pos) (whS n q f) := by
  refine PS.imp (ps_while hp hc hb) fun Dn σ H ⟨B0, H0, B, ρ, r, p⟩ => ?_
  refine ⟨fun m σ H => ∃ B ρ, RS X.K xa B0 H0 B H σ ρ ∧ pS X.K xa W B0 H0 Dn (whGo q f m ρ), ⟨n, B, ρ, r, p⟩, ?_⟩
  rintro m σ H ⟨B, ρ, r, p⟩
  cases m with
  | zero => exact p.elim
  | succ m =>
    unfold whGo at p
    refine peek r p fun d v B' H' g rel r' k => ?_
    have rel : v = d := rel
    subst rel
    cases v with
    | false => exact k σ B H' r'
    | true =>
      rw [if_pos rfl] at k ⊢
      refine ⟨fun σ' H' => ∃ B ρ, RS X.K xa B0 H0 B H' σ' ρ ∧ pS X.K xa W B0 H0 Dn (whGo q f m ρ), fun σ' H' h => ⟨m, Nat.lt_succ_self _, h⟩, B0, H0, B, ρ, r', ?_⟩
      cases h2 : f ρ with
      | nx ρ' =>
        rw [h2] at k
        exact fun σ'' B'' H'' r'' => ⟨B'', ρ', r'', k⟩
      | ct ρ' =>
        rw [h2] at k
        exact fun σ'' B'' H'' r'' => ⟨B'', ρ', r'', k⟩
      | bk ρ' => rw [h2] at k; exact k
      | rt d => rw [h2] at k; exact k
      | ex x ρ' => rw [h2] at k; exact k
      | st => rw [h2] at k; exact k
end
section
variable {X : Cx} {xa : Xa} {W : WX} {pos : Pos} {e : Expr}
end
def apS (i : Nat) (h : F) : SF := fun ρ => match ρ[i]? with
  | some (.own (.L ds)) => if ds.length < 1000000 then shB (h (shv ρ)) ρ fun d => .nx (ρ.set i (.ow (ds ++ [d]))) else .st
  | _ => .st
section
variable {X : Cx} {xa : Xa} {W : WX} {pos pos' p1 p2 : Pos} {e : Expr} {h : F}
end
end Pu

namespace Pu
open PySem PySem.Spec PyProof.Rows L2 Evl
abbrev Cl := Value × Nat × (Addr → Value → Option Addr → TS)
def asE (Dn : Ends) (i : Nat) : Ends := { nx := fun τ G => Dn.nx (τ.set i none) G, rt := Dn.rt, bk := fun τ G => Dn.bk (τ.set i none) G, ct := fun τ G => Dn.ct (τ.set i none) G }
def wCl (K : PySem.W.Frag) (Wo : WX) (Dn : Ends) : List Cl → WX
  | [] => Wo
  | cl :: r => fun cls dx τ G => ∃ b, PySem.W.exmOne K cls cl.1 = some b ∧ (b = true → ∀ a, G a = none → cl.2.2 a cls dx (asE Dn cl.2.1) (τ.set cl.2.1 (some (.ref a))) G) ∧ (b = false → wCl K Wo Dn r cls dx τ G)
inductive ClOk (X : Cx) : List ExceptHandler → List Cl → Prop
  | nil : ClOk X [] []
  | cons {x n : Str} {c : Value} {i : Nat} {ts : Addr → Value → Option Addr → TS} {b0 : Stmt} {bs : List Stmt} {np hp : Pos} {hs : List ExceptHandler} {l : List Cl} (hN : X.N.Nodup) (hi : X.N[i]? = some n) (hl : X.env.kindOf n = some .local) (hc : Names X x c)
      (run : ∀ (a : Addr) (o : Obj) (cls : Value) (dx : Option Addr) (pn : List (Addr × Obj)), Zc cls dx o → (∃ vs, o.data = .fields vs) → PSs (X.suite a ((a, o) :: pn)) (b0 :: bs) (ts a cls dx)) (r : ClOk X hs l) :
      ClOk X (.ExceptHandler (some (.Name x np)) (some n) (b0 :: bs) hp :: hs) ((c, i, ts) :: l)
section
variable {X : Cx} {Wo : WX} {Dn : Ends} {pins : List (Addr × Obj)}
/-- the exception has landed: the clauses, one by one -/
theorem clauses {a : Addr} {B : Heap} {sI s1 : Shared} {h1 : Heap} {τ : L2.St} {G : Hp} {cls : Value} {dx : Option Addr} (hs : X.stack = X.env :: X.outer) (hf : X.env.frame = some X.env.locals) (tk : L2N.Takes X Wo) (ok : X.Ok) (J : Inv X pins τ G sI)
    (nb : ∀ b o, sI.heap.get? b = some o → b ∉ frs X.stack → B.get? b = some o) (up : sI.heap.UpToSlots h1) (fl : HandSPX.FlyingZ B (X.env :: X.outer) a (L2N.Zn cls dx) h1) (na : G a = none) (os : s1.os = sI.os) (ag : AllBare s1.gens) :
    ∀ {hs' : List ExceptHandler} {l : List Cl}, ClOk X hs' l → wCl X.K Wo Dn l cls dx τ G → wpAny (model X.prog X.w) X.A (handleBy (.ref a) X.env hs') (SP X pins Dn) X.xe { s1 with heap := h1 } := by
  have J1 : Inv X pins τ G { s1 with heap := h1 } := J.landed nb fl.1 up os ag
  obtain ⟨o1, vs1, g1, z1, d1⟩ := fl.there
  have off : a ∉ frs (X.env :: X.outer) := fun m => by
    obtain ⟨_, o2, g2, nf⟩ := fl.2.2.1.mem m
    rw [g1] at g2
    cases g2
    exact nf _ d1
  have offL : a ≠ X.env.locals := fun z => off (List.mem_filterMap.mpr ⟨X.env, List.mem_cons_self, by rw [hf, z]⟩)
  have offF : a ∉ X.fs := fun m => by
    obtain ⟨e, he, q⟩ := List.mem_filterMap.mp m
    exact off (List.mem_filterMap.mpr ⟨e, List.mem_cons_of_mem _ he, q⟩)
  have S1 := J1.suite g1 d1 na offL offF
  intro hs' l k
  induction k with
  | nil =>
    intro w
    obtain ⟨k1, k2, k3, oe, vs, T, oT, ts, he, hz, hd, hv, hr⟩ := id fl
    have goes : wpAny (model X.prog X.w) X.A (setFlight (.ref a) X.env.frame) (fun _ s2 => wpAny (model X.prog X.w) X.A (throw (.ref a) : Sem Flow) (SP X pins Dn) X.xe s2) X.xe { s1 with heap := h1 } := by
      rw [hf]
      exact HandSPX.setFlight_upZ fl fun h2 hh up2 => wpAny_throw (tk _ _ ⟨a, B, sI, pins, τ, G, cls, dx, rfl, J, nb, up.trans up2, .inr (.inr (by rw [hs]; exact hh)), na, os, ag, w⟩)
    refine wpAny_handleBy_nil ?_
    unfold PySem.passOn
    refine wpAny_bind (wpAny_field he hd hv ?_)
    rw [if_neg (fun z : (Value.ref T == Value.none) = true => by simp at z)]
    first
      | exact wpAny_bind (wpAny_pure (wpAny_bind goes))
      | exact wpAny_bind goes
  | @cons x n c i ts b0 bs np hp hs2 l2 hN hi hl hc run r ih =>
    intro w
    obtain ⟨b, hb, yes, no⟩ := w
    have ty : PySem.W.Looks (model X.prog X.w) h1 (typeOf (.ref a)) cls := fun A Q E s k q => wpAny_typeOf_ref (k _ _ g1) (by rw [z1.1]; exact q)
    have mt := PySem.W.exm_one (M := model X.prog X.w) J1.kIn ty hb
    have nm : ∀ {Q E : Value → Shared → Prop}, Q c { s1 with heap := h1 } → wpAny (model X.prog X.w) (X.A.mark (some (.ref a))) (eval (.Name x np) X.env) Q E { s1 with heap := h1 } := fun {Q E} q => by
      obtain ⟨hg, hdb, hm | ⟨hm, hv, hn⟩⟩ := hc
      · exact ld_glob (X := X.suite a ((a, o1) :: (X.pn ++ pins))) S1 hg hm q hdb
      · exact ld_blt (X := X.suite a ((a, o1) :: (X.pn ++ pins))) S1 hg hm hv q hn hdb
    refine wpAny_handleBy_cons (codeAny_handlers_test (nm (mt.here ?_))) (fun q => by cases q)
    cases b with
    | false => exact ih (no rfl)
    | true =>
      refine codeAny_handlers_suite_as (HandSPX.lands_againZ fl fun h2 fl2 up2 => ?_)
      obtain ⟨o2, vs2, g2, z2, d2⟩ := fl2.there
      have J2 : Inv X pins τ G { s1 with heap := h2 } := J.landed nb fl2.1 (up.trans up2) os ag
      have S2 := J2.suite g2 d2 na offL offF
      refine store_ok (X := X.suite a ((a, o2) :: (X.pn ++ pins))) (v := .ref a) S2 hN hi (.inl hl) rfl (fun s3 S3 => ?_) (.inr hl)
      refine wpAny_mono ((run a o2 cls dx (X.pn ++ pins) z2.zc ⟨_, d2⟩).run [] s3 _ G _ S3 (yes rfl a na)) (fun f s4 sp => ?_) (fun _ _ z => z.elim)
      have fin : ∀ {τ4 : L2.St} {G4 : Hp} {Q : Shared → Prop}, Inv (X.suite a ((a, o2) :: (X.pn ++ pins))) [] τ4 G4 s4 → (∀ s5, Inv X pins (τ4.set i none) G4 s5 → Q s5) →
          wpAny (model X.prog X.w) X.A (do bindName X.env n .none; unbindBehindTheSuite X.env n hp) (fun _ s5 => Q s5) X.xe s4 := fun I4 q => gone_ok (I4.unsuite ok) hN hi hl q
      cases f with
      | next =>
        obtain ⟨τ4, G4, I4, q4⟩ := sp
        exact fin I4 fun s5 I5 => ⟨_, _, I5, q4⟩
      | brk =>
        obtain ⟨τ4, G4, I4, q4⟩ := sp
        exact fin I4 fun s5 I5 => ⟨_, _, I5, q4⟩
      | cont =>
        obtain ⟨τ4, G4, I4, q4⟩ := sp
        exact fin I4 fun s5 I5 => ⟨_, _, I5, q4⟩
      | ret u =>
        obtain ⟨v4, τ4, G4, I4, r4, q4⟩ := sp
        exact fin I4 fun s5 I5 => ⟨_, _, _, I5, r4, q4⟩
theorem ps_tryC {body : List Stmt} {h0 : ExceptHandler} {hs' : List ExceptHandler} {l : List Cl} {pos : Pos} {tb : WX → TS} (hs : X.stack = X.env :: X.outer) (hf : X.env.frame = some X.env.locals) (tk : L2N.Takes X Wo)
    (hb : ∀ (W : WX) (pn : List (Addr × Obj)) (xe : Value → Shared → Prop), L2N.Takes (X.tr pn xe) W → PassesOwn (model X.prog X.w) X.A X.env xe → PSs (X.tr pn xe) body (tb W))
    (hh : ClOk X (h0 :: hs') l) : PS X (.Try body (h0 :: hs') [] [] pos) (fun Dn σ H => tb (wCl X.K Wo Dn l) Dn σ H) := by
  refine ⟨fun pins s σ H Dn I h => wpAny_Try_except ?_⟩
  have ok := I.ok
  refine wpAny_mono ((hb (wCl X.K Wo Dn l) (X.pn ++ pins) (fun e s1 => wpAny (model X.prog X.w) X.A (noteFrame e X.env) (fun _ s2 => wpAny (model X.prog X.w) X.A (setFlight e none)
    (fun _ s3 => wpAny (model X.prog X.w) X.A (handleBy e X.env (h0 :: hs')) (SP X pins Dn) X.xe s3) X.xe s2) X.xe s1) (fun u s1 xx => ?_) PassesOwn.looking).run [] s σ H Dn (I.toTry _) h) (fun f s1 sp => ?_) (fun _ _ z => z)
  · obtain ⟨a, B, sI, pins1, τ, G, cls, dx, rfl, J, nb, up, sky, na, os, ag, w⟩ := xx
    have sky1 : Sky B (X.env :: X.outer) a (L2N.Zn cls dx) X.env.locals s1.heap := by
      rw [← hs]
      exact sky
    exact L2N.Sky.land L2N.Zn.steady (by rw [ok.frames, hs]) hf sky1 fun h2 fl up2 => clauses hs hf tk ok (J.ofTry ok) nb (up.trans up2) fl na os ag hh w
  · cases f with
    | next =>
      obtain ⟨τ, G, J, q⟩ := sp
      exact wpAny_execs_nil ⟨τ, G, J.ofTry ok, q⟩
    | brk =>
      obtain ⟨τ, G, J, q⟩ := sp
      exact ⟨τ, G, J.ofTry ok, q⟩
    | cont =>
      obtain ⟨τ, G, J, q⟩ := sp
      exact ⟨τ, G, J.ofTry ok, q⟩
    | ret u =>
      obtain ⟨v, τ, G, J, r, q⟩ := sp
      exact ⟨v, τ, G, J.ofTry ok, r, q⟩
end
mutual
def noX : D → Bool
  | .lst xs => noXL xs
  | .tup xs => noXL xs
  | .frl xs => noXL xs
  | .tpz xs => noXL xs
  | .exv _ => false
  | .exf _ _ => false
  | .obj _ fs => noXF fs
  | .dct fs => noXK fs
  | .dco fs => noXK fs
  | .adr _ => true
  | _ => true
def noXK : List (DK × D) → Bool
  | [] => true
  | x :: xs => noX x.2 && noXK xs
def noXL : List D → Bool
  | [] => true
  | x :: xs => noX x && noXL xs
def noXF : List (Str × D) → Bool
  | [] => true
  | x :: xs => noX x.2 && noXF xs
end
section
variable {K : PySem.W.Frag} {xa : Xa} {H : Hp}
mutual
theorem R.noX : ∀ {v : V} {d : D}, R K xa H v d → Pu.noX d = true → R K none H v d
  | _, _, .non, _ => .non
  | _, _, .bl b, _ => .bl b
  | _, _, .int i, _ => .int i
  | _, _, .str h, _ => .str h
  | _, _, .lst h r, n => .lst h (RL.noX r n)
  | _, _, .tup h r, n => .tup h (RL.noX r n)
  | _, _, .frl h r, n => .frl h (RL.noX r n)
  | _, _, .tpz h a b r, n => .tpz h a b (RL.noX r n)
  | _, _, .exv h, n => nomatch n
  | _, _, .exf h _ _, n => nomatch n
  | _, _, .obj h r, n => .obj h (RF.noX r n)
  | _, _, .dct h r, n => .dct h (RK.noX r n)
  | _, _, .dco h r, n => .dco h (RK.noX r n)
  | _, _, .adr a, _ => .adr a
theorem RK.noX : ∀ {vs : List (Key × V)} {ds : List (DK × D)}, RK K xa H vs ds → Pu.noXK ds = true → RK K none H vs ds
  | _, _, .nil, _ => .nil
  | _, _, .cons o h r, n => .cons o (R.noX h (Bool.and_eq_true_iff.mp n).1) (RK.noX r (Bool.and_eq_true_iff.mp n).2)
theorem RL.noX : ∀ {vs : List V} {ds : List D}, RL K xa H vs ds → Pu.noXL ds = true → RL K none H vs ds
  | _, _, .nil, _ => .nil
  | _, _, .cons h r, n => .cons (R.noX h (Bool.and_eq_true_iff.mp n).1) (RL.noX r (Bool.and_eq_true_iff.mp n).2)
theorem RF.noX : ∀ {vs : List (Str × V)} {ds : List (Str × D)}, RF K xa H vs ds → Pu.noXF ds = true → RF K none H vs ds
  | _, _, .nil, _ => .nil
  | _, _, .cons h r, n => .cons (R.noX h (Bool.and_eq_true_iff.mp n).1) (RF.noX r (Bool.and_eq_true_iff.mp n).2)
end
mutual
theorem R.ofN (xa : Xa) : ∀ {v : V} {d : D}, R K none H v d → R K xa H v d
  | _, _, .non => .non
  | _, _, .bl b => .bl b
  | _, _, .int i => .int i
  | _, _, .str h => .str h
  | _, _, .lst h r => .lst h (RL.ofN xa r)
  | _, _, .tup h r => .tup h (RL.ofN xa r)
  | _, _, .frl h r => .frl h (RL.ofN xa r)
  | _, _, .tpz h a b r => .tpz h a b (RL.ofN xa r)
  | _, _, .exv h => nomatch h
  | _, _, .exf h _ _ => nomatch h
  | _, _, .obj h r => .obj h (RF.ofN xa r)
  | _, _, .dct h r => .dct h (RK.ofN xa r)
  | _, _, .dco h r => .dco h (RK.ofN xa r)
  | _, _, .adr a => .adr a
theorem RK.ofN (xa : Xa) : ∀ {vs : List (Key × V)} {ds : List (DK × D)}, RK K none H vs ds → RK K xa H vs ds
  | _, _, .nil => .nil
  | _, _, .cons o h r => .cons o (R.ofN xa h) (RK.ofN xa r)
theorem RL.ofN (xa : Xa) : ∀ {vs : List V} {ds : List D}, RL K none H vs ds → RL K xa H vs ds
  | _, _, .nil => .nil
  | _, _, .cons h r => .cons (R.ofN xa h) (RL.ofN xa r)
theorem RF.ofN (xa : Xa) : ∀ {vs : List (Str × V)} {ds : List (Str × D)}, RF K none H vs ds → RF K xa H vs ds
  | _, _, .nil => .nil
  | _, _, .cons h r => .cons (R.ofN xa h) (RF.ofN xa r)
end
end
theorem RO.ofN {K : PySem.W.Frag} {B : Hp} {u : HO} {o : Ob} (xa : Xa) (h : RO K none B u o) : RO K xa B u o := by
  cases h with
  | L r => exact .L (r.ofN xa)
  | T r => exact .T (r.ofN xa)
theorem RS.ofN {K : PySem.W.Frag} {B0 H0 B H : Hp} {σ : L2.St} {ρ : SEnv} (xa : Xa) (r : RS K none B0 H0 B H σ ρ) : RS K xa B0 H0 B H σ ρ :=
  ⟨r.gw, r.len, fun i d h => by
    obtain ⟨v, e, q⟩ := r.sh i d h
    exact ⟨v, e, q.ofN xa⟩, fun i ds h => by
    obtain ⟨a, vs, e1, e2, e3, e4, q⟩ := r.own i ds h
    exact ⟨a, vs, e1, e2, e3, e4, q.ofN xa⟩, r.ap⟩
/-- the slots behind a suite: all shown ones free of the exception -/
def Sl.noX : Sl → Bool
  | .no => true
  | .sh d => Pu.noX d
  | .own (.L ds) => Pu.noXL ds
  | .own (.T ds) => Pu.noXK ds
theorem RO.noX {K : PySem.W.Frag} {xa : Xa} {B : Hp} {u : HO} {o : Ob} (h : RO K xa B u o) (n : (Sl.own o).noX = true) : RO K none B u o := by
  cases h with
  | L r => exact .L (r.noX n)
  | T r => exact .T (r.noX n)
theorem RS.noX {K : PySem.W.Frag} {xa : Xa} {B0 H0 B H : Hp} {σ : L2.St} {ρ : SEnv} (r : RS K xa B0 H0 B H σ ρ) (n : ∀ s ∈ ρ, s.noX = true) : RS K none B0 H0 B H σ ρ :=
  ⟨r.gw, r.len, fun i d h => by
    obtain ⟨v, e, q⟩ := r.sh i d h
    exact ⟨v, e, q.noX (n _ (List.mem_of_getElem? h))⟩, fun i ds h => by
    obtain ⟨a, vs, e1, e2, e3, e4, q⟩ := r.own i ds h
    exact ⟨a, vs, e1, e2, e3, e4, q.noX (n _ (List.mem_of_getElem? h))⟩, r.ap⟩
/-- which classes a clause takes: the program's tree of classes is flat below SlipError (0) -/
def takesB (c cl : Nat) : Bool := cl == 0 || c == cl
/-- a clause: its class, the slot of its name, its suite -/
abbrev Clm := Nat × Nat × SF
def clRun (i : Nat) (o : Out) : Out := match o with
  | .nx ρ => if (ρ.set i .no).all Sl.noX = true then .nx (ρ.set i .no) else .st
  | .rt d => if noX d = true then .rt d else .st
  | _ => .st
def exD (x : Xc) : D := match x.a with
  | none => .exv x.c
  | some y => .exf x.c y
def clGo : List Clm → Xc → SEnv → Out
  | [], x, ρ => .ex x ρ
  | cl :: r, x, ρ => if takesB x.c cl.1 = true then clRun cl.2.1 (cl.2.2 (ρ.set cl.2.1 (.sh (exD x)))) else clGo r x ρ
def tyS (cs : List Nat) (f : SF) (cls : List Clm) : SF := fun ρ => match f ρ with
  | .ex x ρ' => if cs.contains x.c = true then clGo cls x ρ' else .st
  | o => o
inductive ClmOk (X : Cx) (cs : List Nat) : List ExceptHandler → List Clm → Prop
  | nil : ClmOk X cs [] []
  | cons {x n : Str} {c i : Nat} {g : SF} {b0 : Stmt} {bs : List Stmt} {np hp : Pos} {hs : List ExceptHandler} {l : List Clm} (hN : X.N.Nodup) (hc : Names X x (.ref (He.ga X.K (cN c)))) (hx : ∀ k ∈ cs, PySem.W.exmOne X.K (.ref (He.ga X.K (cN k))) (.ref (He.ga X.K (cN c))) = some (takesB k c))
      (run : ∀ (a : Addr) (o : Obj) (cls : Value) (dx : Option Addr) (pn : List (Addr × Obj)), Zc cls dx o → (∃ vs, o.data = .fields vs) → Pss (X.suite a ((a, o) :: pn)) (some (a, cls, dx)) WF (b0 :: bs) g) (r : ClmOk X cs hs l) (hi : X.N[i]? = some n := by rfl) (hl : X.env.kindOf n = some .local := by rfl) :
      ClmOk X cs (.ExceptHandler (some (.Name x np)) (some n) (b0 :: bs) hp :: hs) ((c, i, g) :: l)
def clsOf (K : PySem.W.Frag) : List Clm → List Cl
  | [] => []
  | cl :: r => (.ref (He.ga K (cN cl.1)), cl.2.1, fun a cls dx => tS K (some (a, cls, dx)) WF cl.2.2) :: clsOf K r
theorem ClmOk.ok {X : Cx} {cs : List Nat} {hs : List ExceptHandler} {l : List Clm} (h : ClmOk X cs hs l) : ClOk X hs (clsOf X.K l) := by
  induction h with
  | nil => exact .nil
  | cons hN hc hx run r hi hl ih => exact .cons hN hi hl hc run ih
theorem wCl_of {X : Cx} {cs : List Nat} {Wo : WX} {Dn : Ends} {B0 H0 B H : Hp} {σ : L2.St} {ρ : SEnv} {x : Xc} {cls : Value} {dx : Option Addr} {hs : List ExceptHandler} {l : List Clm} (hh : ClmOk X cs hs l) (hc : cs.contains x.c = true) (r : RS X.K none B0 H0 B H σ ρ) (xr : XR X.K B cls dx x)
    (p : pS X.K none Wo B0 H0 Dn (clGo l x ρ)) : wCl X.K Wo Dn (clsOf X.K l) cls dx σ H := by
  induction hh with
  | nil => exact p cls dx σ B H r xr
  | @cons y n c i g b0 bs np hp hs2 l2 hN hnm hx run r2 hi hl ih =>
    refine ⟨takesB x.c c, by rw [xr.1]; exact hx x.c (by simpa using hc), fun hb a na => ?_, fun hb => ?_⟩
    · have p : pS X.K none Wo B0 H0 Dn (if takesB x.c c = true then clRun i (g (ρ.set i (.sh (exD x)))) else clGo l2 x ρ) := p
      rw [if_pos hb] at p
      have rx : R X.K (some (a, cls, dx)) B (.ref a) (exD x) := by
        unfold exD
        obtain ⟨e1, z⟩ := xr
        subst e1
        rcases z with ⟨e2, e3⟩ | ⟨dd, u, y, e2, e3, e4, q⟩
        · rw [e2, e3]
          exact .exv rfl
        · rw [e4, e2]
          exact .exf rfl e3 (q.ofN _)
      refine ⟨B0, H0, B, _, (r.ofN (some (a, cls, dx))).set rx i, ?_⟩
      show pS X.K (some (a, cls, dx)) WF B0 H0 (asE Dn i) (g (ρ.set i (.sh (exD x))))
      cases z : g (ρ.set i (.sh (exD x))) with
      | nx ρ' =>
        rw [z] at p
        intro τ B' H' r'
        have p : pS X.K none Wo B0 H0 Dn (if (ρ'.set i .no).all Sl.noX = true then .nx (ρ'.set i .no) else .st) := p
        by_cases q : (ρ'.set i .no).all Sl.noX = true
        · rw [if_pos q] at p
          exact p _ B' H' ((r'.lose none i).noX (List.all_eq_true.mp q))
        · rw [if_neg q] at p
          exact p.elim
      | rt d =>
        rw [z] at p
        intro v B' H' g' r'
        have p : pS X.K none Wo B0 H0 Dn (if noX d = true then .rt d else .st) := p
        by_cases q : noX d = true
        · rw [if_pos q] at p
          exact p v B' H' g' (r'.noX q)
        · rw [if_neg q] at p
          exact p.elim
      | bk ρ' => rw [z] at p; exact p.elim
      | ct ρ' => rw [z] at p; exact p.elim
      | ex x' ρ' => rw [z] at p; exact p.elim
      | st => rw [z] at p; exact p.elim
    · have p : pS X.K none Wo B0 H0 Dn (if takesB x.c c = true then clRun i (g (ρ.set i (.sh (exD x)))) else clGo l2 x ρ) := p
      rw [if_neg (by rw [hb]; exact Bool.false_ne_true)] at p
      exact ih p
theorem s_try {X : Cx} {W : WX} {body : List Stmt} {h0 : ExceptHandler} {hs' : List ExceptHandler} {pos : Pos} {f : SF} {l : List Clm} (cs : List Nat) (tk : L2N.Takes X W)
    (hb : ∀ (W : WX) (pn : List (Addr × Obj)) (xe : Value → Shared → Prop), L2N.Takes (X.tr pn xe) W → PassesOwn (model X.prog X.w) X.A X.env xe → Pss (X.tr pn xe) none W body f)
    (hh : ClmOk X cs (h0 :: hs') l) (hs : X.stack = X.env :: X.outer := by rfl) (hf : X.env.frame = some X.env.locals := by rfl) : Ps X none W (.Try body (h0 :: hs') [] [] pos) (tyS cs f l) := by
  refine PS.imp (ps_tryC (tb := fun W => tS X.K none W f) hs hf tk hb hh.ok) fun Dn σ H ⟨B0, H0, B, ρ, r, p⟩ => ⟨B0, H0, B, ρ, r, ?_⟩
  unfold tyS at p
  cases z : f ρ with
  | ex x ρ' =>
    rw [z] at p
    intro cls dx τ B' H' r' xr
    have p : pS X.K none W B0 H0 Dn (if cs.contains x.c = true then clGo l x ρ' else .st) := p
    by_cases q : cs.contains x.c = true
    · rw [if_pos q] at p
      exact wCl_of hh q r' xr p
    · rw [if_neg q] at p
      exact p.elim
  | nx ρ' => rw [z] at p; exact p
  | rt d => rw [z] at p; exact p
  | bk ρ' => rw [z] at p; exact p
  | ct ρ' => rw [z] at p; exact p
  | st => rw [z] at p; exact p
end Pu

namespace Pu
open PySem PySem.Spec PyProof.Rows L2 Evl
def raS (c : Nat) : SF := fun ρ => .ex ⟨c, none⟩ ρ
section
variable {X : Cx} {xa : Xa} {W : WX} {pos pos' p p2 : Pos} {e : Expr} {h : F}
theorem s_raise (c : Nat) {x m : Str} {j : Nat} (hc : X.calm = true) (tk : L2N.Takes X W) (gC : X.mg x = some (.ref (He.ga X.K x))) (ok : (He.Fa.exc x).ok X.K = true) (hx : cN c = x := by rfl) (hg : Gl X x := by rfl) (hdb : (x == ("__debug__" : Str)) = false := by decide) :
    Ps X xa W (.Raise (some (.Call (.Name x p) [.Constant (.str m) j p2] [] pos)) none pos') (raS c) := by
  obtain ⟨q1, q2, q3, q4⟩ := He.exc_ok ok
  refine PS.imp (L2N.ps_raise hc tk (L2N.pmk_own F.excBase_ValueError q1 gC q2 (raises_own q3 q4) hg hdb)) fun Dn σ H ⟨B0, H0, B, ρ, r, pp⟩ => ?_
  exact pp _ none σ B H r ⟨by rw [hx], .inl ⟨rfl, rfl⟩⟩
structure XfA (K : PySem.W.Frag) (x f : Str) : Prop where
  oex : OexC K (He.ga K x)
  xf : XfC K (He.ga K x)
  no : PySem.W.findIn K (.ref (He.ga K x)) f = some none
  ini : PySem.W.findIn K (.ref (He.ga K x)) "__init__" = some (some (.ref (He.fAd K (x, some "__init__"))))
  fun_ : PySem.W.typeIn K (.ref (He.fAd K (x, some "__init__"))) = some (.type "function")
def spI (C : Addr) (f : Str) : Sp := fun vs H Q _ => ∃ a v, vs = [.ref a, v] ∧ H a = some (exo a C none) ∧ ∀ dx, H dx = none → dx ≠ a → Q .non (upd (upd H dx (exd dx [(f, v)])) a (exo a C (some dx)))
/-- the class named x, of number c, its __init__ keeping the promise -/
structure Ini (P : Program) (w : World) (K : PySem.W.Frag) (mg : Str → Option Value) (base : Heap) (k : Nat) (x f : Str) : Prop where
  fa : XfA K x f
  glo : mg x = some (.ref (He.ga K x))
  ex : ∃ (fd : FuncData) (ps : List Str), FnOk P w K mg base (L2N.CX P w) k (He.fAd K (x, some "__init__")) fd ps (spI (He.ga K x) f) ∧ Binds K fd ps []
end
def isX (cs : List Nat) (cl : Nat) : D → Option D
  | .exv c => if cs.contains c = true then some (.bl (takesB c cl)) else none
  | _ => none
def excCB (K : PySem.W.Frag) (D : Addr) : Bool := decide (PySem.W.findIn K (.ref D) "__getattribute__" = some (some (.builtin "BaseException.__getattribute__"))) && (decide (PySem.W.findIn K (.ref D) "__getattr__" = some none) && (decide (PySem.W.subIn K (.ref D) (.type "BaseException") = some true) && (PySem.W.hasDictIn K D &&
  (decide (PySem.W.findIn K (.ref D) "__class__" = some (some (.builtin "object.__class__"))) && (decide (PySem.W.specialIn K (.builtin "object.__class__") "__get__" = some (some (.builtin "getset_descriptor.__get__"))) && (decide (PySem.W.takesIn K (.builtin "object.__class__") = some true) && decide (PySem.W.mroIn K D (.type "object") = some true)))))))
theorem excCB_ok {K : PySem.W.Frag} {D : Addr} (q : excCB K D = true) : ExcC K D := by
  unfold excCB at q
  obtain ⟨q1, q⟩ := Bool.and_eq_true_iff.mp q
  obtain ⟨q2, q⟩ := Bool.and_eq_true_iff.mp q
  obtain ⟨q3, q⟩ := Bool.and_eq_true_iff.mp q
  obtain ⟨q4, q⟩ := Bool.and_eq_true_iff.mp q
  obtain ⟨q5, q⟩ := Bool.and_eq_true_iff.mp q
  obtain ⟨q6, q⟩ := Bool.and_eq_true_iff.mp q
  obtain ⟨q7, q8⟩ := Bool.and_eq_true_iff.mp q
  exact ⟨of_decide_eq_true q1, of_decide_eq_true q2, of_decide_eq_true q3, q4, of_decide_eq_true q5, of_decide_eq_true q6, of_decide_eq_true q7, of_decide_eq_true q8⟩
def kitB (K : PySem.W.Frag) (c : Nat) (v : Value) (b : Bool) : Bool := decide (PySem.W.kitOne K (.ref (He.ga K (cN c))) v = some b)
section
variable {X : Cx} {W : WX} {pos p p2 p3 : Pos} {e : Expr} {h : F} {a : Addr} {o : Obj} {cls : Value} {dx : Option Addr} {pn : List (Addr × Obj)}
theorem p_isX (i cl : Nat) (cs : List Nat) {n x : Str} {v : V} {cv : Value} (hT : PE (X.suite a ((a, o) :: pn)) (.Name x p3) (tC v)) (hv : ∀ u, RelV v u → u = cv) (hk : ∀ c ∈ cs, ExcC X.K (He.ga X.K (cN c)) ∧ PySem.W.kitOne X.K (.ref (He.ga X.K (cN c))) cv = some (takesB c cl)) (hz : Zc cls dx o) (hf : ∃ vs, o.data = .fields vs) (hm : X.mg "isinstance" = none) (hg : Gl X "isinstance" := by rfl)
    (hN : X.N[i]? = some n := by rfl) (hvis : Vis X.env.scope n := by first | exact Or.inl rfl | exact Or.inr (Or.inl rfl) | exact Or.inr (Or.inr rfl)) (hd : (n == ("__debug__" : Str)) = false := by decide) (hcd : (n == ("__classdict__" : Str)) = false := by decide)
    (hb : bootBuiltins "isinstance" = some (.builtin "isinstance") := by decide +kernel) (he : starEach [.Name n p2, .Name x p3] X.env = (false, eval (.Name n p2) X.env) :: starEach [.Name x p3] X.env := by rfl) (he2 : starEach [.Name x p3] X.env = (false, eval (.Name x p3) X.env) :: starEach [] X.env := by rfl)
    (hpl : (backTo pos (starEach [.Name x p3] X.env)).any (·.1) = false := by rfl) : Pe (X.suite a ((a, o) :: pn)) (some (a, cls, dx)) W (.Call (.Name "isinstance" p) [.Name n p2, .Name x p3] [] pos) (op1 (isX cs cl) (vr i)) := by
  refine ⟨fun pins s σ H Q I hq => ?_⟩
  obtain ⟨Hb, ρ, le, re, q⟩ := hq
  unfold op1 vr at q
  cases z : ρ[i]? with
  | none => rw [z] at q; exact q.elim
  | some od =>
    cases od with
    | none => rw [z] at q; exact q.elim
    | some d =>
      rw [z] at q
      obtain ⟨v1, e1, r1⟩ := re.at_ i d z
      cases r1 with
      | @exv a1 c hxa =>
        cases hxa
        by_cases hc : cs.contains c = true
        · have q : post X.K (R X.K (some (a, Value.ref (He.ga X.K (cN c)), none))) (WE W σ) Hb H Q (ofO (if cs.contains c = true then some (.bl (takesB c cl)) else none)) := q
          rw [if_pos hc] at q
          obtain ⟨x1, x2⟩ := hk c (by simpa using hc)
          refine (pe_callB (call_isE (X := X) (a := a) (pn := pn) x1 hz hf) hg hm hb (pa_cons (pe_var hN hvis hd hcd) (pa_cons hT pa_nil he2) he) (by decide) (by decide) he hpl).run pins s σ H Q I ?_
          exact ⟨_, e1, v, cv, takesB c cl, rfl, hv, x2, post_here le q (.bl _)⟩
        · have q : post X.K (R X.K (some (a, Value.ref (He.ga X.K (cN c)), none))) (WE W σ) Hb H Q (ofO (if cs.contains c = true then some (.bl (takesB c cl)) else none)) := q
          rw [if_neg hc] at q
          exact q.elim
      | _ => exact q.elim
theorem p_isXc (i cl : Nat) (cs : List Nat) {n x : Str} (hm : X.mg "isinstance" = none) (hmx : X.mg x = some (.ref (He.ga X.K x))) (hk : ∀ c ∈ cs, ExcC X.K (He.ga X.K (cN c)) ∧ PySem.W.kitOne X.K (.ref (He.ga X.K (cN c))) (.ref (He.ga X.K x)) = some (takesB c cl)) (hz : Zc cls dx o) (hf : ∃ vs, o.data = .fields vs) (hg : Gl X "isinstance" := by rfl) (hgx : Gl X x := by rfl)
    (hN : X.N[i]? = some n := by rfl) (hvis : Vis X.env.scope n := by first | exact Or.inl rfl | exact Or.inr (Or.inl rfl) | exact Or.inr (Or.inr rfl)) (hd : (n == ("__debug__" : Str)) = false := by decide) (hcd : (n == ("__classdict__" : Str)) = false := by decide) (hdx : (x == ("__debug__" : Str)) = false := by decide)
    (he : starEach [.Name n p2, .Name x p3] X.env = (false, eval (.Name n p2) X.env) :: starEach [.Name x p3] X.env := by rfl) (he2 : starEach [.Name x p3] X.env = (false, eval (.Name x p3) X.env) :: starEach [] X.env := by rfl)
    (hpl : (backTo pos (starEach [.Name x p3] X.env)).any (·.1) = false := by rfl) : Pe (X.suite a ((a, o) :: pn)) (some (a, cls, dx)) W (.Call (.Name "isinstance" p) [.Name n p2, .Name x p3] [] pos) (op1 (isX cs cl) (vr i)) :=
  p_isX (X := X) i cl cs (v := .ref (He.ga X.K x)) (cv := .ref (He.ga X.K x)) (pe_glob (X := X.suite a ((a, o) :: pn)) hgx hmx rfl hdx) (fun u r => r) hk hz hf hm hg hN hvis hd hcd (by decide +kernel) he he2 hpl
end
end Pu

namespace Pu
open PySem PySem.Spec PyProof.Rows L2 Evl
def jn (a : List Nat) (zs : List (List Nat)) : Option D := if (zs.map List.length).sum + zs.length * a.length ≤ 16777216 then some (.str (TL.joinL a zs)) else none
def dJoin : D → D → Option D
  | .str a, .lst ds => (strsOf ds).bind (jn a)
  | .str a, .tup ds => (strsOf ds).bind (jn a)
  | _, _ => none
theorem joinL_ok {a : List Nat} (ha : okS a) : ∀ {zs : List (List Nat)}, (∀ l ∈ zs, okS l) → okS (TL.joinL a zs)
  | [], _ => okS.nil
  | [p], h => h p List.mem_cons_self
  | p :: q :: r, h => (h p List.mem_cons_self).app (ha.app (joinL_ok ha (zs := q :: r) fun l hl => h l (List.mem_cons_of_mem _ hl)))
def tyStr : D → Bool
  | .str _ => true
  | _ => false
/-- o.m(e): what o is is looked at first -/
def mt1 (ty : D → Bool) (q : D → D → Option D) (f h : F) : F := fun ρ => (f ρ).bind fun d => if ty d = true then (h ρ).bind fun y => ofO (q d y) else .st
/-- l.index(x) -/
def idx (d : D) : List D → Option Nat
  | [] => none
  | e :: es => if eqd e d = true then some 0 else (idx d es).map (· + 1)
section
variable {X : Cx} {xa : Xa} {W : WX} {pos apos : Pos} {o e : Expr} {es : List Expr} {f g : F} {fs : Fs}
theorem p_join (ho : Pe X xa W o f) (he : Pe X xa W e g) (hs : starEach [e] X.env = [(false, eval e X.env)] := by rfl) (hbase : attributeBase o "join" X.env (eval o X.env) = eval o X.env := by rfl) (hline : (apos.endLine == pos.line) = true := by rfl) :
    Pe X xa W (.Call (.Attribute o "join" apos) [e] [] pos) (mt1 tyStr dJoin f g) := by
  refine PE.imp (pe_join ho he hs hbase hline) fun σ H Q hq => ?_
  obtain ⟨Hb, ρ, le, re, p⟩ := hq
  refine ⟨Hb, ρ, le, re, post_bind le p fun d v B1 H1 e1 g1 r1 p1 => ?_⟩
  cases r1 with
  | @str a ha =>
    refine ⟨⟨_, rfl⟩, B1, ρ, g1.le, re.mono g1.bup, post_bind g1.le p1 fun d2 v2 B2 H2 e2 g2 r2 p2 => ?_⟩
    have fin : ∀ {b : Addr} {vs : List V} {ds : List D}, v2 = .ref b → (H2 b = some (.lst vs) ∨ H2 b = some (.tup vs)) → RL X.K xa B2 vs ds → post X.K (R X.K xa) (WE W σ) B2 H2 Q (ofO ((strsOf ds).bind (jn a))) →
        ∃ (a1 : Str) (p1 : Addr) (ys : List Str), V.str (sOf a) = .str a1 ∧ [v2] = [.ref p1] ∧ (SqL X.K H2 p1 (ys.map V.str) ∨ SqT X.K H2 p1 (ys.map V.str)) ∧ (ys.map (·.length)).sum + ys.length * a1.length ≤ 16777216 ∧ Q (.str (Txt.join a1 ys)) H2 := by
      intro b vs ds ev hb rl pp
      subst ev
      cases hz : strsOf ds with
      | none => rw [hz] at pp; exact pp.elim
      | some zs =>
        rw [hz] at pp
        have pp : post X.K (R X.K xa) (WE W σ) B2 H2 Q (ofO (jn a zs)) := pp
        obtain ⟨evs, oks⟩ := rl.strs hz
        unfold jn at pp
        by_cases hl : (zs.map List.length).sum + zs.length * a.length ≤ 16777216
        · rw [if_pos hl] at pp
          refine ⟨sOf a, b, zs.map sOf, rfl, rfl, ?_, ?_, ?_⟩
          · rw [← evs]
            rcases hb with hb | hb
            · exact .inl (SqL.of hb)
            · exact .inr (SqT.of hb)
          · have e1 : ((zs.map sOf).map (·.length)) = zs.map List.length := by
              rw [List.map_map]
              exact List.map_congr_left fun l _ => sOf_len l
            rw [e1, List.length_map, sOf_len]
            exact hl
          · have e2 : Txt.join (sOf a) (zs.map sOf) = sOf (TL.joinL a zs) := by
              rw [TL.join_eq, ← sOf_toList (Str.join (sOf a) (zs.map sOf))]
              have e3 := TL.tl_join (sOf a) (zs.map sOf)
              have e4 : (zs.map sOf).map TL.tl = zs := by
                rw [List.map_map]
                have : ∀ l : List Nat, (TL.tl ∘ sOf) l = l := fun l => rfl
                rw [List.map_congr_left (g := id) fun l _ => this l, List.map_id]
              rw [e4] at e3
              exact congrArg sOf e3
            rw [e2]
            exact post_here g2.le pp (.str (joinL_ok ha oks))
        · rw [if_neg hl] at pp
          exact pp.elim
    cases r2 with
    | lst h1 q1 => exact fin rfl (.inl (g2.le _ _ h1)) q1 p2
    | tup h1 q1 => exact fin rfl (.inr (g2.le _ _ h1)) q1 p2
    | _ => exact p2.elim
  | _ => exact p1.elim
end
end Pu

namespace Pu
open PySem PySem.Spec PyProof.Rows L2 Evl
section
variable {X : Cx} {xa : Xa} {W : WX} {pos py spos : Pos} {es : List Expr} {fs : Fs} {tg iter elt : Expr} {ifs : List Expr}
/-- name = [..] -/
theorem s_lc {i : Nat} {y : Str} {scope : Scope} {own : List (Str × Nat)} {it : Fs} {t : Tg} {c : T} {f : F} (hc : X.calm = true) (hN : X.N.Nodup) (hi : Pi X xa W tg iter it) (ok : BlkOk X.N X.env.scope scope own)
    (hg : ∀ (s : Shared) (H : Hp) (C : Addr) (cl : List (Str × Addr)) (fp : List Addr), Pg (X.blk s H scope (compEnvC scope cl C X.env) fp) tg t)
    (ht : ∀ (s : Shared) (H : Hp) (C : Addr) (cl : List (Str × Addr)) (fp : List Addr), Pts (X.blk s H scope (compEnvC scope cl C X.env) fp) xa WF ifs c)
    (he : ∀ (s : Shared) (H : Hp) (C : Addr) (cl : List (Str × Addr)) (fp : List Addr), Pe (X.blk s H scope (compEnvC scope cl C X.env) fp) xa WF elt f)
    (hsw : swapsWith (.ListComp elt [⟨tg, iter, ifs, 0⟩] scope pos) (some (.Name y py)) spos.line X.env = pure true := by exact sw_true rfl rfl rfl rfl)
    (hx : ∀ i ∈ t.ix, i ∈ own.map (·.2) := by decide) (hs : ∀ x, foldedSetIterable iter X.env x = pure x := by intro _; rfl) (hy : X.N[i]? = some y := by rfl) (hyl : X.env.scope.names.lookup y = some .local := by rfl) :
    Ps X xa W (.Assign [.Name y py] (.ListComp elt [⟨tg, iter, ifs, 0⟩] scope pos) spos) (asS i (lcF it (own.map (·.2)) t c f)) := by
  refine PS.imp (ps_setLc (tt := tPT X.K xa WF c) (te := tP X.K xa WF f) hc hN hy hyl hsw hi ok hg ht he hs) fun Dn σ H ⟨B0, H0, B, ρ, r, p⟩ => ?_
  refine t_lc hx (tO_of ?_)
  exact meet r p fun d v B' H' g rel r' k => k _ B' H' (r'.set rel i)
end
inductive Zm where
  | s (f : F) | i (f : F) | o (g : Fs)
def tZ (K : PySem.W.Frag) (xa : Xa) (W : WX) : Zm → TE
  | .s f => tP K xa W f
  | .i f => tP K xa W f
  | .o g => tO K xa W g
abbrev Pz (X : Cx) (xa : Xa) (W : WX) (e : Expr) (z : Zm) : Prop := PE X e (tZ X.K xa W z)
def zRun (z : Zm) (ρ : SEnv) (k : Sl → Out) : Out := match z with
  | .s f => shB (f (shv ρ)) ρ fun d => k (.sh d)
  | .i f => shB (f (pkv ρ)) (frA ρ) fun d => if imm d = true then k (.sh d) else .st
  | .o g => shB (g (shv ρ)) ρ fun ds => k (.ow ds)
def paS (i j : Nat) (z1 z2 : Zm) : SF := fun ρ => zRun z1 ρ fun s1 => zRun z2 ρ fun s2 => .nx ((ρ.set i s1).set j s2)
section
variable {K : PySem.W.Frag} {xa : Xa} {W : WX} {B0 H0 B H : Hp} {σ τ : L2.St} {ρ pd : SEnv}
theorem getsnoc {α : Type} {l : List α} {x y : α} {i : Nat} (h : (l ++ [x])[i]? = some y) : (i < l.length ∧ l[i]? = some y) ∨ (i = l.length ∧ x = y) := by
  by_cases c : i < l.length
  · rw [List.getElem?_append_left c] at h
    exact .inl ⟨c, h⟩
  · rw [List.getElem?_append_right (by omega)] at h
    have e : i - l.length = 0 := by
      cases z : i - l.length with
      | zero => rfl
      | succ n => rw [z] at h; cases h
    rw [e] at h
    exact .inr ⟨by omega, Option.some.inj h⟩
theorem RS.snoc {v : V} {d : D} (r : RS K xa B0 H0 B H σ ρ) (q : R K xa B v d) : RS K xa B0 H0 B H (σ ++ [some v]) (ρ ++ [.sh d]) := by
  have hl := r.len
  have low : ∀ {i : Nat}, i < ρ.length → (σ ++ [some v])[i]? = σ[i]? := fun h => List.getElem?_append_left (by omega)
  refine ⟨r.gw, by rw [List.length_append, List.length_append, hl]; rfl, fun i e h => ?_, fun i ds h => ?_, fun i j ds es a h1 h2 h3 h4 => ?_⟩
  · rcases getsnoc h with ⟨c, h⟩ | ⟨rfl, h9⟩
    · rw [low c]
      exact r.sh i e h
    · cases h9
      exact ⟨v, by rw [hl, List.getElem?_append_right (Nat.le_refl _), Nat.sub_self]; rfl, q⟩
  · rcases getsnoc h with ⟨c, h⟩ | ⟨_, h⟩
    · rw [low c]
      exact r.own i ds h
    · cases h
  · rcases getsnoc h1 with ⟨c1, h1⟩ | ⟨_, h1⟩
    · rcases getsnoc h2 with ⟨c2, h2⟩ | ⟨_, h2⟩
      · exact r.ap i j ds es a h1 h2 ((low c1).symm.trans h3) ((low c2).symm.trans h4)
      · cases h2
    · cases h1
theorem RS.snocOb {p : Addr} {xs : HO} {ds : Ob} (r : RS K xa B0 H0 B H σ ρ) (hp : H p = some xs) (n : B p = none) (n0 : H0 p = none) (q : RO K xa B xs ds) (hne : ∀ (j : Nat) (es : Ob), ρ[j]? = some (Sl.own es) → σ[j]? ≠ some (some (V.ref p))) :
    RS K xa B0 H0 B H (σ ++ [some (.ref p)]) (ρ ++ [.own ds]) := by
  have hl := r.len
  have low : ∀ {i : Nat}, i < ρ.length → (σ ++ [some (V.ref p)])[i]? = σ[i]? := fun h => List.getElem?_append_left (by omega)
  have top : (σ ++ [some (V.ref p)])[ρ.length]? = some (some (V.ref p)) := by
    rw [hl, List.getElem?_append_right (Nat.le_refl _), Nat.sub_self]
    rfl
  refine ⟨r.gw, by rw [List.length_append, List.length_append, hl]; rfl, fun i e h => ?_, fun i es h => ?_, fun i j es fs a h1 h2 h3 h4 => ?_⟩
  · rcases getsnoc h with ⟨c, h⟩ | ⟨_, h⟩
    · rw [low c]
      exact r.sh i e h
    · cases h
  · rcases getsnoc h with ⟨c, h⟩ | ⟨rfl, h9⟩
    · rw [low c]
      exact r.own i es h
    · cases h9
      exact ⟨p, xs, top, hp, n, n0, q⟩
  · rcases getsnoc h1 with ⟨c1, h1⟩ | ⟨rfl, _⟩
    · rw [low c1] at h3
      rcases getsnoc h2 with ⟨c2, h2⟩ | ⟨rfl, _⟩
      · rw [low c2] at h4
        exact r.ap i j es fs a h1 h2 h3 h4
      · rw [top] at h4
        cases h4
        exact absurd h3 (hne i es h1)
    · rw [top] at h3
      cases h3
      rcases getsnoc h2 with ⟨c2, h2⟩ | ⟨rfl, _⟩
      · rw [low c2] at h4
        exact absurd h4 (hne j fs h2)
      · rfl
theorem RS.snocO {p : Addr} {xs : List V} {ds : List D} (r : RS K xa B0 H0 B H σ ρ) (hp : H p = some (.lst xs)) (n : B p = none) (n0 : H0 p = none) (q : RL K xa B xs ds) (hne : ∀ (j : Nat) (es : Ob), ρ[j]? = some (Sl.own es) → σ[j]? ≠ some (some (V.ref p))) :
    RS K xa B0 H0 B H (σ ++ [some (.ref p)]) (ρ ++ [.ow ds]) := r.snocOb hp n n0 (.L q) hne
theorem RS.pre (r : RS K xa B0 H0 B H (σ ++ τ) (ρ ++ pd)) (hl : ρ.length = σ.length) : RS K xa B0 H0 B H σ ρ :=
  r.pull id (fun _ _ _ _ h => h) hl (fun i h => (List.getElem?_append_left (by omega)).symm) (fun i h => (List.getElem?_append_left h).symm)
theorem frA_app (a b : SEnv) : frA (a ++ b) = frA a ++ frA b := List.map_append ..
theorem frA_len (a : SEnv) : (frA a).length = a.length := List.length_map ..
theorem meetZ {z : Zm} {Dn : Ends} {k : Sl → Out} {Q : VK} (r : RS K xa B0 H0 B H (σ ++ τ) (ρ ++ pd)) (hl : ρ.length = σ.length) (p : pS K xa W B0 H0 Dn (zRun z ρ k))
    (hk : ∀ s v B' H', RS K xa B0 H0 B' H' (σ ++ (τ ++ [some v])) (ρ ++ (pd ++ [s])) → pS K xa W B0 H0 Dn (k s) → Q v H') : tZ K xa W z σ H Q := by
  cases z with
  | s f =>
    have p : pS K xa W B0 H0 Dn (shB (f (shv ρ)) ρ fun d => k (.sh d)) := p
    refine ⟨B, shv ρ, r.gw.le, (r.pre hl).re, ?_⟩
    cases z : f (shv ρ) with
    | ok d =>
      rw [z] at p
      intro v B' H' g rel
      refine hk (.sh d) v B' H' ?_ p
      rw [← List.append_assoc, ← List.append_assoc]
      exact (r.grow g).snoc rel
    | ex x =>
      rw [z] at p
      exact fun c dx B' H' g xr => p c dx σ B' H' ((r.pre hl).grow g) xr
    | st =>
      rw [z] at p
      exact p
  | i f =>
    have p : pS K xa W B0 H0 Dn (shB (f (pkv ρ)) (frA ρ) fun d => if imm d = true then k (.sh d) else .st) := p
    obtain ⟨B1, e1, r1⟩ := r.frA
    rw [frA_app] at r1
    have r2 := r1.pre (by rw [frA_len]; exact hl)
    refine ⟨B1, shv (frA ρ), r2.gw.le, r2.re, ?_⟩
    rw [shv_frA]
    cases z : f (pkv ρ) with
    | ok d =>
      rw [z] at p
      intro v B' H' g rel
      have p : pS K xa W B0 H0 Dn (if imm d = true then k (.sh d) else .st) := p
      by_cases c : imm d = true
      · rw [if_pos c] at p
        refine hk (.sh d) v B H' ?_ p
        rw [← List.append_assoc, ← List.append_assoc]
        exact (r.keep g.up).snoc (rel.imm c)
      · rw [if_neg c] at p
        exact p.elim
    | ex x =>
      rw [z] at p
      exact fun c dx B' H' g xr => p c dx σ B' H' (r2.grow g) xr
    | st =>
      rw [z] at p
      exact p
  | o q =>
    have p : pS K xa W B0 H0 Dn (shB (q (shv ρ)) ρ fun ds => k (.ow ds)) := p
    refine ⟨B, shv ρ, r.gw.le, (r.pre hl).re, ?_⟩
    cases z : q (shv ρ) with
    | ok ds =>
      rw [z] at p
      intro a xs B' H' g n1 n2 hp rl
      refine hk (.ow ds) (.ref a) B' H' ?_ p
      rw [← List.append_assoc, ← List.append_assoc]
      refine (r.grow g).snocO hp n1 (fresh_back r.gw.up n2) rl fun j es h1 h2 => ?_
      obtain ⟨b, vs, f1, f2, _⟩ := r.own j es h1
      rw [f1] at h2
      cases h2
      rw [n2] at f2
      cases f2
    | ex x =>
      rw [z] at p
      exact fun c dx B' H' g xr => p c dx σ B' H' ((r.pre hl).grow g) xr
    | st =>
      rw [z] at p
      exact p
theorem set_at {α : Type} {l : List α} {i j : Nat} {x : α} (hj : j < l.length) : (l.set i x)[j]? = if i = j then some x else l[j]? := by
  by_cases c : i = j
  · subst c
    rw [if_pos rfl, List.getElem?_set_self hj]
  · rw [if_neg c, List.getElem?_set_ne c]
theorem tail_at {α : Type} {l t : List α} {n : Nat} (m : Nat) (h : l.length = n) : (l ++ t)[n + m]? = t[m]? := by
  rw [List.getElem?_append_right (by omega)]
  congr 1
  omega
theorem RS.par {v w : V} {s t : Sl} {i j : Nat} (hij : i ≠ j) (hl : ρ.length = σ.length) (r : RS K xa B0 H0 B H (σ ++ [some v, some w]) (ρ ++ [s, t])) : RS K xa B0 H0 B H ((σ.set i (some v)).set j (some w)) ((ρ.set i s).set j t) := by
  have len1 : ((ρ.set i s).set j t).length = ρ.length := by rw [List.length_set, List.length_set]
  have cs : ∀ {l : Nat}, l < ρ.length → (σ ++ [some v, some w])[l]? = σ[l]? ∧ (ρ ++ [s, t])[l]? = ρ[l]? := fun h => ⟨List.getElem?_append_left (by omega), List.getElem?_append_left h⟩
  refine r.pull (fun l => if j = l then ρ.length + 1 else if i = l then ρ.length + 0 else l) (fun a b ha hb h => ?_) (by rw [len1, List.length_set, List.length_set, hl]) (fun l h => ?_) fun l h => ?_
  · rw [len1] at ha hb
    split at h <;> split at h <;> (try split at h) <;> (try split at h) <;> omega
  · rw [len1] at h
    rw [set_at (by rw [List.length_set]; omega), set_at (by omega)]
    split
    · rw [tail_at 1 hl.symm]; rfl
    · split
      · rw [tail_at 0 hl.symm]; rfl
      · exact (cs h).1.symm
  · rw [len1] at h
    rw [set_at (by rw [List.length_set]; omega), set_at h]
    split
    · rw [tail_at 1 rfl]; rfl
    · split
      · rw [tail_at 0 rfl]; rfl
      · exact (cs h).2.symm
end
section
variable {X : Cx} {xa : Xa} {W : WX} {a b c : Expr} {px py pz pt pt2 pos : Pos} {kt k2 : Nat} {z1 z2 z3 : Zm}
theorem s_par (i j : Nat) {x y : Str} (hc : X.calm = true) (hN : X.N.Nodup) (h1 : Pz X xa W a z1) (h2 : Pz X xa W b z2) (hi : X.N[i]? = some x := by rfl) (hj : X.N[j]? = some y := by rfl) (hij : i ≠ j := by decide)
    (hx : X.env.scope.names.lookup x = some .local := by rfl) (hy : X.env.scope.names.lookup y = some .local := by rfl)
    (hw : swappedStores [.Tuple [.Name x px, .Name y py] kt pt] (.Tuple [a, b] k2 pt2) X.env = pure (some [x, y]) := by rfl)
    (hs : swapsWithSole [.Tuple [.Name x px, .Name y py] kt pt] (.Tuple [a, b] k2 pt2) pos.line X.env = pure false := by rfl)
    (s1 : starEach [a, b] X.env = (false, eval a X.env) :: starEach [b] X.env := by rfl) (s2 : starEach [b] X.env = (false, eval b X.env) :: starEach [] X.env := by rfl) :
    Ps X xa W (.Assign [.Tuple [.Name x px, .Name y py] kt pt] (.Tuple [a, b] k2 pt2) pos) (paS i j z1 z2) := by
  refine PS.imp (ps_par hc hN hi hj hij hx hy (pa_cons h1 (pa_cons h2 pa_nil s2) s1) hw hs) fun Dn σ H ⟨B0, H0, B, ρ, r, p⟩ => ?_
  refine meetZ (τ := []) (pd := []) (by rw [List.append_nil, List.append_nil]; exact r) r.len p fun s v B1 H1 r1 p1 => ?_
  refine meetZ r1 r.len p1 fun t w B2 H2 r2 p2 => ?_
  exact ⟨v, w, rfl, p2 _ B2 H2 (r2.par hij r.len)⟩
theorem z_s {f : F} (h : Pe X xa W a f) : Pz X xa W a (.s f) := h
end
end Pu

namespace Pu
open PySem PySem.Spec PyProof.Rows L2 Evl
def hkC (n : Nat) (fa : List He.Fa) (fn : List He.DefD) (ck : PySem.W.Frag → Bool) : PySem.W.Hook where
  α := He.AlD × Bool
  obs := fun s => (He.obsDG n fa fn s.heap.get?, ck (He.frG s.heap.get? (He.asD s.heap.get? n)))
  val := fun _ => (He.valD fn, true)
  says := fun _ h => ∃ K : PySem.W.Frag, K.In h ∧ He.SaysD fa fn K ∧ ck K = true
  of := fun _ _ e => ⟨_, He.frG_in, congrArg Prod.fst e, congrArg Prod.snd e⟩
  keeps := fun _ _ _ ⟨K, hK, c, d⟩ k => ⟨K, PySem.W.Frag.In.keeps hK k, c, d⟩
def obC (n : Nat) (fa : List He.Fa) (fn : List He.DefD) (ck : PySem.W.Frag → Bool) (s : PySem.W.SharedT) : He.AlD × Bool := (He.obsDG n fa fn (HandSHeadRun.getT s), ck (He.frG (HandSHeadRun.getT s) (He.asD (HandSHeadRun.getT s) n)))
theorem obC_eq {n : Nat} {fa : List He.Fa} {fn : List He.DefD} {ck : PySem.W.Frag → Bool} (s : PySem.W.SharedT) : obC n fa fn ck s = (hkC n fa fn ck).obs s.abs := by
  have e : HandSHeadRun.getT s = s.abs.heap.get? := funext (HandSHeadRun.getT_eq s)
  unfold obC
  rw [e]
  rfl
/-- a law whose defs may raise: what they let out is told world by world -/
theorem walk_x {l : PySem.W.OpenLaw} {n k : Nat} {q : Program} {loose : List Str} {XP : (Str → Option Value) → Heap → Prop} {YP : World → Heap → Prop} {d : DefRec} {x : Str}
    (hm : l.most = some n) (hz : n ≤ sizeLine) (hdf : d.params.defaults = []) (room : Room k callerA)
    (go : ∀ (w : World) (mg : Str → Option Value) (f : Addr) (h : Heap), YP w h → h.Ns mainGlobals mg → mg d.name = some (.ref f) →
      ∃ (K : PySem.W.Frag) (fd : FuncData) (sp : Sp), K.In h ∧ (∀ (s : Shared) (u : Value), BindsTo s fd ⟨[u], []⟩ [(x, u)]) ∧
        (∀ (H : Hp) (a : Addr) (ns : List Int), ns.length ≤ n → SqL K H a (ns.map V.int) → sp [.ref a] H (fun v _ => v = .bl true) fun _ _ _ => False) ∧
        ∀ base : Heap, K.In base → base.Ns mainGlobals mg → FnOk l.prog w K mg base (L2N.CX l.prog w) k f fd [x] sp) :
    PySem.W.WalkO q loose XP YP l.row.toRowW d [] (fun f vs => PySem.call f vs) := by
  refine Att.attach_call hm hdf fun w s0 s1 mg mb f o pm cd doc a vs ns G Y ho hd hcd hmg hobj hints hlen hg => ?_
  obtain ⟨K, fd, sp, kin, bnd, prom, fnk⟩ := go w mg f _ Y G.T.g hmg
  refine law_call kin G.T.g G.T.b G.T.builtins G.T.nolimit hg hobj hints (Nat.le_trans hlen hz) room fnk bnd (fun H _ hS => prom H a ns hlen hS) fun H e s2 z => ?_
  obtain ⟨_, _, _, _, _, _, _, _, _, _, _, _, bad⟩ := z
  exact bad
/-- a law's end -/
theorem law_end {K : PySem.W.Frag} {m : List D → Res D} {H : Hp} {a : Addr} {ns : List Int} (h : m [.frl (ns.map .int)] = .ok (.bl true)) (hS : SqL K H a (ns.map V.int)) : spP K 1 m [.ref a] H (fun v _ => v = .bl true) fun _ _ _ => False := by
  have rl : ∀ l : List Int, RL K none H (l.map V.int) (l.map D.int) := by
    intro l
    induction l with
    | nil => exact .nil
    | cons i l ih => exact .cons (.int i) ih
  refine ⟨rfl, H, [.frl (ns.map .int)], Ex.refl _, .cons (.frl hS (rl ns)) .nil, ?_⟩
  rw [h]
  intro v B H' _ r
  cases r
  rfl
end Pu

namespace Pu
open PySem
@[simp] theorem shB_ok {α : Type} (a : α) (ρ : SEnv) (k : α → Out) : shB (.ok a) ρ k = k a := rfl
@[simp] theorem shB_ex {α : Type} (x : Xc) (ρ : SEnv) (k : α → Out) : shB (.ex x) ρ k = .ex x ρ := rfl
@[simp] theorem shv_nil : shv [] = [] := rfl
@[simp] theorem shv_cons (s : Sl) (ρ : SEnv) : shv (s :: ρ) = s.see :: shv ρ := rfl
@[simp] theorem pkv_nil : pkv [] = [] := rfl
@[simp] theorem pkv_cons (s : Sl) (ρ : SEnv) : pkv (s :: ρ) = s.pk :: pkv ρ := rfl
@[simp] theorem frA_nil : frA [] = [] := rfl
@[simp] theorem frA_cons (s : Sl) (ρ : SEnv) : frA (s :: ρ) = s.frz :: frA ρ := rfl
@[simp] theorem see_sh (d : D) : (Sl.sh d).see = some d := rfl
@[simp] theorem see_no : (Sl.no).see = none := rfl
@[simp] theorem see_ow (d : List D) : (Sl.ow d).see = none := rfl
@[simp] theorem pk_sh (d : D) : (Sl.sh d).pk = some d := rfl
@[simp] theorem pk_no : (Sl.no).pk = none := rfl
@[simp] theorem pk_ow (d : List D) : (Sl.ow d).pk = some (.lst d) := rfl
@[simp] theorem frz_sh (d : D) : (Sl.sh d).frz = .sh d := rfl
@[simp] theorem frz_no : (Sl.no).frz = .no := rfl
@[simp] theorem frz_ow (d : List D) : (Sl.ow d).frz = .sh (.lst d) := rfl
@[simp] theorem see_od (d : List (DK × D)) : (Sl.od d).see = none := rfl
@[simp] theorem pk_od (d : List (DK × D)) : (Sl.od d).pk = some (.dco d) := rfl
@[simp] theorem frz_od (d : List (DK × D)) : (Sl.od d).frz = .sh (.dco d) := rfl
@[simp] theorem vr_0 (d : D) (ρ : Env) : vr 0 (some d :: ρ) = .ok d := rfl
@[simp] theorem vr_s (i : Nat) (o : Option D) (ρ : Env) : vr (i + 1) (o :: ρ) = vr i ρ := rfl
@[simp] theorem outR_rt (d : D) : outR (.rt d) = .ok d := rfl
@[simp] theorem outR_nx (ρ : SEnv) : outR (.nx ρ) = .ok .non := rfl
@[simp] theorem outR_ex (x : Xc) (ρ : SEnv) : outR (.ex x ρ) = .ex x := rfl
@[simp] theorem toB_bl (b : Bool) : toB (.bl b) = some b := rfl
@[simp] theorem toI_int (b : Int) : toI (.int b) = some b := rfl
@[simp] theorem dep_int (i : Int) : dep (.int i) = 0 := rfl
@[simp] theorem dep_bl (i : Bool) : dep (.bl i) = 0 := rfl
@[simp] theorem dep_non : dep .non = 0 := rfl
@[simp] theorem dep_str (i : List Nat) : dep (.str i) = 0 := rfl
@[simp] theorem dep_lst (i : List D) : dep (.lst i) = depL i + 1 := rfl
@[simp] theorem dep_frl (i : List D) : dep (.frl i) = depL i + 1 := rfl
@[simp] theorem dep_tpz (i : List D) : dep (.tpz i) = depL i + 1 := rfl
@[simp] theorem dep_tup (i : List D) : dep (.tup i) = depL i + 1 := rfl
@[simp] theorem depL_nil : depL [] = 0 := rfl
@[simp] theorem depL_cons (d : D) (ds : List D) : depL (d :: ds) = max (dep d) (depL ds) := rfl
theorem depL_le {n : Nat} : ∀ {ds : List D}, (∀ d ∈ ds, dep d ≤ n) → depL ds ≤ n
  | [], _ => Nat.zero_le _
  | d :: ds, h => Nat.max_le.mpr ⟨h d List.mem_cons_self, depL_le fun e he => h e (List.mem_cons_of_mem _ he)⟩
theorem depL_map {α : Type} {n : Nat} {l : List α} {f : α → D} (h : ∀ a ∈ l, dep (f a) ≤ n) : depL (l.map f) ≤ n := depL_le fun d hd => by
  obtain ⟨a, ha, rfl⟩ := List.mem_map.mp hd
  exact h a ha
section
variable {ρ ρ' : SEnv} {f g : SF} {h a b : F} {c u t : T} {fs : Fs} {ε : Env} {r : Res D} {d e z : D} {ds : List D} {q : D → D → Option D} {i : Nat} {o : Out}
theorem sq_nx (h1 : f ρ = .nx ρ') : sqS f g ρ = g ρ' := by
  unfold sqS
  rw [h1]
theorem sq_rt (h1 : f ρ = .rt d) : sqS f g ρ = .rt d := by
  unfold sqS
  rw [h1]
theorem sq_ex {x : Xc} (h1 : f ρ = .ex x ρ') : sqS f g ρ = .ex x ρ' := by
  unfold sqS
  rw [h1]
theorem sq_to (h1 : f ρ = .nx ρ') (h2 : outR (g ρ') = r) : outR (sqS f g ρ) = r := by
  rw [sq_nx h1]
  exact h2
theorem as_nx (h1 : h (shv ρ) = .ok d) : asS i h ρ = .nx (ρ.set i (.sh d)) := by
  unfold asS
  rw [h1]
  rfl
theorem re_rt (h1 : h (pkv ρ) = .ok d) : reS h ρ = .rt d := by
  unfold reS
  rw [h1]
  rfl
theorem re_to (h1 : h (pkv ρ) = .ok d) : outR (reS h ρ) = .ok d := by
  rw [re_rt h1]
  rfl
theorem re_ex {x : Xc} (h1 : h (pkv ρ) = .ex x) : reS h ρ = .ex x (frA ρ) := by
  unfold reS
  rw [h1]
  rfl
theorem ex_nx (h1 : h (pkv ρ) = .ok d) : exS h ρ = .nx ρ := by
  unfold exS
  rw [h1]
  rfl
theorem if_yes (h1 : c (pkv ρ) = .ok true) : ifS c f g ρ = f ρ := by
  unfold ifS
  rw [h1]
  rfl
theorem if_no (h1 : c (pkv ρ) = .ok false) : ifS c f g ρ = g ρ := by
  unfold ifS
  rw [h1]
  rfl
theorem if_nx (h1 : c (pkv ρ) = .ok false) : ifS c f nxS ρ = .nx ρ := if_no h1
theorem wh_no {n : Nat} (h1 : c (pkv ρ) = .ok false) : whGo c f (n + 1) ρ = .nx ρ := by
  unfold whGo
  rw [h1]
  rfl
theorem wh_yes {n : Nat} (h1 : c (pkv ρ) = .ok true) (h2 : f ρ = .nx ρ') : whGo c f (n + 1) ρ = whGo c f n ρ' := by
  rw [whGo, h1]
  show (match f ρ with | .nx ρ' => _ | .ct ρ' => _ | .bk ρ' => _ | o => o) = _
  rw [h2]
theorem for_cons {t : Tg} {ps : List (Nat × D)} (h1 : bnd t d = some ps) (h2 : f (setsS ρ ps) = .nx ρ') : forGo t f (d :: ds) ρ = forGo t f ds ρ' := by
  rw [forGo, h1]
  show (match f (setsS ρ ps) with | .nx ρ' => _ | .ct ρ' => _ | .bk ρ' => _ | o => o) = _
  rw [h2]
theorem for_go {t : Tg} (h1 : fs (shv ρ) = .ok ds) : forS fs t f ρ = forGo t f ds ρ := by
  unfold forS
  rw [h1]
  rfl
theorem e2 (h1 : a ε = .ok d) (h2 : b ε = .ok e) (h3 : q d e = some z) : op2 q a b ε = .ok z := by
  unfold op2
  rw [h1, Res.bind_ok, h2, Res.bind_ok, h3]
  rfl
theorem e1 {p : D → Option D} (h1 : a ε = .ok d) (h3 : p d = some z) : op1 p a ε = .ok z := by
  unfold op1
  rw [h1, Res.bind_ok, h3]
  rfl
theorem eN {p : List D → Option D} (h1 : fs ε = .ok ds) (h3 : p ds = some z) : opN p fs ε = .ok z := by
  unfold opN
  rw [h1, Res.bind_ok, h3]
  rfl
theorem eC (h1 : a ε = .ok d) (h2 : fs ε = .ok ds) : argC a fs ε = .ok (d :: ds) := by
  unfold argC
  rw [h1, Res.bind_ok, h2]
  rfl
theorem eK {m : List D → Res D} (h1 : fs ε = .ok ds) : calF m fs ε = m ds := by
  unfold calF
  rw [h1]
  rfl
theorem eM {ty : D → Bool} (h1 : a ε = .ok d) (h2 : ty d = true) (h3 : b ε = .ok e) (h4 : q d e = some z) : mt1 ty q a b ε = .ok z := by
  unfold mt1
  rw [h1, Res.bind_ok, if_pos h2, h3, Res.bind_ok, h4]
  rfl
theorem eL (h1 : fs ε = .ok ds) (h2 : ds.length ≤ 1000) : lstF fs ε = .ok (.lst ds) := by
  unfold lstF
  rw [h1, Res.bind_ok, if_pos h2]
theorem eTu (h1 : fs ε = .ok ds) (h2 : ds.length ≤ 1000) : tupF fs ε = .ok (.tup ds) := by
  unfold tupF
  rw [h1, Res.bind_ok, if_pos h2]
theorem eS {lo hi : Env → Res (Option Int)} {l u : Option Int} (h1 : a ε = .ok d) (h2 : lo ε = .ok l) (h3 : hi ε = .ok u) (h4 : dSl d l u = some z) : slF a lo hi ε = .ok z := by
  unfold slF
  rw [h1, Res.bind_ok, h2, Res.bind_ok, h3, Res.bind_ok, h4]
  rfl
theorem eP {k : Int} (h1 : a ε = .ok (.int k)) : soP a ε = .ok (some k) := by
  unfold soP
  rw [h1]
  rfl
theorem tB {x : Bool} (h1 : a ε = .ok (.bl x)) : tst a ε = .ok x := by
  unfold tst
  rw [h1]
  rfl
theorem tAn {x y : Bool} (h1 : c ε = .ok x) (h2 : x = true → u ε = .ok y) : anT c u ε = .ok (x && y) := by
  unfold anT
  rw [h1]
  cases x with
  | true => exact h2 rfl
  | false => rfl
theorem tOr {x y : Bool} (h1 : c ε = .ok x) (h2 : x = false → u ε = .ok y) : orT c u ε = .ok (x || y) := by
  unfold orT
  rw [h1]
  cases x with
  | false => exact h2 rfl
  | true => rfl
theorem tNo {x : Bool} (h1 : c ε = .ok x) : noT c ε = .ok (!x) := by
  unfold noT
  rw [h1]
  rfl
theorem eAn {x y : Bool} (h1 : a ε = .ok (.bl x)) (h2 : x = true → b ε = .ok (.bl y)) : anF a b ε = .ok (.bl (x && y)) := by
  unfold anF
  rw [h1]
  cases x with
  | true => exact h2 rfl
  | false => rfl
theorem eNo {x : Bool} (h1 : a ε = .ok (.bl x)) : noF a ε = .ok (.bl (!x)) := by
  unfold noF
  rw [h1]
  rfl
theorem eIf {x : Bool} (h1 : c ε = .ok x) (h2 : x = true → a ε = r) (h3 : x = false → b ε = r) : ifF c a b ε = r := by
  unfold ifF
  rw [h1]
  cases x with
  | true => exact h2 rfl
  | false => exact h3 rfl
theorem eCh {q' : D → D → Option D} {k : F} {x y w : D} {s : Bool} (h1 : a ε = .ok x) (h2 : b ε = .ok y) (h3 : q x y = some (.bl s)) (h4 : s = true → ∃ u, k ε = .ok u ∧ q' y u = some w) (h5 : s = false → w = .bl false) : chF q q' a b k ε = .ok w := by
  unfold chF
  rw [h1, Res.bind_ok, h2, Res.bind_ok, h3, ofO_some, Res.bind_ok, toB_bl, ofO_some, Res.bind_ok]
  cases s with
  | true =>
    obtain ⟨u, e1, e2⟩ := h4 rfl
    rw [if_pos rfl, e1, Res.bind_ok, e2]
    rfl
  | false =>
    rw [h5 rfl]
    rfl
theorem eO (h1 : fs ε = .ok ds) : ofL fs ε = .ok (.lst ds) := by
  unfold ofL
  rw [h1]
  rfl
theorem eLc {it : Fs} {vs : List Nat} {t : Tg} {es : List D} (h1 : it ε = .ok ds) (h2 : ds.length ≤ 16777216) (h3 : lcGo (wipeE ε vs) t c a ds = .ok es) : lcO it vs t c a ε = .ok es := by
  unfold lcO
  rw [h1, Res.bind_ok, if_pos h2, h3]
theorem eI (h1 : a ε = .ok d) (h2 : itD d = some ds) : itF a ε = .ok ds := by
  unfold itF
  rw [h1, Res.bind_ok, h2]
  rfl
theorem eR {n : Int} (h1 : a ε = .ok (.int n)) (h2 : -(2 ^ 62) ≤ n ∧ n < 2 ^ 62) : rgF a ε = .ok (rgD 0 n) := by
  unfold rgF
  rw [h1, Res.bind_ok, toI_int, ofO_some, Res.bind_ok, if_pos h2]
theorem dm {n k : Nat} {l : List D} (h : l.length = n) (h2 : outR (f (l.map .sh ++ noS k)) = r) : dfM n k f l = r := by
  unfold dfM
  rw [if_pos h]
  exact h2
end
theorem mulq {i j : Int} (h : i.natAbs < 2 ^ 100) (k : j.natAbs < 2 ^ 100) : dMul (.int i) (.int j) = some (.int (i * j)) := if_pos ⟨Nat.lt_trans h (Nat.pow_lt_pow_right (by decide) (by decide)), Nat.lt_trans k (Nat.pow_lt_pow_right (by decide) (by decide))⟩
theorem fdivq {i j : Int} (h : 0 < j) (k : j < 2 ^ 64) : dFdiv (.int i) (.int j) = some (.int (i / j)) := if_pos ⟨h, Int.lt_trans k (by decide)⟩
theorem modq {i j : Int} (h : 0 < j) : dMod (.int i) (.int j) = some (.int (i % j)) := if_pos h
theorem eqq {d e : D} (h1 : dep d ≤ 60) (h2 : dep e ≤ 60) : dEq d e = some (.bl (eqd d e)) := if_pos ⟨h1, h2⟩
theorem neq {d e : D} (h1 : dep d ≤ 60) (h2 : dep e ≤ 60) : dNe d e = some (.bl (!eqd d e)) := if_pos ⟨h1, h2⟩
@[simp] theorem eqd_int (i j : Int) : eqd (.int i) (.int j) = decide (i = j) := by
  have e : eqd (.int i) (.int j) = (i == j) := by
    unfold eqd
    simp [py, PyData.eqv]
  rw [e]
  by_cases h : i = j
  · rw [decide_eq_true h]
    simp [h]
  · rw [decide_eq_false h]
    simp [h]
@[simp] theorem eqd_bl (i j : Bool) : eqd (.bl i) (.bl j) = decide (i = j) := by
  unfold eqd
  cases i <;> cases j <;> simp [py, PyData.eqv]
@[simp] theorem eqd_str (i j : List Nat) : eqd (.str i) (.str j) = decide (i = j) := by
  have e : eqd (.str i) (.str j) = (sOf i == sOf j) := by
    unfold eqd
    simp [py, PyData.eqv]
  rw [e]
  by_cases h : i = j
  · subst h
    simp
  · rw [decide_eq_false h]
    exact beq_eq_false_iff_ne.mpr fun z => h (sOf_inj z)
@[simp] theorem eqd_lst (i j : List D) : eqd (.lst i) (.lst j) = eqdL i j := by
  unfold eqd eqdL
  simp [py, PyData.eqv]
@[simp] theorem eqd_frl (i j : List D) : eqd (.frl i) (.lst j) = eqdL i j := by
  unfold eqd eqdL
  simp [py, PyData.eqv]
@[simp] theorem eqd_tup (i j : List D) : eqd (.tup i) (.tup j) = eqdL i j := by
  unfold eqd eqdL
  simp [py, PyData.eqv]
@[simp] theorem eqdL_nil : eqdL [] [] = true := by
  unfold eqdL
  simp [pyL, PyData.eqvAll]
@[simp] theorem eqdL_cons (a b : D) (as bs : List D) : eqdL (a :: as) (b :: bs) = (eqd a b && eqdL as bs) := by
  unfold eqdL eqd
  simp [pyL, PyData.eqvAll]
@[simp] theorem eqdL_cn (a : D) (as : List D) : eqdL (a :: as) [] = false := by
  unfold eqdL
  simp [pyL, PyData.eqvAll]
@[simp] theorem eqdL_nc (a : D) (as : List D) : eqdL [] (a :: as) = false := by
  unfold eqdL
  simp [pyL, PyData.eqvAll]
mutual
theorem eqd_refl : ∀ d : D, eqd d d = true
  | .non => by unfold eqd; simp [py, PyData.eqv]
  | .bl b => by simp
  | .int b => by simp
  | .str b => by simp
  | .lst b => by rw [eqd_lst]; exact eqdL_refl b
  | .tup b => by rw [eqd_tup]; exact eqdL_refl b
  | .frl b => by unfold eqd; simp [py, PyData.eqv]; exact eqdL_refl b
  | .tpz b => by unfold eqd; simp [py, PyData.eqv]; exact eqdL_refl b
  | .exv _ => by unfold eqd; simp [py, PyData.eqv]
  | .exf _ _ => by unfold eqd; simp [py, PyData.eqv]
  | .obj _ _ => by unfold eqd; simp [py, PyData.eqv]
  | .dct _ => by unfold eqd; simp [py, PyData.eqv]
  | .dco _ => by unfold eqd; simp [py, PyData.eqv]
  | .adr _ => by unfold eqd; simp [py, PyData.eqv]
theorem eqdL_refl : ∀ d : List D, eqdL d d = true
  | [] => eqdL_nil
  | x :: xs => by rw [eqdL_cons, eqd_refl x, eqdL_refl xs]; rfl
end
end Pu

namespace Pu
open PySem L2
def m_drawn : List D → Res D := dfM 3 3 (sqS (asS 3 (op2 dMul (cst (.int 7)) (vr 1))) (sqS (ifS (tst (op2 dNe (vr 0) (lstF argN))) (sqS (asS 3 (op2 dIx (vr 0) (op2 dMod (vr 1) (opN cLen (argC (vr 0) argN))))) (sqS (asS 4 (op2 dFdiv (vr 1) (opN cLen (argC (vr 0) argN)))) (sqS (ifS (anT (tst (op2 dGe (vr 3) (op2 dPow (cst (.int 10)) (cst (.int 18))))) (tst (op2 dLt (vr 4) (cst (.int 60))))) (sqS (asS 5 (op2 dFdiv (vr 3) (op2 dPow (cst (.int 10)) (cst (.int 18))))) (sqS (whS 1000 (anT (tst (op2 dGt (vr 5) (cst (.int 0)))) (tst (op2 dGt (vr 4) (cst (.int 0))))) (sqS (asS 5 (op2 dFdiv (vr 5) (cst (.int 1000000)))) (asS 4 (op2 dSub (vr 4) (cst (.int 1)))))) (ifS (tst (op2 dGt (vr 5) (cst (.int 0)))) (reS (op2 dMod (op2 dMod (vr 5) (cst (.int 1000000))) (vr 2))) nxS))) nxS) (asS 3 (op2 dAdd (vr 3) (op2 dMul (cst (.int 6553)) (op2 dFdiv (vr 1) (opN cLen (argC (vr 0) argN))))))))) nxS) (sqS (asS 3 (op2 dMod (op2 dAdd (op2 dMul (op2 dMod (vr 3) (cst (.int 2147483563))) (cst (.int 69069))) (op2 dMul (cst (.int 104723)) (op2 dAdd (vr 1) (cst (.int 1))))) (cst (.int 2147483563)))) (sqS (asS 3 (op2 dMod (op2 dAdd (op2 dMul (vr 3) (vr 3)) (op2 dFdiv (vr 3) (cst (.int 3)))) (cst (.int 2147483399)))) (reS (op2 dMod (op2 dFdiv (op2 dMod (op2 dAdd (op2 dMul (vr 3) (vr 3)) (op2 dFdiv (vr 3) (cst (.int 7)))) (cst (.int 2147483647))) (cst (.int 11))) (vr 2)))))))
theorem p1018 : dPow (.int 10) (.int 18) = some (.int (10 ^ 18)) := rfl
/-- the loop: rest is cut down while turn goes to nought -/
theorem drawn_loop {q : T} {f : SF} {a : D} {k many cell : Int}
    (hq : ∀ rest turn : Int, q [some a, some (.int k), some (.int many), some (.int cell), some (.int turn), some (.int rest)] = .ok (decide (0 < rest) && decide (0 < turn)))
    (hf : ∀ rest turn : Int, f [.sh a, .sh (.int k), .sh (.int many), .sh (.int cell), .sh (.int turn), .sh (.int rest)] = .nx [.sh a, .sh (.int k), .sh (.int many), .sh (.int cell), .sh (.int (turn - 1)), .sh (.int (rest / 1000000))]) :
    ∀ (n : Nat) (rest turn : Int), turn ≤ n → ∃ rest' turn' : Int, whGo q f (n + 1) [.sh a, .sh (.int k), .sh (.int many), .sh (.int cell), .sh (.int turn), .sh (.int rest)] = .nx [.sh a, .sh (.int k), .sh (.int many), .sh (.int cell), .sh (.int turn'), .sh (.int rest')] := by
  intro n
  induction n with
  | zero =>
    intro rest turn h
    refine ⟨rest, turn, wh_no ?_⟩
    refine (hq rest turn).trans ?_
    have : ¬ 0 < turn := by omega
    rw [decide_eq_false this, Bool.and_false]
  | succ n ih =>
    intro rest turn h
    by_cases c : (decide (0 < rest) && decide (0 < turn)) = true
    · rw [wh_yes ((hq rest turn).trans (by rw [c])) (hf rest turn)]
      exact ih _ _ (by omega)
    · refine ⟨rest, turn, wh_no ((hq rest turn).trans ?_)⟩
      rw [Bool.eq_false_iff.mpr c]
/-- it returns a number below many -/
def Rg (many : Nat) (o : Out) : Prop := ∃ x : Nat, x < many ∧ outR o = .ok (.int x)
theorem Rg.sq {many : Nat} {f g : SF} {ρ ρ' : SEnv} (h1 : f ρ = .nx ρ') (h2 : Rg many (g ρ')) : Rg many (sqS f g ρ) := by
  rw [sq_nx h1]
  exact h2
theorem Rg.re {many : Nat} {a : F} {ρ : SEnv} {i : Int} (hm : 0 < many) (h : a (pkv ρ) = .ok (.int (i % (many : Int)))) : Rg many (reS a ρ) := by
  have h1 := Int.emod_nonneg i (b := (many : Int)) (by omega)
  have h2 := Int.emod_lt_of_pos i (b := (many : Int)) (by omega)
  refine ⟨(i % (many : Int)).toNat, by omega, (re_to h).trans ?_⟩
  rw [Int.toNat_of_nonneg h1]
theorem drawn_ok (ns : List Int) (k many : Nat) (hm : 0 < many) (hk : k < 2 ^ 60) (hl : ns.length ≤ 1000) : ∃ r : Nat, r < many ∧ m_drawn [.frl (ns.map .int), .int k, .int many] = .ok (.int r) := by
  have mm : (0 : Int) < many := by omega
  have tail : ∀ (cell : Int) (t r : Sl), Rg many (sqS (asS 3 (op2 dMod (op2 dAdd (op2 dMul (op2 dMod (vr 3) (cst (.int 2147483563))) (cst (.int 69069))) (op2 dMul (cst (.int 104723)) (op2 dAdd (vr 1) (cst (.int 1))))) (cst (.int 2147483563)))) (sqS (asS 3 (op2 dMod (op2 dAdd (op2 dMul (vr 3) (vr 3)) (op2 dFdiv (vr 3) (cst (.int 3)))) (cst (.int 2147483399)))) (reS (op2 dMod (op2 dFdiv (op2 dMod (op2 dAdd (op2 dMul (vr 3) (vr 3)) (op2 dFdiv (vr 3) (cst (.int 7)))) (cst (.int 2147483647))) (cst (.int 11))) (vr 2)))) [.sh (.frl (ns.map .int)), .sh (.int k), .sh (.int many), .sh (.int cell), t, r]) := by
    intro cell t r
    have b0 : 0 ≤ cell % 2147483563 ∧ cell % 2147483563 < 2147483563 := ⟨Int.emod_nonneg _ (by decide), Int.emod_lt_of_pos _ (by decide)⟩
    refine Rg.sq (as_nx (e2 (e2 (e2 (e2 rfl rfl (modq (by decide))) rfl (mulq (by omega) (by decide))) (e2 rfl (e2 rfl rfl rfl) (mulq (by decide) (by omega))) rfl) rfl (modq (by decide)))) ?_
    generalize (cell % 2147483563 * 69069 + 104723 * ((k : Int) + 1)) = c0
    have b1 : 0 ≤ c0 % 2147483563 ∧ c0 % 2147483563 < 2147483563 := ⟨Int.emod_nonneg _ (by decide), Int.emod_lt_of_pos _ (by decide)⟩
    refine Rg.sq (as_nx (e2 (e2 (e2 rfl rfl (mulq (by omega) (by omega))) (e2 rfl rfl (fdivq (by decide) (by decide))) rfl) rfl (modq (by decide)))) ?_
    generalize (c0 % 2147483563 * (c0 % 2147483563) + c0 % 2147483563 / 3) = c1
    have b2 : 0 ≤ c1 % 2147483399 ∧ c1 % 2147483399 < 2147483399 := ⟨Int.emod_nonneg _ (by decide), Int.emod_lt_of_pos _ (by decide)⟩
    exact Rg.re hm (e2 (e2 (e2 (e2 (e2 rfl rfl (mulq (by omega) (by omega))) (e2 rfl rfl (fdivq (by decide) (by decide))) rfl) rfl (modq (by decide))) rfl (fdivq (by decide) (by decide))) rfl (modq mm))
  suffices h : Rg many ((sqS (asS 3 (op2 dMul (cst (.int 7)) (vr 1))) _ : SF) [.sh (.frl (ns.map .int)), .sh (.int k), .sh (.int many), .no, .no, .no]) from h
  refine Rg.sq (as_nx (e2 rfl rfl (mulq (by decide) (by omega)))) ?_
  cases ns with
  | nil => exact Rg.sq (if_nx (tB (e2 rfl (eL rfl (by decide)) rfl))) (tail _ _ _)
  | cons n0 ns =>
    have dl : depL ((n0 :: ns).map D.int) ≤ 0 := depL_map fun _ _ => Nat.le_refl _
    have el : ((n0 :: ns).map D.int).length = ns.length + 1 := by simp
    have hl2 : ns.length + 1 ≤ 1000 := hl
    generalize hxs : (n0 :: ns).map D.int = xs at *
    have hlen : (0 : Int) < ((xs.length : Nat) : Int) := by omega
    have hdiv : 0 ≤ (k : Int) / (xs.length : Nat) ∧ (k : Int) / (xs.length : Nat) ≤ k := ⟨Int.ediv_nonneg (by omega) (by omega), Int.ediv_le_self _ (by omega)⟩
    have hmod : 0 ≤ (k : Int) % (xs.length : Nat) ∧ (k : Int) % (xs.length : Nat) < (xs.length : Nat) := ⟨Int.emod_nonneg _ (by omega), Int.emod_lt_of_pos _ hlen⟩
    have at_ : ∃ c : Int, atI xs ((k : Int) % (xs.length : Nat)) = some (.int c) := by
      generalize (k : Int) % (xs.length : Nat) = j at hmod
      obtain ⟨m, rfl⟩ : ∃ m : Nat, j = (m : Int) := ⟨j.toNat, by omega⟩
      have hm : m < xs.length := by omega
      have hx : ∃ c : Int, xs[m]? = some (.int c) := by
        rw [← hxs, List.getElem?_map]
        have hm2 : m < (n0 :: ns).length := by simp; omega
        rw [List.getElem?_eq_getElem hm2]
        exact ⟨_, rfl⟩
      obtain ⟨c, hc⟩ := hx
      refine ⟨c, ?_⟩
      unfold atI
      have e : ixN xs.length (m : Int) = some m := by
        unfold ixN
        rw [if_pos (by omega)]
        simp
        omega
      rw [e]
      exact hc
    obtain ⟨c, hc⟩ := at_
    have eA : ∀ (t r : Sl) (cell : Int), (asS 3 (op2 dAdd (vr 3) (op2 dMul (cst (.int 6553)) (op2 dFdiv (vr 1) (opN cLen (argC (vr 0) argN)))))) [.sh (.frl xs), .sh (.int k), .sh (.int many), .sh (.int cell), t, r] = .nx [.sh (.frl xs), .sh (.int k), .sh (.int many), .sh (.int (cell + 6553 * ((k : Int) / (xs.length : Nat)))), t, r] :=
      fun t r cell => as_nx (e2 rfl (e2 rfl (e2 rfl (eN (eC rfl rfl) rfl) (fdivq hlen (by omega))) (mulq (by decide) (by omega))) rfl)
    have yes : (tst (op2 dNe (vr 0) (lstF argN))) (pkv [.sh (.frl xs), .sh (.int k), .sh (.int many), .sh (.int (7 * k)), .no, .no]) = .ok true := by
      refine tB (e2 rfl (eL rfl (by decide)) ((neq (by rw [dep_frl]; omega) (by decide)).trans ?_))
      rw [eqd_frl, ← hxs, List.map_cons, eqdL_cn]
      rfl
    generalize hB : (sqS (asS 3 (op2 dIx (vr 0) (op2 dMod (vr 1) (opN cLen (argC (vr 0) argN))))) _ : SF) = BODY
    have key : (∃ i : Int, BODY [.sh (.frl xs), .sh (.int k), .sh (.int many), .sh (.int (7 * k)), .no, .no] = .rt (.int (i % (many : Int)))) ∨ ∃ (cell : Int) (t r : Sl), BODY [.sh (.frl xs), .sh (.int k), .sh (.int many), .sh (.int (7 * k)), .no, .no] = .nx [.sh (.frl xs), .sh (.int k), .sh (.int many), .sh (.int cell), t, r] := by
      rw [← hB, sq_nx (as_nx (e2 rfl (e2 rfl (eN (eC rfl rfl) rfl) (modq hlen)) hc)), sq_nx (as_nx (e2 rfl (eN (eC rfl rfl) rfl) (fdivq hlen (by omega))))]
      have tst1 := tAn (c := tst (op2 dGe (vr 3) (op2 dPow (cst (.int 10)) (cst (.int 18))))) (u := tst (op2 dLt (vr 4) (cst (.int 60)))) (ε := pkv [.sh (.frl xs), .sh (.int k), .sh (.int many), .sh (.int c), .sh (.int ((k : Int) / (xs.length : Nat))), .no]) (tB (e2 rfl (e2 rfl rfl p1018) rfl)) (fun _ => tB (e2 rfl rfl rfl))
      by_cases cc : (decide (10 ^ 18 ≤ c) && decide ((k : Int) / (xs.length : Nat) < 60)) = true
      · have c60 : (k : Int) / (xs.length : Nat) < 60 := by
          have := (Bool.and_eq_true_iff.mp cc).2
          exact of_decide_eq_true this
        rw [cc] at tst1
        have lp := drawn_loop (a := .frl xs) (k := k) (many := many) (cell := c) (q := anT (tst (op2 dGt (vr 5) (cst (.int 0)))) (tst (op2 dGt (vr 4) (cst (.int 0))))) (f := sqS (asS 5 (op2 dFdiv (vr 5) (cst (.int 1000000)))) (asS 4 (op2 dSub (vr 4) (cst (.int 1)))))
          (fun rest turn => tAn (tB (e2 rfl rfl rfl)) fun _ => tB (e2 rfl rfl rfl)) (fun rest turn => (sq_nx (as_nx (e2 rfl rfl (fdivq (by decide) (by decide))))).trans (as_nx (e2 rfl rfl rfl))) 999 (c / 10 ^ 18) ((k : Int) / (xs.length : Nat)) (by omega)
        obtain ⟨rest, turn, hlp⟩ := lp
        by_cases pos : decide (0 < rest) = true
        · left
          refine ⟨rest % 1000000, ?_⟩
          refine sq_rt ((if_yes tst1).trans ?_)
          refine (sq_nx (as_nx (e2 rfl (e2 rfl rfl p1018) (fdivq (by decide) (by decide))))).trans ?_
          refine (sq_nx hlp).trans ?_
          refine (if_yes ((tB (e2 rfl rfl rfl)).trans (congrArg _ pos))).trans ?_
          exact re_rt (e2 (e2 rfl rfl (modq (by decide))) rfl (modq mm))
        · right
          have inner := (sq_nx (g := sqS (whS 1000 (anT (tst (op2 dGt (vr 5) (cst (.int 0)))) (tst (op2 dGt (vr 4) (cst (.int 0))))) (sqS (asS 5 (op2 dFdiv (vr 5) (cst (.int 1000000)))) (asS 4 (op2 dSub (vr 4) (cst (.int 1)))))) (ifS (tst (op2 dGt (vr 5) (cst (.int 0)))) (reS (op2 dMod (op2 dMod (vr 5) (cst (.int 1000000))) (vr 2))) nxS)) (as_nx (i := 5) (ρ := [.sh (.frl xs), .sh (.int k), .sh (.int many), .sh (.int c), .sh (.int ((k : Int) / (xs.length : Nat))), .no]) (h := op2 dFdiv (vr 3) (op2 dPow (cst (.int 10)) (cst (.int 18)))) (e2 rfl (e2 rfl rfl p1018) (fdivq (by decide) (by decide))))).trans
            ((sq_nx (f := whS 1000 _ _) hlp).trans (if_nx ((tB (e2 rfl rfl rfl)).trans (congrArg _ (Bool.eq_false_iff.mpr pos)))))
          exact ⟨_, _, _, (sq_nx ((if_yes tst1).trans inner)).trans (eA _ _ _)⟩
      · right
        rw [Bool.eq_false_iff.mpr cc] at tst1
        exact ⟨_, _, _, (sq_nx (if_nx tst1)).trans (eA _ _ _)⟩
    rcases key with ⟨i, hi⟩ | ⟨cell, t, r, hi⟩
    · refine ⟨(i % (many : Int)).toNat, ?_, ?_⟩
      · have h1 := Int.emod_nonneg i (b := (many : Int)) (by omega)
        have h2 := Int.emod_lt_of_pos i (b := (many : Int)) (by omega)
        omega
      · refine (congrArg outR (sq_rt ((if_yes yes).trans hi))).trans ?_
        rw [Int.toNat_of_nonneg (Int.emod_nonneg i (by omega))]
        rfl
    · exact Rg.sq ((if_yes yes).trans hi) (tail _ _ _)
end Pu

namespace Pu
open PySem L2
abbrev LET : List Nat := [97, 98, 99, 100, 101, 102, 103, 104, 105, 106, 107, 108, 109, 110, 111, 112, 113, 114, 115, 116, 117, 118, 119, 120, 121, 122]
def m_is_plain : List D → Res D := dfM 1 1 (reS (anF (op1 (isiD "str") (vr 0)) (anF (chF dLe dLe (cst (.int 1)) (opN cLen (argC (vr 0) argN)) (cst (.int 40))) (opN cAll (argC (ofL (lcO (itF (vr 0)) [1] (.nm 1) yesT (op2 dIn (vr 1) (cst (.str [97, 98, 99, 100, 101, 102, 103, 104, 105, 106, 107, 108, 109, 110, 111, 112, 113, 114, 115, 116, 117, 118, 119, 120, 121, 122]))))) argN)))))
def m_unlike : List D → Res D := dfM 2 2 (reS (opN cLen (argC (ofL (lcO (ziF (vr 0) (vr 1)) [2, 3] (.tp [2, 3]) (tst (op2 dNe (vr 2) (vr 3))) (cst (.int 1)))) argN)))
def m_word : List D → Res D := dfM 4 1 (reS (mt1 tyStr dJoin (cst (.str [])) (ofL (lcO (rgF (vr 3)) [4] (.nm 4) yesT (op2 dIx (vr 2) (calF m_drawn (argC (vr 0) (argC (op2 dAdd (vr 1) (vr 4)) (argC (opN cLen (argC (vr 2) argN)) argN)))))))))

def signs (w : List Nat) : List D := w.map fun c => .str [c]
theorem bls_map {α : Type} (w : List α) (p : α → Bool) : blsOf (w.map fun c => D.bl (p c)) = some (w.map p) := by
  have e : (w.map fun c => D.bl (p c)) = (w.map p).map D.bl := by rw [List.map_map]; rfl
  rw [e, blsOf_map]
theorem strs_map {α : Type} (w : List α) (p : α → List Nat) : strsOf (w.map fun c => D.str (p c)) = some (w.map p) := by
  have e : (w.map fun c => D.str (p c)) = (w.map p).map D.str := by rw [List.map_map]; rfl
  rw [e, strsOf_map]
/-- a comprehension over what is written as an image -/
theorem lcGo_im {α : Type} {ρ : Env} {t : Tg} {f : F} {h g : α → D} {ps : α → List (Nat × D)} {w : List α} (k : ∀ c ∈ w, bnd t (h c) = some (ps c) ∧ f (setsE ρ (ps c)) = .ok (g c)) : lcGo ρ t yesT f (w.map h) = .ok (w.map g) := by
  induction w with
  | nil => rfl
  | cons c w ih =>
    obtain ⟨h1, h2⟩ := k c List.mem_cons_self
    have ih := ih fun e he => k e (List.mem_cons_of_mem _ he)
    rw [List.map_cons, lcGo, h1, ofO_some, Res.bind_ok]
    unfold yesT
    rw [Res.pur_ok, Res.bind_ok, if_pos rfl, h2]
    unfold yesT at ih
    rw [ih]
    rfl
theorem lcGo_ex {α : Type} {ρ : Env} {t : Tg} {f : F} {h : α → D} {P : D → Prop} {ps : α → List (Nat × D)} {w : List α} (k : ∀ c ∈ w, bnd t (h c) = some (ps c) ∧ ∃ y, f (setsE ρ (ps c)) = .ok y ∧ P y) : ∃ ys, lcGo ρ t yesT f (w.map h) = .ok ys ∧ ys.length = w.length ∧ ∀ y ∈ ys, P y := by
  induction w with
  | nil => exact ⟨[], rfl, rfl, fun _ z => nomatch z⟩
  | cons c w ih =>
    obtain ⟨h1, y, h2, h3⟩ := k c List.mem_cons_self
    obtain ⟨ys, ih, l1, l2⟩ := ih fun e he => k e (List.mem_cons_of_mem _ he)
    refine ⟨y :: ys, ?_, by rw [List.length_cons, List.length_cons, l1], fun z hz => ?_⟩
    · rw [List.map_cons, lcGo, h1, ofO_some, Res.bind_ok]
      unfold yesT
      rw [Res.pur_ok, Res.bind_ok, if_pos rfl, h2]
      unfold yesT at ih
      rw [ih]
      rfl
    · rcases List.mem_cons.mp hz with e | e
      · rw [e]
        exact h3
      · exact l2 z e
theorem rgD_nat (n : Nat) : rgD 0 (n : Int) = (List.range n).map fun i => D.int (i : Nat) := by
  unfold rgD
  have e : (((n : Int) - 0).toNat) = n := by omega
  rw [e]
  exact List.map_congr_left fun i _ => by rw [Int.zero_add]
theorem atI_nat {α : Type} {xs : List α} {m : Nat} (h : m < xs.length) : atI xs (m : Int) = some xs[m] := by
  unfold atI
  have e : ixN xs.length (m : Int) = some m := by
    unfold ixN
    rw [if_pos (by omega)]
    simp
    omega
  rw [e]
  exact List.getElem?_eq_getElem h
theorem joinL_one : ∀ w : List Nat, TL.joinL [] (w.map fun c => [c]) = w
  | [] => rfl
  | [c] => rfl
  | c :: d :: w => by
    show [c] ++ ([] ++ TL.joinL [] ((d :: w).map fun c => [c])) = _
    rw [joinL_one (d :: w)]
    rfl
def plainB : D → Bool
  | .str w => decide (1 ≤ w.length) && (decide (w.length ≤ 40) && (w.map fun c => decide (c ∈ LET)).all id)
  | _ => false
def okD : D → Prop
  | .str w => w.length ≤ 1000
  | .non => True
  | .bl _ => True
  | .int _ => True
  | .lst _ => True
  | .tup _ => True
  | _ => False
theorem is_plain_ok {d : D} (h : okD d) : m_is_plain [d] = .ok (.bl (plainB d)) := by
  cases d with
  | str w =>
    have hw : w.length ≤ 1000 := h
    have el : cLen [.str w] = some (.int w.length) := if_pos (by omega)
    refine dm rfl (re_to ?_)
    refine (eAn (x := true) (y := decide (1 ≤ w.length) && (decide (w.length ≤ 40) && (w.map fun c => decide (c ∈ LET)).all id)) (e1 rfl rfl) fun _ => ?_)
    refine (eAn (x := decide (1 ≤ w.length) && decide (w.length ≤ 40)) (y := (w.map fun c => decide (c ∈ LET)).all id) ?_ fun _ => ?_).trans ?_
    · refine eCh (s := decide ((1 : Int) ≤ w.length)) rfl (eN (eC rfl rfl) el) rfl (fun hs => ⟨_, rfl, ?_⟩) fun hs => ?_
      · have h1 : 1 ≤ w.length := by have := of_decide_eq_true hs; omega
        rw [decide_eq_true h1, Bool.true_and]
        show some (D.bl (decide ((w.length : Int) ≤ 40))) = _
        congr 2
        exact decide_eq_decide.mpr (by omega)
      · have h1 : ¬ 1 ≤ w.length := by have := of_decide_eq_false hs; omega
        rw [decide_eq_false h1]
        rfl
    · refine eN (eC (eO (eLc (eI rfl rfl) (by rw [List.length_map]; omega) (lcGo_im (g := fun c => .bl (decide (c ∈ LET))) (ps := fun c => [(1, .str [c])]) fun c _ => ⟨rfl, e2 rfl rfl rfl⟩))) rfl) ?_
      show (blsOf _).map _ = _
      rw [bls_map]
      rfl
    · rw [Bool.and_assoc]
  | non => rfl
  | bl b => rfl
  | int b => rfl
  | lst b => rfl
  | tup b => rfl
  | _ => exact h.elim
/-- a word over a: n signs of it -/
def Wd (a : List Nat) (n : Nat) (w : List Nat) : Prop := w.length = n ∧ ∀ c ∈ w, c ∈ a
theorem word_ok (ns : List Int) (hl : ns.length ≤ 1000) (at_ : Nat) (ha : at_ < 2 ^ 50) (a : List Nat) (h0 : 0 < a.length) (h1 : a.length ≤ 1000) (n : Nat) (hn : n ≤ 1000) : ∃ w, Wd a n w ∧ m_word [.frl (ns.map .int), .int at_, .str a, .int n] = .ok (.str w) := by
  have ela : cLen [.str a] = some (.int a.length) := if_pos (by omega)
  have one : ∀ i ∈ List.range n, bnd (.nm 4) (D.int (i : Nat)) = some [(4, D.int (i : Nat))] ∧ ∃ y, (op2 dIx (vr 2) (calF m_drawn (argC (vr 0) (argC (op2 dAdd (vr 1) (vr 4)) (argC (opN cLen (argC (vr 2) argN)) argN))))) (setsE [some (.frl (ns.map .int)), some (.int at_), some (.str a), some (.int n), none] [(4, D.int (i : Nat))]) = .ok y ∧ ∃ c ∈ a, y = .str [c] := by
    intro i hi
    have hi : i < n := List.mem_range.mp hi
    obtain ⟨r, hr, e⟩ := drawn_ok ns (at_ + i) a.length h0 (by omega) hl
    refine ⟨rfl, .str [a[r]], ?_, a[r], List.getElem_mem hr, rfl⟩
    refine e2 rfl ((eK (eC rfl (eC (e2 rfl rfl rfl) (eC (eN (eC rfl rfl) ela) rfl)))).trans e) ?_
    show (if a.length ≤ 16777216 then _ else _) = _
    rw [if_pos (by omega), atI_nat hr]
    rfl
  obtain ⟨ys, e, l1, l2⟩ := lcGo_ex one
  have key : ∀ ys : List D, (∀ y ∈ ys, ∃ c ∈ a, y = .str [c]) → ∃ w : List Nat, ys = (w.map fun c => D.str [c]) ∧ ∀ c ∈ w, c ∈ a := by
    intro ys
    induction ys with
    | nil => exact fun _ => ⟨[], rfl, fun _ z => nomatch z⟩
    | cons y ys ih =>
      intro h
      obtain ⟨c, hc, ey⟩ := h y List.mem_cons_self
      obtain ⟨w, ew, hw⟩ := ih fun z hz => h z (List.mem_cons_of_mem _ hz)
      refine ⟨c :: w, by rw [ey, ew]; rfl, fun z hz => ?_⟩
      rcases List.mem_cons.mp hz with e | e
      · rw [e]; exact hc
      · exact hw z e
  obtain ⟨w, ew, hw⟩ := key ys l2
  have lw : w.length = n := by
    have := l1
    rw [ew, List.length_map, List.length_range] at this
    exact this
  refine ⟨w, ⟨lw, hw⟩, dm rfl (re_to ?_)⟩
  refine eM rfl rfl (eO (eLc ((eR rfl (by omega)).trans (by rw [rgD_nat])) (by rw [List.length_map, List.length_range]; omega) e)) ?_
  show (strsOf ys).bind (jn []) = _
  rw [ew, strs_map]
  show jn [] (w.map fun c => [c]) = _
  unfold jn
  have sm : ∀ w : List Nat, ((w.map fun c => [c]).map List.length).sum = w.length := by
    intro w
    induction w with
    | nil => rfl
    | cons c w ih =>
      rw [List.map_cons, List.map_cons, List.sum_cons, ih]
      show 1 + w.length = w.length + 1
      omega
  rw [sm w, if_pos (by simp; omega), joinL_one]
end Pu

namespace Pu
open PySem PySem.Spec PyProof.Rows L2 Evl
/-- a parameter is taken from the written values (0), the defaults (1), the keywords' values (2) -/
def pick {α : Type} (pl : List (Nat × Nat)) (us mv ws : List α) : List α := pl.filterMap fun p => (match p.1 with
  | 0 => us
  | 1 => mv
  | _ => ws)[p.2]?
theorem Vals.at {vs : List V} {us : List Value} (r : Vals vs us) (i : Nat) : (vs[i]? = none ∧ us[i]? = none) ∨ ∃ v u, vs[i]? = some v ∧ us[i]? = some u ∧ RelV v u := by
  induction r generalizing i with
  | nil => exact .inl ⟨by simp, by simp⟩
  | cons q t ih =>
    cases i with
    | zero => exact .inr ⟨_, _, rfl, rfl, q⟩
    | succ i => simpa using ih i
/-- the def named x as it is called with np values and the keywords ks; mz: what lacks -/
structure FnKw (P : Program) (w : World) (K : PySem.W.Frag) (mg : Str → Option Value) (base : Heap) (k : Nat) (x : Str) (n : Nat) (m : List D → Res D) (np : Nat) (ks : List Str) (pl : List (Nat × Nat)) (md : List D) : Prop where
  ex : ∃ (f : Addr) (fd : FuncData) (ps : List Str) (g : List Value → List Value → List Value) (mz : List V), FnOk P w K mg base (L2N.CX P w) k f fd ps (spP K n m) ∧ mg x = some (.ref f) ∧ PySem.W.keepIn K (.ref f) = true ∧ KBn K fd ps np ks g (fun vs zs => pick pl vs mz zs) ∧ ∀ B, RL K none B mz md
  st : ∀ ds, ds.length ≠ n → m ds = .st
section
variable {X : Cx} {W : WX} {xa : Xa} {pos p kpos : Pos} {e : Expr} {es : List Expr} {kws : List Keyword} {fs gs : Fs} {a : F} {nm : Option Str}
end
end Pu

namespace Pu
open PySem L2
def m_is_number : List D → Res D := dfM 3 0 (reS (anF (op1 (isiD "int") (vr 0)) (anF (noF (op1 (isiD "bool") (vr 0))) (chF dLe dLe (vr 1) (vr 0) (vr 2)))))
def cnt (u v : List Nat) : Nat := ((u.zip v).filter fun p => !decide (p.1 = p.2)).length
theorem lcGo_none {ρ : Pu.Env} {i : Nat} {c : T} {f : F} : ∀ {ds : List D}, (∀ d ∈ ds, c (setsE ρ [(i, d)]) = .ok false) → lcGo ρ (.nm i) c f ds = .ok []
  | [], _ => rfl
  | d :: ds, h => by
    have ih := lcGo_none (i := i) (f := f) (ds := ds) fun e he => h e (List.mem_cons_of_mem _ he)
    unfold lcGo
    show ((c (setsE ρ [(i, d)])).pur.bind _) = _
    rw [h d List.mem_cons_self, Res.pur_ok, Res.bind_ok, if_neg Bool.false_ne_true, ih]

def numB (lo hi : Int) : D → Bool
  | .int i => decide (lo ≤ i) && decide (i ≤ hi)
  | _ => false
theorem is_number_ok {d : D} {lo hi : Int} (h : okD d) : m_is_number [d, .int lo, .int hi] = .ok (.bl (numB lo hi d)) := by
  cases d with
  | int i =>
    refine dm rfl (re_to ?_)
    refine (eAn (x := true) (y := true && (decide (lo ≤ i) && decide (i ≤ hi))) (e1 rfl rfl) fun _ => ?_)
    refine (eAn (x := true) (y := decide (lo ≤ i) && decide (i ≤ hi)) (eNo (x := false) (e1 rfl rfl)) fun _ => ?_)
    refine eCh (s := decide (lo ≤ i)) rfl rfl rfl (fun hs => ⟨_, rfl, ?_⟩) fun hs => ?_
    · rw [hs, Bool.true_and]
      rfl
    · rw [hs]
      rfl
  | str w => rfl
  | non => rfl
  | bl b => cases b <;> rfl
  | lst b => rfl
  | tup b => rfl
  | _ => exact h.elim
theorem ty_ex {cs : List Nat} {f : SF} {l : List Clm} {ρ ρ' : SEnv} {x : Xc} {o : Out} (h : f ρ = .ex x ρ') (h2 : (if cs.contains x.c = true then clGo l x ρ' else .st) = o) : tyS cs f l ρ = o := by
  unfold tyS
  rw [h]
  exact h2
/-- the four alphabets -/
def A4 : List (List Nat) := [[97, 98], [97, 99], [97, 98, 99], [97, 99, 103, 116]]
theorem a4_let : ∀ a ∈ A4, (∀ c ∈ a, c ∈ LET) ∧ 0 < a.length ∧ a.length ≤ 6 := by
  intro a h
  simp only [A4, List.mem_cons, List.not_mem_nil, or_false] at h
  rcases h with rfl | rfl | rfl | rfl <;> decide
theorem wd_plain {a : List Nat} (ha : ∀ c ∈ a, c ∈ LET) {n : Nat} {w : List Nat} (h : Wd a n w) (h1 : 1 ≤ n) (h2 : n ≤ 40) : plainB (.str w) = true := by
  show (decide (1 ≤ w.length) && (decide (w.length ≤ 40) && (w.map fun c => decide (c ∈ LET)).all id)) = true
  rw [h.1, decide_eq_true h1, decide_eq_true h2, Bool.true_and, Bool.true_and, List.all_map]
  exact List.all_eq_true.mpr fun c hc => decide_eq_true (ha c (h.2 c hc))
end Pu

namespace Pu
open PySem L2
section
variable {ρ : SEnv} {i : Nat} {h : F} {ds : List D} {d x y z : D}
end
theorem par_nx {i j : Nat} {z1 z2 : Zm} {ρ : SEnv} {s t : Sl} (h1 : ∀ k, zRun z1 ρ k = k s) (h2 : ∀ k, zRun z2 ρ k = k t) : paS i j z1 z2 ρ = .nx ((ρ.set i s).set j t) := by
  unfold paS
  rw [h1, h2]
theorem zs_ok {f : F} {ρ : SEnv} {d : D} (h : f (shv ρ) = .ok d) : ∀ k, zRun (.s f) ρ k = k (.sh d) := fun k => by
  unfold zRun
  dsimp only
  rw [h]
  rfl
theorem cut_len {α : Type} (t : List α) (lo hi : Option Int) : (cut t lo hi).length ≤ t.length := by
  unfold cut
  rw [List.length_take, List.length_drop]
  omega
theorem slq {t : List Nat} {lo hi : Option Int} (h : t.length ≤ 1000) : dSl (.str t) lo hi = some (.str (cut t lo hi)) := if_pos (by omega)
end Pu

namespace Pu
open PySem L2
def mn3 (x y z : Int) : Int := if x ≤ (if y ≤ z then y else z) then x else (if y ≤ z then y else z)
theorem mn3_le (x y z : Int) : mn3 x y z ≤ x ∧ mn3 x y z ≤ y ∧ mn3 x y z ≤ z := by
  unfold mn3
  split <;> split <;> omega
theorem mn3_cases (x y z : Int) : mn3 x y z = x ∨ mn3 x y z = y ∨ mn3 x y z = z := by
  unfold mn3
  split <;> split <;> omega
def grow (V : Nat → Nat → List Int → Int) : Nat → List Nat → List Int → List Int
  | _, [], acc => acc
  | j, c :: cs, acc => grow V (j + 1) cs (acc ++ [V j c acc])
/-- one row from the row above -/
def Vd (s : Nat) (row : List Int) : Nat → Nat → List Int → Int := fun j c acc => mn3 (row.getD j 0 + (if s = c then 0 else 1)) (row.getD (j + 1) 0 + 1) (acc.getD j 0 + 1)
def stp (w : List Nat) (first : Int) (row : List Int) (s : Nat) : List Int := grow (Vd s row) 0 w [first]
def row0 (n : Nat) : List Int := (List.range (n + 1)).map fun i => ((i : Nat) : Int)
/-- the rows of edits, of ends -/
def eRow (w : List Nat) (x : List Nat) : List Int := x.foldl (fun row s => stp w (row.getD 0 0 + 1) row s) (row0 w.length)
def sRow (w : List Nat) (x : List Nat) : List Int := x.foldl (fun row s => stp w 0 row s) (row0 w.length)
end Pu

namespace Pu
open PySem PySem.Spec PyProof.Rows L2 Evl
section
variable {X : Cx} {xa : Xa} {W : WX} {pos p : Pos} {tg a b c : Expr} {f h k : F}
end
end Pu

namespace Pu
open PySem PySem.Spec PyProof.Rows L2 Evl
section
variable {X : Cx} {xa : Xa} {W : WX} {pos p1 p2 p3 : Pos} {e : Expr} {f : F} {k : Nat}
end
end Pu

namespace Pu
open PySem L2
def Lv : List Nat → List Nat → Int
  | [], y => ((y.length : Nat) : Int)
  | a :: x, [] => (((a :: x).length : Nat) : Int)
  | a :: x, b :: y => mn3 (Lv x y + (if a = b then 0 else 1)) (Lv x (b :: y) + 1) (Lv (a :: x) y + 1)
termination_by x y => x.length + y.length
theorem Lv_nil (y : List Nat) : Lv [] y = ((y.length : Nat) : Int) := by rw [Lv]
theorem Lv_nilR (x : List Nat) : Lv x [] = ((x.length : Nat) : Int) := by
  cases x with
  | nil => rw [Lv]
  | cons a x => rw [Lv]
theorem Lv_cons (a b : Nat) (x y : List Nat) : Lv (a :: x) (b :: y) = mn3 (Lv x y + (if a = b then 0 else 1)) (Lv x (b :: y) + 1) (Lv (a :: x) y + 1) := by rw [Lv]
/-- least of three, as inequalities -/
theorem mn3_iff {v x y z : Int} : v = mn3 x y z ↔ (v ≤ x ∧ v ≤ y ∧ v ≤ z) ∧ (v = x ∨ v = y ∨ v = z) := by
  constructor
  · rintro rfl
    exact ⟨mn3_le x y z, mn3_cases x y z⟩
  · rintro ⟨⟨h1, h2, h3⟩, h4⟩
    have a := mn3_le x y z
    have b := mn3_cases x y z
    omega
theorem back1 (a b : Nat) : ∀ y : List Nat, Lv [a] (y ++ [b]) = mn3 (Lv [] y + (if a = b then 0 else 1)) (Lv [] (y ++ [b]) + 1) (Lv [a] y + 1)
  | [] => by
    show Lv [a] [b] = _
    rw [Lv_cons]
    rfl
  | d :: y => by
    have ih := mn3_iff.mp (back1 a b y)
    have e1 := mn3_iff.mp (Lv_cons a d [] (y ++ [b]))
    have e2 := mn3_iff.mp (Lv_cons a d [] y)
    rw [List.cons_append]
    simp only [Lv_nil, List.length_cons, List.length_append, List.length_nil] at ih e1 e2 ⊢
    refine mn3_iff.mpr ?_
    generalize Lv [a] (d :: (y ++ [b])) = v at *
    generalize Lv [a] (y ++ [b]) = v1 at *
    generalize Lv [a] (d :: y) = v2 at *
    generalize Lv [a] y = v3 at *
    generalize (if a = b then (0 : Int) else 1) = p at *
    generalize (if a = d then (0 : Int) else 1) = q at *
    omega
theorem back2 (a b : Nat) : ∀ x : List Nat, Lv (x ++ [a]) [b] = mn3 (Lv x [] + (if a = b then 0 else 1)) (Lv x [b] + 1) (Lv (x ++ [a]) [] + 1)
  | [] => by
    show Lv [a] [b] = _
    rw [Lv_cons]
    rfl
  | c :: x => by
    have ih := mn3_iff.mp (back2 a b x)
    have e1 := mn3_iff.mp (Lv_cons c b (x ++ [a]) [])
    have e2 := mn3_iff.mp (Lv_cons c b x [])
    rw [List.cons_append]
    simp only [Lv_nilR, List.length_cons, List.length_append, List.length_nil] at ih e1 e2 ⊢
    refine mn3_iff.mpr ?_
    generalize Lv (c :: (x ++ [a])) [b] = v at *
    generalize Lv (x ++ [a]) [b] = v1 at *
    generalize Lv (c :: x) [b] = v2 at *
    generalize Lv x [b] = v3 at *
    generalize (if a = b then (0 : Int) else 1) = p at *
    generalize (if c = b then (0 : Int) else 1) = q at *
    omega
/-- from the back as from the front -/
theorem back (a b : Nat) : ∀ (n : Nat) (x y : List Nat), x.length + y.length ≤ n → Lv (x ++ [a]) (y ++ [b]) = mn3 (Lv x y + (if a = b then 0 else 1)) (Lv x (y ++ [b]) + 1) (Lv (x ++ [a]) y + 1)
  | n, [], y, _ => back1 a b y
  | n, x, [], _ => back2 a b x
  | 0, _ :: _, _ :: _, h => by simp at h
  | n + 1, c :: x, d :: y, h => by
    have hl : x.length + 1 + (y.length + 1) ≤ n + 1 := h
    have i1 := mn3_iff.mp (back a b n x y (by omega))
    have i2 := mn3_iff.mp (back a b n x (d :: y) (by show x.length + (y.length + 1) ≤ n; omega))
    have i3 := mn3_iff.mp (back a b n (c :: x) y (by show x.length + 1 + y.length ≤ n; omega))
    have f0 := mn3_iff.mp (Lv_cons c d (x ++ [a]) (y ++ [b]))
    have f1 := mn3_iff.mp (Lv_cons c d x y)
    have f2 := mn3_iff.mp (Lv_cons c d x (y ++ [b]))
    have f3 := mn3_iff.mp (Lv_cons c d (x ++ [a]) y)
    rw [List.cons_append, List.cons_append]
    rw [List.cons_append] at i2 i3
    refine mn3_iff.mpr ?_
    generalize Lv (c :: (x ++ [a])) (d :: (y ++ [b])) = v0 at *
    generalize Lv (x ++ [a]) (y ++ [b]) = v1 at *
    generalize Lv (x ++ [a]) (d :: (y ++ [b])) = v2 at *
    generalize Lv (c :: (x ++ [a])) (y ++ [b]) = v3 at *
    generalize Lv (c :: x) (d :: y) = v4 at *
    generalize Lv (c :: x) (d :: (y ++ [b])) = v5 at *
    generalize Lv (c :: (x ++ [a])) (d :: y) = v6 at *
    generalize Lv x y = u1 at *
    generalize Lv x (y ++ [b]) = u2 at *
    generalize Lv (x ++ [a]) y = u3 at *
    generalize Lv x (d :: y) = u4 at *
    generalize Lv x (d :: (y ++ [b])) = u5 at *
    generalize Lv (x ++ [a]) (d :: y) = u6 at *
    generalize Lv (c :: x) y = u7 at *
    generalize Lv (c :: x) (y ++ [b]) = u8 at *
    generalize Lv (c :: (x ++ [a])) y = u9 at *
    generalize (if a = b then (0 : Int) else 1) = p at *
    generalize (if c = d then (0 : Int) else 1) = q at *
    omega
end Pu

namespace Pu
open PySem L2
abbrev dl (a b : Nat) : Int := if a = b then 0 else 1
end Pu

namespace Pu
open PySem PySem.Spec PyProof.Rows L2 Evl
section
variable {X : Cx} {xa : Xa} {W : WX} {pos pos' p1 p2 py : Pos}
end
end Pu

namespace Pu
open PySem PySem.Spec PyProof.Rows L2 Evl
section
variable {X : Cx} {xa : Xa} {W : WX} {pos apos : Pos} {a b o e : Expr} {f h g : F}
end
end Pu

namespace Pu
open PySem PySem.Spec PyProof.Rows L2 Evl
end Pu

namespace Pu
open PySem PySem.Spec PyProof.Rows L2 Evl
abbrev P2 := Int × Int
def pD (p : P2) : D := .tup [.int p.1, .int p.2]
/-- the pair that lies there -/
def kP (H : Hp) : V → P2
  | .ref t => match H t with
    | some (.tup [.int a, .int b]) => (a, b)
    | _ => (0, 0)
  | _ => (0, 0)
section
variable {K : PySem.W.Frag} {xa : Xa} {B : Hp}
theorem R.p2 {v : V} {p : P2} (h : R K xa B v (pD p)) : ∃ t, v = .ref t ∧ B t = some (.tup [.int p.1, .int p.2]) := by
  unfold pD at h
  cases h with
  | @tup a xs ds h1 q1 =>
    cases q1 with
    | cons r1 q2 => cases q2 with
      | cons r2 q3 => cases q3; cases r1; cases r2; exact ⟨_, rfl, h1⟩
theorem RL.p2 : ∀ {vs : List V} {l : List P2}, RL K xa B vs (l.map pD) → ∀ v ∈ vs, ∃ t, v = .ref t ∧ B t = some (.tup [.int (kP B v).1, .int (kP B v).2])
  | _, [], .nil, _, h => nomatch h
  | _, p :: l, .cons r t, v, h => by
    rcases List.mem_cons.mp h with e | e
    · subst e
      obtain ⟨t, rfl, ht⟩ := R.p2 r
      refine ⟨t, rfl, ?_⟩
      have e : kP B (.ref t) = p := by
        unfold kP
        simp only [ht]
      rw [e]; exact ht
    · exact RL.p2 t v e
end
end Pu

namespace Pu
open PySem PySem.Spec PyProof.Rows L2 Evl
def pcs (t : List Nat) (i l : Nat) : List Nat := (t.drop i).take l
def pl (t w : List Nat) : List P2 := (List.range (t.length + 1 - w.length)).map fun i => (((i : Nat) : Int), ((cnt (pcs t i w.length) w : Nat) : Int))
def sp (t w : List Nat) (m : Int) : List P2 := (pl t w).filter fun p => decide (p.2 ≤ m)
end Pu

namespace Pu
open PySem PySem.Spec PyProof.Rows L2 Evl
end Pu

namespace Pu
open PySem PySem.Spec PyProof.Rows L2 Evl
section
variable {X : Cx}
end
section
variable {X : Cx} {xa : Xa} {W : WX} {pos apos : Pos} {o e : Expr} {f g : F}
end
section
variable {K : PySem.W.Frag} {xa : Xa} {W : WX} {B0 H0 B H : Hp} {σ τ : L2.St} {ρ pd : SEnv}
end
section
variable {X : Cx} {xa : Xa} {W : WX} {a b c d t : Expr} {pt2 pos : Pos} {k2 : Nat} {z1 z2 z3 z4 : Zm}
end
section
variable {X : Cx} {xa : Xa} {W : WX} {pos pos' p1 p2 py : Pos}
end
end Pu

namespace Pu
open PySem PySem.Spec PyProof.Rows L2 Evl
section
variable {X : Cx} {xa : Xa} {W : WX} {a b c t : Expr} {pt2 pos : Pos} {k2 : Nat} {z1 z2 z3 : Zm}
end
end Pu

namespace Pu
open PySem L2
def sz (b : Nat) : Nat → Nat
  | 0 => 1
  | k + 1 => 1 + b * sz b k
section
variable {S N : Type} (nx : S → N → S) (kids : S → N → List N)
def goD : Nat → S → N → S
  | 0, s, n => nx s n
  | k + 1, s, n => (kids s n).foldl (goD k) (nx s n)
end
section
variable {S N J : Type} {E : S → List N → J → SEnv} {c : T} {f : SF} {nx : S → N → S} {kids : S → N → List N} {dp : N → Nat} {b : Nat} {P : N → Prop} {w : S → Nat}
/-- what the body of the loop has to do -/
structure Dfs (E : S → List N → J → SEnv) (c : T) (f : SF) (nx : S → N → S) (kids : S → N → List N) (dp : N → Nat) (b : Nat) (P : N → Prop) (w : S → Nat) : Prop where
  more : ∀ s st n x, c (pkv (E s (st ++ [n]) x)) = .ok true
  body : ∀ s st n x, P n → w s ≤ 100000 → st.length ≤ 5000 → ∃ x', f (E s (st ++ [n]) x) = .nx (E (nx s n) (st ++ (kids s n).reverse) x')
  wle : ∀ s n, w (nx s n) ≤ w s + 1
  few : ∀ s n, (kids s n).length ≤ b
  down : ∀ s n m, P n → m ∈ kids s n → P m ∧ dp m + 1 ≤ dp n
theorem Dfs.list {k : Nat} (one : ∀ (s : S) (n : N) (st : List N) (x : J) (F : Nat), P n → dp n ≤ k → w s + F ≤ 100000 → st.length + b * (k + 1) ≤ 5000 → sz b k ≤ F →
      ∃ x' F', F ≤ F' + sz b k ∧ w (goD nx kids k s n) + F' ≤ w s + F ∧ whGo c f F (E s (st ++ [n]) x) = whGo c f F' (E (goD nx kids k s n) st x')) :
    ∀ (ns : List N) (s : S) (st : List N) (x : J) (F : Nat), (∀ n ∈ ns, P n ∧ dp n ≤ k) → w s + F ≤ 100000 → st.length + ns.length + b * (k + 1) ≤ 5000 → ns.length * sz b k ≤ F →
      ∃ x' F', F ≤ F' + ns.length * sz b k ∧ w (ns.foldl (goD nx kids k) s) + F' ≤ w s + F ∧ whGo c f F (E s (st ++ ns.reverse) x) = whGo c f F' (E (ns.foldl (goD nx kids k) s) st x')
  | [], s, st, x, F, _, _, _, _ => ⟨x, F, by omega, Nat.le_refl _, by rw [List.reverse_nil, List.append_nil]; rfl⟩
  | n :: r, s, st, x, F, hp, hw, hl, hf => by
    have hl : st.length + (r.length + 1) + b * (k + 1) ≤ 5000 := hl
    have hf : (r.length + 1) * sz b k ≤ F := hf
    rw [Nat.add_mul, Nat.one_mul] at hf
    obtain ⟨x1, F1, h1, h2, h3⟩ := one s n (st ++ r.reverse) x F (hp n List.mem_cons_self).1 (hp n List.mem_cons_self).2 hw (by rw [List.length_append, List.length_reverse]; omega) (by omega)
    obtain ⟨x2, F2, g1, g2, g3⟩ := Dfs.list one r (goD nx kids k s n) st x1 F1 (fun m hm => hp m (List.mem_cons_of_mem _ hm)) (by omega) (by omega) (by omega)
    refine ⟨x2, F2, ?_, by rw [List.foldl_cons]; omega, ?_⟩
    · show F ≤ F2 + (r.length + 1) * sz b k
      rw [Nat.add_mul, Nat.one_mul]
      omega
    · rw [List.reverse_cons, ← List.append_assoc, h3, g3]
      rfl
theorem Dfs.one (D : Dfs E c f nx kids dp b P w) : ∀ (k : Nat) (s : S) (n : N) (st : List N) (x : J) (F : Nat), P n → dp n ≤ k → w s + F ≤ 100000 → st.length + b * (k + 1) ≤ 5000 → sz b k ≤ F →
      ∃ x' F', F ≤ F' + sz b k ∧ w (goD nx kids k s n) + F' ≤ w s + F ∧ whGo c f F (E s (st ++ [n]) x) = whGo c f F' (E (goD nx kids k s n) st x')
  | 0, s, n, st, x, F, hp, hd, hw, hl, hf => by
    have hf : 1 ≤ F := hf
    obtain ⟨G, rfl⟩ : ∃ G, F = G + 1 := ⟨F - 1, by omega⟩
    obtain ⟨x', e⟩ := D.body s st n x hp (by omega) (by omega)
    have ek : kids s n = [] := by
      cases z : kids s n with
      | nil => rfl
      | cons m r =>
        have := (D.down s n m hp (by rw [z]; exact List.mem_cons_self)).2
        omega
    rw [ek, List.reverse_nil, List.append_nil] at e
    have := D.wle s n
    exact ⟨x', G, Nat.le_refl _, by show w (nx s n) + G ≤ _; omega, wh_yes (D.more s st n x) e⟩
  | k + 1, s, n, st, x, F, hp, hd, hw, hl, hf => by
    have hf : 1 + b * sz b k ≤ F := hf
    obtain ⟨G, rfl⟩ : ∃ G, F = G + 1 := ⟨F - 1, by omega⟩
    obtain ⟨x1, e⟩ := D.body s st n x hp (by omega) (by omega)
    have hb := D.few s n
    have hm : (kids s n).length * sz b k ≤ b * sz b k := Nat.mul_le_mul_right _ hb
    have hw1 := D.wle s n
    have hl2 : b * (k + 1 + 1) = b * (k + 1) + b := Nat.mul_succ _ _
    obtain ⟨x2, F2, g1, g2, g3⟩ := Dfs.list (D.one k) (kids s n) (nx s n) st x1 G (fun m h => ⟨(D.down s n m hp h).1, by have := (D.down s n m hp h).2; omega⟩) (by omega) (by omega) (by omega)
    refine ⟨x2, F2, ?_, by show w ((kids s n).foldl (goD nx kids k) (nx s n)) + F2 ≤ _; omega, ?_⟩
    · show G + 1 ≤ F2 + (1 + b * sz b k)
      omega
    · rw [wh_yes (D.more s st n x) e, g3]
      rfl
/-- the whole loop, from one node -/
theorem Dfs.run (D : Dfs E c f nx kids dp b P w) (no : ∀ s x, c (pkv (E s [] x)) = .ok false) {k F : Nat} {s : S} {n : N} (x : J) (hp : P n) (hd : dp n ≤ k) (hw : w s + F ≤ 100000) (hl : b * (k + 1) ≤ 5000) (hf : sz b k < F) :
    ∃ x', whGo c f F (E s [n] x) = .nx (E (goD nx kids k s n) [] x') := by
  obtain ⟨x', F', h1, _, h3⟩ := D.one k s n [] x F hp hd hw (by show 0 + _ ≤ _; omega) (by omega)
  obtain ⟨G, rfl⟩ : ∃ G, F' = G + 1 := ⟨F' - 1, by omega⟩
  exact ⟨x', (show whGo c f F (E s ([] ++ [n]) x) = _ from h3).trans (wh_no (no _ _))⟩
end
end Pu

namespace Pu
open PySem L2
/-- a text of letters of a, not empty, no longer than told -/
def Tx (a : List Nat) (most : Nat) (t : List Nat) : Prop := (1 ≤ t.length ∧ t.length ≤ most) ∧ ∀ c ∈ t, c ∈ a
end Pu

namespace Pu
open PySem L2
def wRow (t u : List Nat) : List Int := u.foldl (fun row c => stp t (row.getD 0 0 + 1) row c) (List.replicate (t.length + 1) 0)
/-- the least edits of all -/
def lo (t u : List Nat) : Int := (lmin (wRow t u)).getD 0
end Pu

namespace Pu
open PySem PySem.Spec PyProof.Rows L2 Evl
def getD' (c f : Str) : D → Option D
  | .obj c' fs => if c' = c then fs.lookup f else none
  | _ => none
def putD (f : Str) (d : D) : List (Str × D) → List (Str × D)
  | [] => [(f, d)]
  | (g, x) :: r => if g = f then (g, d) :: r else (g, x) :: putD f d r
section
variable {K : PySem.W.Frag} {xa : Xa} {B H : Hp}
theorem RF.lookup {f : Str} : ∀ {vs : List (Str × V)} {fs : List (Str × D)}, RF K xa B vs fs → (∀ d, fs.lookup f = some d → ∃ v, vs.lookup f = some v ∧ R K xa B v d) ∧ (fs.lookup f = none → vs.lookup f = none)
  | _, _, .nil => ⟨fun d h => (nomatch h), fun _ => rfl⟩
  | _, _, .cons (f := g) (vs := vs) (ds := fs) (v := v) (d := e) h r => by
    obtain ⟨i1, i2⟩ := RF.lookup (f := f) r
    rw [List.lookup_cons, List.lookup_cons]
    cases z : f == g with
    | true => exact ⟨fun d q => ⟨v, rfl, by cases q; exact h⟩, fun q => nomatch q⟩
    | false => exact ⟨i1, i2⟩
theorem RF.put {f : Str} {v : V} {d : D} (h : R K xa B v d) : ∀ {vs : List (Str × V)} {fs : List (Str × D)}, RF K xa B vs fs → RF K xa B (putF f v vs) (putD f d fs)
  | _, _, .nil => .cons h .nil
  | _, _, .cons (f := g) k r => by
    unfold putF putD
    by_cases c : g = f
    · rw [if_pos c, if_pos c]
      exact .cons h r
    · rw [if_neg c, if_neg c]
      exact .cons k (RF.put h r)
theorem RF.length : ∀ {vs : List (Str × V)} {fs : List (Str × D)}, RF K xa B vs fs → vs.length = fs.length
  | _, _, .nil => rfl
  | _, _, .cons _ r => by rw [List.length_cons, List.length_cons, RF.length r]
end
section
variable {X : Cx} {xa : Xa} {W : WX} {pos apos p : Pos} {o e : Expr} {es : List Expr} {f g : F} {fs : Fs}
/-- a method of a class, its promise kept -/
structure FnM (P : Program) (w : World) (K : PySem.W.Frag) (mg : Str → Option Value) (base : Heap) (k : Nat) (c m : Str) (n : Nat) (mm : List D → Res D) : Prop where
  cls : Cls K (He.ga K c)
  ex : ∃ (f : Addr) (fd : FuncData) (ps : List Str), Meth K (He.ga K c) m f ∧ FnOk P w K mg base (L2N.CX P w) k f fd ps (spP K n mm) ∧ Binds K fd ps []
  st : ∀ ds, ds.length ≠ n → mm ds = .st
def postN (K : PySem.W.Frag) (c : Str) (E : XK) (Hb Hc : Hp) (x dx : Addr) (Q : VK) : Res (List (Str × D)) → Prop
  | .ok fs => ∀ vs B H, Gw Hb Hc B H → B x = some (.ins (He.ga K c) dx vs) → RF K none B vs fs → Q .non H
  | .ex y => ∀ cl d B H, Gw Hb Hc B H → XR K B cl d y → E cl d H
  | .st => False
def spN (K : PySem.W.Frag) (c : Str) (n : Nat) (mi : List D → Res (List (Str × D))) : Sp := fun vs H Q E => vs.length = n + 1 ∧ ∃ x dx ws Hb Hc ds, vs = .ref x :: ws ∧ H = upd (upd Hc dx (.own x)) x (.ins (He.ga K c) dx []) ∧ Hc x = none ∧ Hc dx = none ∧ dx ≠ x ∧ Ex Hb Hc ∧ RL K none Hb ws ds ∧ postN K c E Hb Hc x dx Q (mi ds)
structure FnN (P : Program) (w : World) (K : PySem.W.Frag) (mg : Str → Option Value) (base : Heap) (k : Nat) (c : Str) (n : Nat) (mi : List D → Res (List (Str × D))) : Prop where
  ex : ∃ (f : Addr) (fd : FuncData) (ps : List Str), Mk K (He.ga K c) f ∧ FnOk P w K mg base (L2N.CX P w) k f fd ps (spN K c n mi) ∧ Binds K fd ps []
  glo : mg c = some (.ref (He.ga K c))
end
structure IR (K : PySem.W.Frag) (B0 H0 B H : Hp) (σ : L2.St) (ρ : Env) (x dx C : Addr) (vs : List (Str × V)) (fs : List (Str × D)) : Prop where
  gw : Gw B0 H0 B H
  len : ρ.length = σ.length
  re : RE K none B σ ρ
  s0 : σ[0]? = some (some (.ref x))
  r0 : ρ[0]? = some none
  hx : H x = some (.ins C dx vs)
  bx : B x = none
  nx : H0 x = none
  rf : RF K none B vs fs
section
variable {K : PySem.W.Frag} {B0 H0 B H B' H' : Hp} {σ : L2.St} {ρ : Env} {x dx C : Addr} {vs : List (Str × V)} {fs : List (Str × D)}
theorem IR.grow (I : IR K B0 H0 B H σ ρ x dx C vs fs) (g : Gw B H B' H') : IR K B0 H0 B' H' σ ρ x dx C vs fs :=
  ⟨I.gw.trans g, I.len, I.re.mono g.bup, I.s0, I.r0, g.up _ _ I.hx, (g.old _ _ I.hx).trans I.bx, I.nx, I.rf.mono g.bup⟩
theorem IR.put {f : Str} {v : V} {d : D} (I : IR K B0 H0 B H σ ρ x dx C vs fs) (r : R K none B v d) : IR K B0 H0 B (upd H x (.ins C dx (putF f v vs))) σ ρ x dx C (putF f v vs) (putD f d fs) := by
  have out : ∀ {G : Hp}, G x = none → Ex G H → Ex G (upd H x (.ins C dx (putF f v vs))) := fun {G} gx e a o h => by
    by_cases c : a = x
    · subst c
      rw [gx] at h
      cases h
    · rw [upd_ne c]
      exact e a o h
  exact ⟨⟨out I.nx I.gw.up, I.gw.bup, out I.bx I.gw.le, I.gw.old⟩, I.len, I.re, I.s0, I.r0, upd_same, I.bx, I.nx, I.rf.put r⟩
theorem IR.hold (I : IR K B0 H0 B H σ ρ x dx C vs fs) : Ex B (upd B x (.ins C dx vs)) ∧ Ex (upd B x (.ins C dx vs)) H := by
  refine ⟨Ex.new I.bx, fun a o h => ?_⟩
  by_cases c : a = x
  · subst c
    rw [upd_same] at h
    cases h
    exact I.hx
  · rw [upd_ne c] at h
    exact I.gw.le a o h
theorem IR.done (I : IR K B0 H0 B H σ ρ x dx C vs fs) (g : Gw (upd B x (.ins C dx vs)) H B' H') : Gw B0 H0 B' H' ∧ B' x = some (.ins C dx vs) ∧ RF K none B' vs fs := by
  obtain ⟨h1, h2⟩ := I.hold
  refine ⟨⟨I.gw.up.trans g.up, (I.gw.bup.trans h1).trans g.bup, g.le, fun a o h => ?_⟩, g.bup _ _ upd_same, I.rf.mono (h1.trans g.bup)⟩
  have ne : a ≠ x := fun e => by
    subst e
    rw [I.nx] at h
    cases h
  rw [g.old a o (I.gw.up a o h), upd_ne ne, I.gw.old a o h]
end
abbrev IM := Env → List (Str × D) → Res (List (Str × D))
section
variable {X : Cx} {E : XK} {pos p1 p2 : Pos} {e : Expr} {f : F} {c n : Str} {st : Stmt} {sts : List Stmt} {g h : IM}
end
end Pu

namespace Pu
open PySem PySem.Spec PyProof.Rows L2 Evl PySem.SeqAt
section
variable {X : Cx} {xa : Xa}
end
end Pu

namespace Pu
open PySem PySem.Spec PyProof.Rows L2 Evl
theorem pur_ok {α : Type} {r : Res α} {β : Type} {k : α → Res β} {y : β} (h : r.pur.bind k = .ok y) : ∃ a, r = .ok a ∧ k a = .ok y := by
  cases r with
  | ok a => exact ⟨a, rfl, h⟩
  | ex x => cases h
  | st => cases h
section
variable {xa : Xa} {W : WX}
end
section
variable {X : Cx} {xa : Xa} {W : WX} {pos : Pos} {elt tg iter tg1 iter1 : Expr} {ifs ifs1 : List Expr}
end
end Pu

namespace Pu
open PySem PySem.Spec PyProof.Rows L2 Evl
section
variable {X : Cx} {xa : Xa}
end
section
variable {prog : Program} {w : World} {A : Around} {E : Value → Shared → Prop} {s : Shared} {l : Addr} {xs : Array (Int × Tok)}
end
section
variable {X : Cx} {xa : Xa}
end
section
variable {X : Cx} {xa : Xa} {W : WX} {pos apos : Pos} {o e : Expr} {f g : F}
end
end Pu

namespace Pu
open PySem PySem.Spec PyProof.Rows L2 Evl PySem.SeqAt
section
variable {X : Cx} {W : WX} {a b tg : Expr} {p pos spos : Pos} {z1 z2 : Zm}
end
section
variable {X : Cx} {xa : Xa}
end
end Pu

namespace Pu
open PySem PySem.Spec PyProof.Rows L2 Evl PySem.SeqAt
section
variable {X : Cx} {xa : Xa}
end
end Pu

namespace Pu
open PySem L2
section
variable {S N : Type} (stop : S → N → Option D) (nx : S → N → S) (kids : S → N → List N)
def ffE (g : S → N → S ⊕ D) : List N → S → S ⊕ D
  | [], s => .inl s
  | n :: r, s => match g s n with
    | .inl s' => ffE g r s'
    | .inr d => .inr d
def goE : Nat → S → N → S ⊕ D
  | 0, s, n => match stop s n with
    | some d => .inr d
    | none => .inl (nx s n)
  | k + 1, s, n => match stop s n with
    | some d => .inr d
    | none => ffE (goE k) (kids s n) (nx s n)
end
section
variable {S N J : Type} {E : S → List N → J → SEnv} {c : T} {f : SF} {stop : S → N → Option D} {nx : S → N → S} {kids : S → N → List N} {dp : N → Nat} {b : Nat} {P : N → Prop} {w : S → Nat}
structure DfsE (E : S → List N → J → SEnv) (c : T) (f : SF) (stop : S → N → Option D) (nx : S → N → S) (kids : S → N → List N) (dp : N → Nat) (b : Nat) (P : N → Prop) (w : S → Nat) : Prop where
  more : ∀ s st n x, c (pkv (E s (st ++ [n]) x)) = .ok true
  body : ∀ s st n x, P n → stop s n = none → w s ≤ 100000 → st.length ≤ 5000 → ∃ x', f (E s (st ++ [n]) x) = .nx (E (nx s n) (st ++ (kids s n).reverse) x')
  halt : ∀ s st n x d, P n → stop s n = some d → w s ≤ 100000 → st.length ≤ 5000 → f (E s (st ++ [n]) x) = .rt d
  wle : ∀ s n, w (nx s n) ≤ w s + 1
  few : ∀ s n, (kids s n).length ≤ b
  down : ∀ s n m, P n → stop s n = none → m ∈ kids s n → P m ∧ dp m + 1 ≤ dp n
def EndE (E : S → List N → J → SEnv) (c : T) (f : SF) (w : S → Nat) (st : List N) (s : S) (F z : Nat) (o : Out) : S ⊕ D → Prop
  | .inl s' => ∃ x' F', F ≤ F' + z ∧ w s' + F' ≤ w s + F ∧ o = whGo c f F' (E s' st x')
  | .inr d => o = .rt d
theorem wh_rt {n : Nat} {ρ : SEnv} {d : D} (h1 : c (pkv ρ) = .ok true) (h2 : f ρ = .rt d) : whGo c f (n + 1) ρ = .rt d := by
  rw [whGo, h1]
  show (if true = true then (match f ρ with
      | .nx ρ' => whGo c f n ρ'
      | .ct ρ' => whGo c f n ρ'
      | .bk ρ' => .nx ρ'
      | o => o) else .nx ρ) = _
  rw [if_pos rfl, h2]
theorem DfsE.list {k : Nat} (one : ∀ (s : S) (n : N) (st : List N) (x : J) (F : Nat), P n → dp n ≤ k → w s + F ≤ 100000 → st.length + b * (k + 1) ≤ 5000 → sz b k ≤ F →
      EndE E c f w st s F (sz b k) (whGo c f F (E s (st ++ [n]) x)) (goE stop nx kids k s n)) :
    ∀ (ns : List N) (s : S) (st : List N) (x : J) (F : Nat), (∀ n ∈ ns, P n ∧ dp n ≤ k) → w s + F ≤ 100000 → st.length + ns.length + b * (k + 1) ≤ 5000 → ns.length * sz b k ≤ F →
      EndE E c f w st s F (ns.length * sz b k) (whGo c f F (E s (st ++ ns.reverse) x)) (ffE (goE stop nx kids k) ns s)
  | [], s, st, x, F, _, _, _, _ => ⟨x, F, by omega, Nat.le_refl _, by rw [List.reverse_nil, List.append_nil]⟩
  | n :: r, s, st, x, F, hp, hw, hl, hf => by
    have hl : st.length + (r.length + 1) + b * (k + 1) ≤ 5000 := hl
    have hf : (r.length + 1) * sz b k ≤ F := hf
    rw [Nat.add_mul, Nat.one_mul] at hf
    have h := one s n (st ++ r.reverse) x F (hp n List.mem_cons_self).1 (hp n List.mem_cons_self).2 hw (by rw [List.length_append, List.length_reverse]; omega) (by omega)
    have ex : st ++ (n :: r).reverse = st ++ r.reverse ++ [n] := by rw [List.reverse_cons, ← List.append_assoc]
    have e0 : ffE (goE stop nx kids k) (n :: r) s = match goE stop nx kids k s n with
      | .inl s' => ffE (goE stop nx kids k) r s'
      | .inr d => .inr d := rfl
    rw [ex, e0]
    cases z : goE stop nx kids k s n with
    | inr d =>
      rw [z] at h
      exact h
    | inl s' =>
      rw [z] at h
      obtain ⟨x1, F1, h1, h2, h3⟩ := h
      have g := DfsE.list one r s' st x1 F1 (fun m hm => hp m (List.mem_cons_of_mem _ hm)) (by omega) (by omega) (by omega)
      rw [h3]
      show EndE E c f w st s F _ _ (ffE (goE stop nx kids k) r s')
      cases y : ffE (goE stop nx kids k) r s' with
      | inr d =>
        rw [y] at g
        exact g
      | inl s'' =>
        rw [y] at g
        obtain ⟨x2, F2, g1, g2, g3⟩ := g
        refine ⟨x2, F2, ?_, by omega, g3⟩
        show F ≤ F2 + (r.length + 1) * sz b k
        rw [Nat.add_mul, Nat.one_mul]
        omega
theorem DfsE.one (D : DfsE E c f stop nx kids dp b P w) : ∀ (k : Nat) (s : S) (n : N) (st : List N) (x : J) (F : Nat), P n → dp n ≤ k → w s + F ≤ 100000 → st.length + b * (k + 1) ≤ 5000 → sz b k ≤ F →
      EndE E c f w st s F (sz b k) (whGo c f F (E s (st ++ [n]) x)) (goE stop nx kids k s n)
  | 0, s, n, st, x, F, hp, hd, hw, hl, hf => by
    have hf : 1 ≤ F := hf
    obtain ⟨G, rfl⟩ : ∃ G, F = G + 1 := ⟨F - 1, by omega⟩
    have e0 : goE stop nx kids 0 s n = match stop s n with
      | some d => .inr d
      | none => .inl (nx s n) := rfl
    rw [e0]
    cases z : stop s n with
    | some d => exact wh_rt (D.more s st n x) (D.halt s st n x d hp z (by omega) (by omega))
    | none =>
      obtain ⟨x', e⟩ := D.body s st n x hp z (by omega) (by omega)
      have ek : kids s n = [] := by
        cases y : kids s n with
        | nil => rfl
        | cons m r =>
          have := (D.down s n m hp z (by rw [y]; exact List.mem_cons_self)).2
          omega
      rw [ek, List.reverse_nil, List.append_nil] at e
      have := D.wle s n
      exact ⟨x', G, Nat.le_refl _, by omega, wh_yes (D.more s st n x) e⟩
  | k + 1, s, n, st, x, F, hp, hd, hw, hl, hf => by
    have hf : 1 + b * sz b k ≤ F := hf
    obtain ⟨G, rfl⟩ : ∃ G, F = G + 1 := ⟨F - 1, by omega⟩
    have e0 : goE stop nx kids (k + 1) s n = match stop s n with
      | some d => .inr d
      | none => ffE (goE stop nx kids k) (kids s n) (nx s n) := rfl
    rw [e0]
    cases z : stop s n with
    | some d => exact wh_rt (D.more s st n x) (D.halt s st n x d hp z (by omega) (by omega))
    | none =>
      obtain ⟨x1, e⟩ := D.body s st n x hp z (by omega) (by omega)
      have hb := D.few s n
      have hm : (kids s n).length * sz b k ≤ b * sz b k := Nat.mul_le_mul_right _ hb
      have hw1 := D.wle s n
      have hl2 : b * (k + 1 + 1) = b * (k + 1) + b := Nat.mul_succ _ _
      have g := DfsE.list (D.one k) (kids s n) (nx s n) st x1 G (fun m h => ⟨(D.down s n m hp z h).1, by have := (D.down s n m hp z h).2; omega⟩) (by omega) (by omega) (by omega)
      rw [wh_yes (D.more s st n x) e]
      show EndE E c f w st s (G + 1) _ _ (ffE (goE stop nx kids k) (kids s n) (nx s n))
      cases y : ffE (goE stop nx kids k) (kids s n) (nx s n) with
      | inr d =>
        rw [y] at g
        exact g
      | inl s'' =>
        rw [y] at g
        obtain ⟨x2, F2, g1, g2, g3⟩ := g
        refine ⟨x2, F2, ?_, by omega, g3⟩
        show G + 1 ≤ F2 + (1 + b * sz b k)
        omega
/-- the whole loop, from one node -/
theorem DfsE.run (D : DfsE E c f stop nx kids dp b P w) (no : ∀ s x, c (pkv (E s [] x)) = .ok false) {k F : Nat} {s : S} {n : N} (x : J) (hp : P n) (hd : dp n ≤ k) (hw : w s + F ≤ 100000) (hl : b * (k + 1) ≤ 5000) (hf : sz b k < F) :
    (∀ s', goE stop nx kids k s n = .inl s' → ∃ x', whGo c f F (E s [n] x) = .nx (E s' [] x')) ∧ (∀ d, goE stop nx kids k s n = .inr d → whGo c f F (E s [n] x) = .rt d) := by
  have h := D.one k s n [] x F hp hd hw (by show 0 + _ ≤ _; omega) (by omega)
  refine ⟨fun s' e => ?_, fun d e => ?_⟩
  · rw [e] at h
    obtain ⟨x', F', h1, _, h3⟩ := h
    obtain ⟨G, rfl⟩ : ∃ G, F' = G + 1 := ⟨F' - 1, by omega⟩
    exact ⟨x', (show whGo c f F (E s ([] ++ [n]) x) = _ from h3).trans (wh_no (no _ _))⟩
  · rw [e] at h
    exact h
end
end Pu

namespace Pu
open PySem L2
def m_is_alphabet : List D → Res D := dfM 1 3 (sqS (ifS (orT (noT (tst (op1 (isiD "str") (vr 0)))) (orT (noT (tst (chF dLe dLe (cst (.int 2)) (opN cLen (argC (vr 0) argN)) (cst (.int 6))))) (noT (tst (opN cAll (argC (ofL (lcO (itF (vr 0)) [3] (.nm 3) yesT (op2 dIn (vr 3) (cst (.str [97, 98, 99, 100, 101, 102, 103, 104, 105, 106, 107, 108, 109, 110, 111, 112, 113, 114, 115, 116, 117, 118, 119, 120, 121, 122]))))) argN)))))) (reS (cst (.bl false))) nxS) (reS (opN cAll (argC (ofL (lcO (ziF (vr 0) (slF (vr 0) (soP (cst (.int 1))) noP)) [1, 2] (.tp [1, 2]) yesT (op2 dLt (vr 1) (vr 2)))) argN))))
def m_need_alphabet : List D → Res D := dfM 1 0 (ifS (noT (tst (calF m_is_alphabet (argC (vr 0) argN)))) (raS 1) nxS)
def m_is_word : List D → Res D := dfM 2 1 (sqS (exS (calF m_need_alphabet (argC (vr 1) argN))) (reS (anF (calF m_is_plain (argC (vr 0) argN)) (opN cAll (argC (ofL (lcO (itF (vr 0)) [2] (.nm 2) yesT (op2 dIn (vr 2) (vr 1)))) argN)))))
abbrev m__law_drawn : List D → Res D := m_drawn
abbrev m__law_word : List D → Res D := m_word
def m__law_deed : List D → Res D := dfM 3 0 (sqS (ifS (tst (op2 dEq (calF m__law_drawn (argC (vr 0) (argC (vr 1) (argC (cst (.int 3)) argN)))) (cst (.int 0)))) (reS (tupF (argC (cst (.str [114, 101, 109, 111, 118, 101])) (argC (calF m__law_drawn (argC (vr 0) (argC (op2 dAdd (vr 1) (cst (.int 1))) (argC (cst (.int 5)) argN)))) argN)))) nxS) (reS (tupF (argC (cst (.str [97, 100, 100])) (argC (calF m__law_word (argC (vr 0) (argC (op2 dAdd (vr 1) (cst (.int 3))) (argC (vr 2) (argC (op2 dAdd (cst (.int 1)) (calF m__law_drawn (argC (vr 0) (argC (op2 dAdd (vr 1) (cst (.int 2))) (argC (cst (.int 8)) argN))))) argN))))) argN)))))
def m_need_word : List D → Res D := dfM 2 0 (ifS (noT (tst (calF m_is_word (argC (vr 0) (argC (vr 1) argN))))) (raS 2) nxS)
def m_is_deed : List D → Res D := dfM 1 0 (sqS (ifS (orT (noT (tst (op1 (isiD "tuple") (vr 0)))) (orT (tst (op2 dNe (opN cLen (argC (vr 0) argN)) (cst (.int 2)))) (noT (tst (op1 (isiD "str") (op2 dIx (vr 0) (cst (.int 0)))))))) (reS (cst (.bl false))) nxS) (sqS (ifS (tst (op2 dEq (op2 dIx (vr 0) (cst (.int 0))) (cst (.str [97, 100, 100])))) (reS (calF m_is_plain (argC (op2 dIx (vr 0) (cst (.int 1))) argN))) nxS) (reS (anF (op2 dEq (op2 dIx (vr 0) (cst (.int 0))) (cst (.str [114, 101, 109, 111, 118, 101]))) (calF m_is_number (argC (op2 dIx (vr 0) (cst (.int 1))) (argC (cst (.int 0)) (argC (cst (.int 999)) argN))))))))
def m_need_deeds : List D → Res D := dfM 1 1 (ifS (orT (noT (tst (op1 (isiD "list") (vr 0)))) (noT (tst (opN cAll (argC (ofL (lcO (itF (vr 0)) [1] (.nm 1) yesT (calF m_is_deed (argC (vr 1) argN)))) argN))))) (raS 6) nxS)
end Pu

namespace Pu
open PySem L2
theorem al_len : ∀ a ∈ A4, a.length = 2 ∨ a.length = 3 ∨ a.length = 4 := by decide
def allw (al : List Nat) : Nat → List (List Nat)
  | 0 => [[]]
  | n + 1 => (allw al n).flatMap fun r => al.map fun c => r ++ [c]
theorem allw_many {al : List Nat} (ha : al.length ≤ 4) : ∀ n, (allw al n).length ≤ 4 ^ n
  | 0 => Nat.le_refl _
  | n + 1 => by
    have key : ∀ L : List (List Nat), (L.flatMap fun r => al.map fun c => r ++ [c]).length ≤ L.length * 4 := by
      intro L
      induction L with
      | nil => exact Nat.le_refl _
      | cons r L ih =>
        rw [List.flatMap_cons, List.length_append, List.length_map]
        show _ ≤ (L.length + 1) * 4
        omega
    have h1 := key (allw al n)
    have h2 := allw_many ha n
    show ((allw al n).flatMap fun r => al.map fun c => r ++ [c]).length ≤ _
    rw [Nat.pow_succ]
    omega
def pz (L : Nat) (t : List Nat) : List (List Nat) := (List.range (t.length + 1 - L)).map fun i => pcs t i L
theorem allw_cons (al : List Nat) : ∀ n, allw al (n + 1) = al.flatMap fun c => (allw al n).map fun r => c :: r
  | 0 => by
    show ([[]] : List (List Nat)).flatMap (fun r => al.map fun c => r ++ [c]) = al.flatMap fun c => ([[]] : List (List Nat)).map fun r => c :: r
    rw [List.flatMap_singleton, List.map_eq_flatMap]
    rfl
  | n + 1 => by
    show (allw al (n + 1)).flatMap (fun r => al.map fun c => r ++ [c]) = al.flatMap fun c => ((allw al n).flatMap fun r => al.map fun c => r ++ [c]).map fun r => c :: r
    rw [allw_cons al n, List.flatMap_assoc]
    refine congrArg (fun f => al.flatMap f) (funext fun c => ?_)
    rw [List.flatMap_map, List.map_flatMap]
    refine congrArg (fun f => (allw al n).flatMap f) (funext fun r => ?_)
    rw [List.map_map]
    rfl
theorem allw_all {a : List Nat} : ∀ {u : List Nat}, (∀ c ∈ u, c ∈ a) → u ∈ allw a u.length
  | [], _ => List.mem_singleton.mpr rfl
  | c :: r, h => by
    rw [List.length_cons, allw_cons]
    exact List.mem_flatMap.mpr ⟨c, h c List.mem_cons_self, List.mem_map.mpr ⟨r, allw_all fun d hd => h d (List.mem_cons_of_mem _ hd), rfl⟩⟩
theorem nodup_le {α : Type} [DecidableEq α] : ∀ {l m : List α}, l.Nodup → (∀ x ∈ l, x ∈ m) → l.length ≤ m.length
  | [], _, _, _ => Nat.zero_le _
  | x :: l, m, h, s => by
    have hx := s x List.mem_cons_self
    have ih := nodup_le (l := l) (m := m.erase x) (List.nodup_cons.mp h).2 fun y hy => (List.mem_erase_of_ne (fun z => (List.nodup_cons.mp h).1 (by rw [← z]; exact hy))).mpr (s y (List.mem_cons_of_mem _ hy))
    rw [List.length_erase_of_mem hx] at ih
    have : 0 < m.length := List.length_pos_of_mem hx
    rw [List.length_cons]
    omega
end Pu

namespace Pu.Cm
open PySem L2 Pu
def keep (m : Nat) (u p : List Nat) : Bool := decide (((cnt p u : Nat) : Int) ≤ ((m : Nat) : Int))
abbrev pieD (u p : List Nat) : D := .tup [.str p, .int (cnt p u : Nat)]
abbrev rwD (L m : Nat) (u t : List Nat) : D := .lst (((pz L t).filter (keep m u)).map (pieD u))
def gb (L m : Nat) (u t : List Nat) : Bool := ((pz L t).filter (keep m u)).isEmpty
def gn (ts : List (List Nat)) (L m : Nat) (u : List Nat) : List D := (ts.zipIdx.filter fun p => gb L m u p.1).map fun p => D.int (p.2 : Nat)
abbrev rsD (ts : List (List Nat)) (L m : Nat) (u : List Nat) : D := .lst (ts.map (rwD L m u))
section
variable (ts : List (List Nat)) (L m q : Nat) (a : List Nat)
def cutB (u : List Nat) : Bool := decide (((ts.length : Nat) : Int) - (((gn ts L m u).length : Nat) : Int) < ((q : Nat) : Int))
end
abbrev nd (ts : List (List Nat)) (L m : Nat) (u : List Nat) : D := .tup [.str u, rsD ts L m u]
abbrev cd (ts : List (List Nat)) (L m : Nat) (u : List Nat) : D := .tup [.str u, .tup (gn ts L m u)]
section
variable (ts : List (List Nat)) (L m q : Nat) (a : List Nat)
end
section
variable (ts : List (List Nat)) (L m q : Nat) (a : List Nat)
def fF : Nat → List Nat → List (List Nat)
  | 0, u => if cutB ts L m q u = true then [] else [u]
  | k + 1, u => if cutB ts L m q u = true then [] else a.flatMap fun c => fF k (u ++ [c])
end
end Pu.Cm

namespace Pu.Nr
open PySem L2 Pu
def fl (L : Nat) (u t : List Nat) : Int := (lmin ((pz L t).map fun p => ((cnt p u : Nat) : Int))).getD 0
def tot (L : Nat) (ts : List (List Nat)) (u : List Nat) : Int := (ts.map (fl L u)).sum
section
variable (ts : List (List Nat)) (L : Nat) (a : List Nat)
end
end Pu.Nr

namespace Pu.Co
open PySem L2 Pu
/-- pieces of one length, letters of a -/
structure Pcs (a : List Nat) (L : Nat) (ps : List (List Nat)) : Prop where
  ne : ps ≠ []
  few : ps.length ≤ 100
  len : ∀ p ∈ ps, p.length = L
  le : ∀ p ∈ ps, ∀ c ∈ p, c ∈ a
  one : 1 ≤ L ∧ L ≤ 900
def cc (ps : List (List Nat)) (k c : Nat) : Nat := (ps.filter fun p => decide (p.getD k 0 = c)).length
def row (ps : List (List Nat)) (a : List Nat) (k : Nat) : List Int := a.map fun c => ((cc ps k c : Nat) : Int)
def bM (ps : List (List Nat)) (a : List Nat) (k : Nat) : Int := (lmax (row ps a k)).getD 0
def bc (ps : List (List Nat)) (a : List Nat) (k : Nat) : Nat := ((a.filter fun c => decide (((cc ps k c : Nat) : Int) = bM ps a k)).head?).getD 0
end Pu.Co

namespace Pu.Ce
open PySem L2 Pu
open Pu.Co
def sl (ps : List (List Nat)) (u : List Nat) : List Int := ps.map fun p => ((cnt p u : Nat) : Int)
def mx (ps : List (List Nat)) (u : List Nat) : Int := (lmax (sl ps u)).getD 0
section
variable (ps : List (List Nat)) (L : Nat) (m : Int) (a : List Nat)
def bdB (u : List Nat) : Bool := decide (mx ps u > m)
end
section
variable {ps : List (List Nat)} {L : Nat} {m : Int} {a : List Nat}
end
section
variable (B : List Nat → Bool) (a : List Nat)
end
section
variable {ps : List (List Nat)} {L : Nat} {a : List Nat}
/-- the least radius, and the first word with it -/
structure Cen (ps : List (List Nat)) (a : List Nat) (L r : Nat) (w : List Nat) : Prop where
  le : r ≤ L
  first : (allw a L).find? (fun w => !bdB ps r w) = some w
  least : ∀ v ∈ allw a L, ((r : Nat) : Int) ≤ mx ps v
theorem Cen.mem {r : Nat} {w : List Nat} (C : Cen ps a L r w) : w ∈ allw a L := List.mem_of_find?_eq_some C.first
theorem Cen.eq {r : Nat} {w : List Nat} (C : Cen ps a L r w) : mx ps w = ((r : Nat) : Int) := by
  have h1 := C.least w C.mem
  have h2 := List.find?_some C.first
  unfold bdB at h2
  have h3 : ¬ mx ps w > ((r : Nat) : Int) := by simpa using h2
  omega
theorem Cen.uniq {r r' : Nat} {w w' : List Nat} (C : Cen ps a L r w) (C' : Cen ps a L r' w') : r = r' ∧ w = w' := by
  have h1 := C.least w' C'.mem
  have h2 := C'.least w C.mem
  have e1 := C.eq
  have e2 := C'.eq
  have e : r = r' := by omega
  subst e
  have := C.first.symm.trans C'.first
  exact ⟨rfl, Option.some.inj this⟩
end
section
variable {ps : List (List Nat)} {a : List Nat}
end
end Pu.Ce

namespace Pu.Sp
open PySem L2 Pu
theorem cut_len {α : Type} (t : List α) (lo hi : Option Int) : (cut t lo hi).length ≤ t.length := by
  unfold cut
  rw [List.length_take, List.length_drop]
  omega
abbrev rD (r : List Nat × Int) : D := .tup [.str r.1, .int r.2]
def en : Int → List Int → List P2
  | _, [] => []
  | s, x :: l => (s, x) :: en (s + 1) l
end Pu.Sp

namespace Pu.Ct
open PySem L2 Pu
open Pu.Co
section
variable {a : List Nat} {L : Nat} {ps : List (List Nat)}
end
end Pu.Ct

namespace Pu
open PySem PySem.Spec PyProof.Rows L2 Evl
section
variable {α : Type} (le : α → α → Bool)
end
section
variable {K : PySem.W.Frag} {xa : Xa} {B : Hp}
variable {X : Cx}
end
section
variable {X : Cx} {xa : Xa} {W : WX} {e : Expr} {f : F} {k : Nat} {p1 p2 p3 pos : Pos}
end
end Pu

namespace Pu
open PySem PySem.Spec PyProof.Rows L2 Evl
theorem kD_inj {a b : DK} (h : kD a = kD b) : a = b := by
  cases a with
  | inl i => cases b with
    | inl j => exact congrArg Sum.inl (Sum.inl.inj h)
    | inr y => exact nomatch h
  | inr x => cases b with
    | inl j => exact nomatch h
    | inr y => exact congrArg Sum.inr (sOf_inj (Sum.inr.inj h))
def valD (kvs : List (DK × D)) (k : DK) : Option D := (kvs.find? fun p => decide (p.1 = k)).map (·.2)
theorem valD_pos {p : DK × D} {r : List (DK × D)} {k : DK} (e : p.1 = k) : valD (p :: r) k = some p.2 := by simp [valD, List.find?_cons, e]
theorem valD_neg {p : DK × D} {r : List (DK × D)} {k : DK} (e : ¬ p.1 = k) : valD (p :: r) k = valD r k := by simp [valD, List.find?_cons, e]
def putKD (kvs : List (DK × D)) (k : DK) (v : D) : List (DK × D) :=
  if (valD kvs k).isSome = true then kvs.map (fun kv => if kv.1 = k then (kv.1, v) else kv) else kvs ++ [(k, v)]
def dropKD (kvs : List (DK × D)) (k : DK) : List (DK × D) := kvs.filter fun kv => decide (kv.1 ≠ k)
def keyOf : D → Option DK
  | .int i => some (.inl i)
  | .str l => some (.inr l)
  | _ => none
section
variable {K : PySem.W.Frag} {xa : Xa} {B H : Hp}
theorem R.key {v : V} {d : D} {k : DK} (r : R K xa B v d) (h : keyOf d = some k) : v = kV (kD k) ∧ okK k := by
  cases r with
  | int i => cases h; exact ⟨rfl, trivial⟩
  | str o => cases h; exact ⟨rfl, o⟩
  | _ => cases h
def RelD (K : PySem.W.Frag) (xa : Xa) (B : Hp) : Option V → Option D → Prop
  | none, none => True
  | some v, some d => R K xa B v d
  | _, _ => False
theorem RK.val (k : DK) : ∀ {vs : List (Key × V)} {kvs : List (DK × D)}, RK K xa B vs kvs → RelD K xa B (valV vs (kD k)) (valD kvs k)
  | _, _, .nil => trivial
  | _, _, .cons (k := j) (v := v) (vs := vs) (d := d) (ds := ds) o h r => by
    by_cases e : j = k
    · rw [valV_pos (p := (kD j, v)) (by rw [e]), valD_pos (p := (j, d)) e]
      exact h
    · rw [valV_neg (p := (kD j, v)) (fun z => e (kD_inj z)), valD_neg (p := (j, d)) e]
      exact RK.val k r
theorem RK.length : ∀ {vs : List (Key × V)} {kvs : List (DK × D)}, RK K xa B vs kvs → vs.length = kvs.length
  | _, _, .nil => rfl
  | _, _, .cons _ _ r => by rw [List.length_cons, List.length_cons, RK.length r]
theorem RelD.isSome {o : Option V} {p : Option D} (h : RelD K xa B o p) : o.isSome = p.isSome := by
  cases o <;> cases p <;> first | rfl | exact h.elim
theorem RelD.getD {o : Option V} {p : Option D} {v : V} {d : D} (h : RelD K xa B o p) (r : R K xa B v d) : R K xa B (o.getD v) (p.getD d) := by
  cases o <;> cases p <;> first | exact r | exact h.elim | exact h
theorem RK.get : ∀ {vs : List (Key × V)} {kvs : List (DK × D)} {i : Nat} {p : DK × D}, RK K xa B vs kvs → kvs[i]? = some p → ∃ v, vs[i]? = some (kD p.1, v) ∧ okK p.1 ∧ R K xa B v p.2
  | _, _, _, _, .nil, h => by simp at h
  | _, _, 0, p, .cons o h _, e => by
    simp at e
    subst e
    exact ⟨_, rfl, o, h⟩
  | _, _, i + 1, p, .cons _ _ r, e => by
    obtain ⟨v, e1, q⟩ := RK.get (i := i) (p := p) r (by simpa using e)
    exact ⟨v, by simpa using e1, q⟩
theorem RK.app : ∀ {vs ws : List (Key × V)} {ds es : List (DK × D)}, RK K xa B vs ds → RK K xa B ws es → RK K xa B (vs ++ ws) (ds ++ es)
  | _, _, _, _, .nil, s => s
  | _, _, _, _, .cons o h r, s => .cons o h (RK.app r s)
theorem RK.repl {k : DK} {v : V} {d : D} (hv : R K xa B v d) : ∀ {vs : List (Key × V)} {ds : List (DK × D)}, RK K xa B vs ds → RK K xa B (vs.map fun kv => if kv.1 = kD k then (kv.1, v) else kv) (ds.map fun kv => if kv.1 = k then (kv.1, d) else kv)
  | _, _, .nil => .nil
  | _, _, .cons (k := j) (v := w) (d := e) o h r => by
    rw [List.map_cons, List.map_cons]
    by_cases c : j = k
    · rw [if_pos (show (kD j, w).1 = kD k by rw [c]), if_pos (show (j, e).1 = k from c)]
      exact .cons o hv (RK.repl hv r)
    · rw [if_neg (show ¬ (kD j, w).1 = kD k from fun z => c (kD_inj z)), if_neg (show ¬ (j, e).1 = k from c)]
      exact .cons o h (RK.repl hv r)
theorem RK.put {k : DK} {v : V} {d : D} {vs : List (Key × V)} {ds : List (DK × D)} (r : RK K xa B vs ds) (o : okK k) (hv : R K xa B v d) : RK K xa B (putK vs (kD k) v) (putKD ds k d) := by
  unfold putK putKD
  rw [valV_any, (r.val k).isSome]
  split
  · exact r.repl hv
  · exact r.app (.cons o hv .nil)
theorem RK.drop {k : DK} : ∀ {vs : List (Key × V)} {ds : List (DK × D)}, RK K xa B vs ds → RK K xa B (dropK vs (kD k)) (dropKD ds k)
  | _, _, .nil => .nil
  | _, _, .cons (k := j) (v := w) (vs := vs) (d := e) (ds := ds) o h r => by
    have ih := RK.drop (k := k) r
    unfold dropK dropKD at ih ⊢
    by_cases c : j = k
    · rw [List.filter_cons_of_neg (by simp [c]), List.filter_cons_of_neg (by simp [c])]
      exact ih
    · rw [List.filter_cons_of_pos (by simp only [decide_eq_true_eq]; exact fun z => c (kD_inj z)), List.filter_cons_of_pos (by simp only [decide_eq_true_eq]; exact c)]
      exact .cons o h ih
def dkv : D → Option (List (DK × D))
  | .dct kvs => some kvs
  | .dco kvs => some kvs
  | _ => none
end
section
variable {X : Cx} {xa : Xa} {W : WX} {pos apos cpos : Pos} {a b c : Expr} {f h k : F}
end
section
variable {K : PySem.W.Frag} {xa : Xa} {B : Hp}
variable {X : Cx} {W : WX} {e tg : Expr} {f : F} {apos cpos tpos : Pos} {elts : List Expr} {kk : Nat}
end
section
variable {X : Cx} {xa : Xa} {W : WX} {pos pos' p1 : Pos} {st : Stmt} {f : SF}
end
end Pu

namespace Pu
open PySem PySem.Spec PyProof.Rows L2 Evl
section
variable {X : Cx} {xa : Xa} {W : WX} {e : Expr} {t : TE} {pos p1 apos cpos : Pos}
/-- {k: v, ..} of constants -/
inductive PCs (X : Cx) (xa : Xa) : List (Option Expr) → List Expr → List (TE × TE) → List (Key × V) → List (DK × D) → Prop
  | nil : PCs X xa [] [] [] [] []
  | cons {k v : Expr} {ks : List (Option Expr)} {vs : List Expr} {ts : List (TE × TE)} {q : DK} {w : V} {d : D} {us : List (Key × V)} {ds : List (DK × D)} : PE X k (tC (kV (kD q))) → okK q → PE X v (tC w) → (∀ H, R X.K xa H w d) → PCs X xa ks vs ts us ds → PCs X xa (some k :: ks) (v :: vs) ((tC (kV (kD q)), tC w) :: ts) ((kD q, w) :: us) ((q, d) :: ds)
theorem PCs.run {ks : List (Option Expr)} {vs : List Expr} {ts : List (TE × TE)} {us : List (Key × V)} {ds : List (DK × D)} (h : PCs X xa ks vs ts us ds) : ∀ {σ : L2.St} {H : Hp} {Q : List (V × V) → Hp → Prop}, Q (us.map fun kv => (kV kv.1, kv.2)) H → tPairs ts σ H Q := by
  induction h with
  | nil => exact fun q => q
  | cons _ _ _ _ _ ih => exact fun q => ih q
end
section
variable {X : Cx} {xa : Xa} {W : WX} {e : Expr} {td : TE} {pos p1 apos cpos : Pos} {f : F}
theorem RK.ints {K : PySem.W.Frag} {B : Hp} : ∀ {vs : List (Key × V)} {kvs : List (DK × D)}, RK K xa B vs kvs → RL K xa B (vs.map (·.2)) (kvs.map (·.2))
  | _, _, .nil => .nil
  | _, _, .cons _ h r => .cons h (RK.ints r)
end
end Pu

namespace Pu
open PySem L2
end Pu

namespace Pu.Sh
open PySem L2 Pu
abbrev KV2 := List (List Nat × Int)
def gtc (kvs : KV2) (k : List Nat) : Int := ((kvs.find? fun p => decide (p.1 = k)).map (·.2)).getD 0
def hasK (kvs : KV2) (k : List Nat) : Bool := kvs.any fun p => decide (p.1 = k)
def pt (kvs : KV2) (k : List Nat) (c : Int) : KV2 := if hasK kvs k = true then kvs.map (fun p => if p.1 = k then (p.1, gtc kvs k + c) else p) else kvs ++ [(k, c)]
section
variable (w : List Nat) (m : Int) (a : List Nat)
end
section
variable {w : List Nat} {m : Int} {a : List Nat}
/-- keys of one length, letters of a, each once -/
def KOk (a : List Nat) (s : Nat) (kvs : KV2) : Prop := (kvs.map (·.1)).Nodup ∧ ∀ k ∈ kvs.map (·.1), k.length = s ∧ ∀ c ∈ k, c ∈ a
theorem KOk.few {s : Nat} {kvs : KV2} (h : KOk a s kvs) (ha : a.length ≤ 4) (hs : s ≤ 4) : kvs.length ≤ 256 := by
  have h1 := nodup_le (m := allw a s) h.1 fun k hk => by
    have := allw_all (h.2 k hk).2
    rw [(h.2 k hk).1] at this
    exact this
  have h2 := allw_many ha s
  have h3 : 4 ^ s ≤ 4 ^ 4 := Nat.pow_le_pow_right (by decide) hs
  have h4 : (4 : Nat) ^ 4 = 256 := rfl
  rw [List.length_map] at h1
  omega
end
section
variable {w a : List Nat} {m : Nat}
end
end Pu.Sh

namespace Pu.Sh
open PySem L2 Pu
section
variable {w a : List Nat} {m : Int} {x2 x3 x4 x5 : Sl}
end
/-- how many texts have it -/
def wi (w : List Nat) (m : Nat) (a : List Nat) (n : Nat) : Nat := ((allw a n).filter fun t => !Pu.Cm.gb w.length m w t).length
end Pu.Sh

namespace Pu
open PySem PySem.Spec PyProof.Rows L2 Evl
section
variable {X : Cx} {xa : Xa} {W : WX} {o e : Expr} {f g : F} {pos apos : Pos}
end
end Pu

namespace Pu.Sh
open PySem L2 Pu
section
variable {w a : List Nat} {m n : Nat}
end
end Pu.Sh

namespace Pu.Cw
open PySem L2 Pu
theorem tx_plain {a t : List Nat} {most : Nat} (al : ∀ c ∈ a, c ∈ LET) (h : Tx a most t) (hm : most ≤ 40) : plainB (.str t) = true := wd_plain al (n := t.length) ⟨rfl, h.2⟩ h.1.1 (by have := h.1.2; omega)
end Pu.Cw

namespace Pu.Tr
open PySem L2 Pu
section
variable (B : List Nat → Bool) (a : List Nat)
/-- the leaves -/
def lv : Nat → List Nat → List (List Nat)
  | 0, u => [u]
  | k + 1, u => if B u = true then [u] else a.flatMap fun c => lv k (u ++ [c])
end
section
variable {B : List Nat → Bool} {a : List Nat}
end
end Pu.Tr

namespace Pu
open PySem PySem.Spec PyProof.Rows L2 Evl
section
variable {X : Cx} {xa : Xa} {W : WX} {pos pos' p1 p2 q1 q2 q3 : Pos}
end
end Pu

namespace Pu.Wo
open PySem L2 Pu
def pcs (L : Nat) (t : List Nat) : List (List Nat) := (List.range (t.length + 1 - L)).map fun i => (t.drop i).take L
end Pu.Wo

namespace Pu
open PySem PySem.Spec PyProof.Rows L2 Evl
section
variable {X : Cx} {xa : Xa} {W : WX} {pos spos py : Pos} {elt tg iter tg1 iter1 : Expr} {ifs ifs1 : List Expr}
end
end Pu

namespace Pu.Rk
open PySem L2 Pu
abbrev B1 : SF := sqS (asS 6 (calF m_unlike (argC (slF (vr 0) (soP (vr 4)) (soP (op2 dAdd (vr 4) (vr 1)))) (argC (slF (vr 0) (soP (vr 5)) (soP (op2 dAdd (vr 5) (vr 1)))) argN)))) (ifS (tst (op2 dLe (vr 6) (vr 2))) (apS 3 (tupF (argC (vr 4) (argC (vr 5) (argC (vr 6) argN))))) nxS)
abbrev B2 : SF := forS (rg2F (op2 dAdd (vr 4) (vr 1)) (op2 dAdd (op2 dSub (opN cLen (argC (vr 0) argN)) (vr 1)) (cst (.int 1)))) (.nm 5) B1
def mnv (t w : List Nat) (m : Nat) : Int := (lmin (((pz w.length t).map fun p => ((cnt p w : Nat) : Int)) ++ [((m : Nat) : Int) + 1])).getD 0
def sm (ts : List (List Nat)) (w : List Nat) (m : Nat) : List (List Nat × Nat) := ts.zipIdx.filter fun p => decide (mnv p.1 w m ≤ ((m : Nat) : Int))
def row (ts : List (List Nat)) (m : Nat) (w : List Nat) : D := .tup [.int (-(((sm ts w m).length : Nat) : Int)), .int ((sm ts w m).map fun p => mnv p.1 w m).sum, .str w]
def bk : D → D
  | .tup [.int x, y, z] => .tup [z, .int (-x), y]
  | d => d
end Pu.Rk

namespace Pu
open PySem PySem.Spec PyProof.Rows L2 Evl
section
variable {X : Cx} {xa : Xa}
end
end Pu

namespace Pu
open PySem PySem.Spec PyProof.Rows L2 Evl
abbrev KS (P : Program) (w : World) : PySem.KeyKind P w Str := PySem.strKind P w
def TxE (P : Program) (w : World) (e : Int × Value) : Prop := ∃ k tk, e.2 = Value.str k tk ∧ e.1 = (KS P w).hash k
/-- the set at a holds just these values -/
def SetV (P : Program) (w : World) (h : Heap) (a : Addr) (vs : List Value) : Prop :=
  ∃ o es ep t, (h.get? a = some o ∧ o.ExactSet ∧ o.data = .set es ep t) ∧ (∀ e ∈ es.toList, TxE P w e) ∧ (es.toList.map (·.2)).Perm vs ∧ (es.size < scanBound ∧ t.fits es.size = true) ∧ Ris t.place.toList ∧ (w.params.followText "set-order" = true ∨ t.led = true)
section
variable {P : Program} {w : World} {A : Around} {E : Value → Shared → Prop} {s : Shared} {a : Addr} {vs : List Value}
theorem SetV.at_ {h h' : Heap} (S : SetV P w h a vs) (k : ∀ o, h.get? a = some o → h'.get? a = some o) : SetV P w h' a vs := by
  obtain ⟨o, es, ep, t, ⟨ho, r1⟩, r2⟩ := S
  exact ⟨o, es, ep, t, ⟨k o ho, r1⟩, r2⟩
end
section
variable {P : Program} {w : World} {A : Around} {E : Value → Shared → Prop} {s : Shared}
end
end Pu

namespace Pu
open PySem PySem.Spec PyProof.Rows L2 Evl
section
variable {P : Program} {w : World} {A : Around} {E : Value → Shared → Prop} {s : Shared} {a : Addr} {vs : List Value}
end
end Pu

namespace Pu
open PySem PySem.Spec PyProof.Rows L2 Evl
section
variable {K : PySem.W.Frag} {xa : Xa} {B : Hp}
end
section
variable {X : Cx} {xa : Xa} {W : WX} {a : Expr} {f : F} {p p2 q pos : Pos}
end
end Pu

namespace Pu
open PySem PySem.Spec PyProof.Rows L2 Evl
section
variable {K : PySem.W.Frag} {xa : Xa} {B : Hp}
end
section
variable {X : Cx} {xa : Xa} {W : WX} {a : Expr} {f : F} {p p2 q pos : Pos}
end
end Pu

namespace Pu.Rf
open PySem L2 Pu
open Pu.Nr Pu.Co
def cs (w t : List Nat) : List Int := (pz w.length t).map fun p => ((cnt p w : Nat) : Int)
def bj (w t : List Nat) : Nat := (idx (.int (fl w.length w t)) ((cs w t).map D.int)).getD 0
def bpc (w t : List Nat) : List Nat := pcs t (bj w t) w.length
structure Sit (a : List Nat) (L : Nat) (ts : List (List Nat)) : Prop where
  ha : a ∈ A4
  n1 : 1 ≤ ts.length
  n2 : ts.length ≤ 6
  tx : ∀ t ∈ ts, Tx a 40 t
  ln : ∀ t ∈ ts, L ≤ t.length
  l1 : 1 ≤ L
  l2 : L ≤ 4
def nxt (a : List Nat) (ts : List (List Nat)) (L : Nat) (w : List Nat) : List Nat := (List.range L).map (bc (ts.map (bpc w)) a)
section
variable {a : List Nat} {L : Nat} {ts : List (List Nat)} (S : Sit a L ts)
include S
end
def rf (a : List Nat) (ts : List (List Nat)) (L : Nat) : Nat → List Nat → List (List Nat)
  | 0, w => [w]
  | k + 1, w => if tot L ts (nxt a ts L w) < tot L ts w then w :: rf a ts L k (nxt a ts L w) else [w]
end Pu.Rf

namespace Pu
open PySem PySem.Spec PyProof.Rows L2 Evl
section
variable {prog : Program} {w : World} {A : Around} {E : Value → Shared → Prop} {s : Shared} {l : Addr} {xs : Array (Int × Tok)}
end
section
variable {X : Cx} {xa : Xa}
end
end Pu

namespace Pu
open PySem PySem.Spec PyProof.Rows L2 Evl
section
variable {X : Cx} {xa : Xa} {W : WX} {es : List Expr} {pos : Pos} {fs : Fs}
end
section
variable {X : Cx} {xa : Xa} {W : WX} {pos apos : Pos} {o e : Expr} {f g : F}
end
end Pu

namespace Pu
open PySem PySem.Spec PyProof.Rows L2 Evl
section
variable {xa : Xa}
end
section
variable {X : Cx} {xa : Xa} {W : WX} {a b : Expr} {f h : F} {pos : Pos}
end
end Pu

namespace Pu.Gp
open PySem L2 Pu Pu.Sh
def addk (l : List (List Nat)) (s : List Nat) : List (List Nat) := if s ∈ l then l else l ++ [s]
def addks (ks l : List (List Nat)) : List (List Nat) := l.foldl addk ks
def okb (L k : Nat) (b : Bool) : Bool := !b || (decide ((0 : Int) < (k : Nat)) && decide (((k : Nat) : Int) < ((L : Nat) : Int) - 1))
def shR (L : Nat) : Nat → List (List Bool)
  | 0 => [[]]
  | k + 1 => (shR L k).flatMap fun r => ([true, false].filter (okb L k)).map fun b => r ++ [b]
def rwD : List Bool → D
  | [] => .tup []
  | b :: r => .tpz ((b :: r).map .bl)
def shp (L g : Nat) : List (List Bool) := (shR L L).filter fun r => decide (((r.count true : Nat) : Int) = ((g : Nat) : Int))
def lay (p : List Nat) (r : List Bool) : List Nat := (p.zip r).map fun q => if q.2 = true then 46 else q.1
abbrev tr : List Nat → D := fun _ => .bl true
def lays (L : Nat) (t : List Nat) (rs : List (List Bool)) : List (List Nat) := rs.flatMap fun r => (pz L t).map fun p => lay p r
def hk (L g : Nat) (t : List Nat) : List (List Nat) := addks [] (lays L t (shp L g))
end Pu.Gp

namespace Pu.Gp
open PySem L2 Pu Pu.Sh
/-- whether a piece is as a word with gaps -/
def fitB (p s : List Nat) : Bool := (p.zip s).all fun q => decide (q.2 = 46) || decide (q.2 = q.1)
theorem one_eq (x c : Nat) : decide (([x] : List Nat) = [c]) = decide (x = c) := decide_eq_decide.mpr ⟨fun h => (List.cons.inj h).1, fun h => by rw [h]⟩
theorem in2 (x y c : Nat) : dIn (.str [x]) (.tup [.str [y], .str [c]]) = some (.bl (decide (x = y) || decide (x = c))) := by
  have e : dIn (.str [x]) (.tup [.str [y], .str [c]]) = some (.bl (mem1 (.str [x]) [.str [y], .str [c]])) := rfl
  rw [e]
  show some (D.bl (eqd (.str [y]) (.str [x]) || (eqd (.str [c]) (.str [x]) || false))) = _
  rw [eqd_str, eqd_str, one_eq, one_eq, Bool.or_false]
  congr 3
  · exact decide_eq_decide.mpr eq_comm
  · exact decide_eq_decide.mpr eq_comm
/-- the places at which a word with gaps stands -/
def spl (t s : List Nat) : List Nat := (List.range (t.length + 1 - s.length)).filter fun i => fitB (pcs t i s.length) s
def stG (s t : List Nat) : Bool := (pz s.length t).any fun p => fitB p s
def endB (s : List Nat) : Bool := !decide (s.getD 0 0 = 46) && !decide (s.getD (s.length - 1) 0 = 46)
def isG (g : Nat) (s : List Nat) : Bool := decide (s.count 46 = g) && endB s
/-- all words with so many gaps in enough texts -/
def gw (ts : List (List Nat)) (L g q : Nat) (a : List Nat) : List (List Nat) := (allw (46 :: a) L).filter fun s => isG g s && decide (q ≤ (ts.filter (stG s)).length)
end Pu.Gp

namespace Pu
open PySem PySem.Spec PyProof.Rows L2 Evl
section
variable {X : Cx} {xa : Xa} {W : WX} {a : Expr} {f : F} {p p1 p2 q pos : Pos}
end
end Pu

namespace Pu.Pp
open PySem L2 Pu
open Pu.Tr
section
variable {B : List Nat → Bool} {a : List Nat} {L : Nat}
end
theorem cut_last {α : Type} {x : List α} (h : 1 ≤ x.length) : cut x (some (-1)) none = x.drop (x.length - 1) := by
  have e : HT.sIx x.length 0 (some (-1)) = x.length - 1 := by
    unfold HT.sIx
    simp
    omega
  unfold cut
  rw [e]
  show (x.drop (x.length - 1)).take (x.length - (x.length - 1)) = _
  exact List.take_of_length_le (by rw [List.length_drop]; omega)
end Pu.Pp

namespace Pu.Bw
open PySem L2 Pu
def gb (u : List Nat) (m : Int) (t : List Nat) : Bool := decide (lo t u > m)
def gn (ts : List (List Nat)) (m : Int) (u : List Nat) : List D := (ts.zipIdx.filter fun p => gb u m p.1).map fun p => D.int (p.2 : Nat)
abbrev rsD (ts : List (List Nat)) (u : List Nat) : D := .lst (ts.map fun t => .lst ((wRow t u).map .int))
abbrev nd (ts : List (List Nat)) (u : List Nat) : D := .tup [.str u, rsD ts u]
abbrev cd (ts : List (List Nat)) (m : Int) (u : List Nat) : D := .tup [.str u, .tup (gn ts m u)]
section
variable (ts : List (List Nat)) (L m q : Nat) (a : List Nat)
def cutB (u : List Nat) : Bool := decide (((ts.length : Nat) : Int) - (((gn ts m u).length : Nat) : Int) < ((q : Nat) : Int))
end
section
variable (ts : List (List Nat)) (m q : Nat) (a : List Nat)
def fF : Nat → List Nat → List (List Nat)
  | 0, u => if cutB ts m q u = true then [] else [u]
  | k + 1, u => if cutB ts m q u = true then [] else a.flatMap fun c => fF k (u ++ [c])
end
end Pu.Bw

namespace Pu.En
open PySem L2 Pu
/-- the least edits of any piece that ends at e -/
def es (t w : List Nat) (e : Nat) : Int := (sRow w (t.take e)).getD w.length 0
end Pu.En

namespace Pu
open PySem PySem.Spec PyProof.Rows L2 Evl
section
variable {X : Cx} {xa : Xa} {W : WX} {e : Expr} {pos p : Pos} {f : F}
theorem RK.keys {K : PySem.W.Frag} {B : Hp} : ∀ {us : List (Key × V)} {kvs : List (DK × D)}, RK K xa B us kvs → us.map (·.1) = (kvs.map (·.1)).map kD
  | _, _, .nil => rfl
  | _, _, .cons _ _ t => by rw [List.map_cons, List.map_cons, List.map_cons, RK.keys t]
end
end Pu

namespace Pu
open PySem PySem.Spec PyProof.Rows L2 Evl
section
variable {X : Cx} {xa : Xa} {W : WX} {e : Expr} {td : TE} {pos p1 apos cpos : Pos} {f : F}
end
end Pu

namespace Pu.Ed
open PySem L2 Pu
abbrev rD (w p : List Nat) : D := .lst ((eRow w p).map .int)
open Pu.En
end Pu.Ed

namespace Pu
open PySem PySem.Spec PyProof.Rows L2 Evl
theorem RL.imm {K : PySem.W.Frag} {xa : Xa} {B B' : Hp} : ∀ {vs : List V} {ds : List D}, RL K xa B vs ds → ds.all imm = true → RL K xa B' vs ds
  | _, _, .nil, _ => .nil
  | _, _, .cons r t, h => by
    rw [List.all_cons, Bool.and_eq_true] at h
    exact .cons (r.imm h.1) (RL.imm t h.2)
section
variable {X : Cx} {xa : Xa} {W : WX} {pos spos py pos' p1 : Pos} {e elt tg iter : Expr} {ifs : List Expr}
theorem RL.set {K : PySem.W.Frag} {B : Hp} {v : V} {d : D} (r : R K xa B v d) : ∀ {vs : List V} {ds : List D} (j : Nat), RL K xa B vs ds → RL K xa B (vs.set j v) (ds.set j d)
  | _, _, _, .nil => .nil
  | _, _, 0, .cons _ t => .cons r t
  | _, _, j + 1, .cons h t => .cons h (RL.set r j t)
end
section
variable {X : Cx} {xa : Xa} {W : WX} {pos p p2 pos2 : Pos} {a : Expr} {f : F}
end
end Pu

namespace Pu.Pd
open PySem L2 Pu
def brk (t : List Nat) (s i : Nat) : Bool := decide (i = t.length - s) || !decide (t.getD i 0 = t.getD (i + s) 0)
end Pu.Pd

namespace Pu.Pd
open PySem L2 Pu
section
variable {t : List Nat} {s : Nat}
/-- a stretch of places that agree, as long as it can be -/
def mx (t : List Nat) (s a b : Nat) : Prop := a + s ≤ b ∧ (a = 0 ∨ brk t s (a - 1) = true) ∧ (∀ j, a ≤ j → j < b → brk t s j = false) ∧ brk t s b = true
structure RI (t : List Nat) (s k : Nat) (st : List (Nat × Nat) × Nat) : Prop where
  le : st.2 ≤ k
  st0 : st.2 = 0 ∨ brk t s (st.2 - 1) = true
  no : ∀ j, st.2 ≤ j → j < k → brk t s j = false
  mem : ∀ p, p ∈ st.1 ↔ ∃ a b, p = (a, b + s) ∧ b < k ∧ mx t s a b
  srt : st.1.Pairwise fun p q => p.1 < q.1
  low : ∀ p ∈ st.1, p.1 < st.2
end
end Pu.Pd

namespace Pu.Pd
open PySem L2 Pu
section
variable (n : Nat) (adj : Nat → Nat → Bool)
/-- j is reached from i in k steps among the places below n -/
inductive Rk : Nat → Nat → Nat → Prop
  | here {i : Nat} : i < n → Rk 0 i i
  | step {k i j l : Nat} : Rk k i j → adj j l = true → l < n → Rk (k + 1) i l
def Rc (i j : Nat) : Prop := ∃ k, Rk n adj k i j
end
section
variable {n : Nat} {adj : Nat → Nat → Bool}
theorem Rk.lt : ∀ {k i j : Nat}, Rk n adj k i j → i < n ∧ j < n
  | _, _, _, .here h => ⟨h, h⟩
  | _, _, _, .step r _ h => ⟨r.lt.1, h⟩
theorem Rk.cons {i l : Nat} (h : adj i l = true) (hi : i < n) : ∀ {k j : Nat}, Rk n adj k l j → Rk n adj (k + 1) i j
  | _, _, .here hl => .step (.here hi) h hl
  | _, _, .step r a b => .step (Rk.cons h hi r) a b
theorem Rk.sym (sy : ∀ i j, adj i j = adj j i) : ∀ {k i j : Nat}, Rk n adj k i j → Rk n adj k j i
  | _, _, _, .here h => .here h
  | _, _, _, .step r a b => Rk.cons (by rw [sy]; exact a) b (Rk.sym sy r)
theorem Rk.trans {k i j : Nat} (r : Rk n adj k i j) : ∀ {m l : Nat}, Rk n adj m j l → Rk n adj (k + m) i l
  | _, _, .here _ => r
  | _, _, .step q a b => .step (r.trans q) a b
theorem Rc.refl {i : Nat} (h : i < n) : Rc n adj i i := ⟨0, .here h⟩
theorem Rc.sym (sy : ∀ i j, adj i j = adj j i) {i j : Nat} (h : Rc n adj i j) : Rc n adj j i := let ⟨k, r⟩ := h; ⟨k, r.sym sy⟩
theorem Rc.trans {i j l : Nat} (h : Rc n adj i j) (h2 : Rc n adj j l) : Rc n adj i l := let ⟨_, r⟩ := h; let ⟨_, q⟩ := h2; ⟨_, r.trans q⟩
theorem Rc.one {i j : Nat} (h : adj i j = true) (hi : i < n) (hj : j < n) : Rc n adj i j := ⟨1, .step (.here hi) h hj⟩
/-- what is closed and holds the start holds all that is reached -/
theorem Rc.closed {C : Nat → Prop} (cl : ∀ i j, C i → adj i j = true → j < n → C j) {i : Nat} (h0 : C i) {j : Nat} (h : Rc n adj i j) : C j := by
  obtain ⟨k, r⟩ := h
  induction r with
  | here _ => exact h0
  | step r a b ih => exact cl _ _ (ih h0) a b
end
end Pu.Pd

namespace Pu.Pd
open PySem L2 Pu
section
variable {n : Nat} {adj : Nat → Nat → Bool}
theorem Rk.uncons : ∀ {k i j : Nat}, Rk n adj (k + 1) i j → ∃ l, adj i l = true ∧ l < n ∧ Rk n adj k l j
  | 0, i, j, .step (.here h) a b => ⟨j, a, b, .here b⟩
  | k + 1, i, j, .step r a b => by
    obtain ⟨l, h1, h2, h3⟩ := Rk.uncons r
    exact ⟨l, h1, h2, .step h3 a b⟩
/-- f tells of each place a place of its class, no greater than those within K steps -/
def Mk (n : Nat) (adj : Nat → Nat → Bool) (K : Nat → Nat) (f : Nat → Nat) : Prop := ∀ i, i < n → Rc n adj i (f i) ∧ ∀ k j, k ≤ K i → Rk n adj k i j → f i ≤ j
/-- one mark set to the least of those beside it -/
theorem Mk.upd {K : Nat → Nat} {f g : Nat → Nat} {o c : Nat} (rf : ∀ i, adj i i = true) (ho : o < n) (h : Mk n adj K f) (hc : ∀ l, l < n → c ≤ K l) (g0 : ∀ i, i ≠ o → g i = f i) (g1 : ∃ l, l < n ∧ adj o l = true ∧ g o = f l) (g2 : ∀ l, l < n → adj o l = true → g o ≤ f l) : Mk n adj (fun i => if i = o then c + 1 else K i) g := by
  intro i hi
  by_cases e : i = o
  · subst e
    obtain ⟨l, l1, l2, l3⟩ := g1
    refine ⟨?_, fun k j hk r => ?_⟩
    · rw [l3]
      exact (Rc.one l2 hi l1).trans (h l l1).1
    · have hk : k ≤ if i = i then c + 1 else K i := hk
      rw [if_pos rfl] at hk
      cases k with
      | zero =>
        have := g2 i hi (rf i)
        have := (h i hi).2 0 j (Nat.zero_le _) r
        omega
      | succ k =>
        obtain ⟨m, m1, m2, m3⟩ := r.uncons
        have := g2 m m2 m1
        have := (h m m2).2 k j (by have := hc m m2; omega) m3
        omega
  · rw [g0 i e]
    refine ⟨(h i hi).1, fun k j hk r => (h i hi).2 k j ?_ r⟩
    have hk : k ≤ if i = o then c + 1 else K i := hk
    rw [if_neg e] at hk
    exact hk
end
end Pu.Pd

namespace Pu.Pd
open PySem L2 Pu
section
variable (n : Nat) (adj : Nat → Nat → Bool)
def Ls (f : Nat → Nat) : Prop := ∀ i, i < n → Rc n adj i (f i) ∧ ∀ j, Rc n adj i j → f i ≤ j
end
section
variable {n : Nat} {adj : Nat → Nat → Bool} {f : Nat → Nat}
theorem Rc.lt {i j : Nat} (h : Rc n adj i j) : i < n ∧ j < n := let ⟨_, r⟩ := h; r.lt
theorem Ls.eq (sy : ∀ i j, adj i j = adj j i) (h : Ls n adj f) {i j : Nat} (r : Rc n adj i j) : f i = f j :=
  Nat.le_antisymm ((h i r.lt.1).2 _ (r.trans (h j r.lt.2).1)) ((h j r.lt.2).2 _ ((r.sym sy).trans (h i r.lt.1).1))
theorem Ls.of (sy : ∀ i j, adj i j = adj j i) (h : Ls n adj f) {i j : Nat} (hi : i < n) (hj : j < n) (e : f i = f j) : Rc n adj i j := by
  have := (h i hi).1
  rw [e] at this
  exact this.trans ((h j hj).1.sym sy)
theorem Ls.le (h : Ls n adj f) {i : Nat} (hi : i < n) : f i ≤ i := (h i hi).2 i (Rc.refl hi)
theorem least_ex {p : Nat → Prop} : ∀ k, p k → ∃ m, p m ∧ ∀ j, p j → m ≤ j := by
  intro k
  induction k using Nat.strongRecOn with
  | _ k ih =>
    intro hk
    by_cases c : ∃ j, j < k ∧ p j
    · obtain ⟨j, h1, h2⟩ := c
      exact ih j h1 h2
    · exact ⟨k, hk, fun j hj => Nat.le_of_not_lt fun z => c ⟨j, z, hj⟩⟩
theorem Ls.ex (n : Nat) (adj : Nat → Nat → Bool) : ∃ f, Ls n adj f := by
  have h : ∀ i, ∃ k, i < n → Rc n adj i k ∧ ∀ j, Rc n adj i j → k ≤ j := fun i => by
    by_cases hi : i < n
    · obtain ⟨m, h1, h2⟩ := least_ex (p := fun k => Rc n adj i k) i (Rc.refl hi)
      exact ⟨m, fun _ => ⟨h1, h2⟩⟩
    · exact ⟨0, fun z => absurd z hi⟩
  exact ⟨fun i => (h i).choose, fun i hi => (h i).choose_spec hi⟩
end
def blk (n : Nat) (f : Nat → Nat) (k : Nat) : List Nat := (List.range n).filter fun x => decide (f x = k)
def big (g : List Nat) : Bool := decide (1 < g.length)
section
variable {n : Nat} {adj : Nat → Nat → Bool} {f : Nat → Nat}
end
def nw (adj : Nat → Nat → Bool) (g : List Nat) (h o : Nat) : Bool := (!decide (o ∈ g)) && adj h o
section
variable {t : List Nat} {L m : Nat} {P : List (List Nat)} {left : List Nat} {fd : List (List Nat)}
structure FI (n : Nat) (adj : Nat → Nat → Bool) (left : List Nat) (a : Nat) (g q : List Nat) : Prop where
  nd : g.Nodup
  sub : ∀ x ∈ g, x ∈ left
  here : a ∈ g
  qs : ∀ x ∈ q, x ∈ g
  qn : q.Nodup
  rc : ∀ x ∈ g, Rc n adj a x
  cl : ∀ x ∈ g, x ∉ q → ∀ y ∈ left, adj x y = true → y ∈ g
theorem FI.step {n : Nat} {adj : Nat → Nat → Bool} {a h : Nat} {g q : List Nat} (hl : ∀ x ∈ left, x < n) (nl : left.Nodup) (I : FI n adj left a g (q ++ [h])) : FI n adj left a (g ++ left.filter (nw adj g h)) (q ++ left.filter (nw adj g h)) := by
  have hg : h ∈ g := I.qs h (List.mem_append_right _ List.mem_cons_self)
  have mn : ∀ x, x ∈ left.filter (nw adj g h) ↔ x ∈ left ∧ x ∉ g ∧ adj h x = true := fun x => by
    rw [List.mem_filter]
    unfold nw
    simp
  refine ⟨?_, fun x hx => ?_, List.mem_append_left _ I.here, fun x hx => ?_, ?_, fun x hx => ?_, fun x hx nq y hy ad => ?_⟩
  · refine List.nodup_append.mpr ⟨I.nd, nl.filter _, fun x hx y hy e => ?_⟩
    rw [← e] at hy
    exact ((mn x).mp hy).2.1 hx
  · rcases List.mem_append.mp hx with z | z
    · exact I.sub x z
    · exact ((mn x).mp z).1
  · rcases List.mem_append.mp hx with z | z
    · exact List.mem_append_left _ (I.qs x (List.mem_append_left _ z))
    · exact List.mem_append_right _ z
  · refine List.nodup_append.mpr ⟨(List.nodup_append.mp I.qn).1, nl.filter _, fun x hx y hy e => ?_⟩
    rw [← e] at hy
    exact ((mn x).mp hy).2.1 (I.qs x (List.mem_append_left _ hx))
  · rcases List.mem_append.mp hx with z | z
    · exact I.rc x z
    · obtain ⟨z1, z2, z3⟩ := (mn x).mp z
      exact (I.rc h hg).trans (Rc.one z3 (I.rc h hg).lt.2 (hl x z1))
  · rcases List.mem_append.mp hx with z | z
    · by_cases e : x = h
      · by_cases yg : y ∈ g
        · exact List.mem_append_left _ yg
        · exact List.mem_append_right _ ((mn y).mpr ⟨hy, yg, by rw [← e]; exact ad⟩)
      · refine List.mem_append_left _ (I.cl x z (fun w => ?_) y hy ad)
        rcases List.mem_append.mp w with w | w
        · exact nq (List.mem_append_left _ w)
        · exact e (List.mem_singleton.mp w)
    · exact absurd (List.mem_append_right _ z) nq
theorem FI.len {n : Nat} {adj : Nat → Nat → Bool} {a : Nat} {g q : List Nat} (I : FI n adj left a g q) : g.length ≤ left.length := nodup_le I.nd I.sub
end
end Pu.Pd

namespace Pu
open PySem PySem.Spec PyProof.Rows L2 Evl
section
variable {X : Cx} {xa : Xa} {W : WX} {a : Expr} {f : F} {p p2 q pos : Pos}
end
end Pu

namespace Pu.Pd
open PySem L2 Pu
theorem Rc.sub {n : Nat} {adj adj' : Nat → Nat → Bool} (h : ∀ i j, adj i j = true → adj' i j = true) {i j : Nat} (r : Rc n adj i j) : Rc n adj' i j :=
  Rc.closed (C := fun z => Rc n adj' i z) (fun x y hx ad hy => hx.trans (Rc.one (h x y ad) hx.lt.2 hy)) (Rc.refl r.lt.1) r
end Pu.Pd

namespace Pu
open PySem PySem.Spec PyProof.Rows L2 Evl
inductive Fv where
  | s (d : D) | o (b : Nat) (ds : List D)
structure En where
  a : Nat
  c : Str
  fs : List (Str × Fv)
abbrev Tb := List En
def Fv.full : Fv → D
  | .s d => d
  | .o _ ds => .lst ds
def Fv.part : Fv → D
  | .s d => d
  | .o b _ => .adr b
def En.full (e : En) : D := .obj e.c (e.fs.map fun p => (p.1, p.2.full))
def En.part (e : En) : D := .obj e.c (e.fs.map fun p => (p.1, p.2.part))
def fAd : List (Str × Fv) → List Nat
  | [] => []
  | (_, .s _) :: r => fAd r
  | (_, .o b _) :: r => b :: fAd r
def En.ad (e : En) : List Nat := e.a :: fAd e.fs
def tAd : Tb → List Nat
  | [] => []
  | e :: T => e.ad ++ tAd T
theorem tAd_mem {b : Nat} : ∀ {T : Tb}, b ∈ tAd T ↔ ∃ e ∈ T, b ∈ e.ad
  | [] => ⟨fun h => (nomatch h), fun ⟨_, h, _⟩ => nomatch h⟩
  | e :: T => by
    show b ∈ e.ad ++ tAd T ↔ _
    rw [List.mem_append, tAd_mem]
    constructor
    · rintro (h | ⟨f, h1, h2⟩)
      · exact ⟨e, List.mem_cons_self, h⟩
      · exact ⟨f, List.mem_cons_of_mem _ h1, h2⟩
    · rintro ⟨f, h1, h2⟩
      rcases List.mem_cons.mp h1 with z | z
      · exact .inl (z ▸ h2)
      · exact .inr ⟨f, z, h2⟩
section
variable (K : PySem.W.Frag) (B H : Hp)
inductive RV : List (Str × V) → List (Str × Fv) → Prop
  | nil : RV [] []
  | s {f : Str} {v : V} {d : D} {vs : List (Str × V)} {fs : List (Str × Fv)} : R K none B v d → RV vs fs → RV ((f, v) :: vs) ((f, .s d) :: fs)
  | o {f : Str} {b : Addr} {ws : List V} {ds : List D} {vs : List (Str × V)} {fs : List (Str × Fv)} : H b = some (.lst ws) → RL K none B ws ds → RV vs fs → RV ((f, .ref b) :: vs) ((f, .o b ds) :: fs)
structure RT (T : Tb) : Prop where
  ob : ∀ e ∈ T, ∃ dx vs, H e.a = some (.ins (He.ga K e.c) dx vs) ∧ RV K B H vs e.fs
  nd : (tAd T).Nodup
  out : ∀ b ∈ tAd T, B b = none
  ne : ∀ e ∈ T, He.ga K "Stand" ≠ He.ga K e.c
end
section
variable {K : PySem.W.Frag} {B H B' H' : Hp} {T : Tb}
theorem RV.there : ∀ {vs : List (Str × V)} {fs : List (Str × Fv)}, RV K B H vs fs → ∀ b ∈ fAd fs, ∃ o, H b = some o
  | _, _, .nil, _, h => nomatch h
  | _, _, .s _ r, b, h => RV.there r b h
  | _, _, .o h1 _ r, b, h => by
    rcases List.mem_cons.mp (show b ∈ _ :: fAd _ from h) with z | z
    · exact ⟨_, z ▸ h1⟩
    · exact RV.there r b z
theorem RV.mono (e : Ex B B') : ∀ {vs : List (Str × V)} {fs : List (Str × Fv)}, RV K B H vs fs → (∀ b ∈ fAd fs, H' b = H b) → RV K B' H' vs fs
  | _, _, .nil, _ => .nil
  | _, _, .s h r, k => .s (h.mono e) (RV.mono e r k)
  | _, _, .o h1 q r, k => .o ((k _ List.mem_cons_self).trans h1) (q.mono e) (RV.mono e r fun b hb => k b (List.mem_cons_of_mem _ hb))
theorem RT.there (t : RT K B H T) : ∀ b ∈ tAd T, ∃ o, H b = some o := fun b hb => by
  obtain ⟨e, he, h⟩ := tAd_mem.mp hb
  obtain ⟨dx, vs, h1, h2⟩ := t.ob e he
  rcases List.mem_cons.mp (show b ∈ e.a :: fAd e.fs from h) with z | z
  · exact ⟨_, z ▸ h1⟩
  · exact h2.there b z
theorem RT.mono (t : RT K B H T) (e : Ex B B') (k : ∀ b ∈ tAd T, H' b = H b) (o : ∀ b ∈ tAd T, B' b = none) : RT K B' H' T := by
  refine ⟨fun f hf => ?_, t.nd, o, t.ne⟩
  obtain ⟨dx, vs, h1, h2⟩ := t.ob f hf
  exact ⟨dx, vs, (k _ (tAd_mem.mpr ⟨f, hf, List.mem_cons_self⟩)).trans h1, h2.mono e fun b hb => k b (tAd_mem.mpr ⟨f, hf, List.mem_cons_of_mem _ hb⟩)⟩
theorem RT.grow (t : RT K B H T) (g : Gw B H B' H') : RT K B' H' T := t.mono g.bup (fun b hb => by
    obtain ⟨o, h⟩ := t.there b hb
    rw [h, g.up _ _ h]) fun b hb => by
    obtain ⟨o, h⟩ := t.there b hb
    rw [g.old _ _ h, t.out b hb]
theorem RV.rf (e : Ex B B') : ∀ {vs : List (Str × V)} {fs : List (Str × Fv)}, RV K B H vs fs → (∀ b ∈ fAd fs, ∀ o, H b = some o → B' b = some o) → RF K none B' vs (fs.map fun p => (p.1, p.2.full))
  | _, _, .nil, _ => .nil
  | _, _, .s h r, k => .cons (h.mono e) (RV.rf e r k)
  | _, _, .o h1 q r, k => .cons (.lst (k _ List.mem_cons_self _ h1) (q.mono e)) (RV.rf e r fun b hb => k b (List.mem_cons_of_mem _ hb))
end
/-- the state -/
structure RS2 (K : PySem.W.Frag) (xa : Xa) (B0 H0 B H : Hp) (σ : L2.St) (ρ : SEnv) (T : Tb) : Prop where
  r : RS K xa B0 H0 B H σ ρ
  t : RT K B H T
  n0 : ∀ b ∈ tAd T, H0 b = none
  ap : ∀ (i : Nat) (ob : Ob) (b : Addr), ρ[i]? = some (.own ob) → σ[i]? = some (some (.ref b)) → b ∉ tAd T
section
variable {K : PySem.W.Frag} {xa : Xa} {B0 H0 B H B' H' : Hp} {σ σ' : L2.St} {ρ ρ' : SEnv} {T : Tb}
theorem RS2.grow (r : RS2 K xa B0 H0 B H σ ρ T) (g : Gw B H B' H') : RS2 K xa B0 H0 B' H' σ ρ T := ⟨r.r.grow g, r.t.grow g, r.n0, r.ap⟩
theorem RS2.keep (r : RS2 K xa B0 H0 B H σ ρ T) (up : Ex H H') : RS2 K xa B0 H0 B H' σ ρ T := ⟨r.r.keep up, r.t.mono (Ex.refl _) (fun b hb => by
    obtain ⟨o, h⟩ := r.t.there b hb
    rw [h, up _ _ h]) r.t.out, r.n0, r.ap⟩
open Classical in
/-- what is not owned by a slot, as the floor -/
noncomputable def flo (σ : L2.St) (ρ : SEnv) (H : Hp) : Hp := fun a => if ∃ (i : Nat) (ob : Ob), ρ[i]? = some (Sl.own ob) ∧ σ[i]? = some (some (V.ref a)) then none else H a
theorem flo_le : Ex (flo σ ρ H) H := fun a o h => by
  unfold flo at h
  split at h
  · cases h
  · exact h
theorem flo_own {i : Nat} {ob : Ob} {a : Addr} (h : ρ[i]? = some (.own ob)) (k : σ[i]? = some (some (.ref a))) : flo σ ρ H a = none := by
  unfold flo
  rw [if_pos ⟨i, ob, h, k⟩]
theorem RS2.flo_at (r : RS2 K xa B0 H0 B H σ ρ T) {b : Addr} (hb : b ∈ tAd T) : flo σ ρ H b = H b := by
  unfold Pu.flo
  rw [if_neg]
  rintro ⟨i, ob, h, k⟩
  exact r.ap i ob b h k hb
theorem RS.flo0 (r : RS K xa B0 H0 B H σ ρ) : Ex H0 (flo σ ρ H) := fun a o h => by
  unfold Pu.flo
  rw [if_neg]
  · exact r.gw.up a o h
  · rintro ⟨i, ob, h1, h2⟩
    obtain ⟨b, vs, e1, e2, e3, e4, q⟩ := r.own i ob h1
    rw [e1] at h2
    cases h2
    rw [e4] at h
    cases h
theorem RS.floor (r : RS K xa B0 H0 B H σ ρ) : RS K xa B (flo σ ρ H) B H σ ρ := by
  refine ⟨⟨flo_le, Ex.refl _, r.gw.le, fun _ _ _ => rfl⟩, r.len, r.sh, fun i ds h => ?_, r.ap⟩
  obtain ⟨a, vs, e1, e2, e3, e4, q⟩ := r.own i ds h
  exact ⟨a, vs, e1, e2, e3, flo_own h e1, q⟩
/-- back from the floor -/
theorem RS2.back (r : RS2 K xa B0 H0 B H σ ρ T) (g : Gw B (flo σ ρ H) B' H') : Gw B0 H0 B' H' ∧ RT K B' H' T := by
  refine ⟨⟨r.r.flo0.trans g.up, r.r.gw.bup.trans g.bup, g.le, fun a o h => ?_⟩, r.t.mono g.bup (fun b hb => ?_) fun b hb => ?_⟩
  · rw [g.old a o (r.r.flo0 a o h), r.r.gw.old a o h]
  · obtain ⟨o, h⟩ := r.t.there b hb
    rw [h, g.up b o ((r.flo_at hb).trans h)]
  · obtain ⟨o, h⟩ := r.t.there b hb
    rw [g.old b o ((r.flo_at hb).trans h), r.t.out b hb]
theorem RS2.backS (r : RS2 K xa B0 H0 B H σ ρ T) (q : RS K xa B (flo σ ρ H) B' H' σ' ρ') : RS2 K xa B0 H0 B' H' σ' ρ' T := by
  obtain ⟨g, t⟩ := r.back q.gw
  refine ⟨⟨g, q.len, q.sh, fun i ds h => ?_, q.ap⟩, t, r.n0, fun i ob b h k hb => ?_⟩
  · obtain ⟨a, vs, e1, e2, e3, e4, z⟩ := q.own i ds h
    refine ⟨a, vs, e1, e2, e3, ?_, z⟩
    cases y : H0 a with
    | none => rfl
    | some o => rw [r.r.flo0 a o y] at e4; cases e4
  · obtain ⟨a, vs, e1, e2, e3, e4, z⟩ := q.own i ob h
    rw [e1] at k
    cases k
    obtain ⟨o, y⟩ := r.t.there b hb
    rw [r.flo_at hb, y] at e4
    cases e4
end
abbrev PT2 := SEnv → Tb → (Out → Tb → Prop) → Prop
def pS2 (K : PySem.W.Frag) (xa : Xa) (W : WX) (B0 H0 : Hp) (Dn : Ends) : Out → Tb → Prop
  | .nx ρ, T => ∀ σ B H, RS2 K xa B0 H0 B H σ ρ T → Dn.nx σ H
  | .rt d, T => ∀ v B H, Gw B0 H0 B H → RT K B H T → (∀ b ∈ tAd T, H0 b = none) → R K xa B v d → Dn.rt v H
  | .bk ρ, T => ∀ σ B H, RS2 K xa B0 H0 B H σ ρ T → Dn.bk σ H
  | .ct ρ, T => ∀ σ B H, RS2 K xa B0 H0 B H σ ρ T → Dn.ct σ H
  | .ex x ρ, T => ∀ c dx σ B H, RS2 K xa B0 H0 B H σ ρ T → XR K B c dx x → W c dx σ H
  | .st, _ => False
def upS (f : SF) : PT2 := fun ρ T Z => Z (f ρ) T
def sq2 (m n : PT2) : PT2 := fun ρ T Z => m ρ T fun o T' => match o with
  | .nx ρ' => n ρ' T' Z
  | o => Z o T'
section
variable {X : Cx} {xa : Xa} {W : WX} {pos : Pos} {st : Stmt} {rest : List Stmt} {f : SF} {m n : PT2}
end
end Pu

namespace Pu
open PySem PySem.Spec PyProof.Rows L2 Evl
def fvO (T : Tb) : D → D
  | .adr a => match T.find? fun e => e.a == a with
    | some e => e.full
    | none => .adr a
  | d => d
/-- all is seen -/
def pkF (ρ : SEnv) (T : Tb) : Env := (pkv ρ).map (Option.map (fvO T))
mutual
def cln : D → Bool
  | .lst xs => clnL xs
  | .tup xs => clnL xs
  | .frl xs => clnL xs
  | .tpz xs => clnL xs
  | .exv _ => false
  | .exf _ _ => false
  | .obj c fs => decide (c = "Stand") && clnF fs
  | .dct kvs => clnK kvs
  | .dco kvs => clnK kvs
  | .adr _ => false
  | .non => true
  | .bl _ => true
  | .int _ => true
  | .str _ => true
def clnL : List D → Bool
  | [] => true
  | d :: ds => cln d && clnL ds
def clnF : List (Str × D) → Bool
  | [] => true
  | (_, d) :: ds => cln d && clnF ds
def clnK : List (DK × D) → Bool
  | [] => true
  | (_, d) :: ds => cln d && clnK ds
end
section
variable {K : PySem.W.Frag} {xa : Xa} {B B' : Hp} {P : Addr → Prop}
mutual
/-- what lies elsewhere stays -/
theorem R.less (k : ∀ a o, B a = some o → P a → ∃ c dx vs, o = .ins (He.ga K c) dx vs ∧ He.ga K "Stand" ≠ He.ga K c) (e : ∀ a o, B a = some o → ¬ P a → B' a = some o) : ∀ {v : V} {d : D}, R K xa B v d → cln d = true → R K xa B' v d
  | _, _, .non, _ => .non
  | _, _, .bl b, _ => .bl b
  | _, _, .int i, _ => .int i
  | _, _, .str h, _ => .str h
  | _, _, .lst (a := a) h r, c => .lst (e _ _ h fun p => by obtain ⟨_, _, _, z, _⟩ := k _ _ h p; cases z) (RL.less k e r c)
  | _, _, .tup h r, c => .tup (e _ _ h fun p => by obtain ⟨_, _, _, z, _⟩ := k _ _ h p; cases z) (RL.less k e r c)
  | _, _, .frl h r, c => .frl (by
      rcases h with h | ⟨o, h⟩
      · rcases h with h | ⟨o, h⟩
        · exact .inl (.inl (e _ _ h fun p => by obtain ⟨_, _, _, z, _⟩ := k _ _ h p; cases z))
        · exact .inl (.inr ⟨o, e _ _ h fun p => by obtain ⟨_, _, _, z, _⟩ := k _ _ h p; cases z⟩)
      · exact .inr ⟨o, h⟩) (RL.less k e r c)
  | _, _, .tpz h a b r, c => .tpz (e _ _ h fun p => by obtain ⟨_, _, _, z, _⟩ := k _ _ h p; cases z) a b (RL.less k e r c)
  | _, _, .exv h, c => by cases c
  | _, _, .exf h q r, c => by cases c
  | _, _, .obj (c := cc) h r, c => by
      obtain ⟨c1, c2⟩ := Bool.and_eq_true_iff.mp (show (decide (cc = "Stand") && clnF _) = true from c)
      have c1 := of_decide_eq_true c1
      subst c1
      exact .obj (e _ _ h fun p => by
        obtain ⟨_, _, _, z, ne⟩ := k _ _ h p
        injection z with z1 z2 z3
        exact ne z1) (RF.less k e r c2)
  | _, _, .dct h r, c => .dct (e _ _ h fun p => by obtain ⟨_, _, _, z, _⟩ := k _ _ h p; cases z) (RK.less k e r c)
  | _, _, .dco h r, c => .dco (e _ _ h fun p => by obtain ⟨_, _, _, z, _⟩ := k _ _ h p; cases z) (RK.less k e r c)
  | _, _, .adr a, c => by cases c
theorem RL.less (k : ∀ a o, B a = some o → P a → ∃ c dx vs, o = .ins (He.ga K c) dx vs ∧ He.ga K "Stand" ≠ He.ga K c) (e : ∀ a o, B a = some o → ¬ P a → B' a = some o) : ∀ {vs : List V} {ds : List D}, RL K xa B vs ds → clnL ds = true → RL K xa B' vs ds
  | _, _, .nil, _ => .nil
  | _, _, .cons h r, c => by
    obtain ⟨c1, c2⟩ := Bool.and_eq_true_iff.mp (show (cln _ && clnL _) = true from c)
    exact .cons (R.less k e h c1) (RL.less k e r c2)
theorem RF.less (k : ∀ a o, B a = some o → P a → ∃ c dx vs, o = .ins (He.ga K c) dx vs ∧ He.ga K "Stand" ≠ He.ga K c) (e : ∀ a o, B a = some o → ¬ P a → B' a = some o) : ∀ {vs : List (Str × V)} {ds : List (Str × D)}, RF K xa B vs ds → clnF ds = true → RF K xa B' vs ds
  | _, _, .nil, _ => .nil
  | _, _, .cons h r, c => by
    obtain ⟨c1, c2⟩ := Bool.and_eq_true_iff.mp (show (cln _ && clnF _) = true from c)
    exact .cons (R.less k e h c1) (RF.less k e r c2)
theorem RK.less (k : ∀ a o, B a = some o → P a → ∃ c dx vs, o = .ins (He.ga K c) dx vs ∧ He.ga K "Stand" ≠ He.ga K c) (e : ∀ a o, B a = some o → ¬ P a → B' a = some o) : ∀ {vs : List (Key × V)} {ds : List (DK × D)}, RK K xa B vs ds → clnK ds = true → RK K xa B' vs ds
  | _, _, .nil, _ => .nil
  | _, _, .cons o h r, c => by
    obtain ⟨c1, c2⟩ := Bool.and_eq_true_iff.mp (show (cln _ && clnK _) = true from c)
    exact .cons o (R.less k e h c1) (RK.less k e r c2)
end
end
section
variable {K : PySem.W.Frag} {xa : Xa} {B0 H0 B H B' H' : Hp} {σ : L2.St} {ρ : SEnv} {T : Tb}
theorem find_at {T : Tb} {a : Nat} {e : En} (h : (T.find? fun e => e.a == a) = some e) : e ∈ T ∧ e.a = a := ⟨List.mem_of_find?_eq_some h, by simpa using List.find?_some h⟩
end
end Pu

namespace Pu
open PySem PySem.Spec PyProof.Rows L2 Evl
section
variable {K : PySem.W.Frag} {xa : Xa} {B0 H0 B H B' H' B1 H1 : Hp} {σ : L2.St} {ρ : SEnv} {T : Tb}
theorem RS2.lift (r : RS2 K xa B0 H0 B H σ ρ T) : RS2 K xa B H0 B H σ ρ T := by
  refine ⟨⟨⟨r.r.gw.up, Ex.refl _, r.r.gw.le, fun _ _ _ => rfl⟩, r.r.len, r.r.sh, r.r.own, r.r.ap⟩, r.t, r.n0, r.ap⟩
theorem RS2.low (g : Gw B0 H0 B1 H1) (r : RS2 K xa B1 H0 B H σ ρ T) : RS2 K xa B0 H0 B H σ ρ T := by
  refine ⟨⟨⟨r.r.gw.up, g.bup.trans r.r.gw.bup, r.r.gw.le, fun a o h => (r.r.gw.old a o h).trans (g.old a o h)⟩, r.r.len, r.r.sh, r.r.own, r.r.ap⟩, r.t, r.n0, r.ap⟩
theorem RS2.look (r : RS2 K xa B0 H0 B H σ ρ T) (hx : xa = none) : ∃ B2, Gw B0 H0 B2 H ∧ RE K xa B2 σ (pkF ρ T) := by
  obtain ⟨B1, e1, r1⟩ := r.r.frA
  have up : Ex B1 (fun a => if a ∈ tAd T then H a else B1 a) := fun a o h => by
    show (if a ∈ tAd T then H a else B1 a) = some o
    split
    · exact r1.gw.le a o h
    · exact h
  have inn : ∀ a, a ∈ tAd T → (fun a => if a ∈ tAd T then H a else B1 a) a = H a := fun a h => if_pos h
  refine ⟨fun a => if a ∈ tAd T then H a else B1 a, ⟨r.r.gw.up, r1.gw.bup.trans up, fun a o h => ?_, fun a o h => ?_⟩, ?_⟩
  · have h : (if a ∈ tAd T then H a else B1 a) = some o := h
    split at h
    · exact h
    · exact r1.gw.le a o h
  · show (if a ∈ tAd T then H a else B1 a) = B0 a
    rw [if_neg, r1.gw.old a o h]
    intro z
    rw [r.n0 a z] at h
    cases h
  · have re := r1.re
    rw [shv_frA] at re
    refine ⟨by unfold pkF; rw [List.length_map]; exact re.1, fun i d h => ?_⟩
    unfold pkF at h
    rw [List.getElem?_map] at h
    cases z : (pkv ρ)[i]? with
    | none => rw [z] at h; cases h
    | some o =>
      rw [z] at h
      cases o with
      | none => cases h
      | some d0 =>
        cases h
        obtain ⟨v, e2, q⟩ := re.at_ i d0 z
        refine ⟨v, e2, ?_⟩
        cases d0 with
        | adr a =>
          show R K xa _ v (match T.find? fun e => e.a == a with | some e => e.full | none => .adr a)
          cases y : T.find? fun e => e.a == a with
          | none => exact q.mono up
          | some e =>
            obtain ⟨he, ea⟩ := find_at y
            subst ea
            obtain ⟨dx, vs, h1, h2⟩ := r.t.ob e he
            cases q
            subst hx
            exact .obj ((inn _ (tAd_mem.mpr ⟨e, he, List.mem_cons_self⟩)).trans h1) (h2.rf (e1.trans up) fun b hb o ho => (inn _ (tAd_mem.mpr ⟨e, he, List.mem_cons_of_mem _ hb⟩)).trans ho)
        | _ => exact q.mono up
end
abbrev EM (α : Type) := SEnv → Tb → (Res α → Tb → Prop) → Prop
def po2 {α β : Type} (K : PySem.W.Frag) (Rel : Hp → β → α → Prop) (W : WX) (B0 H0 : Hp) (σ : L2.St) (ρ : SEnv) (Q : β → Hp → Prop) : Res α → Tb → Prop
  | .ok d, T => ∀ v B H, RS2 K none B0 H0 B H σ ρ T → Rel B v d → Q v H
  | .ex x, T => ∀ c dx B H, RS2 K none B0 H0 B H σ ρ T → XR K B c dx x → W c dx σ H
  | .st, _ => False
def tE2 {α β : Type} (K : PySem.W.Frag) (Rel : Hp → β → α → Prop) (W : WX) (m : EM α) : L2.St → Hp → (β → Hp → Prop) → Prop := fun σ H Q =>
  ∃ B0 H0 B ρ T Z, RS2 K none B0 H0 B H σ ρ T ∧ m ρ T Z ∧ ∀ r T', Z r T' → po2 K Rel W B0 H0 σ ρ Q r T'
def bd {α β : Type} (m : EM α) (k : α → EM β) : EM β := fun ρ T Z => m ρ T fun r T' => match r with
  | .ok a => k a ρ T' Z
  | .ex x => Z (.ex x) T'
  | .st => Z .st T'
/-- the floor of what follows -/
theorem po2.low {α β : Type} {K : PySem.W.Frag} {W : WX} {Rel : Hp → β → α → Prop} {B0 H0 B1 H1 : Hp} {σ : L2.St} {ρ : SEnv} {Q : β → Hp → Prop} (g : Gw B0 H0 B1 H1) {r : Res α} {T : Tb} (p : po2 K Rel W B0 H0 σ ρ Q r T) : po2 K Rel W B1 H0 σ ρ Q r T := by
  cases r with
  | ok d => exact fun v B H r rel => p v B H (RS2.low g r) rel
  | ex x => exact fun c dx B H r xr => p c dx B H (RS2.low g r) xr
  | st => exact p
/-- what follows, from here -/
theorem RS2.next {α β : Type} {K : PySem.W.Frag} {W : WX} {Rel : Hp → β → α → Prop} {B0 H0 B1 H1 : Hp} {σ : L2.St} {ρ : SEnv} {Q : β → Hp → Prop} {T1 : Tb} {m : EM α} {Z : Res α → Tb → Prop} (r : RS2 K none B0 H0 B1 H1 σ ρ T1) (z : m ρ T1 Z) (k : ∀ r T', Z r T' → po2 K Rel W B0 H0 σ ρ Q r T') : tE2 K Rel W m σ H1 Q :=
  ⟨B0, H0, B1, ρ, T1, Z, r, z, k⟩
section
variable {X : Cx} {W : WX} {pos : Pos} {a b c e : Expr} {es rest : List Expr} {f : F} {fs : Fs} {q : T} {m n : EM D} {u w : EM Bool} {l : EM (List D)} {σ : L2.St} {H : Hp}
end
end Pu

namespace Pu
open PySem PySem.Spec PyProof.Rows L2 Evl
section
variable {K : PySem.W.Frag} {xa : Xa} {B0 H0 B H B' H' B1 H1 : Hp} {σ σ' : L2.St} {ρ ρ' : SEnv} {T : Tb}
theorem RS2.pS (r : RS2 K xa B0 H0 B H σ ρ T) {W : WX} {Dn : Ends} {o : Out} (p : pS2 K xa W B0 H0 Dn o T) : pS K xa W B (flo σ ρ H) Dn o := by
  cases o with
  | nx ρ' => exact fun σ' B' H' r' => p σ' B' H' (r.backS r')
  | rt d =>
    intro v B' H' g rv
    obtain ⟨g', t'⟩ := r.back g
    exact p v B' H' g' t' r.n0 rv
  | bk ρ' => exact fun σ' B' H' r' => p σ' B' H' (r.backS r')
  | ct ρ' => exact fun σ' B' H' r' => p σ' B' H' (r.backS r')
  | ex x ρ' => exact fun c dx σ' B' H' r' xr => p c dx σ' B' H' (r.backS r') xr
  | st => exact p.elim
theorem pS2.low {W : WX} {Dn : Ends} {o : Out} (g : Gw B0 H0 B1 H1) (p : pS2 K xa W B0 H0 Dn o T) : pS2 K xa W B1 H0 Dn o T := by
  cases o with
  | nx ρ => exact fun σ B H r => p σ B H (RS2.low g r)
  | rt d => exact fun v B H r t n q => p v B H (g.low r) t n q
  | bk ρ => exact fun σ B H r => p σ B H (RS2.low g r)
  | ct ρ => exact fun σ B H r => p σ B H (RS2.low g r)
  | ex x ρ => exact fun c dx σ B H r q => p c dx σ B H (RS2.low g r) q
  | st => exact p
theorem RS2.set {v : V} {d : D} (r : RS2 K xa B0 H0 B H σ ρ T) (q : R K xa B v d) (i : Nat) : RS2 K xa B0 H0 B H (σ.set i (some v)) (ρ.set i (.sh d)) T := by
  refine ⟨r.r.set q i, r.t, r.n0, fun j ob b h k => ?_⟩
  rcases getset h with ⟨_, z, _⟩ | ⟨n, h⟩
  · cases z
  · rw [List.getElem?_set_ne n] at k
    exact r.ap j ob b h k
end
/-- behind a part -/
def em2 {α : Type} (m : EM α) (k : α → PT2) : PT2 := fun ρ T Z => m ρ T fun r T' => match r with
  | .ok a => k a ρ T' Z
  | .ex x => Z (.ex x ρ) T'
  | .st => Z .st T'
section
variable {X : Cx} {W : WX} {pos : Pos} {st : Stmt} {rest sa sb : List Stmt} {a b c e : Expr} {m n : EM D} {u w : EM Bool} {f g : PT2}
def ifS2 (u : EM Bool) (f g : PT2) : PT2 := em2 u fun b => if b = true then f else g
end
end Pu

namespace Pu
open PySem PySem.Spec PyProof.Rows L2 Evl
def upT (a : Nat) (g : List (Str × Fv) → List (Str × Fv)) : Tb → Tb
  | [] => []
  | e :: T => if e.a = a then ⟨e.a, e.c, g e.fs⟩ :: T else e :: upT a g T
def enT (T : Tb) (a : Nat) : Option En := T.find? fun e => e.a == a
theorem enT_split {a : Nat} {e : En} (g : List (Str × Fv) → List (Str × Fv)) : ∀ {T : Tb}, enT T a = some e → ∃ T1 T2, T = T1 ++ e :: T2 ∧ e.a = a ∧ upT a g T = T1 ++ ⟨e.a, e.c, g e.fs⟩ :: T2
  | [], h => nomatch h
  | x :: T, h => by
    unfold enT at h
    rw [List.find?_cons] at h
    by_cases c : x.a = a
    · rw [show (x.a == a) = true by simpa using c] at h
      have h : x = e := Option.some.inj h
      subst h
      exact ⟨[], T, rfl, c, by show (if x.a = a then _ else _) = _; rw [if_pos c]; rfl⟩
    · rw [show (x.a == a) = false by simpa using c] at h
      obtain ⟨T1, T2, h1, h2, h3⟩ := enT_split g (T := T) h
      exact ⟨x :: T1, T2, by rw [h1]; rfl, h2, by show (if x.a = a then _ else _) = _; rw [if_neg c, h3]; rfl⟩
theorem tAd_app (T1 T2 : Tb) : tAd (T1 ++ T2) = tAd T1 ++ tAd T2 := by
  induction T1 with
  | nil => rfl
  | cons e T ih =>
    show e.ad ++ tAd (T ++ T2) = e.ad ++ tAd T ++ tAd T2
    rw [ih, List.append_assoc]
section
variable {K : PySem.W.Frag} {xa : Xa} {B0 H0 B H B' H' : Hp} {σ : L2.St} {ρ : SEnv} {T T' : Tb}
theorem RT.up {a : Nat} {e : En} {g : List (Str × Fv) → List (Str × Fv)} (t : RT K B H T) (he : enT T a = some e) (keep : ∀ b ∈ tAd T, b ∉ e.ad → H' b = H b) (ob : ∃ dx vs, H' a = some (.ins (He.ga K e.c) dx vs) ∧ RV K B H' vs (g e.fs))
    (nd : (fAd (g e.fs)).Nodup) (na : a ∉ fAd (g e.fs)) (fr : ∀ b ∈ fAd (g e.fs), b ∈ fAd e.fs ∨ (b ∉ tAd T ∧ B b = none)) : RT K B H' (upT a g T) ∧ ∀ b ∈ tAd (upT a g T), b ∈ tAd T ∨ b ∈ fAd (g e.fs) := by
  obtain ⟨T1, T2, h1, h2, h3⟩ := enT_split g he
  subst h2
  subst h1
  have nd0 := t.nd
  rw [tAd_app] at nd0
  have nd0 : (tAd T1 ++ (e.ad ++ tAd T2)).Nodup := nd0
  obtain ⟨n1, n2, n3⟩ := List.nodup_append.mp nd0
  obtain ⟨n4, n5, n6⟩ := List.nodup_append.mp n2
  have in1 : ∀ b ∈ tAd T1, b ∈ tAd (T1 ++ e :: T2) := fun b hb => by rw [tAd_app]; exact List.mem_append_left _ hb
  have inE : ∀ b ∈ e.ad, b ∈ tAd (T1 ++ e :: T2) := fun b hb => by rw [tAd_app]; exact List.mem_append_right _ (List.mem_append_left _ hb)
  have in2 : ∀ b ∈ tAd T2, b ∈ tAd (T1 ++ e :: T2) := fun b hb => by rw [tAd_app]; exact List.mem_append_right _ (List.mem_append_right _ hb)
  have ou1 : ∀ b ∈ tAd T1, b ∉ e.ad := fun b hb hc => n3 b hb b (List.mem_append_left _ hc) rfl
  have ou2 : ∀ b ∈ tAd T2, b ∉ e.ad := fun b hb hc => n6 b hc b hb rfl
  have adE : En.ad ⟨e.a, e.c, g e.fs⟩ = e.a :: fAd (g e.fs) := rfl
  have frE : ∀ b ∈ e.a :: fAd (g e.fs), b ∈ e.ad ∨ (b ∉ tAd (T1 ++ e :: T2) ∧ B b = none) := fun b hb => by
    rcases List.mem_cons.mp hb with z | z
    · exact .inl (by rw [z]; exact List.mem_cons_self)
    · rcases fr b z with y | y
      · exact .inl (List.mem_cons_of_mem _ y)
      · exact .inr y
  have mem : ∀ b, b ∈ tAd (upT e.a g (T1 ++ e :: T2)) → b ∈ tAd T1 ∨ b ∈ e.a :: fAd (g e.fs) ∨ b ∈ tAd T2 := fun b hb => by
    rw [h3, tAd_app] at hb
    rcases List.mem_append.mp hb with z | z
    · exact .inl z
    · rcases List.mem_append.mp (show b ∈ (e.a :: fAd (g e.fs)) ++ tAd T2 from z) with y | y
      · exact .inr (.inl y)
      · exact .inr (.inr y)
  refine ⟨⟨fun f hf => ?_, ?_, fun b hb => ?_, fun f hf => ?_⟩, fun b hb => ?_⟩
  · rw [h3] at hf
    rcases List.mem_append.mp hf with z | z
    · obtain ⟨dx, vs, k1, k2⟩ := t.ob f (List.mem_append_left _ z)
      exact ⟨dx, vs, by rw [keep _ (in1 _ (tAd_mem.mpr ⟨f, z, List.mem_cons_self⟩)) (ou1 _ (tAd_mem.mpr ⟨f, z, List.mem_cons_self⟩))]; exact k1, k2.mono (Ex.refl _) fun b hb => keep b (in1 _ (tAd_mem.mpr ⟨f, z, List.mem_cons_of_mem _ hb⟩)) (ou1 _ (tAd_mem.mpr ⟨f, z, List.mem_cons_of_mem _ hb⟩))⟩
    · rcases List.mem_cons.mp z with y | y
      · rw [y]
        exact ob
      · obtain ⟨dx, vs, k1, k2⟩ := t.ob f (List.mem_append_right _ (List.mem_cons_of_mem _ y))
        exact ⟨dx, vs, by rw [keep _ (in2 _ (tAd_mem.mpr ⟨f, y, List.mem_cons_self⟩)) (ou2 _ (tAd_mem.mpr ⟨f, y, List.mem_cons_self⟩))]; exact k1, k2.mono (Ex.refl _) fun b hb => keep b (in2 _ (tAd_mem.mpr ⟨f, y, List.mem_cons_of_mem _ hb⟩)) (ou2 _ (tAd_mem.mpr ⟨f, y, List.mem_cons_of_mem _ hb⟩))⟩
  · rw [h3, tAd_app]
    show (tAd T1 ++ ((e.a :: fAd (g e.fs)) ++ tAd T2)).Nodup
    refine List.nodup_append.mpr ⟨n1, List.nodup_append.mpr ⟨List.nodup_cons.mpr ⟨na, nd⟩, n5, fun x hx y hy z => ?_⟩, fun x hx y hy z => ?_⟩
    · subst z
      rcases frE x hx with q | q
      · exact ou2 x hy q
      · exact q.1 (in2 x hy)
    · subst z
      rcases List.mem_append.mp hy with hy | hy
      · rcases frE x hy with q | q
        · exact ou1 x hx q
        · exact q.1 (in1 x hx)
      · exact n3 x hx x (List.mem_append_right _ hy) rfl
  · rcases mem b hb with z | z | z
    · exact t.out b (in1 b z)
    · rcases frE b z with q | q
      · exact t.out b (inE b q)
      · exact q.2
    · exact t.out b (in2 b z)
  · rw [h3] at hf
    rcases List.mem_append.mp hf with z | z
    · exact t.ne f (List.mem_append_left _ z)
    · rcases List.mem_cons.mp z with y | y
      · rw [y]
        exact t.ne e (List.mem_append_right _ List.mem_cons_self)
      · exact t.ne f (List.mem_append_right _ (List.mem_cons_of_mem _ y))
  · rcases mem b hb with z | z | z
    · exact .inl (in1 b z)
    · rcases List.mem_cons.mp z with y | y
      · exact .inl (by rw [y]; exact inE _ List.mem_cons_self)
      · exact .inr y
    · exact .inl (in2 b z)
theorem RS2.mut (r : RS2 K xa B0 H0 B H σ ρ T) (t' : RT K B H' T') (ch : ∀ b, b ∉ tAd T → H b ≠ none → H' b = H b) (sub : ∀ b ∈ tAd T', b ∈ tAd T ∨ H b = none) : RS2 K xa B0 H0 B H' σ ρ T' := by
  have ne : ∀ {b : Addr} {o : HO}, H b = some o → H b ≠ none := fun h z => by rw [h] at z; cases z
  refine ⟨⟨⟨fun b o h => ?_, r.r.gw.bup, fun b o h => ?_, r.r.gw.old⟩, r.r.len, r.r.sh, fun i ds h => ?_, r.r.ap⟩, t', fun b hb => ?_, fun i ob b h k hb => ?_⟩
  · have := r.r.gw.up b o h
    rw [ch b (fun z => by rw [r.n0 b z] at h; cases h) (ne this), this]
  · have := r.r.gw.le b o h
    rw [ch b (fun z => by rw [r.t.out b z] at h; cases h) (ne this), this]
  · obtain ⟨a, vs, e1, e2, e3, e4, q⟩ := r.r.own i ds h
    exact ⟨a, vs, e1, by rw [ch a (r.ap i ds a h e1) (ne e2)]; exact e2, e3, e4, q⟩
  · rcases sub b hb with z | z
    · exact r.n0 b z
    · cases y : H0 b with
      | none => rfl
      | some o => rw [r.r.gw.up b o y] at z; cases z
  · rcases sub b hb with z | z
    · exact r.ap i ob b h k z
    · obtain ⟨a, vs, e1, e2, _⟩ := r.r.own i ob h
      rw [e1] at k
      cases k
      rw [e2] at z
      cases z
end
section
variable {K : PySem.W.Frag} {B H : Hp}
theorem RV.length : ∀ {vs : List (Str × V)} {fs : List (Str × Fv)}, RV K B H vs fs → vs.length = fs.length
  | _, _, .nil => rfl
  | _, _, .s _ r => by rw [List.length_cons, List.length_cons, RV.length r]
  | _, _, .o _ _ r => by rw [List.length_cons, List.length_cons, RV.length r]
end
end Pu

namespace Pu
open PySem PySem.Spec PyProof.Rows L2 Evl
def objAt (ρ : SEnv) (T : Tb) (i : Nat) (c : Str) : Option En := match ρ[i]? with
  | some (.sh (.adr a)) => match enT T a with
    | some e => if e.c = c ∧ e.fs.length < 900 then some e else none
    | none => none
  | _ => none
theorem enT_at {T : Tb} {a : Nat} {e : En} (h : enT T a = some e) : e ∈ T ∧ e.a = a := find_at h
theorem objAt_is {ρ : SEnv} {T : Tb} {i : Nat} {c : Str} {e : En} (h : objAt ρ T i c = some e) : ρ[i]? = some (.sh (.adr e.a)) ∧ enT T e.a = some e ∧ e.c = c ∧ e.fs.length < 900 := by
  unfold objAt at h
  split at h
  · rename_i a q
    cases z : enT T a with
    | none => rw [z] at h; cases h
    | some e' =>
      rw [z] at h
      have h : (if e'.c = c ∧ e'.fs.length < 900 then some e' else none) = some e := h
      by_cases k : e'.c = c ∧ e'.fs.length < 900
      · rw [if_pos k] at h
        have h := Option.some.inj h
        subst h
        obtain ⟨_, ea⟩ := enT_at z
        subst ea
        exact ⟨q, z, k.1, k.2⟩
      · rw [if_neg k] at h
        cases h
  · cases h
section
variable {K : PySem.W.Frag} {xa : Xa} {B0 H0 B H B' H' : Hp} {σ : L2.St} {ρ : SEnv} {T T' : Tb}
theorem RT.en {a : Nat} {e : En} (t : RT K B H T) (he : enT T a = some e) : e.a = a ∧ (fAd e.fs).Nodup ∧ a ∉ fAd e.fs ∧ (∀ b ∈ fAd e.fs, b ∈ tAd T) ∧ a ∈ tAd T ∧ ∃ dx vs, H a = some (.ins (He.ga K e.c) dx vs) ∧ RV K B H vs e.fs := by
  obtain ⟨m, ea⟩ := enT_at he
  obtain ⟨T1, T2, h1, h2, _⟩ := enT_split (fun fs => fs) he
  have nd := t.nd
  rw [h1, tAd_app] at nd
  have nd : (tAd T1 ++ (e.ad ++ tAd T2)).Nodup := nd
  obtain ⟨_, n2, _⟩ := List.nodup_append.mp nd
  obtain ⟨n4, _, _⟩ := List.nodup_append.mp n2
  obtain ⟨n5, n6⟩ := List.nodup_cons.mp (show (e.a :: fAd e.fs).Nodup from n4)
  subst ea
  exact ⟨rfl, n6, n5, fun b hb => tAd_mem.mpr ⟨e, m, List.mem_cons_of_mem _ hb⟩, tAd_mem.mpr ⟨e, m, List.mem_cons_self⟩, t.ob e m⟩
theorem RS2.obj (r : RS2 K xa B0 H0 B H σ ρ T) {i : Nat} {c : Str} {e : En} (h : objAt ρ T i c = some e) : σ[i]? = some (some (.ref e.a)) := by
  obtain ⟨h1, _⟩ := objAt_is h
  obtain ⟨v, e1, q⟩ := r.r.sh i _ h1
  cases q
  exact e1
end
section
variable {X : Cx} {W : WX} {pos pos' p1 p2 p3 p4 p5 : Pos} {e : Expr} {m : EM D} {g : F}
theorem enT_up {T : Tb} {a : Nat} {e : En} {g : List (Str × Fv) → List (Str × Fv)} (h : enT T a = some e) : enT (upT a g T) a = some ⟨e.a, e.c, g e.fs⟩ := by
  induction T with
  | nil => cases h
  | cons x T ih =>
    unfold enT at h ⊢
    unfold upT
    rw [List.find?_cons] at h
    by_cases c : x.a = a
    · rw [if_pos c]
      rw [show (x.a == a) = true by simpa using c] at h
      have h : x = e := Option.some.inj h
      subst h
      rw [List.find?_cons, show ((⟨x.a, x.c, g x.fs⟩ : En).a == a) = true by simpa using c]
    · rw [if_neg c, List.find?_cons, show (x.a == a) = false by simpa using c]
      rw [show (x.a == a) = false by simpa using c] at h
      exact ih h
end
end Pu

namespace Pu
open PySem PySem.Spec PyProof.Rows L2 Evl
section
variable {X : Cx} {CX : CXT} {k : Nat} {g C : Addr} {fd : FuncData} {ps : List Str} {sp : Sp} {EE : L2.St → XK} {x m : Str} {p pos apos : Pos} {e o : Expr} {es : List Expr} {to : TE} {ta : TA}
end
abbrev M2 := List D → Tb → (Res D → Tb → Prop) → Prop
/-- the heap less the objects that change -/
def flT (T : Tb) (H : Hp) : Hp := fun a => if a ∈ tAd T then none else H a
theorem flT_le {T : Tb} {H : Hp} : Ex (flT T H) H := fun a o h => by
  unfold flT at h
  split at h
  · cases h
  · exact h
theorem flT_out {T : Tb} {H : Hp} {a : Addr} (h : a ∉ tAd T) : flT T H a = H a := if_neg h
theorem flT_in {T : Tb} {H : Hp} {a : Addr} (h : a ∈ tAd T) : flT T H a = none := if_pos h
structure Aft (K : PySem.W.Frag) (B H : Hp) (T : Tb) (B' H' : Hp) (T' : Tb) : Prop where
  g : Gw B (flT T H) B' H'
  t : RT K B' H' T'
  n : ∀ b ∈ tAd T', b ∈ tAd T ∨ H b = none
def pM2 (K : PySem.W.Frag) (B H : Hp) (T : Tb) (Q : VK) (E : XK) : Res D → Tb → Prop
  | .ok d, T' => ∀ v B' H', Aft K B H T B' H' T' → R K none B' v d → Q v H'
  | .ex x, T' => ∀ c dx B' H', Aft K B H T B' H' T' → XR K B' c dx x → E c dx H'
  | .st, _ => False
def sp2 (K : PySem.W.Frag) (n : Nat) (m : M2) : Sp := fun vs H Q E => vs.length = n ∧ ∃ B T ds Z, Ex B H ∧ RL K none B vs ds ∧ RT K B H T ∧ m ds T Z ∧ ∀ r T', Z r T' → pM2 K B H T Q E r T'
section
variable {K : PySem.W.Frag} {xa : Xa} {B0 H0 B H B' H' : Hp} {σ : L2.St} {ρ : SEnv} {T T' : Tb}
theorem RS2.start {vs : List V} {ds : List D} {k : Nat} {N : List Str} (le : Ex B H) (rl : RL K none B vs ds) (t : RT K B H T) (hk : N.length = ds.length + k) : RS2 K none B (flT T H) B H (L2.start N vs) (ds.map .sh ++ noS k) T := by
  have r := RS.start le rl hk
  have no : ∀ (i : Nat) (ob : Ob), (ds.map Sl.sh ++ noS k)[i]? = some (.own ob) → False := fun i ob h => by
    obtain ⟨a, vs, e1, e2, e3, e4, q⟩ := r.own i ob h
    rw [e2] at e4
    cases e4
  exact ⟨⟨⟨flT_le, Ex.refl _, le, fun _ _ _ => rfl⟩, r.len, r.sh, fun i ds h => (no i ds h).elim, r.ap⟩, t, fun b hb => flT_in hb, fun i ob b h _ _ => no i ob h⟩
theorem RS2.done {B0 H0 : Hp} {T0 : Tb} (g : Gw B0 (flT T0 H0) B H) (t : RT K B H T) (n : ∀ b ∈ tAd T, flT T0 H0 b = none) : Aft K B0 H0 T0 B H T := ⟨g, t, fun b hb => by
    by_cases c : b ∈ tAd T0
    · exact .inl c
    · have := n b hb
      rw [flT_out c] at this
      exact .inr this⟩
end
structure Fn2 (P : Program) (w : World) (K : PySem.W.Frag) (mg : Str → Option Value) (base : Heap) (k : Nat) (x : Str) (n : Nat) (m : M2) : Prop where
  ex : ∃ (f : Addr) (fd : FuncData) (ps : List Str), FnOk P w K mg base (L2N.CX P w) k f fd ps (sp2 K n m) ∧ mg x = some (.ref f) ∧ PySem.W.keepIn K (.ref f) = true ∧ Binds K fd ps []
  st : ∀ ds T Z, ds.length ≠ n → m ds T Z → Z .st T
structure FnM2 (P : Program) (w : World) (K : PySem.W.Frag) (mg : Str → Option Value) (base : Heap) (k : Nat) (c m : Str) (n : Nat) (mm : M2) : Prop where
  cls : Cls K (He.ga K c)
  ex : ∃ (f : Addr) (fd : FuncData) (ps : List Str), Meth K (He.ga K c) m f ∧ FnOk P w K mg base (L2N.CX P w) k f fd ps (sp2 K n mm) ∧ Binds K fd ps []
  st : ∀ ds T Z, ds.length ≠ n → mm ds T Z → Z .st T
structure FnN2 (P : Program) (w : World) (K : PySem.W.Frag) (mg : Str → Option Value) (base : Heap) (k : Nat) (c : Str) (n : Nat) (mm : M2) : Prop where
  ex : ∃ (f : Addr) (fd : FuncData) (ps : List Str), Mk K (He.ga K c) f ∧ FnOk P w K mg base (L2N.CX P w) k f fd ps (sp2 K (n + 1) mm) ∧ Binds K fd ps []
  glo : mg c = some (.ref (He.ga K c))
  st : ∀ ds T Z, ds.length ≠ n + 1 → mm ds T Z → Z .st T
  ne : He.ga K "Stand" ≠ He.ga K c
section
variable {K : PySem.W.Frag} {B0 H0 B H : Hp} {σ : L2.St} {ρ : SEnv} {T : Tb}
end
section
variable {X : Cx} {W : WX} {pos apos p : Pos} {e o : Expr} {es : List Expr} {l : EM (List D)} {mo : EM D}
end
end Pu

namespace Pu
open PySem PySem.Spec PyProof.Rows L2 Evl
def poO (K : PySem.W.Frag) (W : WX) (Hb H : Hp) (σ : L2.St) (Q : VK) : Res Ob → Prop
  | .ok ob => ∀ p o B' H', Gw Hb H B' H' → H' p = none → RO K none B' o ob → Q (.ref p) (upd H' p o)
  | .ex x => ∀ c dx B' H', Gw Hb H B' H' → XR K B' c dx x → W c dx σ H'
  | .st => False
def tOw (K : PySem.W.Frag) (W : WX) (g : Env → Res Ob) : TE := fun σ H Q => ∃ Hb ρ, Ex Hb H ∧ RE K none Hb σ ρ ∧ poO K W Hb H σ Q (g ρ)
abbrev Pow (X : Cx) (W : WX) (e : Expr) (g : Env → Res Ob) : Prop := PE X e (tOw X.K W g)
def clnO : Ob → Bool
  | .L ds => clnL ds
  | .T kvs => clnK kvs
section
variable {K : PySem.W.Frag} {xa : Xa} {B0 H0 B H B' H' : Hp} {σ : L2.St} {ρ : SEnv} {T : Tb}
theorem RL.tr (k : ∀ {v : V} {d : D}, R K none B v d → cln d = true → R K none B' v d) : ∀ {vs : List V} {ds : List D}, RL K none B vs ds → clnL ds = true → RL K none B' vs ds
  | _, _, .nil, _ => .nil
  | _, _, .cons h r, c => by
    obtain ⟨c1, c2⟩ := Bool.and_eq_true_iff.mp (show (cln _ && clnL _) = true from c)
    exact .cons (k h c1) (RL.tr k r c2)
theorem RK.tr (k : ∀ {v : V} {d : D}, R K none B v d → cln d = true → R K none B' v d) : ∀ {vs : List (Key × V)} {ds : List (DK × D)}, RK K none B vs ds → clnK ds = true → RK K none B' vs ds
  | _, _, .nil, _ => .nil
  | _, _, .cons o h r, c => by
    obtain ⟨c1, c2⟩ := Bool.and_eq_true_iff.mp (show (cln _ && clnK _) = true from c)
    exact .cons o (k h c1) (RK.tr k r c2)
theorem RO.tr (k : ∀ {v : V} {d : D}, R K none B v d → cln d = true → R K none B' v d) {o : HO} {ob : Ob} (h : RO K none B o ob) (c : clnO ob = true) : RO K none B' o ob := by
  cases h with
  | L r => exact .L (RL.tr k r c)
  | T r => exact .T (RK.tr k r c)
end
def cLenK : List D → Option D
  | [d] => (dkv d).map fun kvs => .int kvs.length
  | _ => none
section
variable {X : Cx} {xa : Xa} {W : WX} {pos p : Pos} {st : Stmt} {e : Expr} {f : F} {m : PT2} {g : Env → Res Ob}
end
end Pu

namespace Pu
open PySem PySem.Spec PyProof.Rows L2 Evl
def dcGo (ρ : Env) (t : Tg) (c : T) (fk fv : F) : List D → List (DK × D) → Res (List (DK × D))
  | [], acc => .ok acc
  | d :: ds, acc => (ofO (bnd t d)).bind fun ps => ((c (setsE ρ ps)).pur).bind fun b =>
    if b = true then ((fk (setsE ρ ps)).pur).bind fun y => (ofO (keyOf y)).bind fun q => ((fv (setsE ρ ps)).pur).bind fun z => if acc.length < 1000000 then dcGo ρ t c fk fv ds (putKD acc q z) else .st else dcGo ρ t c fk fv ds acc
structure DcI (K : PySem.W.Frag) (B1 H1 : Hp) (Dl : Addr) (ρ0 : Env) (t : Tg) (c : T) (fk fv : F) (ds : List D) (zs : List (DK × D)) (i : Nat) (H : Hp) : Prop where
  ex : ∃ B acc ys, Gw B1 H1 B H ∧ B Dl = none ∧ H Dl = some (.dK acc) ∧ RK K none B acc ys ∧ dcGo ρ0 t c fk fv (ds.drop i) ys = .ok zs
section
variable {X : Cx} {W : WX} {pos : Pos} {kx vx tg iter : Expr} {ifs : List Expr}
end
end Pu

namespace Pu
open PySem PySem.Spec PyProof.Rows L2 Evl
section
variable {X : Cx} {xa : Xa} {W : WX} {pos pos' p1 : Pos} {st : Stmt} {f : SF}
end
end Pu

namespace Pu
open PySem PySem.Spec PyProof.Rows L2 Evl
section
variable {X : Cx} {xa : Xa} {W : WX} {e : Expr} {td : TE} {pos p1 apos cpos : Pos} {f : F}
end
end Pu

namespace Pu
open PySem PySem.Spec PyProof.Rows L2 Evl
section
variable {X : Cx} {xa : Xa} {W : WX} {e : Expr} {pos p : Pos} {f : F}
theorem RL_strs {K : PySem.W.Frag} {B : Hp} : ∀ {ls : List (List Nat)}, (∀ l ∈ ls, okS l) → RL K xa B (ls.map fun l => V.str (sOf l)) (ls.map D.str)
  | [], _ => .nil
  | l :: r, h => .cons (.str (h l List.mem_cons_self)) (RL_strs fun x hx => h x (List.mem_cons_of_mem _ hx))
end
end Pu

namespace Pu
open PySem PySem.Spec PyProof.Rows L2 Evl
section
variable {X : Cx} {xa : Xa} {W : WX} {e : Expr} {td : TE} {pos p1 apos cpos : Pos} {f : F}
end
end Pu

namespace Pu
open PySem PySem.Spec PyProof.Rows L2 Evl
section
variable {X : Cx} {xa : Xa} {W : WX} {pos apos p : Pos} {o e : Expr} {es : List Expr} {f g : F} {fs : Fs}
end
end Pu

namespace Pu
open PySem PySem.Spec PyProof.Rows L2 Evl
section
variable {X : Cx} {xa : Xa} {W : WX} {pos p : Pos} {a b e : Expr} {f h : F}
/-- len(o), by the class's own method -/
def lenO (c : Str) (mm : List D → Res D) : D → Option D := fun o => match o with
  | .obj c' fs => if c' = c ∧ (fs.lookup ("__len__" : Str)).isNone = true then (match mm [o] with
    | .ok (.int n) => if 0 ≤ n ∧ n < 2 ^ 63 then some (.int n) else none
    | _ => none) else none
  | _ => none
end
end Pu

namespace Pu
open PySem PySem.Spec PyProof.Rows L2 Evl
section
variable {X : Cx} {W : WX} {pos spos py : Pos} {kx vx tg iter : Expr} {ifs : List Expr}
end
end Pu

namespace Pu
open PySem L2
def m_Shelf___len__ : List D → Res D := dfM 1 0 (reS (opN cLenK (argC (op1 (getD' "Stand" "kept") (op1 (getD' "Shelf" "here") (vr 0))) argN)))
end Pu

namespace Pu.Sv
open PySem PySem.Spec PyProof.Rows L2 Evl
structure Sh where
  al : D
  sz : D
  sl : D
  he : D
  p : Nat
  dn : List D
  q : Nat
  un : List D
def Sh.fs (S : Sh) : List (Str × Fv) := [("alphabet", .s S.al), ("size", .s S.sz), ("slips", .s S.sl), ("here", .s S.he), ("done", .o S.p S.dn), ("undone", .o S.q S.un)]
def Sh.en (S : Sh) (x : Nat) : En := ⟨x, "Shelf", S.fs⟩
def Sh.part (S : Sh) : D := .obj "Shelf" [("alphabet", S.al), ("size", S.sz), ("slips", S.sl), ("here", S.he), ("done", .adr S.p), ("undone", .adr S.q)]
def Sh.full (S : Sh) : D := .obj "Shelf" [("alphabet", S.al), ("size", S.sz), ("slips", S.sl), ("here", S.he), ("done", .lst S.dn), ("undone", .lst S.un)]
def Is (T : Tb) (x : Nat) (S : Sh) : Prop := enT T x = some (S.en x)
/-- only x is another one -/
def Oth (x : Nat) (T T' : Tb) : Prop := ∀ y, y ≠ x → enT T' y = enT T y
theorem Oth.refl (x : Nat) (T : Tb) : Oth x T T := fun _ _ => rfl
theorem Oth.trans {x : Nat} {T T1 T2 : Tb} (a : Oth x T T1) (b : Oth x T1 T2) : Oth x T T2 := fun y h => (b y h).trans (a y h)
theorem Is.up {T : Tb} {x : Nat} {S S' : Sh} (I : Is T x S) {g : List (Str × Fv) → List (Str × Fv)} (h : g S.fs = S'.fs) : Is (upT x g T) x S' := by
  have := enT_up (g := g) I
  unfold Is
  rw [this]
  show some (⟨x, "Shelf", g S.fs⟩ : En) = _
  rw [h]
  rfl
theorem Is.fv {T : Tb} {x : Nat} {S : Sh} (I : Is T x S) : fvO T (.adr x) = S.full := by
  show (match T.find? (fun e => e.a == x) with | some e => e.full | none => .adr x) = S.full
  rw [show (T.find? fun e => e.a == x) = some (S.en x) from I]
  rfl
theorem Is.at {T : Tb} {x : Nat} {S : Sh} (I : Is T x S) {ρ : SEnv} {i : Nat} (h : ρ[i]? = some (.sh (.adr x))) : objAt ρ T i "Shelf" = some (S.en x) := by
  unfold objAt
  rw [h]
  show (match enT T x with | some e => if e.c = "Shelf" ∧ e.fs.length < 900 then some e else none | none => none) = _
  rw [show enT T x = some (S.en x) from I]
  exact if_pos ⟨rfl, by show (6 : Nat) < 900; decide⟩
section
variable {ρ ρ' : SEnv} {T : Tb} {Z : Out → Tb → Prop} {i x : Nat} {S S' : Sh} {f : SF} {n m : PT2} {h : F} {d : D} {E : D → Prop}
end
end Pu.Sv

namespace Pu.Sv
open PySem PySem.Spec PyProof.Rows L2 Evl
def stand (k c dd n : D) : D := .obj "Stand" [("kept", k), ("counts", c), ("deeds", dd), ("next_one", n)]
section
variable {T : Tb} {Z : Res D → Tb → Prop} {x : Nat} {S : Sh} {ρ : SEnv} {f : F} {as : Fs} {ds : List D} {n : Str} {mm : M2}
end
end Pu.Sv

namespace Pu.Sv
open PySem PySem.Spec PyProof.Rows L2 Evl
def cntK (cs : List (DK × D)) (w : List Nat) : Int := match valD cs (.inr w) with
  | some (.int n) => n
  | _ => 0
def aI (cs : List (DK × D)) : Prop := ∀ p ∈ cs, ∃ n, p.2 = .int n
theorem aI_cln : ∀ {cs : List (DK × D)}, aI cs → clnK cs = true
  | [], _ => rfl
  | (k, d) :: r, h => by
    obtain ⟨n, hn⟩ := h (k, d) List.mem_cons_self
    have hn : d = .int n := hn
    subst hn
    show (true && clnK r) = true
    rw [aI_cln fun p hp => h p (List.mem_cons_of_mem _ hp)]
    rfl
section
variable {T : Tb} {Z : Res D → Tb → Prop} {x : Nat} {S : Sh}
end
end Pu.Sv

namespace Pu.Sv
open PySem PySem.Spec PyProof.Rows L2 Evl
section
variable {T : Tb} {x : Nat} {ρ ρ' : SEnv}
def stand0 : D := stand (.dct []) (.dct []) (.tup []) (.int 0)
/-- what lies there stays -/
def Kp (T T' : Tb) : Prop := ∀ y e, enT T y = some e → enT T' y = some e
theorem Kp.refl (T : Tb) : Kp T T := fun _ _ h => h
theorem Kp.trans {T T1 T2 : Tb} (a : Kp T T1) (b : Kp T1 T2) : Kp T T2 := fun y e h => b y e (a y e h)
theorem Kp.is {T T' : Tb} (k : Kp T T') {S : Sh} (I : Is T x S) : Is T' x S := k _ _ I
theorem enT_mem {T : Tb} {y : Nat} {e : En} (h : enT T y = some e) : y ∈ tAd T := by
  obtain ⟨h1, h2⟩ := enT_at h
  exact tAd_mem.mpr ⟨e, h1, by rw [← h2]; exact List.mem_cons_self⟩
end
section
variable {T : Tb} {x : Nat} {S : Sh} {Z : Res D → Tb → Prop}
end
end Pu.Sv

namespace Pu.Sv
open PySem PySem.Spec PyProof.Rows L2 Evl
section
variable {T : Tb} {ρ ρ' : SEnv} {m m1 m2 : M2} {a a1 a2 f : Fs} {h h1 h2 : F} {ds d1 d2 : List D} {v v1 v2 w w1 w2 z : D} {R R1 : Tb → Prop} {R2 : Tb → Tb → Prop} {n A : PT2} {Zo : Out → Tb → Prop} {g : D → D → Option D} {i : Nat} {q : Pu.T} {b : Bool}
end
section
variable {T : Tb} {x : Nat} {S : Sh} {Z : Res D → Tb → Prop}
end
end Pu.Sv

namespace Pu.Sv
open PySem PySem.Spec PyProof.Rows L2 Evl
section
variable {ρ ρ' : SEnv} {T : Tb} {Z : Out → Tb → Prop} {i x : Nat} {S : Sh} {n : PT2} {h : F} {d v : D} {mm : M2} {nm : Str} {R : Tb → Prop} {f : F} {as it : Fs} {ds : List D} {al a b : D} {t : Tg} {fb : PT2}
theorem lenO_obj {c : Str} {fs : List (Str × D)} {mm : List D → Res D} {k : Nat} (h : mm [.obj c fs] = .ok (.int (k : Nat))) (hn : fs.lookup ("__len__" : Str) = none) (hk : k ≤ 1000000) : lenO c mm (.obj c fs) = some (.int (k : Nat)) := by
  show (if c = c ∧ (fs.lookup ("__len__" : Str)).isNone = true then (match mm [.obj c fs] with
    | .ok (.int n) => if 0 ≤ n ∧ n < 2 ^ 63 then some (D.int n) else none
    | _ => none) else none) = _
  rw [if_pos ⟨rfl, by rw [hn]; rfl⟩, h]
  exact if_pos ⟨by omega, by omega⟩
end
theorem pick {L : List D} {r : Nat} (h : r < L.length) : ∃ d, dIx (.lst L) (.int (r : Nat)) = some d ∧ d ∈ L := ⟨L[r], atI_nat h, List.getElem_mem h⟩
end Pu.Sv

namespace Pu
open PySem PySem.Spec PyProof.Rows L2 Evl
section
variable {X : Cx} {W : WX} {pos : Pos} {es : List Expr} {e : Expr} {l : EM (List D)} {m : EM D}
end
end Pu

namespace Pu.Sv
open PySem PySem.Spec PyProof.Rows L2 Evl
open Pu.Sp
/-- the words of a text -/
def Wt (al : List Nat) (L m : Nat) (t : List Nat) : List (List Nat) := (allw al L).filter fun u => !Pu.Cm.gb L m u t
def fd (l : List (List Nat)) : List (DK × D) := l.map fun w => (Sum.inr w, D.bl true)
section
variable {S : Sh} {al t : List Nat} {L m : Nat}
end
end Pu.Sv

namespace Pu.Sv
open PySem PySem.Spec PyProof.Rows L2 Evl
structure CI (cs : List (DK × D)) (f : List Nat → Nat) : Prop where
  nd : (cs.map (·.1)).Nodup
  ty : ∀ p ∈ cs, ∃ w, p = (Sum.inr w, D.int (f w : Nat)) ∧ 0 < f w
  al : ∀ w, 0 < f w → ((Sum.inr w : DK), D.int (f w : Nat)) ∈ cs
section
variable {cs : List (DK × D)} {f g : List Nat → Nat} {w : List Nat}
theorem CI.aI (h : CI cs f) : aI cs := fun p hp => by
  obtain ⟨w, e, _⟩ := h.ty p hp
  exact ⟨_, by rw [e]⟩
theorem CI.pos (h : CI cs f) (hw : 0 < f w) : valD cs (.inr w) = some (.int (f w : Nat)) := by
  unfold valD
  cases z : cs.find? fun p => decide (p.1 = Sum.inr w) with
  | none =>
    have := List.find?_eq_none.mp z _ (h.al w hw)
    simp at this
  | some p =>
    obtain ⟨v, e, _⟩ := h.ty p (List.mem_of_find?_eq_some z)
    have k : p.1 = Sum.inr w := by simpa using List.find?_some z
    rw [e] at k
    have k := Sum.inr.inj k
    subst k
    rw [e]
    rfl
theorem CI.zero (h : CI cs f) (hw : f w = 0) : valD cs (.inr w) = none := by
  unfold valD
  cases z : cs.find? fun p => decide (p.1 = Sum.inr w) with
  | none => rfl
  | some p =>
    obtain ⟨v, e, hv⟩ := h.ty p (List.mem_of_find?_eq_some z)
    have k : p.1 = Sum.inr w := by simpa using List.find?_some z
    rw [e] at k
    have k := Sum.inr.inj k
    subst k
    omega
theorem CI.get (h : CI cs f) : (valD cs (.inr w)).getD (.int 0) = .int (f w : Nat) := by
  by_cases c : 0 < f w
  · rw [h.pos c]; rfl
  · rw [h.zero (by omega), show f w = 0 by omega]; rfl
theorem CI.cnt (h : CI cs f) : cntK cs w = (f w : Nat) := by
  unfold cntK
  by_cases c : 0 < f w
  · rw [h.pos c]
  · rw [h.zero (by omega), show f w = 0 by omega]; rfl
theorem ci_nil : CI [] fun _ => 0 := ⟨List.nodup_nil, fun _ h => (by cases h), fun _ h => absurd h (Nat.lt_irrefl _)⟩
theorem CI.len (h : CI cs f) {A : List (List Nat)} (hA : ∀ w, 0 < f w → w ∈ A) : cs.length ≤ A.length := by
  have e : cs.length = (cs.map (·.1)).length := (List.length_map _).symm
  rw [e, ← List.length_map (f := fun w => (Sum.inr w : DK)) (as := A)]
  refine nodup_le h.nd fun k hk => ?_
  obtain ⟨p, hp, rfl⟩ := List.mem_map.mp hk
  obtain ⟨w, e, hw⟩ := h.ty p hp
  rw [e]
  exact List.mem_map.mpr ⟨w, hA w hw, rfl⟩
end
abbrev KT := List (Int × List Nat)
def cF (al : List Nat) (L m : Nat) (ks : KT) (w : List Nat) : Nat := (ks.filter fun p => decide (w ∈ Wt al L m p.2)).length
def lt1 (ks : KT) : Prop := ks.Pairwise fun a b => a.1 < b.1
end Pu.Sv

namespace Pu.Sv
open PySem PySem.Spec PyProof.Rows L2 Evl
theorem a4_let : ∀ a ∈ A4, ∀ c ∈ a, c ∈ LET := by decide
def encK (ks : KT) : List (DK × D) := ks.map fun p => (Sum.inl p.1, D.str p.2)
structure Sd where
  ks : KT
  dd : List D
  nx : Nat
theorem enc_cln : ∀ ks : KT, clnK (encK ks) = true
  | [] => rfl
  | p :: ks => by
    show (true && clnK (encK ks)) = true
    rw [enc_cln ks]
    rfl
def hasN (ks : KT) (j : Int) : Bool := ks.any fun p => decide (p.1 = j)
structure StOk (al : List Nat) (L m N : Nat) (d : D) (s : Sd) : Prop where
  ex : ∃ cs, d = stand (.dct (encK s.ks)) (.dct cs) (.tup s.dd) (.int (s.nx : Nat)) ∧ CI cs (cF al L m s.ks)
  pw : lt1 s.ks
  lt : ∀ p ∈ s.ks, (0 ≤ p.1 ∧ p.1 < (s.nx : Nat)) ∧ Tx al 40 p.2
  le : s.ks.length ≤ 12
  cd : clnL s.dd = true
  dl : s.dd.length ≤ N
  nl : s.nx ≤ N
section
variable {al : List Nat} {L m N : Nat} {d : D} {s : Sd}
theorem StOk.cln (h : StOk al L m N d s) : cln d = true := by
  obtain ⟨cs, e, c⟩ := h.ex
  rw [e]
  show (decide (("Stand" : Str) = "Stand") && (clnK (encK s.ks) && (clnK cs && (clnL s.dd && (true && true))))) = true
  rw [enc_cln, aI_cln c.aI, h.cd]
  rfl
theorem StOk.nil : StOk al L m 0 stand0 ⟨[], [], 0⟩ := ⟨⟨[], rfl, ci_nil⟩, List.Pairwise.nil, fun _ h => (by cases h), Nat.zero_le _, rfl, Nat.le_refl _, Nat.le_refl _⟩
end
def Sh.vw (S : Sh) (x y : D) : D := .obj "Shelf" [("alphabet", S.al), ("size", S.sz), ("slips", S.sl), ("here", S.he), ("done", x), ("undone", y)]
section
variable {al : List Nat} {L m N : Nat} {S : Sh} {s : Sd} {x y : D} {ε : Pu.Env} {k c dd n : D}
theorem he_k (e : vr 0 ε = .ok (S.vw x y)) (hh : S.he = stand k c dd n) : op1 (getD' "Stand" "kept") (op1 (getD' "Shelf" "here") (vr 0)) ε = .ok k := e1 (e1 e rfl) (by rw [hh]; rfl)
theorem slen_ok (h : StOk al L m N S.he s) : m_Shelf___len__ [S.vw x y] = .ok (.int (s.ks.length : Nat)) := by
  obtain ⟨cs, e, c⟩ := h.ex
  refine dm rfl (re_to (eN (eC (he_k (S := S) (x := x) (y := y) rfl e) rfl) ?_))
  show some (D.int ((encK s.ks).length : Nat)) = _
  unfold encK
  rw [List.length_map]
theorem lenO_ok (h : StOk al L m N S.he s) : lenO "Shelf" m_Shelf___len__ (S.vw x y) = some (.int (s.ks.length : Nat)) := by
  have := h.le
  exact lenO_obj (slen_ok h) rfl (by omega)
variable (hs : al.Pairwise (· < ·)) (ha : al.length ≤ 4) (hL : L ≤ 3)
include hs ha hL in
include hs ha hL in
include hs ha hL in
end
end Pu.Sv

namespace Pu.Sv
open PySem PySem.Spec PyProof.Rows L2 Evl
section
variable {T : Tb} {ρ : SEnv} {Z : Res D → Tb → Prop} {x : Nat} {S : Sh} {f : F} {n : Str} {mm : M2} {l : EM (List D)} {ds : List D} {m : EM D} {d : D}
end
section
variable {T : Tb} {x : Nat} {S : Sh}
end
end Pu.Sv

namespace Pu
open PySem PySem.Spec PyProof.Rows L2 Evl
section
variable {X : Cx} {W : WX} {pos px py pz pt pt2 : Pos} {a b c : Expr} {l : EM (List D)} {kt k2 : Nat}
end
end Pu

namespace Pu
open PySem L2
end Pu

namespace Pu.Sv
open PySem PySem.Spec PyProof.Rows L2 Evl
inductive F2 (P : D → Sd → Prop) : List D → List Sd → Prop
  | nil : F2 P [] []
  | cons {d : D} {s : Sd} {ds : List D} {ss : List Sd} : P d s → F2 P ds ss → F2 P (d :: ds) (s :: ss)
section
variable {P Q : D → Sd → Prop}
theorem F2.len {ds : List D} {ss : List Sd} (h : F2 P ds ss) : ds.length = ss.length := by
  induction h with
  | nil => rfl
  | cons _ _ ih => rw [List.length_cons, List.length_cons, ih]
theorem F2.imp {ds : List D} {ss : List Sd} (h : F2 P ds ss) (k : ∀ d s, P d s → Q d s) : F2 Q ds ss := by
  induction h with
  | nil => exact .nil
  | cons a _ ih => exact .cons (k _ _ a) ih
theorem F2.snoc {ds : List D} {ss : List Sd} (h : F2 P ds ss) {d : D} {s : Sd} (q : P d s) : F2 P (ds ++ [d]) (ss ++ [s]) := by
  induction h with
  | nil => exact .cons q .nil
  | cons a _ ih => exact .cons a ih
end
structure Sx where
  he : Sd
  dn : List Sd
  un : List Sd
def sd0 : Sd := ⟨[], [], 0⟩
def sx0 : Sx := ⟨sd0, [], []⟩
def Hs (al : List Nat) (L m N : Nat) (T : Tb) (x : Nat) (s : Sx) : Prop := ∃ S : Sh, Is T x S ∧ (S.al = .str al ∧ S.sz = .int (L : Nat) ∧ S.sl = .int (m : Nat)) ∧ StOk al L m N S.he s.he ∧ F2 (StOk al L m N) S.dn s.dn ∧ F2 (StOk al L m N) S.un s.un ∧ s.dn.length + s.un.length ≤ N
section
variable {al : List Nat} {L m N N' : Nat} {T T' : Tb} {x y : Nat} {s : Sx} {d : D} {st : Sd}
theorem StOk.mono (h : StOk al L m N d st) (l : N ≤ N') : StOk al L m N' d st := ⟨h.ex, h.pw, h.lt, h.le, h.cd, Nat.le_trans h.dl l, Nat.le_trans h.nl l⟩
theorem Hs.mono (h : Hs al L m N T x s) (l : N ≤ N') : Hs al L m N' T x s := by
  obtain ⟨S, I, e, a, b, c, n⟩ := h
  exact ⟨S, I, e, a.mono l, b.imp fun _ _ q => q.mono l, c.imp fun _ _ q => q.mono l, Nat.le_trans n l⟩
theorem Hs.kp (h : Hs al L m N T y s) (o : Kp T T') : Hs al L m N T' y s := by
  obtain ⟨S, I, r⟩ := h
  exact ⟨S, o.is I, r⟩
theorem Hs.new {p q : Nat} (I : Is T x ⟨.str al, .int (L : Nat), .int (m : Nat), stand0, p, [], q, []⟩) : Hs al L m N T x sx0 :=
  ⟨_, I, ⟨rfl, rfl, rfl⟩, StOk.nil.mono (Nat.zero_le _), .nil, .nil, Nat.zero_le _⟩
theorem Hs.mem (h : Hs al L m N T x s) : x ∈ tAd T := by
  obtain ⟨S, I, _⟩ := h
  exact enT_mem I
def Sd.add (s : Sd) (t : List Nat) : Sd := ⟨s.ks ++ [(((s.nx : Nat) : Int), t)], s.dd ++ [.tup [.str [97, 100, 100], .str t]], s.nx + 1⟩
def Sd.rem (s : Sd) (j : Int) : Sd := ⟨s.ks.filter fun p => decide (p.1 ≠ j), s.dd ++ [.tup [.str [114, 101, 109, 111, 118, 101], .int j]], s.nx⟩
def Sx.to (s : Sx) (n : Sd) : Sx := ⟨n, s.dn ++ [s.he], []⟩
theorem Hs.len (h : Hs al L m N T x s) : ∃ S : Sh, Is T x S ∧ lenO "Shelf" m_Shelf___len__ S.part = some (.int (s.he.ks.length : Nat)) ∧ lenO "Shelf" m_Shelf___len__ S.full = some (.int (s.he.ks.length : Nat)) := by
  obtain ⟨S, I, _, h1, _⟩ := h
  exact ⟨S, I, lenO_ok (x := .adr S.p) (y := .adr S.q) h1, lenO_ok (x := .lst S.dn) (y := .lst S.un) h1⟩
end
inductive Deed where
  | rem (n : Nat)
  | add (t : List Nat)
def Deed.d : Deed → D
  | .rem n => .tup [.str [114, 101, 109, 111, 118, 101], .int (n : Nat)]
  | .add t => .tup [.str [97, 100, 100], .str t]
def Deed.ok (al : List Nat) : Deed → Prop
  | .rem n => n < 5
  | .add t => Tx al 8 t
/-- a shelf behind a deed, where it can be done -/
def Sx.go (s : Sx) : Deed → Sx
  | .rem n => if hasN s.he.ks (n : Nat) = true then s.to (s.he.rem (n : Nat)) else s
  | .add t => if s.he.ks.length = 12 then s else s.to (s.he.add t)
/-- what is told -/
def Sx.told (s : Sx) : Deed → D
  | .rem n => match s.he.ks.find? fun p => decide (p.1 = ((n : Nat) : Int)) with
    | some p => .str p.2
    | none => .non
  | .add _ => if s.he.ks.length = 12 then .non else .int (s.he.nx : Nat)
end Pu.Sv

namespace Pu.Sv
open PySem PySem.Spec PyProof.Rows L2 Evl
section
variable {ρ : SEnv} {T : Tb} {Zo : Out → Tb → Prop} {n : PT2} {f : SF} {d : D}
end
theorem deed_ok (ns : List Int) (hl : ns.length ≤ 1000) (at_ : Nat) (ha : at_ < 2 ^ 40) {al : List Nat} (h : al ∈ A4) : ∃ d : Deed, d.ok al ∧ m__law_deed [.frl (ns.map .int), .int (at_ : Nat), .str al] = .ok d.d := by
  have len := al_len al h
  obtain ⟨r0, hr0, er0⟩ := drawn_ok ns at_ 3 (by decide) (by omega) hl
  obtain ⟨r1, hr1, er1⟩ := drawn_ok ns (at_ + 1) 5 (by decide) (by omega) hl
  obtain ⟨r2, hr2, er2⟩ := drawn_ok ns (at_ + 2) 8 (by decide) (by omega) hl
  obtain ⟨w, hw, ew⟩ := word_ok ns hl (at_ + 3) (by omega) al (by omega) (by omega) (1 + r2) (by omega)
  have c1 : (1 : Int) + ((r2 : Nat) : Int) = ((1 + r2 : Nat) : Int) := by omega
  have cr : dAdd (.int 1) (.int (r2 : Nat)) = some (.int ((1 + r2 : Nat) : Int)) := by
    rw [← c1]
    rfl
  have d1 : dAdd (.int (at_ : Nat)) (.int 1) = some (.int ((at_ + 1 : Nat) : Int)) := rfl
  have d2 : dAdd (.int (at_ : Nat)) (.int 2) = some (.int ((at_ + 2 : Nat) : Int)) := rfl
  have d3 : dAdd (.int (at_ : Nat)) (.int 3) = some (.int ((at_ + 3 : Nat) : Int)) := rfl
  have q : (tst (op2 dEq (calF m__law_drawn (argC (vr 0) (argC (vr 1) (argC (cst (.int 3)) argN)))) (cst (.int 0)))) (pkv [.sh (.frl (ns.map .int)), .sh (.int (at_ : Nat)), .sh (.str al)]) = .ok (decide (r0 = 0)) := by
    refine tB (e2 ((eK (eC rfl (eC rfl (eC rfl rfl)))).trans er0) (e := .int 0) rfl ?_)
    rw [eqq (by show 0 ≤ 60; decide) (by show 0 ≤ 60; decide), eqd_int]
    have z : decide (((r0 : Nat) : Int) = 0) = decide (r0 = 0) := decide_eq_decide.mpr ⟨fun h => by omega, fun h => by omega⟩
    rw [z]
  by_cases z : r0 = 0
  · rw [decide_eq_true z] at q
    refine ⟨.rem r1, hr1, dm rfl (congrArg outR (sq_rt ((if_yes q).trans (re_rt (eTu (eC rfl (eC ((eK (eC rfl (eC (e2 rfl rfl d1) (eC rfl rfl)))).trans er1) rfl)) (Nat.le_of_ble_eq_true rfl))))))⟩
  · rw [decide_eq_false z] at q
    have D2 : calF m__law_drawn (argC (vr 0) (argC (op2 dAdd (vr 1) (cst (.int 2))) (argC (cst (.int 8)) argN))) (pkv [.sh (.frl (ns.map .int)), .sh (.int (at_ : Nat)), .sh (.str al)]) = m_drawn [.frl (ns.map .int), .int ((at_ + 2 : Nat) : Int), .int ((8 : Nat) : Int)] := eK (eC rfl (eC (e2 rfl rfl d2) (eC rfl rfl)))
    have E1 : (op2 dAdd (cst (.int 1)) (calF m__law_drawn (argC (vr 0) (argC (op2 dAdd (vr 1) (cst (.int 2))) (argC (cst (.int 8)) argN))))) (pkv [.sh (.frl (ns.map .int)), .sh (.int (at_ : Nat)), .sh (.str al)]) = .ok (.int ((1 + r2 : Nat) : Int)) := e2 (d := .int 1) (e := .int (r2 : Nat)) rfl (D2.trans er2) cr
    have E2 : (calF m__law_word (argC (vr 0) (argC (op2 dAdd (vr 1) (cst (.int 3))) (argC (vr 2) (argC (op2 dAdd (cst (.int 1)) (calF m__law_drawn (argC (vr 0) (argC (op2 dAdd (vr 1) (cst (.int 2))) (argC (cst (.int 8)) argN))))) argN))))) (pkv [.sh (.frl (ns.map .int)), .sh (.int (at_ : Nat)), .sh (.str al)]) = .ok (.str w) := (eK (eC rfl (eC (e2 rfl rfl d3) (eC rfl (eC E1 rfl))))).trans ew
    have E3 : (tupF (argC (cst (.str [97, 100, 100])) (argC (calF m__law_word (argC (vr 0) (argC (op2 dAdd (vr 1) (cst (.int 3))) (argC (vr 2) (argC (op2 dAdd (cst (.int 1)) (calF m__law_drawn (argC (vr 0) (argC (op2 dAdd (vr 1) (cst (.int 2))) (argC (cst (.int 8)) argN))))) argN))))) argN))) (pkv [.sh (.frl (ns.map .int)), .sh (.int (at_ : Nat)), .sh (.str al)]) = .ok (.tup [.str [97, 100, 100], .str w]) := eTu (eC rfl (eC E2 rfl)) (Nat.le_of_ble_eq_true rfl)
    have okw : Deed.ok al (.add w) := ⟨⟨by rw [hw.1]; omega, by rw [hw.1]; omega⟩, hw.2⟩
    exact ⟨.add w, okw, dm rfl ((congrArg outR ((sq_nx (if_nx q)).trans (re_rt E3))).trans rfl)⟩
end Pu.Sv

namespace Pu.Sv
open PySem PySem.Spec PyProof.Rows L2 Evl
def Go {α : Type} (m : EM α) (ρ : SEnv) (T : Tb) (P : α → Tb → Prop) : Prop := ∀ Z : Res α → Tb → Prop, (∀ v T', P v T' → Z (.ok v) T') → m ρ T Z
section
variable {α β : Type} {ρ ρ' : SEnv} {T : Tb} {m : EM α} {P P' : α → Tb → Prop} {Q : β → Tb → Prop} {Z : Out → Tb → Prop} {n A B : PT2} {i j x : Nat} {S : Sh} {f : F} {a : Fs} {ds : List D} {d v : D} {mm : M2} {nm : Str} {R : Tb → Prop} {e1 e2 : EM D} {u w : EM Bool} {l : EM (List D)}
theorem Go.mono (h : Go m ρ T P) (k : ∀ v T', P v T' → P' v T') : Go m ρ T P' := fun Z z => h Z fun v T' p => z v T' (k v T' p)
theorem t_if {P : Bool → Tb → Prop} (h : Go u ρ T P) (k : ∀ b T', P b T' → sq2 (if b = true then A else B) n ρ T' Z) : sq2 (ifS2 u A B) n ρ T Z := by
  unfold sq2 ifS2 em2
  exact h _ fun v T' p => k v T' p
/-- a test that must fail -/
theorem t_no {P : Tb → Prop} (h : Go u ρ T fun b T' => b = false ∧ P T') (k : ∀ T', P T' → n ρ T' Z) : sq2 (ifS2 u A (upS nxS)) n ρ T Z :=
  t_if h fun b T' ⟨e, p⟩ => by
    subst e
    exact k T' p
end
end Pu.Sv

namespace Pu.Sv
open PySem PySem.Spec PyProof.Rows L2 Evl
def tx (ks : KT) : List (List Nat) := ks.map (·.2)
section
variable {al : List Nat} {L m N : Nat} {T : Tb} {x y : Nat} {s : Sx} {S : Sh} {ks ks' : KT} {ε : Pu.Env} {i : Nat} {a b : D}
theorem ne_same {d : D} (h : dep d ≤ 60) : dNe d d = some (.bl false) := (neq h h).trans (by rw [eqd_refl]; rfl)
theorem eq_same {d : D} (h : dep d ≤ 60) : dEq d d = some (.bl true) := (eqq h h).trans (by rw [eqd_refl])
theorem Hs.see (h : Hs al L m N T x s) : ∃ S : Sh, Is T x S ∧ (S.al = .str al ∧ S.sz = .int (L : Nat) ∧ S.sl = .int (m : Nat)) ∧ StOk al L m N S.he s.he := by
  obtain ⟨S, I, e, h1, _⟩ := h
  exact ⟨S, I, e, h1⟩
end
end Pu.Sv

namespace Pu
open PySem PySem.Spec PyProof.Rows L2 Evl
section
variable {K : PySem.W.Frag} {xa : Xa} {B0 H0 B H B' H' : Hp} {σ : L2.St} {ρ : SEnv} {a : Addr} {o : HO}
end
structure NF (H0 B H : Hp) (σ : L2.St) (n : Nat) (a b : Addr) (va vb : List (Key × V)) : Prop where
  sa : σ[n]? = some (some (.ref a))
  fa : H a = some (.dK va)
  fb : H b = some (.dK vb)
  ba : B a = none
  bb : B b = none
  ha : H0 a = none
  hb : H0 b = none
  ne : a ≠ b
section
variable {H0 B H B' H' : Hp} {σ : L2.St} {n : Nat} {a b : Addr} {va vb w : List (Key × V)}
theorem NF.grow (f : NF H0 B H σ n a b va vb) (g : Gw B H B' H') : NF H0 B' H' σ n a b va vb :=
  ⟨f.sa, g.up _ _ f.fa, g.up _ _ f.fb, (g.old _ _ f.fa).trans f.ba, (g.old _ _ f.fb).trans f.bb, f.ha, f.hb, f.ne⟩
theorem NF.new {t : Addr} {o : HO} (f : NF H0 B H σ n a b va vb) (ht : H t = none) : NF H0 B (upd H t o) σ n a b va vb :=
  ⟨f.sa, by rw [upd_ne (ne_of_none f.fa ht)]; exact f.fa, by rw [upd_ne (ne_of_none f.fb ht)]; exact f.fb, f.ba, f.bb, f.ha, f.hb, f.ne⟩
end
section
variable {X : Cx} {W : WX} {x : Str} {o e1 eh c vvE kkE uE rE1 c2 r0E pkE rE2 dE k1E k2E k1F k3F k1G : Expr} {g0 g1 h vv kk u r1 r0 pk r2 : F} {q q2 : T} {n : Nat} {k1 k2 k3 : List Nat}
variable {p1 p2 p3 p4 p5 p6 p7 p8 p9 p10 p11 p12 p13 p14 p15 p16 p17 p18 p19 p20 : Pos} {t1 t2 t3 t4 : Nat} {pos0 pos1 pos2 pos3 pos4 pos5 pos6 pos7 pos8 pos9 : Pos}
end
end Pu

namespace Pu
open PySem PySem.Spec PyProof.Rows L2 Evl
inductive DPs (X : Cx) (xa : Xa) (W : WX) : List (Option Expr) → List Expr → List (TE × TE) → List DK → Fs → Prop
  | nil : DPs X xa W [] [] [] [] argN
  | cons {k v : Expr} {ks : List (Option Expr)} {vs : List Expr} {ts : List (TE × TE)} {q : DK} {qs : List DK} {f : F} {fs : Fs} : PE X k (tC (kV (kD q))) → okK q → Pe X xa W v f → DPs X xa W ks vs ts qs fs → DPs X xa W (some k :: ks) (v :: vs) ((tC (kV (kD q)), tP X.K xa W f) :: ts) (q :: qs) (argC f fs)
def prV : List DK → List V → List (Key × V)
  | q :: qs, v :: vs => (kD q, v) :: prV qs vs
  | _, _ => []
section
variable {X : Cx} {xa : Xa} {W : WX} {e : Expr} {td : TE} {pos p1 apos cpos : Pos} {f : F} {ks : List (Option Expr)} {vs : List Expr} {ts : List (TE × TE)} {qs : List DK} {fs : Fs}
theorem DPs.ok (h : DPs X xa W ks vs ts qs fs) : ∀ q ∈ qs, okK q := by
  induction h with
  | nil => exact fun _ z => nomatch z
  | cons _ o _ _ ih => exact fun q hq => (List.mem_cons.mp hq).elim (fun z => z ▸ o) (ih q)
theorem DPs.run (h : DPs X xa W ks vs ts qs fs) : ∀ {σ : L2.St} {Hb H : Hp} {ρ : Env} {Q : List (V × V) → Hp → Prop}, Ex Hb H → RE X.K xa Hb σ ρ → post X.K (RL X.K xa) (WE W σ) Hb H (fun us H' => us.length = qs.length → Q ((prV qs us).map fun kv => (kV kv.1, kv.2)) H') (fs ρ) → tPairs ts σ H Q := by
  induction h with
  | nil =>
    intro σ Hb H ρ Q le re p
    exact p [] Hb H (Gw.refl le) .nil rfl
  | cons a o b h ih =>
    intro σ Hb H ρ Q le re p
    refine ⟨Hb, ρ, le, re, post_bind le p fun d v B1 H1 e1 g1 r1 p1 => ?_⟩
    refine ih g1.le (re.mono g1.bup) (post_bind g1.le p1 fun ds us B2 H2 e2 g2 r2 p2 => ?_)
    intro hl
    exact p2 _ B2 H2 (Gw.refl g2.le) (.cons (r1.mono g2.bup) r2) (by rw [List.length_cons, List.length_cons, hl])
end
end Pu

namespace Pu
open PySem L2
end Pu

namespace Pu.Sv
open PySem PySem.Spec PyProof.Rows L2 Evl
abbrev kA : List Nat := [97, 108, 112, 104, 97, 98, 101, 116]
abbrev kL : List Nat := [108, 101, 110, 103, 116, 104]
abbrev kM : List Nat := [109, 97, 110, 121]
abbrev kR : List Nat := [114, 111, 119, 115]
abbrev kG : List Nat := [108, 111, 103]
abbrev kN : List Nat := [110, 101, 120, 116]
abbrev ownK (al : List Nat) (L m : Nat) (s : Sd) : List (DK × D) := [(.inr kA, .str al), (.inr kL, .int (L : Nat)), (.inr kM, .int (m : Nat)), (.inr kR, .dct (encK s.ks)), (.inr kG, .lst s.dd), (.inr kN, .int (s.nx : Nat))]
abbrev ownD (al : List Nat) (L m : Nat) (s : Sd) : D := .dct (ownK al L m s)
section
variable {al : List Nat} {L m : Nat} {s : Sd} {ε : Pu.Env} {i : Nat}
end
/-- a stand behind a deed, and what is told, where it can be done -/
def Sd.put (s : Sd) : Deed → Option (Sd × D)
  | .add t => if s.ks.length = 12 then none else some (s.add t, .int (s.nx : Nat))
  | .rem n => match s.ks.find? fun p => decide (p.1 = ((n : Nat) : Int)) with
    | some p => some (s.rem (n : Nat), .str p.2)
    | none => none
def putD (al : List Nat) (L m : Nat) (s : Sd) (d : Deed) : D := match s.put d with
  | some (s', v) => .tup [ownD al L m s', v]
  | none => .non
section
variable {n : Nat} {k1 k2 k3 : List Nat} {g0 g1 h vv kk u r1 r0 pk r2 : F} {q q2 : Pu.T} {ρ : SEnv} {kvs R : List (DK × D)} {d0 d1 l v ke w r : D} {key : DK}
end
end Pu.Sv

namespace Pu.Sv
open PySem PySem.Spec PyProof.Rows L2 Evl
section
variable {al : List Nat} {L m : Nat} {ks : KT}
end
section
variable {al : List Nat} {L m : Nat} {s : Sd}
end
end Pu.Sv

namespace Pu
open PySem PySem.Spec PyProof.Rows L2 Evl
end Pu
namespace PySem.SeqAt
open AutoSeq1 (wpAny_loadPart')
open MeetsSeq MeetsSeq2 MeetsSeq3 SeqRoads2
section
variable {prog : Program} {w : World}
end
end PySem.SeqAt
namespace Pu
open PySem PySem.Spec PyProof.Rows L2 Evl
section
variable {X : Cx} {xa : Xa}
end
end Pu

namespace Pu.Sv
open PySem PySem.Spec PyProof.Rows L2 Evl
section
variable {al : List Nat} {L m N : Nat} {T : Tb} {x : Nat} {s : Sx} {Z : Res D → Tb → Prop}
end
end Pu.Sv

namespace Pu
open PySem PySem.Spec PyProof.Rows L2 Evl
structure ShC (K : PySem.W.Frag) (C : Addr) : Prop where
  ic : C8.InsC K C
  ne : PySem.W.findIn K (.ref C) "__ne__" = some (some (.builtin "object.__ne__"))
  kn : PySem.W.kitOne K (.type "NoneType") (.ref C) = some false
  ki : PySem.W.kitOne K (.type "int") (.ref C) = some false
  ks : PySem.W.kitOne K (.type "str") (.ref C) = some false
/-- what may stand beside -/
inductive Bsd (K : PySem.W.Frag) (H : Hp) (c : Str) : V → Prop
  | obj {a : Addr} {dx : Addr} {fs : List (Str × V)} (h : H a = some (.ins (He.ga K c) dx fs)) : Bsd K H c (.ref a)
  | non : Bsd K H c .non
  | int (i : Int) : Bsd K H c (.int i)
  | str (s : Str) : Bsd K H c (.str s)
theorem sub_ty {K : PySem.W.Frag} {C : Addr} (T : String) (e : fastBuiltinMro T = some [.type T, .type "object"]) : PySem.W.subIn K (.type T) (.ref C) = some false := by
  show (fastBuiltinMro T).map (·.contains (.ref C)) = some false
  rw [e]
  first
    | rfl
    | simp
section
variable {X : Cx} {W : WX} {pos p p2 : Pos} {e : Expr} {f : F} {pins : List (Addr × Obj)} {s : Shared} {σ : L2.St} {H : Hp}
theorem Bsd.look {c : Str} {w : V} {u : Value} (b : Bsd X.K H c w) (I : Inv X pins σ H s) (r : RelV w u) : ∃ tb, PySem.W.Looks (model X.prog X.w) s.heap (typeOf u) tb ∧ PySem.W.notFirst X.K (He.ga X.K c) tb = true := by
  cases b with
  | obj h =>
    cases r
    obtain ⟨mA, J, _⟩ := ins_get I.hok h
    obtain ⟨od, J, _⟩ := J.look
    exact ⟨_, J.type, by simp [PySem.W.notFirst]⟩
  | non => cases (show u = Value.none from r); exact ⟨.type "NoneType", .now, by unfold PySem.W.notFirst; rw [sub_ty "NoneType" (by decide +kernel)]; simp⟩
  | int i => obtain ⟨t, q⟩ := (show ∃ t, u = Value.int i t from r); cases q; exact ⟨.type "int", .now, by unfold PySem.W.notFirst; rw [sub_ty "int" (by decide +kernel)]; simp⟩
  | str y => obtain ⟨t, q⟩ := (show ∃ t, u = Value.str y t from r); cases q; exact ⟨.type "str", .now, by unfold PySem.W.notFirst; rw [sub_ty "str" (by decide +kernel)]; simp⟩
end
end Pu

namespace Pu
open PySem PySem.Spec PyProof.Rows L2 Evl
section
variable {K : PySem.W.Frag} {xa : Xa} {B0 H0 B H : Hp} {σ : L2.St} {ρ : SEnv} {T : Tb}
end
section
variable {X : Cx} {W : WX} {pos pos' p1 p2 p3 p4 p5 p6 p7 p8 : Pos} {st : Stmt} {o e : Expr} {es : List Expr} {fs : Fs} {g : F} {f : Str} {ta : TE} {m : PT2}
end
end Pu

namespace Pu.Sv
open PySem PySem.Spec PyProof.Rows L2 Evl
section
variable {al al' : List Nat} {L L' m m' N N' : Nat} {T : Tb} {x y : Nat} {s s' : Sx} {S S' : Sh} {a b a' b' : D}
structure AllOk (all : List Sd) : Prop where
  dl : ∀ (i : Nat) (st : Sd), all[i]? = some st → st.dd.length = i
  dp : ∀ st : Sd, st ∈ all → ∀ d ∈ st.dd, dep d ≤ 1
  cd : ∀ st : Sd, st ∈ all → clnL st.dd = true
end
end Pu.Sv

namespace Pu
open PySem PySem.Spec PyProof.Rows L2 Evl
structure ShD (K : PySem.W.Frag) (C : Addr) : Prop where
  s : PySem.W.subIn K (.ref C) (.type "str") = some false
  i : PySem.W.subIn K (.ref C) (.type "int") = some false
  n : PySem.W.subIn K (.ref C) (.type "NoneType") = some false
section
variable {K : PySem.W.Frag} {xa : Xa} {B0 H0 B H : Hp} {σ : L2.St} {ρ : SEnv} {T : Tb}
end
end Pu
namespace GQ
open PySem PySem.SeqAt
open AutoSeq1 (wpAny_loadPart')
open MeetsSeq MeetsSeq2 MeetsSeq3 SeqRoads2
section
variable {prog : Program} {w : World} {A : Around} {R : Result → Shared → Prop}
end
end GQ
namespace Pu
open PySem PySem.Spec PyProof.Rows L2 Evl
section
variable {X : Cx} {W : WX} {pos p1 p2 : Pos} {a b : Expr} {m n : EM D} {q : T} {pins : List (Addr × Obj)} {s : Shared} {σ : L2.St} {H : Hp}
/-- an item beside an object -/
inductive ItV (K : PySem.W.Frag) (Hb H : Hp) (c : Str) (mm : List D → Res D) (x : Addr) (o : D) : V → Prop
  | obj {y dx : Addr} {fs : List (Str × V)} {p : D} (h : H y = some (.ins (He.ga K c) dx fs)) (n : y ≠ x) (r : R K none Hb (.ref y) p) (e : mm [p, o] = .ok (.bl false)) : ItV K Hb H c mm x o (.ref y)
  | non (e : mm [o, .non] = .ok (.bl false)) : ItV K Hb H c mm x o .non
  | int (i : Int) (e : mm [o, .int i] = .ok (.bl false)) : ItV K Hb H c mm x o (.int i)
  | str (z : Str) (l : List Nat) (r : R K none Hb (.str z) (.str l)) (e : mm [o, .str l] = .ok (.bl false)) : ItV K Hb H c mm x o (.str z)
theorem ItV.mono {K : PySem.W.Frag} {Hb H Hb' H' : Hp} {c : Str} {mm : List D → Res D} {x : Addr} {o : D} {v : V} (h : ItV K Hb H c mm x o v) (e1 : Ex Hb Hb') (e2 : Ex H H') : ItV K Hb' H' c mm x o v := by
  cases h with
  | obj h n r e => exact .obj (e2 _ _ h) n (r.mono e1) e
  | non e => exact .non e
  | int i e => exact .int i e
  | str z l r e => exact .str z l (r.mono e1) e
end
end Pu

namespace Pu
open PySem PySem.Spec PyProof.Rows L2 Evl
section
variable {X : Cx} {pins : List (Addr × Obj)} {τ : L2.St} {G : Hp} {s : Shared}
end
end Pu

namespace Pu
open PySem PySem.Spec PyProof.Rows L2 Evl
section
variable {X : Cx} {Wo : WX} {Dn : Ends} {pins : List (Addr × Obj)}
end

section
variable {X : Cx} {Wo : WX}
end
end Pu

namespace Pu
open PySem PySem.Spec PyProof.Rows L2 Evl
theorem RS2.lose {K : PySem.W.Frag} {xa : Xa} {B0 H0 B H : Hp} {σ : L2.St} {ρ : SEnv} {T : Tb} (r : RS2 K xa B0 H0 B H σ ρ T) (o : Option V) (i : Nat) : RS2 K xa B0 H0 B H (σ.set i o) (ρ.set i .no) T := by
  refine ⟨r.r.lose o i, r.t, r.n0, fun j ob b h k => ?_⟩
  rcases getset h with ⟨_, z, _⟩ | ⟨n, h⟩
  · cases z
  · rw [List.getElem?_set_ne n] at k
    exact r.ap j ob b h k
structure Fn2C (P : Program) (w : World) (K : PySem.W.Frag) (mg : Str → Option Value) (base : Heap) (k : Nat) (x : Str) (n : Nat) (m : M2) : Prop where
  ex : ∃ (f : Addr) (fd : FuncData) (ps : List Str), FnOk P w K mg base (L2.CX P w) k f fd ps (sp2 K n m) ∧ mg x = some (.ref f) ∧ PySem.W.keepIn K (.ref f) = true ∧ Binds K fd ps []
  st : ∀ ds T Z, ds.length ≠ n → m ds T Z → Z .st T
section
variable {X : Cx} {W : WX} {pos p : Pos} {e : Expr} {es : List Expr} {l : EM (List D)}
end
end Pu

namespace Pu
open PySem PySem.Spec PyProof.Rows L2 Evl
section
variable {X : Cx} {xa : Xa} {W : WX} {pos apos : Pos} {o e : Expr} {f g : F}
def digs : Nat → List Nat := fun n => (toString (n : Int) : Str).cps.toList
/-- str(x) of a text, of a number below 1000 -/
def cStr : List D → Option D
  | [.str l] => some (.str l)
  | [.int i] => if 0 ≤ i ∧ i < 1000 then some (.str (digs i.toNat)) else none
  | _ => none
theorem digs_ok : ∀ n, n < 1000 → okB (digs n) = true := by
  have : ((List.range 1000).all fun n => okB (digs n)) = true := by decide +kernel
  exact fun n h => List.all_eq_true.mp this n (List.mem_range.mpr h)
theorem log2_small {i : Int} (h0 : 0 ≤ i) (h : i < 1000) : i.natAbs.log2 < 1920 := by
  have h1 : i.natAbs < 1000 := by omega
  by_cases c : i.natAbs = 0
  · rw [c]; decide
  · exact Nat.lt_trans ((Nat.log2_lt c).mpr (Nat.lt_trans h1 (by decide : 1000 < 2 ^ 10))) (by decide)
theorem c_str : OpC X xa (.type "str") cStr := by
  intro pins s σ H vs us Q I r h
  obtain ⟨Hb, ds, z, le, rl, hz, q⟩ := h
  match ds, rl, hz with
  | [], _, hz => cases hz
  | a0 :: b0 :: r0, _, hz => cases a0 <;> cases hz
  | [d], rl, hz =>
    obtain ⟨v, rfl, r1⟩ := rl.one
    cases r1 with
    | @str l hl =>
      cases hz
      exact SkE.call_str_str pins s σ H _ us Q I r ⟨_, rfl, q _ Hb H (Gw.refl le) (.str hl)⟩
    | int i =>
      have hz : (if 0 ≤ i ∧ i < 1000 then some (D.str (digs i.toNat)) else none) = some z := hz
      by_cases c : 0 ≤ i ∧ i < 1000
      · rw [if_pos c] at hz
        cases hz
        have e : (toString i : Str) = sOf (digs i.toNat) := by
          unfold digs
          rw [sOf_toList, Int.toNat_of_nonneg c.1]
        refine call_str_int pins s σ H _ us Q I r ⟨i, rfl, log2_small c.1 c.2, q _ Hb H (Gw.refl le) ?_⟩
        rw [e]
        exact .str (okB_ok (digs_ok _ (by omega)))
      · rw [if_neg c] at hz
        cases hz
    | _ => cases hz
def digB (l : List Nat) : Bool := l.all fun c => decide (48 ≤ c) && decide (c ≤ 57)
def valN (l : List Nat) : Nat := l.foldl (fun a c => 10 * a + (c - 48)) 0
/-- int(x) of a number, of one to three figures -/
def cIntS : List D → Option D
  | [.int i] => some (.int i)
  | [.str l] => if 1 ≤ l.length ∧ l.length ≤ 3 ∧ digB l = true then some (.int (valN l : Nat)) else none
  | _ => none
theorem val_ok : ∀ l : List Nat, 1 ≤ l.length → l.length ≤ 3 → digB l = true → PySem.intText? (sOf l) = some (valN l : Nat) := by
  have fig : ∀ c, (decide (48 ≤ c) && decide (c ≤ 57)) = true → c - 48 < 10 ∧ c = 48 + (c - 48) := fun c h => by
    simp only [Bool.and_eq_true, decide_eq_true_eq] at h
    omega
  have h1 : ((List.range 10).all fun a => decide (PySem.intText? (sOf [48 + a]) = some ((valN [48 + a] : Nat) : Int))) = true := by decide +kernel
  have h2 : ((List.range 10).all fun a => (List.range 10).all fun b => decide (PySem.intText? (sOf [48 + a, 48 + b]) = some ((valN [48 + a, 48 + b] : Nat) : Int))) = true := by decide +kernel
  have h3 : ((List.range 10).all fun a => (List.range 10).all fun b => (List.range 10).all fun c => decide (PySem.intText? (sOf [48 + a, 48 + b, 48 + c]) = some ((valN [48 + a, 48 + b, 48 + c] : Nat) : Int))) = true := by decide +kernel
  intro l a b d
  match l, a, b, d with
  | [], a, _, _ => cases a
  | [x], _, _, d =>
    obtain ⟨l1, e1⟩ := fig x (List.all_eq_true.mp d x (by simp))
    have := of_decide_eq_true (List.all_eq_true.mp h1 _ (List.mem_range.mpr l1))
    rwa [← e1] at this
  | [x, y], _, _, d =>
    obtain ⟨l1, e1⟩ := fig x (List.all_eq_true.mp d x (by simp))
    obtain ⟨l2, e2⟩ := fig y (List.all_eq_true.mp d y (by simp))
    have := of_decide_eq_true (List.all_eq_true.mp (List.all_eq_true.mp h2 _ (List.mem_range.mpr l1)) _ (List.mem_range.mpr l2))
    rwa [← e1, ← e2] at this
  | [x, y, z], _, _, d =>
    obtain ⟨l1, e1⟩ := fig x (List.all_eq_true.mp d x (by simp))
    obtain ⟨l2, e2⟩ := fig y (List.all_eq_true.mp d y (by simp))
    obtain ⟨l3, e3⟩ := fig z (List.all_eq_true.mp d z (by simp))
    have := of_decide_eq_true (List.all_eq_true.mp (List.all_eq_true.mp (List.all_eq_true.mp h3 _ (List.mem_range.mpr l1)) _ (List.mem_range.mpr l2)) _ (List.mem_range.mpr l3))
    rwa [← e1, ← e2, ← e3] at this
  | _ :: _ :: _ :: _ :: _, _, b, _ => exact absurd b (by simp)
theorem c_intS : OpC X xa (.type "int") cIntS := by
  intro pins s σ H vs us Q I r h
  obtain ⟨Hb, ds, z, le, rl, hz, q⟩ := h
  match ds, rl, hz with
  | [], _, hz => cases hz
  | a0 :: b0 :: r0, _, hz => cases a0 <;> cases hz
  | [d], rl, hz =>
    obtain ⟨v, rfl, r1⟩ := rl.one
    cases r1 with
    | int i =>
      cases hz
      exact call_int1 pins s σ H _ us Q I r (.inl ⟨i, rfl, q _ Hb H (Gw.refl le) (.int _)⟩)
    | @str l hl =>
      have hz : (if 1 ≤ l.length ∧ l.length ≤ 3 ∧ digB l = true then some (D.int (valN l : Nat)) else none) = some z := hz
      by_cases c : 1 ≤ l.length ∧ l.length ≤ 3 ∧ digB l = true
      · rw [if_pos c] at hz
        cases hz
        exact call_int_str pins s σ H _ us Q I r ⟨_, _, rfl, val_ok l c.1 c.2.1 c.2.2, by rw [sOf_len]; omega, q _ Hb H (Gw.refl le) (.int _)⟩
      · rw [if_neg c] at hz
        cases hz
    | _ => cases hz
/-- cut at a sign -/
def spc (c : Nat) : List Nat → List (List Nat)
  | [] => [[]]
  | x :: r => if x = c then [] :: spc c r else match spc c r with
    | h :: t => (x :: h) :: t
    | [] => []
theorem spc_nil (c : Nat) : spc c [] = [[]] := rfl
theorem spc_cons (c x : Nat) (r : List Nat) : spc c (x :: r) = if x = c then [] :: spc c r else match spc c r with
    | h :: t => (x :: h) :: t
    | [] => [] := rfl
theorem spc_ne (c : Nat) : ∀ l, spc c l ≠ []
  | [] => List.cons_ne_nil _ _
  | x :: r => by
    rw [spc_cons]
    by_cases h : x = c
    · rw [if_pos h]; exact List.cons_ne_nil _ _
    · rw [if_neg h]
      cases e : spc c r with
      | nil => exact absurd e (spc_ne c r)
      | cons h t => exact List.cons_ne_nil _ _
theorem pre_one {c x : Nat} {r : List Nat} : TL.pre [c] (x :: r) = decide (x = c) := by
  unfold TL.pre
  show ([x] == [c]) = _
  by_cases h : x = c
  · subst h
    simp
  · simp [h]
theorem spl_spc (c : Nat) : ∀ (l acc : List Nat), ∃ h t, spc c l = h :: t ∧ TL.spl [c] 0 acc l = (acc ++ h) :: t
  | [], acc => ⟨[], [], rfl, by rw [TL.spl_nil, List.append_nil]⟩
  | x :: r, acc => by
    by_cases h : x = c
    · obtain ⟨a, b, e1, e2⟩ := spl_spc c r []
      refine ⟨[], a :: b, by rw [spc_cons, if_pos h, e1], ?_⟩
      rw [TL.spl_hit (by rw [pre_one]; exact decide_eq_true h), List.append_nil]
      show acc :: TL.spl [c] 0 [] r = _
      rw [e2]
      rfl
    · obtain ⟨a, b, e1, e2⟩ := spl_spc c r (acc ++ [x])
      refine ⟨x :: a, b, by rw [spc_cons, if_neg h, e1], ?_⟩
      rw [TL.spl_miss (by rw [pre_one]; exact decide_eq_false h), e2, List.append_assoc]
      rfl
theorem spl_is (c : Nat) (l : List Nat) : TL.spl [c] 0 [] l = spc c l := by
  obtain ⟨a, b, e1, e2⟩ := spl_spc c l []
  rw [e1, e2]
  rfl
theorem spc_mem (c : Nat) : ∀ (l : List Nat), ∀ p ∈ spc c l, ∀ y ∈ p, y ∈ l
  | [], p, hp, y, hy => by
    rw [spc_nil] at hp
    rw [List.mem_singleton.mp hp] at hy
    cases hy
  | x :: r, p, hp, y, hy => by
    rw [spc_cons] at hp
    by_cases h : x = c
    · rw [if_pos h] at hp
      rcases List.mem_cons.mp hp with z | z
      · rw [z] at hy; cases hy
      · exact List.mem_cons_of_mem _ (spc_mem c r p z y hy)
    · rw [if_neg h] at hp
      cases e : spc c r with
      | nil => exact absurd e (spc_ne c r)
      | cons a b =>
        rw [e] at hp
        rcases List.mem_cons.mp hp with z | z
        · rw [z] at hy
          rcases List.mem_cons.mp hy with z2 | z2
          · exact z2 ▸ List.mem_cons_self
          · exact List.mem_cons_of_mem _ (spc_mem c r a (by rw [e]; exact List.mem_cons_self) y z2)
        · exact List.mem_cons_of_mem _ (spc_mem c r p (by rw [e]; exact List.mem_cons_of_mem _ z) y hy)
def dSplit : D → D → Option D
  | .str a, .str [c] => if c < 256 ∧ a.length ≤ 100000 then some (.lst ((spc c a).map D.str)) else none
  | _, _ => none
theorem p_split (ho : Pe X xa W o f) (he : Pe X xa W e g) (hs : starEach [e] X.env = [(false, eval e X.env)] := by rfl) (hbase : attributeBase o "split" X.env (eval o X.env) = eval o X.env := by rfl) (hline : (apos.endLine == pos.line) = true := by rfl) :
    Pe X xa W (.Call (.Attribute o "split" apos) [e] [] pos) (mt1 tyStr dSplit f g) := by
  refine PE.imp (pe_split ho he hs hbase hline) fun σ H Q hq => ?_
  obtain ⟨Hb, ρ, le, re, p⟩ := hq
  refine ⟨Hb, ρ, le, re, post_bind le p fun d v B1 H1 e1 g1 r1 p1 => ?_⟩
  cases r1 with
  | @str a ha =>
    refine ⟨⟨_, rfl⟩, B1, ρ, g1.le, re.mono g1.bup, post_bind g1.le p1 fun d2 v2 B2 H2 e2 g2 r2 p2 => ?_⟩
    cases r2 with
    | @str b hb =>
      match b, p2 with
      | [], p2 => exact p2.elim
      | _ :: _ :: _, p2 => exact p2.elim
      | [c], p2 =>
        have p2 : post X.K (R X.K xa) (WE W σ) B2 H2 Q (ofO (if c < 256 ∧ a.length ≤ 100000 then some (.lst ((spc c a).map D.str)) else none)) := p2
        by_cases cc : c < 256 ∧ a.length ≤ 100000
        · rw [if_pos cc] at p2
          refine ⟨sOf a, sOf [c], rfl, rfl, rfl, by rw [sOf_len, szl]; omega, fun q hn => ?_⟩
          have e3 : Txt.split (sOf a) (sOf [c]) = (spc c a).map sOf := by
            rw [← spl_is]
            exact SX.split_S (List.cons_ne_nil _ _) (by show (decide (c < 256) && true) = true; rw [decide_eq_true cc.1]; rfl)
          rw [e3, List.map_map]
          have gw : Gw B2 H2 (upd B2 q (.lst ((spc c a).map (V.str ∘ sOf)))) (upd H2 q (.lst ((spc c a).map (V.str ∘ sOf)))) := Gw.new g2.le hn
          exact p2 _ _ _ gw (.lst upd_same (RL_strs fun l hl => (ha.sub (spc_mem c a l hl))))
        · rw [if_neg cc] at p2
          exact p2.elim
    | _ => exact p2.elim
  | _ => exact p1.elim
end
def gStar (K : PySem.W.Frag) (i j : Nat) : TG := fun v σ H Q => ∃ a x xs, v = .ref a ∧ SqL K H a (x :: xs) ∧ xs.length ≤ 16000 ∧ ∀ q, H q = none → Q ((σ.set i (some x)).set j (some (.ref q))) (upd H q (.lst xs))
section
variable {X : Cx} {W : WX}
theorem pg_star {e0 e1 : Expr} {i j k : Nat} {p pos : Pos} (hc : X.calm = true) (t0 : Pg X e0 (.nm i)) (t1 : Pg X e1 (.nm j)) (hlen : (assignEach [e0, .Starred e1 p] X.env).length = 2 := by rfl) (hst : (assignEach [e0, .Starred e1 p] X.env).findIdx? (·.1) = some 1 := by rfl)
    (hm : (assignEach [e0, .Starred e1 p] X.env).map (·.2) = (assignEach [e0, e1] X.env).map (·.2) := by rfl) (hs0 : (assignEach [e0, e1] X.env).map (·.2) = assign e0 X.env :: (assignEach [e1] X.env).map (·.2) := by rfl) (hs1 : (assignEach [e1] X.env).map (·.2) = assign e1 X.env :: (assignEach [] X.env).map (·.2) := by rfl) : PG X (.Tuple [e0, .Starred e1 p] k pos) (gStar X.K i j) := by
  refine ⟨fun pins s σ H v u Q I r hw => ?_⟩
  obtain ⟨a, x, xs, e2, hq, hl, hw⟩ := hw
  subst e2
  cases r
  obtain ⟨its, rv, pl, hz⟩ := I.list hq
  cases rv with
  | cons r0 rs =>
    rename_i y ys
    have lz : ys.length ≤ 16000 := by rw [← rs.length]; exact hl
    have isl := pl.isList
    have hlt : a ≠ s.heap.objs.size := by
      obtain ⟨o, ho, _⟩ := isl
      exact Nat.ne_of_lt (Heap.lt_size ho)
    rw [PyProof.Rows.assign_Tuple]
    refine wpAny_bind (wpAny_standAt ?_)
    unfold unpack
    rw [hlen, hst, hm]
    refine wpAny_bind (wpAny_holding ?_)
    unfold unpackItems
    refine wpAny_bind ?_
    unfold notIterableAtAll
    refine wpAny_bind (wpAny_specialOf isl.typeIs slot_list_iter.lookup (wpAny_pure ?_))
    simp only [Bool.false_eq_true, if_false]
    refine wpAny_bind (wpAny_holding (wpAny_pyIter_list isl ?_))
    refine wpAny_bind (wpAny_holding (PySem.W.kun_draw hlt 1 0 _ _ ⟨_, Heap.get?_push_size _ rfl, rfl, rfl⟩ (isl.push _) (by rw [List.size_toArray, List.length_cons]; omega) fun h1 it1 sb1 => ?_))
    have isl1 : h1.IsList a (y :: ys).toArray := (isl.push _).extBut sb1.extBut hlt
    rw [Nat.zero_add] at it1
    obtain ⟨oi, goi, _⟩ := id it1
    obtain ⟨ol, gol, _⟩ := id isl1
    rw [List.drop_zero]
    show wpAny _ _ (if [y].length < 1 then _ else _) _ _ _
    rw [if_neg (fun z : [y].length < 1 => absurd z (Nat.lt_irrefl 1))]
    refine wpAny_bind (wpAny_holding (PySem.W.kun_collect (s := { s with heap := h1 }) (T := "list_iterator") (.inr (.inr (.inl rfl))) (Walks.list (A := X.A.in1) (I.ok.hd hc) s.heap.objs.size a hlt (y :: ys).toArray) (fun j u st => st.1.typeIs) (k := 1) (by rw [List.size_toArray, List.length_cons]; omega) ⟨it1, isl1⟩ (Heap.lt_size goi) (Heap.lt_size gol) (fun h2 tk hk => ?_)
      (by rw [List.size_toArray, List.length_cons, szl]; omega)))
    show wpAny _ _ (if ys.length < 0 then _ else _) _ _ _
    rw [if_neg (Nat.not_lt_zero _)]
    show wpAny _ _ (newList (ys.take (ys.length - 0)) >>= fun d => pure ([y] ++ [d] ++ ys.drop (ys.length - 0))) _ _ _
    rw [Nat.sub_zero, List.take_length, List.drop_length]
    have keep : ∀ b o, s.heap.get? b = some o → h2.get? b = some o := fun b o q => hk b o (Nat.ne_of_lt (Heap.lt_size q)) (sb1.extBut b o (Nat.ne_of_lt (Heap.lt_size q)) (Heap.get?_push_of_some _ q))
    have I2 : Inv X pins σ H { s with heap := h2, toks := tk } := I.kept keep
    refine wpAny_bind (wpAny_newList (wpAny_pure ?_))
    have fr : H h2.objs.size = none := I2.hok.fresh (Nat.le_refl _)
    have I3 : Inv X pins σ (upd H h2.objs.size (.lst xs)) { s with heap := h2.push { cls := .type "list", data := .seq ys.toArray }, toks := tk } :=
      I2.laid (t' := tk) (fun b o q => Heap.get?_push_of_some _ q) (Nat.le_refl _) ⟨by rw [rs.length, szl]; omega, ys, _, rs, Heap.get?_push_size _ rfl⟩
    show wpAny _ _ (assignInOrder ((assignEach [e0, e1] X.env).map (·.2)) [y, .ref h2.objs.size]) _ _ _
    exact (gn_cons t0 (gn_cons t1 gn_nil hs1) hs0).run pins _ σ _ [x, .ref h2.objs.size] _ Q I3 (.cons r0 (.cons rfl .nil)) ⟨rfl, hw _ fr⟩
def asR (i j : Nat) (h : F) : SF := fun ρ => shB (h (shv ρ)) ρ fun d => match d with
  | .lst (x :: xs) => if xs.length ≤ 16000 then .nx ((ρ.set i (.sh x)).set j (.sh (.lst xs))) else .st
  | _ => .st
theorem s_star (i j : Nat) {xa : Xa} {e e0 e1 : Expr} {h : F} {k : Nat} {p pos pos' : Pos} (hc : X.calm = true) (he : Pe X xa W e h) (h0 : Pg X e0 (.nm i)) (h1 : Pg X e1 (.nm j)) (hs : swapsWithSole [.Tuple [e0, .Starred e1 p] k pos] e pos'.line X.env = pure false := by rfl) (hw : swappedStores [.Tuple [e0, .Starred e1 p] k pos] e X.env = pure none := by rfl)
    (h2 : (assignEach [.Tuple [e0, .Starred e1 p] k pos] X.env).map (·.2) = [assign (.Tuple [e0, .Starred e1 p] k pos) X.env] := by rfl) (hlen : (assignEach [e0, .Starred e1 p] X.env).length = 2 := by rfl) (hst : (assignEach [e0, .Starred e1 p] X.env).findIdx? (·.1) = some 1 := by rfl)
    (hm : (assignEach [e0, .Starred e1 p] X.env).map (·.2) = (assignEach [e0, e1] X.env).map (·.2) := by rfl) (hs0 : (assignEach [e0, e1] X.env).map (·.2) = assign e0 X.env :: (assignEach [e1] X.env).map (·.2) := by rfl) (hs1 : (assignEach [e1] X.env).map (·.2) = assign e1 X.env :: (assignEach [] X.env).map (·.2) := by rfl) :
    Ps X xa W (.Assign [.Tuple [e0, .Starred e1 p] k pos] e pos') (asR i j h) := by
  refine PS.imp (ps_asg he (pg_star hc h0 h1 hlen hst hm hs0 hs1) hs hw h2) fun Dn σ H ⟨B0, H0, B, ρ, r, pp⟩ => ?_
  refine meet r pp fun d v B1 H1 g rel r1 k1 => ?_
  cases rel with
  | @lst a xs ds q1 q2 =>
    cases q2 with
    | nil => exact k1.elim
    | @cons v0 vs d0 ds0 r0 rs =>
      have k1 : pS X.K xa W B0 H0 Dn (if ds0.length ≤ 16000 then .nx ((ρ.set i (.sh d0)).set j (.sh (.lst ds0))) else .st) := k1
      by_cases c : ds0.length ≤ 16000
      · rw [if_pos c] at k1
        refine ⟨a, v0, vs, rfl, SqL.of (g.le _ _ q1), by rw [rs.length]; exact c, fun q hn => ?_⟩
        have gw : Gw B1 H1 (upd B1 q (.lst vs)) (upd H1 q (.lst vs)) := Gw.new g.le hn
        exact k1 _ _ _ (((r1.grow gw).set (r0.mono gw.bup) i).set (.lst upd_same (rs.mono gw.bup)) j)
      · rw [if_neg c] at k1
        exact k1.elim
  | _ => exact k1.elim
end
end Pu

namespace Pu.Sv
open PySem PySem.Spec PyProof.Rows L2 Evl
theorem bls_all {α : Type} (l : List α) : cAll [.lst (l.map fun _ => D.bl true)] = some (.bl true) := by
  show (blsOf _).map _ = _
  have : blsOf (l.map fun _ => D.bl true) = some (l.map fun _ => true) := by
    induction l with
    | nil => rfl
    | cons a l ih =>
      show (blsOf (l.map fun _ => D.bl true)).map _ = _
      rw [ih]
      rfl
  rw [this]
  show some (D.bl _) = _
  congr 2
  exact List.all_eq_true.mpr fun x hx => by
    obtain ⟨_, _, rfl⟩ := List.mem_map.mp hx
    rfl
theorem tx_plain {al t : List Nat} {n : Nat} (ha : al ∈ A4) (h : Tx al n t) (hn : n ≤ 40) : plainB (.str t) = true := by
  show (decide (1 ≤ t.length) && (decide (t.length ≤ 40) && (t.map fun c => decide (c ∈ LET)).all id)) = true
  rw [decide_eq_true h.1.1, decide_eq_true (Nat.le_trans h.1.2 hn)]
  refine List.all_eq_true.mpr fun b hb => ?_
  obtain ⟨c, hc, rfl⟩ := List.mem_map.mp hb
  exact decide_eq_true (a4_let al ha c (h.2 c hc))
/-- a deed that can not be done: its data, and what is raised -/
inductive Fails (al : List Nat) (s : Sd) : D → Xc → Prop
  | gone {j : Int} : hasN s.ks j = false → 0 ≤ j ∧ j ≤ 1000000 → Fails al s (.tup [.str [114, 101, 109, 111, 118, 101], .int j]) ⟨9, some (.int j)⟩
  | word {t : List Nat} : m_need_word [.str t, .str al] = .ex ⟨2, none⟩ → Fails al s (.tup [.str [97, 100, 100], .str t]) ⟨2, none⟩
  | full {t : List Nat} : m_need_word [.str t, .str al] = .ok .non → s.ks.length = 12 → Fails al s (.tup [.str [97, 100, 100], .str t]) ⟨4, some (.str [116, 101, 120, 116, 115])⟩
section
variable {al : List Nat} {L m N : Nat} {T : Tb} {x : Nat} {s : Sx} {dd : D} {s6 s7 : Sl}
end
section
variable {al : List Nat} {L m : Nat} {T : Tb} {cs : List Nat}
end
end Pu.Sv

namespace Pu.Sv
open PySem PySem.Spec PyProof.Rows L2 Evl
theorem dep_deed (d : Deed) : dep d.d ≤ 1 := by cases d <;> exact Nat.le_refl 1
theorem dep_deeds (ds : List Deed) : dep (.lst (ds.map Deed.d)) ≤ 2 := by
  have := depL_le (ds := ds.map Deed.d) fun d hd => by
    obtain ⟨e, _, rfl⟩ := List.mem_map.mp hd
    exact dep_deed e
  show depL (ds.map Deed.d) + 1 ≤ 2
  omega
end Pu.Sv

namespace Pu
open PySem PySem.Spec PyProof.Rows L2 Evl
def cpX (M : Model) (A : Around) (E : Value → Shared → Prop) (u : Value → Sem Unit) (Q : Value → Shared → Prop) (acc : Value) (C : Addr) (fr : Option Addr) (r : Result) (s' : Shared) : Prop :=
  match r with
  | .ok _ => wpAny M A (u acc) (fun _ s2 => ∃ m, s2.heap.Ns C m ∧ ∀ h', Heap.SameBut C s2.heap h' → Q .none { s2 with heap := h' }) E s'
  | .error x => ∃ m, s'.heap.Ns C m ∧ ∀ h', Heap.SameBut C s'.heap h' → ∀ ce : PySem.Env, ce.frame = fr → wpAny M A (PySem.passOn "comprehension.variables-let-go" x ce : Sem Value) (fun _ _ => False) E { s' with heap := h' }
theorem comp_X {M : Model} {A : Around} {E : Value → Shared → Prop} {s : Shared} {env : PySem.Env} {e : Expr} {scope : Scope} {pos : Pos} {newAcc first : Sem Value} {g : Comprehension} {gs : List Comprehension} {cl : List (Str × Addr)} {u : Value → Sem Unit} {Q : Value → Shared → Prop}
    (h1 : clausesOf e = g :: gs) (h2 : ∀ x, foldedSetIterable g.iter env x = pure x) (h3 : closureFor scope env = pure cl) (h4 : scope.kind = .function) (h5 : ∀ x ∈ scope.names, x.2 = .local → scope.names.lookup x.1 = some .local)
    (h : wpAny M A first (fun x s1 => wpAny M A (pyIter x) (fun it s2 => wpAny M A newAcc (fun acc s3 => wpAny M A (newFunctionEnv scope env.globals cl [] env.qual none .none (some env)) (fun ce s4 =>
        codeAny M A (.compStart e 0 it acc { ce with scope := relabel scope env }) (cpX M A E u Q acc ce.locals ce.frame) s4) E s3) E s2) E s1) E s) : wpAny M A (comprehension e scope env pos newAcc false first (some u)) Q E s := by
  unfold comprehension
  rw [h3, h1]
  refine wpAny_bind (wpAny_mono h (fun x s1 k1 => wpAny_bind (wpAny_standAt (wpAny_bind (wpAny_of_eq (h2 x) (wpAny_bind (wpAny_holding (wpAny_mono k1 (fun it s2 k2 => ?_) fun _ _ z => z))))))) fun _ _ z => z)
  refine wpAny_standIf (wpAny_bind (wpAny_mono k2 (fun acc s3 k3 => wpAny_bind (wpAny_pure (wpAny_bind (wpAny_mono k3 (fun ce s4 k4 => ?_) fun _ _ z => z)))) fun _ _ z => z))
  dsimp only
  have lv : ∀ x ∈ (scope.names.filter fun x => (x.2 == .local || x.2 == .cell) && x.1 != (".0" : Str)).reverse, x.2 = .local → PySem.Env.kindOf { ce with scope := relabel scope env } x.1 = some .local := fun x hx hl => lookup_relabel_local (h5 x (List.mem_filter.mp (List.mem_reverse.mp hx)).1 hl)
  have lw : ∀ x ∈ (scope.names.filter fun x => (x.2 == .local || x.2 == .cell) && x.1 != (".0" : Str)).reverse.drop 1 ++ (scope.names.filter fun x => (x.2 == .local || x.2 == .cell) && x.1 != (".0" : Str)).reverse.take 1, x.2 = .local → PySem.Env.kindOf { ce with scope := relabel scope env } x.1 = some .local := fun x hx hl => by
    rcases List.mem_append.mp hx with z | z
    · exact lv x (List.mem_of_mem_drop z) hl
    · exact lv x (List.mem_of_mem_take z) hl
  refine wpAny_holding (wpAny_bind (wpAny_attempt (wpAny_holding (wpAny_run (codeAny_mono k4 fun r s5 k5 => ?_)))))
  cases r with
  | ok f =>
    refine wpAny_bind (wpAny_rule (wpAny_bind (wpAny_holding (wpAny_mono k5 (fun _ s6 ⟨m, hn, k6⟩ => ?_) fun _ _ z => z))))
    exact wpAny_bind (wpAny_comp_letGo (cenv := { ce with scope := relabel scope env }) h4 _ s6 m lw hn fun h' m' _ sb => wpAny_pure (k6 h' sb))
  | error x =>
    obtain ⟨m, hn, k6⟩ := k5
    exact wpAny_bind (wpAny_holding (wpAny_comp_letGo (cenv := { ce with scope := relabel scope env }) h4 _ s5 m lv hn fun h' m' _ sb => wpAny_mono (k6 h' sb _ rfl) (fun _ _ z => z.elim) fun _ _ z => z))
/-- the context of a block whose exceptions go on -/
abbrev blkX (X : Cx) (s : Shared) (H : Hp) (scope : Scope) (ce : PySem.Env) (fp : List Addr) (xe : Value → Shared → Prop) : Cx := { X with s_0 := s, H_0 := H, env := ce, outer := X.stack, ex := fp, fn := fun x => scope.names.lookup x == some .cell, pn := [], xe := xe }
/-- as tLc, without tests -/
def tLcX (wi : TI) (g : TG) (te : TE) (vs : List Nat) : TE := fun σ H Q => wi σ H fun J H1 => ∀ Dl, H1 Dl = none → ∃ W : Nat → Nat → Hp → Prop, (∃ m, W 0 m (upd H1 Dl (.lst []))) ∧ ∀ i m H, W i m H →
  (J.stop i H ∧ Q (.ref Dl) H) ∨ (J.go i H ∧ ∃ Nx : Hp → Prop, (∀ H', Nx H' → ∃ m', m' < m ∧ W (i + 1) m' H') ∧ ∀ x H', J.yld i H x H' → g x (wipe σ vs) H' fun σ2 H2 => wipe σ2 vs = wipe σ vs ∧ te σ2 H2 fun y H4 => ∃ acc, H4 Dl = some (.lst acc) ∧ acc.length < sizeLine ∧ Nx (upd H4 Dl (.lst (acc ++ [y]))))
section
variable {X : Cx} {Wo : WX}
/-- an exception leaves the block -/
theorem blk_out {pins : List (Addr × Obj)} {σ σ8 : L2.St} {H3 H8 : Hp} {s3 s8 s' : Shared} {scope : Scope} {ce : PySem.Env} {fp : List Addr} {xe : Value → Shared → Prop} {pb : List (Addr × Obj)} {u : Value → Sem Unit} {Qf : Value → Shared → Prop} {acc e : Value} (hs : X.stack = X.env :: X.outer) (hf : X.env.frame = some X.env.locals) (tk : L2N.Takes X Wo) (I3 : Inv X pins σ H3 s3) (hfp : ∀ b ∈ fp, FpOk X pins H3 b)
    (hL : ce.locals = s3.heap.objs.size) (hF : ce.frame = X.env.frame) (I8 : Inv (blkX X s3 H3 scope ce fp xe) pb σ8 H8 s8) (c : L2N.CX X.prog X.w X.stack H8 s8 (fun c d H => Wo c d σ H) e s') :
    notedBy (model X.prog X.w) X.A ce (fun y s2 => cpX (model X.prog X.w) X.A X.xe u Qf acc s3.heap.objs.size X.env.frame (.error y) s2) e s' := by
  obtain ⟨a, B, H9, cls, d, rfl, fl, hok, ub, na, os, ag, w⟩ := c
  have fl0 := fl
  obtain ⟨_, fB, fF, _⟩ := fl0
  rw [hs] at fl
  have hfr : X.A.frames = some (X.env :: X.outer) := by rw [I3.ok.frames, hs]
  -- the state without the exception, in the block and then in the def
  obtain ⟨Gh, g1, g2⟩ := restrict s'.heap fun b => (B.get? b).isSome || decide (b ∈ frs X.stack)
  have st : B.StaysIn s'.heap := fl.1
  have gB : ∀ b o, B.get? b = some o → Gh.get? b = some o := fun b o y => by
    rw [g1 b (by simp [y])]
    exact st b o y
  have gF : ∀ b, b ∈ frs X.stack → Gh.get? b = s'.heap.get? b := fun b hb => g1 b (by simp [hb])
  have og : ∀ b o, Gh.get? b = some o → s'.heap.get? b = some o ∧ ((B.get? b).isSome = true ∨ b ∈ frs X.stack) := fun b o y => by
    cases q : ((B.get? b).isSome || decide (b ∈ frs X.stack)) with
    | false => rw [g2 b q] at y; cases y
    | true =>
      rw [g1 b q] at y
      exact ⟨y, by simpa [Bool.or_eq_true] using q⟩
  have I9 : Inv (blkX X s3 H3 scope ce fp xe) pb σ8 H9 { s8 with heap := Gh, gens := s'.gens, drawn := s'.drawn, toks := s'.toks } := by
    refine I8.call (ch := []) ⟨fun b o y n hb _ => gB b o (ub.keep b o y n hb), fun b o y n hb _ => ?_, fun b o y n _ => ub.free b o y n, fun b o y _ => ?_, ub.tups, ub.frzs, ub.tbls⟩ (hok.kept gB) ag fun _ z => nomatch z
    · obtain ⟨sl, q⟩ := ub.slot b o y hb
      exact ⟨sl, by rw [gF b hb]; exact q⟩
    · by_cases hb : b ∈ frs X.stack
      · obtain ⟨sl, q⟩ := ub.slot b o y hb
        exact ⟨_, by rw [gF b hb]; exact q⟩
      · obtain ⟨o', q⟩ := ub.there b o y hb
        exact ⟨o', gB b o' q⟩
  have J9 : Inv X pins σ H9 { s8 with heap := Gh, gens := s'.gens, drawn := s'.drawn, toks := s'.toks } := I3.call' (ch := fp) I9.os I9.base I9.hok I9.bare fun b hb => ⟨(hfp b hb).2.2.2.1, (hfp b hb).2.1, (hfp b hb).2.2.2.2.1, (hfp b hb).2.2.2.2.2⟩
  -- the block's own names
  have nC : H9 s3.heap.objs.size = none := by
    have z : H9 ce.locals = none := I9.free
    rw [hL] at z
    exact z
  obtain ⟨m, hn, _⟩ := id I9.loc
  have hn : Gh.Ns ce.locals m := hn
  rw [hL] at hn
  have CF : s3.heap.objs.size ∉ frs X.stack := fun z => by
    obtain ⟨_, o, y, _⟩ := I3.stack.mem z
    exact absurd (Heap.lt_size y) (Nat.lt_irrefl _)
  obtain ⟨oC, es, ep, gC, dC, rC⟩ := id hn
  have BC : B.get? s3.heap.objs.size = some oC := by
    rcases (og _ _ gC).2 with z | z
    · obtain ⟨o, y⟩ := Option.isSome_iff_exists.mp z
      have := gB _ _ y
      rw [gC] at this
      cases this
      exact y
    · exact absurd z CF
  have fpC := I3.fpOk (H' := H9) (Nat.le_refl _) nC
  obtain ⟨f0, f1, f2, f3, f4, f5⟩ := fpC
  show wpAny (model X.prog X.w) X.A (noteFrame (.ref a) ce) _ _ s'
  have en : noteFrame (.ref a) ce = noteFrame (.ref a) X.env := by
    unfold noteFrame PySem.frameOf
    rw [hF]
  rw [en]
  refine PXN.looks_onZ L2N.Zn.steady hfr hf fl fun h1 hh up1 => ?_
  refine ⟨m, ⟨oC, es, ep, hh.1 _ _ BC, dC, rC⟩, fun h2 sb ce2 ef => ?_⟩
  obtain ⟨k1, k2, k3, oe, vs, T, oT, ts, q1, z1, d1, e1, nT, neT, qT, dT, e3⟩ := id hh
  -- without the block's names
  obtain ⟨B2, b1, b2⟩ := restrict B fun b => decide (b ≠ s3.heap.objs.size)
  have B2o : ∀ b o, B2.get? b = some o → B.get? b = some o ∧ b ≠ s3.heap.objs.size := fun b o y => by
    by_cases z : b = s3.heap.objs.size
    · rw [b2 b (decide_eq_false fun q => q z)] at y; cases y
    · rw [b1 b (decide_eq_true z)] at y; exact ⟨y, z⟩
  obtain ⟨G2, c1, c2⟩ := restrict Gh fun b => decide (b ≠ s3.heap.objs.size)
  have G2o : ∀ b o, G2.get? b = some o → Gh.get? b = some o ∧ b ≠ s3.heap.objs.size := fun b o y => by
    by_cases z : b = s3.heap.objs.size
    · rw [c2 b (decide_eq_false fun q => q z)] at y; cases y
    · rw [c1 b (decide_eq_true z)] at y; exact ⟨y, z⟩
  have aC : a ≠ s3.heap.objs.size := fun z => by rw [z, BC] at k2; cases k2
  have TC : T ≠ s3.heap.objs.size := fun z => by rw [z, BC] at nT; cases nT
  have nB2 : ∀ b, B.get? b = none → B2.get? b = none := fun b y => by
    cases q : B2.get? b with
    | none => rfl
    | some o => rw [(B2o b o q).1] at y; cases y
  have FF : ∀ {l : List PySem.Env}, h1.FunFrames B l → h2.FunFrames B2 l := by
    intro l
    induction l with
    | nil => intro _; trivial
    | cons env rest ih =>
      rintro ⟨k, ⟨L, o, y1, y2, y3, y4⟩, r⟩
      have LC : L ≠ s3.heap.objs.size := fun z => by rw [z, BC] at y2; cases y2
      exact ⟨k, ⟨L, o, y1, nB2 L y2, (sb.2 L LC).trans y3, y4⟩, ih r⟩
  have hh2 : HandSPX.HeldZ B2 (X.env :: X.outer) a (L2N.Zn cls d) X.env.locals h2 :=
    ⟨fun b o y => (sb.2 b (B2o b o y).2).trans (k1 b o (B2o b o y).1), nB2 a k2, FF k3, oe, vs, T, oT, ts, (sb.2 a aC).trans q1, z1, d1, e1, nB2 T nT, neT, (sb.2 T TC).trans qT, dT, e3⟩
  have J2 : Inv X pins σ H9 { s8 with heap := G2, gens := s'.gens, drawn := s'.drawn, toks := s'.toks } := J9.turned (t' := s'.toks) (fun b o ne y => by rw [c1 b (decide_eq_true ne)]; exact y) f0 f1 f3 f4 f5
  have nb : ∀ b o, G2.get? b = some o → b ∉ frs X.stack → B2.get? b = some o := fun b o y1 y2 => by
    obtain ⟨y3, ne⟩ := G2o b o y1
    rw [b1 b (decide_eq_true ne)]
    rcases (og b o y3).2 with z | z
    · obtain ⟨o', y⟩ := Option.isSome_iff_exists.mp z
      have := gB _ _ y
      rw [y3] at this
      cases this
      exact y
    · exact absurd z y2
  have up2 : G2.UpToSlots h2 := fun b o y1 y2 => by
    obtain ⟨y3, ne⟩ := G2o b o y1
    obtain ⟨sl, y4⟩ := up1 b o (og b o y3).1 y2
    exact ⟨sl, (sb.2 b ne).trans y4⟩
  unfold PySem.passOn
  refine wpAny_bind (wpAny_field ((sb.2 a aC).trans q1) d1 e1 ?_)
  rw [if_neg (fun z : (Value.ref T == Value.none) = true => by simp at z), ef, hf]
  have fin : wpAny (model X.prog X.w) X.A (setFlight (.ref a) (some X.env.locals)) (fun _ s4 => wpAny (model X.prog X.w) X.A (throw (.ref a) : Sem Value) (fun _ _ => False) X.xe s4) X.xe { s' with heap := h2 } :=
    HandSPX.setFlight_onZ hh2 fun h3 hh3 up3 => wpAny_throw (tk _ _ ⟨a, B2, _, pins, σ, H9, cls, d, rfl, J2, nb, up2.trans up3, by rw [hs]; exact .inr (.inr hh3), na, os, ag, w⟩)
  first
    | exact wpAny_bind (wpAny_pure (wpAny_bind fin))
    | exact wpAny_bind fin
theorem ps_setLcX {i : Nat} {y : Str} {py : Pos} {elt tg iter : Expr} {scope : Scope} {own : List (Str × Nat)} {pos spos : Pos} {wi : TI} {g : TG} {te : L2.St → TE} (hs0 : X.stack = X.env :: X.outer) (hf : X.env.frame = some X.env.locals) (tk : L2N.Takes X Wo) (hc : X.calm = true) (hN : X.N.Nodup) (hy : X.N[i]? = some y) (hyl : X.env.scope.names.lookup y = some .local)
    (hsw : swapsWith (.ListComp elt [⟨tg, iter, [], 0⟩] scope pos) (some (.Name y py)) spos.line X.env = pure true) (hi : PI X tg iter wi) (ok : BlkOk X.N X.env.scope scope own)
    (hg : ∀ (s : Shared) (H : Hp) (C : Addr) (cl : List (Str × Addr)) (fp : List Addr) (xe : Value → Shared → Prop), PG (blkX X s H scope (compEnvC scope cl C X.env) fp xe) tg g)
    (he : ∀ (σ : L2.St) (s : Shared) (H : Hp) (C : Addr) (cl : List (Str × Addr)) (fp : List Addr) (xe : Value → Shared → Prop), (∀ τ, PassesAt (L2N.CX X.prog X.w) (blkX X s H scope (compEnvC scope cl C X.env) fp xe) τ (fun c d H => Wo c d σ H)) → PE (blkX X s H scope (compEnvC scope cl C X.env) fp xe) elt (te σ))
    (hs : ∀ x, foldedSetIterable iter X.env x = pure x) : PS X (.Assign [.Name y py] (.ListComp elt [⟨tg, iter, [], 0⟩] scope pos) spos) (fun Dn σ H => tLcX wi g (te σ) (own.map (·.2)) σ H fun x H1 => gName i x σ H1 Dn.nx) := by
  refine ⟨fun pins s σ H Dn I want => ?_⟩
  rw [exec_Assign_Name_used _ _ _ _ hsw]
  refine wpAny_bind (wpAny_standAt (wpAny_bind ?_))
  show wpAny _ X.A (do let _ ← comprehension (.ListComp elt [⟨tg, iter, [], 0⟩] scope pos) scope X.env (firstIterPos [⟨tg, iter, [], 0⟩] pos) (newList []) false (eval iter X.env) (some (assign (.Name y py) X.env))) _ _ s
  refine wpAny_bind (thn (Q := fun _ s' => SP X pins Dn .next s') ?_ fun _ s' hq => wpAny_pure (wpAny_pure hq))
  have hfree : ∀ y ∈ scope.names, y.2 = .free → ∃ c, X.env.cells.lookup y.1 = some c := fun y hy e => by
    rcases ok.free y hy e with k | k
    · exact I.ok.has _ (.inl k)
    · exact I.ok.has _ (.inr k)
  refine comp_X rfl hs (closure_ok hfree) ok.kind (fun y hy e => by rw [ok.uniq y hy, e]) (thn (hi.run pins s σ H _ I want) fun xv s1 hx => thn hx fun itv s2 h2 => ?_)
  obtain ⟨it, fp, tn, J, H2, e, I2, T, st2, f2, q⟩ := h2
  subst e
  refine wpAny_newObj_type (newEnv_comp ?_) (by show 0 ≤ sizeLine; decide)
  generalize hD : s2.heap.objs.size = Dl
  have hDn : H2 Dl = none := I2.hok.fresh (Nat.le_of_eq hD)
  obtain ⟨W, ⟨m0, w0⟩, turn⟩ := q Dl hDn
  generalize hs3 : ({ s2 with heap := s2.heap.push { cls := .type "list", data := .seq ([] : List Value).toArray } } : Shared) = s3
  have I3 : Inv X pins σ (upd H2 Dl (.lst [])) s3 := by
    rw [← hs3]
    refine I2.laid (t' := s2.toks) (fun b o e => Heap.get?_push_of_some _ e) (Nat.le_of_eq hD) ⟨Nat.zero_le _, [], 0, .nil, ?_⟩
    rw [← hD]
    exact Heap.get?_push_size _ rfl
  have e3 : s3.heap = s2.heap.push { cls := .type "list", data := .seq ([] : List Value).toArray } := by rw [← hs3]
  have f3 : ∀ b ∈ fp, FpOk X pins (upd H2 Dl (.lst [])) b ∧ b < s3.heap.objs.size := fun b hb => by
    obtain ⟨o, e, _⟩ := T.obj _ _ st2 b hb
    have hlt := Heap.lt_size e
    refine ⟨⟨?_, (f2 b hb).2⟩, by rw [e3, Heap.size_push]; exact Nat.lt_succ_of_lt hlt⟩
    rw [upd_ne (by rw [← hD]; exact Nat.ne_of_lt hlt)]
    exact (f2 b hb).1
  have st3 : tn 0 s3.heap := T.keep _ _ _ st2 fun b _ o e => by rw [e3]; exact Heap.get?_push_of_some _ e
  have I4 := block_start I3 ok hN f3
  show codeAny _ _ (.compStart (.ListComp elt [⟨tg, iter, [], 0⟩] scope pos) 0 (.ref it) (.ref Dl) (compEnvC scope (cellsFrom (s3.heap.objs.size + 1) scope.names (cloFrom X.env.cells scope.names [])) s3.heap.objs.size X.env)) (cpX (model X.prog X.w) X.A X.xe (assign (.Name y py) X.env) (fun _ s' => SP X pins Dn .next s') (.ref Dl) s3.heap.objs.size X.env.frame) { s3 with heap := pushCells (s3.heap.push { cls := .type "dict", data := .dict #[] }) scope.names }
  have nfp : ∀ b ∈ fp, (upd H2 Dl (.lst [])) b = none := fun b hb => (f3 b hb).1.1
  have pg := fun xe => hg s3 (upd H2 Dl (.lst [])) s3.heap.objs.size (cellsFrom (s3.heap.objs.size + 1) scope.names (cloFrom X.env.cells scope.names [])) fp xe
  have pe := fun xe => he σ s3 (upd H2 Dl (.lst [])) s3.heap.objs.size (cellsFrom (s3.heap.objs.size + 1) scope.names (cloFrom X.env.cells scope.names [])) fp xe
  have cF : (compEnvC scope (cellsFrom (s3.heap.objs.size + 1) scope.names (cloFrom X.env.cells scope.names [])) s3.heap.objs.size X.env).frame = X.env.frame := rfl
  have cL : (compEnvC scope (cellsFrom (s3.heap.objs.size + 1) scope.names (cloFrom X.env.cells scope.names [])) s3.heap.objs.size X.env).locals = s3.heap.objs.size := rfl
  generalize compEnvC scope (cellsFrom (s3.heap.objs.size + 1) scope.names (cloFrom X.env.cells scope.names [])) s3.heap.objs.size X.env = ce at I4 pg pe cF cL ⊢
  generalize hH3 : upd H2 Dl (.lst []) = H3 at I3 I4 pg pe w0 nfp f3
  generalize hs4 : ({ s3 with heap := pushCells (s3.heap.push { cls := .type "dict", data := .dict #[] }) scope.names } : Shared) = s4 at I4 ⊢
  have st4 : tn 0 s4.heap := T.keep _ _ _ st3 fun b _ o e => by rw [← hs4]; exact pushCells_keeps _ _ _ _ (Heap.get?_push_of_some _ e)
  -- what an exception of the block is to meet
  let xe : Value → Shared → Prop := notedBy (model X.prog X.w) X.A ce fun y' s2' => cpX (model X.prog X.w) X.A X.xe (assign (.Name y py) X.env) (fun _ s' => SP X pins Dn .next s') (.ref Dl) s3.heap.objs.size X.env.frame (.error y') s2'
  have I4 : Inv (blkX X s3 H3 scope ce fp xe) [] (wipe σ (own.map (·.2))) H3 s4 := I4.wish xe
  have stat : ∀ {σ' : L2.St} {H' : Hp} {s' : Shared}, Inv (blkX X s3 H3 scope ce fp xe) [] σ' H' s' → (∀ b ∈ fp, H' b = none) → ∀ b ∈ fp, FpOk (blkX X s3 H3 scope ce fp xe) [] H' b := fun {σ' H' s'} I' hn b hb =>
    ⟨hn b hb, (I'.ok.exf b hb).1, I'.ok.exfs b hb, .inl hb, fun x c e => (I'.ok.exf b hb).2 x c e, fun p hp => absurd (show p ∈ ([] : List (Addr × Obj)) ++ [] from hp) (by simp)⟩
  have pe := pe xe fun τ pb Hc sc ec sc' Ic cc => blk_out (acc := .ref Dl) hs0 hf tk I3 (fun b hb => (f3 b hb).1) cL cF Ic cc
  have pg := pg xe
  have loop : codeAny (model X.prog X.w) X.A (.compLoop (.ListComp elt [⟨tg, iter, [], 0⟩] scope pos) 0 (.ref it) (.ref Dl) ce) (cpX (model X.prog X.w) X.A X.xe (assign (.Name y py) X.env) (fun _ s' => SP X pins Dn .next s') (.ref Dl) s3.heap.objs.size X.env.frame) s4 := by
    refine compLoop_any (fun n s' => ∃ i H', Inv (blkX X s3 H3 scope ce fp xe) [] (wipe σ (own.map (·.2))) H' s' ∧ tn i s'.heap ∧ (∀ b ∈ fp, H' b = none) ∧ W i n H') ?_ m0 ⟨0, H3, I4, st4, nfp, w0⟩
    rintro n s5 ⟨j, H5, I5, st5, n5, w5⟩
    rcases turn j n H5 w5 with ⟨stop, qq⟩ | ⟨go, Nx, hNx, step⟩
    · refine thn (T.done (blkX X s3 H3 scope ce fp xe) rfl rfl rfl hc j [] s5 _ H5 xe I5 (stat I5 n5) st5 stop) fun r s6 ⟨hr, I6⟩ => ?_
      subst hr
      have I7 : Inv X pins σ H5 s6 := I3.call' (ch := fp) I6.os I6.base I6.hok I6.bare fun b hb => ⟨(f3 b hb).1.2.2.2.1, (f3 b hb).1.2.1, (f3 b hb).1.2.2.2.2.1, (f3 b hb).1.2.2.2.2.2⟩
      have nC : H5 s3.heap.objs.size = none := by
        have z : H5 ce.locals = none := I6.free
        rw [cL] at z
        exact z
      obtain ⟨m, hn, _⟩ := I6.loc
      have hn : s6.heap.Ns ce.locals m := hn
      rw [cL] at hn
      obtain ⟨f0, f1, f2', f3', f4, f5⟩ := I3.fpOk (H' := H5) (Nat.le_refl _) nC
      show wpAny _ _ (assign (.Name y py) X.env (.ref Dl)) _ _ _
      refine wpAny_assign_Name (store_ok2 (v := V.ref Dl) I7 hN hy (.inl hyl) rfl (fun s7 I7' ⟨a, sb, ha⟩ => ?_) (.inr hyl))
      have haC : s3.heap.objs.size ≠ a := by
        rcases ha with z | z
        · rw [z]; exact f1
        · exact fun e => f4 y a z e.symm
      exact ⟨m, hn.sameBut sb haC, fun h3 sb3 => ⟨_, H5, I7'.turned (t' := s7.toks) (fun b o hb e => (sb3.2 b hb).trans e) f0 f1 f3' f4 f5, qq⟩⟩
    · refine thn (T.item (blkX X s3 H3 scope ce fp xe) rfl rfl rfl hc j [] s5 _ H5 xe I5 (stat I5 n5) st5 go) fun r s6 ⟨v, hr, h6⟩ => ?_
      subst hr
      refine thn h6 fun _ s7 ⟨x, H7, I7, r7, y7, st7, n7⟩ => ?_
      have I7' := I7.pinned (stat I7 n7) (T.obj _ _ st7)
      refine thn (pg.run _ s7 _ H7 x v _ I7' r7 (step x H7 y7)) fun _ s8 ⟨σ8, H8, I8, hw8, q8⟩ => ?_
      refine wpAny_tests_nil ?_
      rw [if_pos rfl]
      refine thn (pe.run _ s8 σ8 H8 _ I8 q8) fun z s10 ⟨yv, H10, I10, r10, acc, hD10, hz10, nx⟩ => ?_
      refine app_ok (X := blkX X s3 H3 scope ce fp xe) I10 hD10 hz10 r10 fun s11 I11 => ?_
      obtain ⟨m', hm, w'⟩ := hNx _ nx
      have pin' : ∀ b ∈ fp, ∀ o, s7.heap.get? b = some o → s11.heap.get? b = some o ∧ (upd H10 Dl (.lst (acc ++ [yv]))) b = none := fun b hb o e =>
        let z := I11.pin (b, o) (List.mem_append_right _ (List.mem_append_right _ (mem_pinsAt hb e)))
        ⟨z.1, z.2.1⟩
      have hl : (wipe σ (own.map (·.2))).length = σ8.length := by rw [← hw8, wipe_length]
      refine ⟨m', hm, j + 1, _, (I11.unpinned (pins := [])).weak hl (fun k v e => ?_), T.keep _ _ _ st7 fun b hb o e => (pin' b hb o e).1, fun b hb => ?_, w'⟩
      · rw [← hw8] at e
        exact (wipe_some e).1
      · obtain ⟨o, e, _⟩ := T.obj _ _ st7 b hb
        exact (pin' b hb o e).2
  exact codeAny_compStart_list loop (T.self X.A 0 _ _ _ st4 loop)
end
end Pu

namespace Pu
open PySem PySem.Spec PyProof.Rows L2 Evl
def lcGoX (ρ : Env) (t : Tg) (f : F) : List D → Res (List D)
  | [] => .ok []
  | d :: ds => (ofO (bnd t d)).bind fun ps => (f (setsE ρ ps)).bind fun y => (lcGoX ρ t f ds).bind fun ys => .ok (y :: ys)
def lcX (it : Fs) (vs : List Nat) (t : Tg) (f : F) : Fs := fun ρ => (it ρ).bind fun ds => if ds.length ≤ 1000000 then lcGoX (wipeE ρ vs) t f ds else .st
structure LcX (K : PySem.W.Frag) (xa : Xa) (B1 H1 : Hp) (Dl : Addr) (ρ0 : Env) (t : Tg) (f : F) (ds : List D) (r : Res (List D)) (i : Nat) (H : Hp) : Prop where
  ex : ∃ B acc ys, Gw B1 H1 B H ∧ B Dl = none ∧ H Dl = some (.lst acc) ∧ RL K xa B acc ys ∧ (lcGoX ρ0 t f (ds.drop i)).bind (fun zr => .ok (ys ++ zr)) = r ∧ ys.length ≤ i
section
variable {X : Cx} {xa : Xa} {W : WX} {pos : Pos} {e tg iter elt : Expr} {es : List Expr}
theorem t_lcX {it : Fs} {t : Tg} {f : F} {vs : List Nat} {K : PySem.W.Frag} {σ : L2.St} {H : Hp} {Q : VK} (hx : ∀ i ∈ t.ix, i ∈ vs) (hq : tO K xa W (lcX it vs t f) σ H Q) :
    tLcX (tPx K xa (Wk K xa) W it) (gD t) (tP K xa (fun c d _ H => W c d σ H) f) vs σ H Q := by
  obtain ⟨Hb, ρ, le, re, p⟩ := hq
  refine ⟨Hb, ρ, le, re, postO_bind p fun ds J B1 H1 e1 g1 wk p1 => ?_⟩
  intro Dl hD
  by_cases hz : ds.length ≤ 1000000
  · rw [if_pos hz] at p1
    obtain ⟨r, hr⟩ : ∃ r, r = lcGoX (wipeE ρ vs) t f ds := ⟨_, rfl⟩
    rw [← hr] at p1
    have nB : B1 Dl = none := fresh_back g1.le hD
    refine ⟨fun i m H => m = ds.length - i ∧ i ≤ ds.length ∧ LcX K xa B1 H1 Dl (wipeE ρ vs) t f ds r i H, ⟨ds.length, rfl, Nat.zero_le _, ⟨B1, [], [], ⟨Ex.new hD, Ex.refl _, (g1.le).trans (Ex.new hD), fun _ _ _ => rfl⟩, nB, upd_same, .nil, ?_, Nat.le_refl _⟩⟩, ?_⟩
    · rw [List.drop_zero, hr]
      cases lcGoX (wipeE ρ vs) t f ds <;> rfl
    · rintro i m H2 ⟨rfl, hi, ⟨B2, acc, ys, g2, n2, hacc, rl, hgo2, hyl⟩⟩
      by_cases hlt : i < ds.length
      · refine .inr ⟨wk.go i B2 H2 g2.bup g2.le hlt, fun H' => LcX K xa B1 H1 Dl (wipeE ρ vs) t f ds r (i + 1) H', fun H' h' => ⟨ds.length - (i + 1), by omega, rfl, hlt, h'⟩, fun x H3 hy => ?_⟩
        obtain ⟨B3, g3, r3⟩ := wk.yld i B2 H2 x H3 ds[i] g2.bup g2.le (List.getElem?_eq_getElem hlt) hy
        have n3 : B3 Dl = none := (g3.old _ _ hacc).trans n2
        rw [drop_at hlt] at hgo2
        unfold lcGoX at hgo2
        cases h1 : bnd t ds[i] with
        | none =>
          rw [h1] at hgo2
          have hgo2 : Res.st = r := hgo2
          rw [← hgo2] at p1
          exact p1.elim
        | some ps =>
          rw [h1] at hgo2
          simp only [ofO_some, Res.bind_ok] at hgo2
          refine tg_meet g3.le ((re.mono ((g1.bup.trans g2.bup).trans g3.bup)).wipe vs) r3 h1 fun qs hqs re4 => ⟨?_, B3, _, g3.le, re4, ?_⟩
          · rw [wipe_sets fun p hp => hx _ (hqs p hp), wipe_wipe fun i hi => hi]
          · cases h3 : f (setsE (wipeE ρ vs) ps) with
            | st =>
              rw [h3] at hgo2
              have hgo2 : Res.st = r := hgo2
              rw [← hgo2] at p1
              exact p1.elim
            | ex y =>
              rw [h3] at hgo2
              have hgo2 : Res.ex y = r := hgo2
              rw [← hgo2] at p1
              exact fun c dx B5 H5 g5 xr => p1 c dx B5 H5 ((g2.trans g3).trans g5) xr
            | ok y =>
              rw [h3] at hgo2
              simp only [Res.bind_ok] at hgo2
              intro v B5 H5 g5 r5
              have a5 : H5 Dl = some (.lst acc) := g5.up _ _ (g3.up _ _ hacc)
              have n5 : B5 Dl = none := (g5.old _ _ (g3.up _ _ hacc)).trans n3
              have gg := (g2.trans g3).trans g5
              refine ⟨acc, a5, by rw [rl.length, szl]; omega, ⟨B5, acc ++ [v], ys ++ [y], ⟨Ex.mut gg.up hD, gg.bup, Ex.mut gg.le n5, gg.old⟩, n5, upd_same, (rl.mono (g3.bup.trans g5.bup)).app (.cons r5 .nil), ?_, by rw [List.length_append]; show ys.length + 1 ≤ i + 1; omega⟩⟩
              rw [← hgo2]
              cases lcGoX (wipeE ρ vs) t f (ds.drop (i + 1)) with
              | ok zs => show Res.ok (ys ++ [y] ++ zs) = Res.ok (ys ++ y :: zs); rw [List.append_assoc]; rfl
              | ex _ => rfl
              | st => rfl
      · have ei : i = ds.length := by omega
        subst ei
        refine .inl ⟨wk.stop B2 H2 g2.bup g2.le, ?_⟩
        rw [List.drop_length] at hgo2
        have hgo2 : Res.ok (ys ++ []) = r := hgo2
        rw [List.append_nil] at hgo2
        rw [← hgo2] at p1
        exact p1 Dl acc B2 H2 g2 n2 hD hacc rl
  · rw [if_neg hz] at p1
    exact p1.elim
theorem p_callP {x : Str} {k j n : Nat} {m : List D → Res D} {p : Pos} {fs : Fs} (F : Fn X.prog X.w X.K X.mg X.base k x n m) (hr : Room j X.A) (hx : ∀ τ, PassesAt (L2N.CX X.prog X.w) X τ (WE W τ)) (ha : Pa X none W (e :: es) fs) (hk : k ≤ j := by decide) (hg : Gl X x := by rfl) (hdb : (x == ("__debug__" : Str)) = false := by decide)
    (he : starEach (e :: es) X.env = (false, eval e X.env) :: starEach es X.env := by rfl) (hpl : (backTo pos (starEach es X.env)).any (·.1) = false := by rfl) : Pe X none W (.Call (.Name x p) (e :: es) [] pos) (calF m fs) := by
  obtain ⟨f, fd, ps, F1, hm, hkp, hb⟩ := F.ex
  refine PE.imp (pe_callS F1 (hr.mono hk) hg hm hkp hb hx ha hdb he hpl) fun σ H Q hq => ?_
  obtain ⟨Hb, ρ, le, re, p⟩ := hq
  refine ⟨Hb, ρ, le, re, post_bind le p fun ds vs B1 H1 e1 g1 r1 p1 => ?_⟩
  by_cases hl : ds.length = n
  · exact ⟨by rw [r1.length, hl], B1, ds, g1.le, r1, p1⟩
  · rw [F.st ds hl] at p1
    exact p1.elim
theorem s_lcX {i : Nat} {y : Str} {py spos : Pos} {scope : Scope} {own : List (Str × Nat)} {it : Fs} {t : Tg} {f : F} (tk : L2N.Takes X W) (hc : X.calm = true) (hN : X.N.Nodup) (hi : Pi X none W tg iter it) (ok : BlkOk X.N X.env.scope scope own)
    (hg : ∀ (s : Shared) (H : Hp) (C : Addr) (cl : List (Str × Addr)) (fp : List Addr) (xe : Value → Shared → Prop), Pg (blkX X s H scope (compEnvC scope cl C X.env) fp xe) tg t)
    (he : ∀ (σ : L2.St) (s : Shared) (H : Hp) (C : Addr) (cl : List (Str × Addr)) (fp : List Addr) (xe : Value → Shared → Prop), (∀ τ, PassesAt (L2N.CX X.prog X.w) (blkX X s H scope (compEnvC scope cl C X.env) fp xe) τ (WE (fun c d _ H => W c d σ H) τ)) → Pe (blkX X s H scope (compEnvC scope cl C X.env) fp xe) none (fun c d _ H => W c d σ H) elt f)
    (hsw : swapsWith (.ListComp elt [⟨tg, iter, [], 0⟩] scope pos) (some (.Name y py)) spos.line X.env = pure true := by exact sw_true rfl rfl rfl rfl)
    (hs0 : X.stack = X.env :: X.outer := by rfl) (hf : X.env.frame = some X.env.locals := by rfl) (hx : ∀ i ∈ t.ix, i ∈ own.map (·.2) := by decide) (hs : ∀ x, foldedSetIterable iter X.env x = pure x := by intro _; rfl) (hy : X.N[i]? = some y := by rfl) (hyl : X.env.scope.names.lookup y = some .local := by rfl) :
    Ps X none W (.Assign [.Name y py] (.ListComp elt [⟨tg, iter, [], 0⟩] scope pos) spos) (asS i (ofL (lcX it (own.map (·.2)) t f))) := by
  refine PS.imp (ps_setLcX (te := fun σ => tP X.K none (fun c d _ H => W c d σ H) f) hs0 hf tk hc hN hy hyl hsw hi ok hg he hs) fun Dn σ H ⟨B0, H0, B, ρ, r, p⟩ => ?_
  refine t_lcX hx (tO_of ?_)
  exact meet r p fun d v B' H' g rel r' k => k _ B' H' (r'.set rel i)
end
end Pu

namespace Pu
open PySem L2
def m_log_text : List D → Res D := dfM 1 2 (sqS (exS (calF m_need_deeds (argC (vr 0) argN))) (reS (mt1 tyStr dJoin (cst (.str [])) (ofL (lcO (itF (vr 0)) [1, 2] (.tp [1, 2]) yesT (op2 dAdd (op2 dAdd (op2 dAdd (vr 1) (cst (.str [32]))) (opN cStr (argC (vr 2) argN))) (cst (.str [10]))))))))
def m_deed_in : List D → Res D := dfM 1 3 (sqS (asR 1 2 (mt1 tyStr dSplit (vr 0) (cst (.str [32])))) (sqS (ifS (tst (op2 dNe (opN cLen (argC (vr 2) argN)) (cst (.int 1)))) (raS 7) nxS) (sqS (ifS (tst (op2 dEq (vr 1) (cst (.str [114, 101, 109, 111, 118, 101])))) (sqS (ifS (orT (noT (tst (chF dLe dLe (cst (.int 1)) (opN cLen (argC (op2 dIx (vr 2) (cst (.int 0))) argN)) (cst (.int 3))))) (noT (tst (opN cAll (argC (ofL (lcO (itF (op2 dIx (vr 2) (cst (.int 0)))) [3] (.nm 3) yesT (op2 dIn (vr 3) (cst (.str [48, 49, 50, 51, 52, 53, 54, 55, 56, 57]))))) argN))))) (raS 7) nxS) (reS (tupF (argC (vr 1) (argC (opN cIntS (argC (op2 dIx (vr 2) (cst (.int 0))) argN)) argN))))) nxS) (reS (tupF (argC (vr 1) (argC (op2 dIx (vr 2) (cst (.int 0))) argN)))))))
def m_read_log : List D → Res D := dfM 1 3 (sqS (ifS (noT (tst (op1 (isiD "str") (vr 0)))) (raS 7) nxS) (sqS (asS 1 (ofL (lcX (itF (slF (mt1 tyStr dSplit (vr 0) (cst (.str [10]))) noP (soP (op1 dNeg (cst (.int 1)))))) [2] (.nm 2) (calF m_deed_in (argC (vr 2) argN))))) (sqS (ifS (orT (noT (tst (opN cAll (argC (ofL (lcO (itF (vr 1)) [3] (.nm 3) yesT (calF m_is_deed (argC (vr 3) argN)))) argN)))) (tst (op2 dNe (calF m_log_text (argC (vr 1) argN)) (vr 0)))) (raS 7) nxS) (reS (vr 1)))))
end Pu

namespace Pu.Sv
open PySem PySem.Spec PyProof.Rows L2 Evl
/-- a deed of the right form -/
def Deed.vd : Deed → Prop
  | .add t => plainB (.str t) = true
  | .rem n => n < 1000
theorem ok_vd {al : List Nat} (ha : al ∈ A4) {d : Deed} (h : d.ok al) : d.vd := by
  cases d with
  | add t => exact tx_plain ha h (by decide)
  | rem n => exact Nat.lt_trans (show n < 5 from h) (by decide)
abbrev sAdd : List Nat := [97, 100, 100]
abbrev sRem : List Nat := [114, 101, 109, 111, 118, 101]
def Deed.w : Deed → List Nat
  | .add _ => sAdd
  | .rem _ => sRem
def Deed.x : Deed → D
  | .add t => .str t
  | .rem n => .int (n : Nat)
def Deed.xs : Deed → List Nat
  | .add t => t
  | .rem n => digs n
theorem Deed.two (d : Deed) : d.d = .tup [.str d.w, d.x] := by cases d <;> rfl
/-- a deed's line -/
def wrD (d : Deed) : List Nat := d.w ++ 32 :: d.xs
def wl (ds : List Deed) : List Nat := (ds.map fun d => wrD d ++ [10]).flatten
theorem wl_cons (d : Deed) (ds : List Deed) : wl (d :: ds) = wrD d ++ 10 :: wl ds := by
  show (wrD d ++ [10]) ++ wl ds = _
  rw [List.append_assoc]
  rfl
theorem joinE : ∀ zs : List (List Nat), TL.joinL [] zs = zs.flatten
  | [] => rfl
  | [p] => by show p = p ++ []; rw [List.append_nil]
  | p :: q :: r => by
    show p ++ ([] ++ TL.joinL [] (q :: r)) = p ++ (q :: r).flatten
    rw [joinE (q :: r)]
    rfl
theorem plain_facts {t : List Nat} (h : plainB (.str t) = true) : (1 ≤ t.length ∧ t.length ≤ 40) ∧ ∀ c ∈ t, c ∈ LET := by
  obtain ⟨h1, h2⟩ := Bool.and_eq_true_iff.mp (show (decide (1 ≤ t.length) && (decide (t.length ≤ 40) && (t.map fun c => decide (c ∈ LET)).all id)) = true from h)
  obtain ⟨h2, h3⟩ := Bool.and_eq_true_iff.mp h2
  exact ⟨⟨of_decide_eq_true h1, of_decide_eq_true h2⟩, fun c hc => of_decide_eq_true (List.all_eq_true.mp h3 _ (List.mem_map_of_mem hc))⟩
theorem let_ne : ∀ c ∈ LET, c ≠ 32 ∧ c ≠ 10 := by decide
theorem dig_facts : ∀ n, n < 1000 → (1 ≤ (digs n).length ∧ (digs n).length ≤ 3) ∧ digB (digs n) = true ∧ valN (digs n) = n := by
  have : ((List.range 1000).all fun n => decide (1 ≤ (digs n).length) && (decide ((digs n).length ≤ 3) && (digB (digs n) && decide (valN (digs n) = n)))) = true := by decide +kernel
  intro n h
  have := List.all_eq_true.mp this n (List.mem_range.mpr h)
  simp only [Bool.and_eq_true, decide_eq_true_eq] at this
  exact ⟨⟨this.1, this.2.1⟩, this.2.2.1, this.2.2.2⟩
theorem dig_ne {l : List Nat} (h : digB l = true) : ∀ c ∈ l, c ≠ 32 ∧ c ≠ 10 := fun c hc => by
  have := List.all_eq_true.mp h c hc
  simp only [Bool.and_eq_true, decide_eq_true_eq] at this
  omega
theorem vd_xs {d : Deed} (h : d.vd) : (1 ≤ d.xs.length ∧ d.xs.length ≤ 40) ∧ ∀ c ∈ d.xs, c ≠ 32 ∧ c ≠ 10 := by
  cases d with
  | add t =>
    obtain ⟨a, b⟩ := plain_facts (t := t) h
    exact ⟨a, fun c hc => let_ne c (b c hc)⟩
  | rem n =>
    obtain ⟨a, b, _⟩ := dig_facts n h
    exact ⟨⟨a.1, Nat.le_trans a.2 (by decide)⟩, dig_ne b⟩
theorem wr_len {d : Deed} (h : d.vd) : (wrD d).length ≤ 47 := by
  have := (vd_xs h).1.2
  unfold wrD
  rw [List.length_append, List.length_cons]
  cases d with
  | add t => show 3 + _ ≤ 47; omega
  | rem n => show 6 + _ ≤ 47; omega
theorem wr_no10 {d : Deed} (h : d.vd) : 10 ∉ wrD d := fun z => by
  unfold wrD at z
  rcases List.mem_append.mp z with z | z
  · cases d with
    | add t => exact absurd z (by show ¬ 10 ∈ sAdd; decide)
    | rem n => exact absurd z (by show ¬ 10 ∈ sRem; decide)
  · rcases List.mem_cons.mp z with z | z
    · cases z
    · exact ((vd_xs h).2 10 z).2 rfl
theorem spc_last {c : Nat} : ∀ {p : List Nat}, c ∉ p → spc c p = [p]
  | [], _ => rfl
  | x :: p, h => by
    rw [spc_cons, if_neg (show ¬ x = c from fun z => h (z ▸ List.mem_cons_self)), spc_last fun z => h (List.mem_cons_of_mem _ z)]
theorem spc_hit {c : Nat} (q : List Nat) : ∀ {p : List Nat}, c ∉ p → spc c (p ++ c :: q) = p :: spc c q
  | [], _ => by show spc c (c :: q) = _; rw [spc_cons, if_pos rfl]
  | x :: p, h => by
    show spc c (x :: (p ++ c :: q)) = _
    rw [spc_cons, if_neg (show ¬ x = c from fun z => h (z ▸ List.mem_cons_self)), spc_hit q fun z => h (List.mem_cons_of_mem _ z)]
theorem spc_len (c : Nat) : ∀ l : List Nat, (spc c l).length ≤ l.length + 1
  | [] => Nat.le_refl _
  | x :: r => by
    have ih := spc_len c r
    rw [spc_cons, List.length_cons]
    by_cases h : x = c
    · rw [if_pos h, List.length_cons]; omega
    · rw [if_neg h]
      cases e : spc c r with
      | nil => exact absurd e (spc_ne c r)
      | cons a b =>
        rw [e] at ih
        show ((x :: a) :: b).length ≤ r.length + 1 + 1
        rw [List.length_cons] at ih ⊢
        omega
theorem cut_last {α : Type} (xs : List α) (y : α) : cut (xs ++ [y]) none (some (-1)) = xs := by
  unfold cut
  have e : HT.sIx (xs ++ [y]).length (xs ++ [y]).length (some (-1)) = xs.length := by
    show (if (-1 : Int) < 0 then ((-1 : Int) + ((xs ++ [y]).length : Int)).toNat else min (-1 : Int).toNat (xs ++ [y]).length) = xs.length
    rw [if_pos (by decide), List.length_append]
    show ((-1 : Int) + ((xs.length + 1 : Nat) : Int)).toNat = xs.length
    omega
  rw [e]
  show ((xs ++ [y]).drop 0).take (xs.length - 0) = xs
  rw [List.drop_zero, Nat.sub_zero]
  exact List.take_left' rfl
theorem spc_split (c : Nat) (l : List Nat) : ∃ ps p, spc c l = ps ++ [p] := by
  have ne := spc_ne c l
  exact ⟨(spc c l).dropLast, (spc c l).getLast ne, (List.dropLast_concat_getLast ne).symm⟩
theorem spc_plen (c : Nat) : ∀ (l : List Nat), ∀ p ∈ spc c l, p.length ≤ l.length
  | [], p, h => by
    rw [spc_nil] at h
    rw [List.mem_singleton.mp h]
    exact Nat.le_refl _
  | x :: r, p, h => by
    rw [spc_cons] at h
    by_cases k : x = c
    · rw [if_pos k] at h
      rcases List.mem_cons.mp h with z | z
      · rw [z]; exact Nat.zero_le _
      · exact Nat.le_succ_of_le (spc_plen c r p z)
    · rw [if_neg k] at h
      cases e : spc c r with
      | nil => exact absurd e (spc_ne c r)
      | cons a b =>
        rw [e] at h
        rcases List.mem_cons.mp h with z | z
        · rw [z]; exact Nat.succ_le_succ (spc_plen c r a (by rw [e]; exact List.mem_cons_self))
        · exact Nat.le_succ_of_le (spc_plen c r p (by rw [e]; exact List.mem_cons_of_mem _ z))
def dB (w : List Nat) (x : D) : Bool := if w = sAdd then plainB x else decide (w = sRem) && numB 0 999 x
theorem is_deed_two {w : List Nat} {x : D} (hx : okD x) : m_is_deed [.tup [.str w, x]] = .ok (.bl (dB w x)) := by
  have q : ∀ v : List Nat, op2 dEq (op2 dIx (vr 0) (cst (.int 0))) (cst (.str v)) (pkv [.sh (.tup [.str w, x])]) = .ok (.bl (decide (w = v))) := fun v => e2 (d := .str w) (e := .str v) (e2 rfl rfl rfl) rfl ((eqq (by show 0 ≤ 60; decide) (by show 0 ≤ 60; decide)).trans (by rw [eqd_str]))
  refine dm rfl (sq_to (ρ' := [.sh (.tup [.str w, x])]) (if_nx ((tOr (x := false) (y := false) (tNo (x := true) (tB (e1 (d := .tup [.str w, x]) rfl rfl))) fun _ => (tOr (x := false) (y := false) (tB (e2 (d := .int 2) (e := .int 2) (eN (eC rfl rfl) rfl) rfl (ne_same (by show 0 ≤ 60; decide)))) fun _ => tNo (x := true) (tB (e1 (d := .str w) (e2 rfl rfl rfl) rfl))).trans rfl).trans rfl)) ?_)
  unfold dB
  by_cases h : w = sAdd
  · rw [if_pos h]
    have q0 := q sAdd
    rw [decide_eq_true h] at q0
    exact congrArg outR (sq_rt ((if_yes (tB q0)).trans (re_rt (d := .bl (plainB x)) ((eK (ds := [x]) (eC (e2 rfl rfl rfl) rfl)).trans (is_plain_ok hx)))))
  · rw [if_neg h]
    have q0 := q sAdd
    rw [decide_eq_false h] at q0
    refine sq_to (ρ' := [.sh (.tup [.str w, x])]) (if_nx (tB q0)) (re_to ?_)
    exact eAn (x := decide (w = sRem)) (y := numB 0 999 x) (q sRem) fun _ => (eK (ds := [x, .int 0, .int 999]) (eC (e2 rfl rfl rfl) (eC rfl (eC rfl rfl)))).trans (is_number_ok hx)
theorem numB_nat {n : Nat} (h : n < 1000) : numB 0 999 (.int (n : Nat)) = true := by
  show (decide ((0 : Int) ≤ ((n : Nat) : Int)) && decide (((n : Nat) : Int) ≤ 999)) = true
  rw [decide_eq_true (by omega), decide_eq_true (by omega)]
  rfl
theorem okD_x (d : Deed) (h : d.vd) : okD d.x := by
  cases d with
  | add t => exact Nat.le_trans (plain_facts (t := t) h).1.2 (by decide)
  | rem n => trivial
theorem is_deed_vd {d : Deed} (h : d.vd) : m_is_deed [d.d] = .ok (.bl true) := by
  rw [d.two, is_deed_two (okD_x d h)]
  congr 2
  unfold dB
  cases d with
  | add t => exact h
  | rem n =>
    show (if sRem = sAdd then _ else decide (sRem = sRem) && numB 0 999 (.int (n : Nat))) = true
    rw [if_neg (by decide), decide_eq_true rfl, numB_nat h]
    rfl
theorem need_deeds_vd {ds : List Deed} (ok : ∀ d ∈ ds, d.vd) (hl : ds.length ≤ 10000) : m_need_deeds [.lst (ds.map Deed.d)] = .ok .non := by
  refine dm rfl (congrArg outR (if_nx ((tOr (x := false) (y := false) (tNo (x := true) (tB (e1 (d := .lst (ds.map Deed.d)) rfl rfl))) fun _ => tNo (x := true) (tB (eN (eC (eO (eLc (eI rfl rfl) (by rw [List.length_map]; omega) (lcGo_im (g := fun _ => .bl true) (ps := fun d => [(1, d.d)]) fun d hd => ⟨rfl, (eK rfl).trans (is_deed_vd (ok d hd))⟩))) rfl) (bls_all ds)))).trans rfl)))
theorem addS {a b : List Nat} (h : a.length + b.length ≤ 1000) : dAdd (.str a) (.str b) = some (.str (a ++ b)) := if_pos (by omega)
theorem sum_len : ∀ (ds : List Deed), (∀ d ∈ ds, d.vd) → (((ds.map fun d => wrD d ++ [10])).map List.length).sum ≤ 48 * ds.length
  | [], _ => Nat.zero_le _
  | d :: ds, h => by
    have ih := sum_len ds fun e he => h e (List.mem_cons_of_mem _ he)
    have := wr_len (h d List.mem_cons_self)
    rw [List.map_cons, List.map_cons, List.sum_cons, List.length_append, List.length_cons (as := ds)]
    show (wrD d).length + 1 + _ ≤ _
    omega
theorem wl_len (ds : List Deed) (h : ∀ d ∈ ds, d.vd) : (wl ds).length ≤ 48 * ds.length := by
  unfold wl
  rw [List.length_flatten]
  exact sum_len ds h
theorem str_x {d : Deed} (h : d.vd) : cStr [d.x] = some (.str d.xs) := by
  cases d with
  | add t => rfl
  | rem n =>
    have h : n < 1000 := h
    show (if 0 ≤ ((n : Nat) : Int) ∧ ((n : Nat) : Int) < 1000 then some (D.str (digs ((n : Nat) : Int).toNat)) else none) = _
    rw [if_pos ⟨by omega, by omega⟩, Int.toNat_natCast]
    rfl
/-- the lines, as log_text and the laws write them -/
theorem lines_ok {ds : List Deed} (ok : ∀ d ∈ ds, d.vd) (hl : ds.length ≤ 1000) {it : Fs} {vs : List Nat} {i j : Nat} {ε : Pu.Env} (h : it ε = .ok (ds.map Deed.d)) (hi : ∀ a b, vr i (setsE (wipeE ε vs) [(i, a), (j, b)]) = .ok a) (hj : ∀ a b, vr j (setsE (wipeE ε vs) [(i, a), (j, b)]) = .ok b) :
    mt1 tyStr dJoin (cst (.str [])) (ofL (lcO it vs (.tp [i, j]) yesT (op2 dAdd (op2 dAdd (op2 dAdd (vr i) (cst (.str [32]))) (opN cStr (argC (vr j) argN))) (cst (.str [10]))))) ε = .ok (.str (wl ds)) := by
  have e : lcGo (wipeE ε vs) (.tp [i, j]) yesT (op2 dAdd (op2 dAdd (op2 dAdd (vr i) (cst (.str [32]))) (opN cStr (argC (vr j) argN))) (cst (.str [10]))) (ds.map Deed.d) = .ok (ds.map fun d => D.str (wrD d ++ [10])) := by
    refine lcGo_im (ps := fun d => [(i, .str d.w), (j, d.x)]) fun d hd => ⟨?_, ?_⟩
    · rw [d.two]
      rfl
    · have v := ok d hd
      have l1 := wr_len v
      have lw : d.w.length ≤ 6 := by
        cases d with
        | add t => exact (by decide : sAdd.length ≤ 6)
        | rem n => exact (by decide : sRem.length ≤ 6)
      have lx := (vd_xs v).1.2
      refine e2 (d := .str (wrD d)) (e := .str [10]) (e2 (d := .str (d.w ++ [32])) (e := .str d.xs) (e2 (d := .str d.w) (e := .str [32]) (hi _ _) rfl ?_) (eN (eC (hj _ _) rfl) (str_x v)) ?_) rfl ?_
      · exact addS (by show d.w.length + 1 ≤ 1000; omega)
      · rw [addS (by rw [List.length_append]; show d.w.length + 1 + _ ≤ _; omega)]
        unfold wrD
        rw [List.append_assoc]
        rfl
      · exact addS (by show _ + 1 ≤ _; omega)
  refine eM rfl rfl (eO (eLc h (by rw [List.length_map]; omega) e)) ?_
  show (strsOf (ds.map fun d => D.str (wrD d ++ [10]))).bind (jn []) = _
  have : (ds.map fun d => D.str (wrD d ++ [10])) = (ds.map fun d => wrD d ++ [10]).map D.str := by rw [List.map_map]; rfl
  rw [this, strsOf_map]
  have sl := sum_len ds ok
  show jn [] (ds.map fun d => wrD d ++ [10]) = _
  unfold jn
  rw [if_pos (by show _ + _ * 0 ≤ _; omega), joinE]
  rfl
theorem log_text_ok {ds : List Deed} (ok : ∀ d ∈ ds, d.vd) (hl : ds.length ≤ 1000) : m_log_text [.lst (ds.map Deed.d)] = .ok (.str (wl ds)) := by
  refine dm rfl (sq_to (ρ' := [.sh (.lst (ds.map Deed.d)), .no, .no]) (ex_nx ((eK rfl).trans (need_deeds_vd ok (by omega)))) (re_to ?_))
  exact lines_ok ok hl (eI rfl rfl) (fun _ _ => rfl) fun _ _ => rfl
end Pu.Sv

namespace Pu.Sv
open PySem PySem.Spec PyProof.Rows L2 Evl
theorem star_nx {i j : Nat} {h : F} {ρ : SEnv} {x : D} {xs : List D} (e : h (shv ρ) = .ok (.lst (x :: xs))) (l : xs.length ≤ 16000) : asR i j h ρ = .nx ((ρ.set i (.sh x)).set j (.sh (.lst xs))) := by
  unfold asR
  rw [e]
  exact if_pos l
theorem split_q {f : F} {ε : Pu.Env} {l : List Nat} {c : Nat} (e : f ε = .ok (.str l)) (hc : c < 256) (h : l.length ≤ 100000) : mt1 tyStr dSplit f (cst (.str [c])) ε = .ok (.lst ((spc c l).map D.str)) := eM e rfl rfl (if_pos ⟨hc, h⟩)
theorem ra_ex {c : Nat} {ρ : SEnv} : raS c ρ = .ex ⟨c, none⟩ ρ := rfl
theorem ex7 {n k : Nat} {g : SF} {ds : List D} {ρ : SEnv} (h : ds.length = n) (e : g (ds.map .sh ++ noS k) = .ex ⟨7, none⟩ ρ) : dfM n k g ds = .ex ⟨7, none⟩ := by
  unfold dfM
  rw [if_pos h, e]
  rfl
abbrev FIG : List Nat := [48, 49, 50, 51, 52, 53, 54, 55, 56, 57]
theorem fig_in (c : Nat) : decide (c ∈ FIG) = (decide (48 ≤ c) && decide (c ≤ 57)) := by
  rw [← Bool.decide_and]
  refine decide_eq_decide.mpr ?_
  simp only [List.mem_cons, List.not_mem_nil, or_false]
  omega
theorem all_fig (t : List Nat) : cAll [.lst (t.map fun c => D.bl (decide (c ∈ FIG)))] = some (.bl (digB t)) := by
  show (blsOf _).map _ = _
  rw [bls_map]
  show some (D.bl ((t.map fun c => decide (c ∈ FIG)).all id)) = _
  congr 2
  unfold digB
  induction t with
  | nil => rfl
  | cons c t ih =>
    rw [List.map_cons, List.all_cons, List.all_cons, ih]
    show (decide (c ∈ FIG) && _) = _
    rw [fig_in]
/-- what a line comes to -/
def lineR (l : List Nat) : Res D := match spc 32 l with
  | [w, t] => if w = sRem then (if (1 ≤ t.length ∧ t.length ≤ 3) ∧ digB t = true then .ok (.tup [.str w, .int (valN t : Nat)]) else .ex ⟨7, none⟩) else .ok (.tup [.str w, .str t])
  | _ => .ex ⟨7, none⟩
theorem deed_in_ok {l : List Nat} (hl : l.length ≤ 1000) : m_deed_in [.str l] = lineR l := by
  have sl := spc_len 32 l
  cases e : spc 32 l with
  | nil => exact absurd e (spc_ne 32 l)
  | cons w r =>
    rw [e, List.length_cons] at sl
    have e0 : asR 1 2 (mt1 tyStr dSplit (vr 0) (cst (.str [32]))) [.sh (.str l), .no, .no, .no] = .nx [.sh (.str l), .sh (.str w), .sh (.lst (r.map D.str)), .no] :=
      star_nx ((split_q rfl (by decide) (by omega)).trans (by rw [e]; rfl)) (by rw [List.length_map]; omega)
    have hlen : opN cLen (argC (vr 2) argN) (pkv [.sh (.str l), .sh (.str w), .sh (.lst (r.map D.str)), .no]) = .ok (.int (r.length : Nat)) := eN (eC rfl rfl) (by show some (D.int ((r.map D.str).length : Nat)) = _; rw [List.length_map])
    have ne1 : (tst (op2 dNe (opN cLen (argC (vr 2) argN)) (cst (.int 1)))) (pkv [.sh (.str l), .sh (.str w), .sh (.lst (r.map D.str)), .no]) = .ok (!decide (r.length = 1)) := by
      refine tB (e2 hlen (e := .int 1) rfl ?_)
      rw [neq (by show 0 ≤ 60; decide) (by show 0 ≤ 60; decide), eqd_int]
      have : decide (((r.length : Nat) : Int) = 1) = decide (r.length = 1) := decide_eq_decide.mpr ⟨fun h => by omega, fun h => by omega⟩
      rw [this]
    unfold lineR
    rw [e]
    match r, sl, e, e0, ne1 with
    | [], sl, e, e0, ne1 =>
      refine ex7 (ρ := [.sh (.str l), .sh (.str w), .sh (.lst []), .no]) rfl ?_
      show sqS _ _ [.sh (.str l), .no, .no, .no] = _
      rw [sq_nx e0]
      exact sq_ex ((if_yes ne1).trans ra_ex)
    | a :: b :: r, sl, e, e0, ne1 =>
      have : decide ((a :: b :: r).length = 1) = false := decide_eq_false (by rw [List.length_cons, List.length_cons]; omega)
      rw [this] at ne1
      refine ex7 (ρ := [.sh (.str l), .sh (.str w), .sh (.lst ((a :: b :: r).map D.str)), .no]) rfl ?_
      show sqS _ _ [.sh (.str l), .no, .no, .no] = _
      rw [sq_nx e0]
      exact sq_ex ((if_yes ne1).trans ra_ex)
    | [t], sl, e, e0, ne1 =>
      have tl : t.length ≤ 1000 := Nat.le_trans (spc_plen 32 l t (by rw [e]; simp)) hl
      have q : (tst (op2 dEq (vr 1) (cst (.str sRem)))) (pkv [.sh (.str l), .sh (.str w), .sh (.lst [.str t]), .no]) = .ok (decide (w = sRem)) := tB (e2 (d := .str w) (e := .str sRem) rfl rfl ((eqq (by show 0 ≤ 60; decide) (by show 0 ≤ 60; decide)).trans (by rw [eqd_str])))
      show dfM 1 3 _ [.str l] = (if w = sRem then _ else _)
      by_cases h : w = sRem
      · rw [if_pos h]
        rw [decide_eq_true h] at q
        have cl : cLen [.str t] = some (.int t.length) := if_pos (by omega)
        have ix : ∀ {ε : Pu.Env}, vr 2 ε = .ok (.lst [.str t]) → op2 dIx (vr 2) (cst (.int 0)) ε = .ok (.str t) := fun e => e2 e (e := .int 0) rfl rfl
        have ch : (chF dLe dLe (cst (.int 1)) (opN cLen (argC (op2 dIx (vr 2) (cst (.int 0))) argN)) (cst (.int 3))) (pkv [.sh (.str l), .sh (.str w), .sh (.lst [.str t]), .no]) = .ok (.bl (decide (1 ≤ t.length ∧ t.length ≤ 3))) := by
          refine eCh (s := decide ((1 : Int) ≤ t.length)) rfl (eN (eC (ix rfl) rfl) cl) rfl (fun hs => ⟨_, rfl, ?_⟩) fun hs => ?_
          · have h1 : 1 ≤ t.length := by have := of_decide_eq_true hs; omega
            show some (D.bl (decide ((t.length : Int) ≤ 3))) = _
            congr 2
            exact decide_eq_decide.mpr ⟨fun h => ⟨h1, by omega⟩, fun h => by omega⟩
          · have h1 : ¬ 1 ≤ t.length := by have := of_decide_eq_false hs; omega
            rw [decide_eq_false fun h => h1 h.1]
        have al : opN cAll (argC (ofL (lcO (itF (op2 dIx (vr 2) (cst (.int 0)))) [3] (.nm 3) yesT (op2 dIn (vr 3) (cst (.str FIG))))) argN) (pkv [.sh (.str l), .sh (.str w), .sh (.lst [.str t]), .no]) = .ok (.bl (digB t)) :=
          eN (eC (eO (eLc (eI (ix rfl) rfl) (by rw [List.length_map]; omega) (lcGo_im (g := fun c => .bl (decide (c ∈ FIG))) (ps := fun c => [(3, .str [c])]) fun c _ => ⟨rfl, e2 rfl rfl rfl⟩))) rfl) (all_fig t)
        have or' := tOr (tNo (tB ch)) fun _ => tNo (tB al)
        by_cases g : (1 ≤ t.length ∧ t.length ≤ 3) ∧ digB t = true
        · rw [if_pos g]
          rw [decide_eq_true g.1, g.2] at or'
          refine dm rfl (sq_to e0 (sq_to (if_nx ne1) ?_))
          refine congrArg outR (sq_rt ((if_yes q).trans ?_))
          rw [sq_nx (if_nx or')]
          exact re_rt (eTu (eC rfl (eC (eN (eC (ix rfl) rfl) (if_pos ⟨g.1.1, g.1.2, g.2⟩)) rfl)) (Nat.le_of_ble_eq_true rfl))
        · rw [if_neg g]
          have b : (!decide (1 ≤ t.length ∧ t.length ≤ 3) || !digB t) = true := by
            by_cases g1 : 1 ≤ t.length ∧ t.length ≤ 3
            · rw [decide_eq_true g1]
              cases g2 : digB t with
              | false => rfl
              | true => exact absurd ⟨g1, g2⟩ g
            · rw [decide_eq_false g1]; rfl
          rw [b] at or'
          refine ex7 (ρ := [.sh (.str l), .sh (.str w), .sh (.lst [.str t]), .no]) rfl ?_
          show sqS _ _ [.sh (.str l), .no, .no, .no] = _
          rw [sq_nx e0, sq_nx (show ifS _ _ _ [.sh (.str l), .sh (.str w), .sh (.lst ([t].map D.str)), .no] = _ from if_nx ne1)]
          exact sq_ex ((if_yes q).trans (sq_ex ((if_yes or').trans ra_ex)))
      · rw [if_neg h]
        rw [decide_eq_false h] at q
        refine dm rfl (sq_to e0 (sq_to (if_nx ne1) (sq_to (if_nx q) (re_to ?_))))
        exact eTu (eC rfl (eC (e2 (d := .lst [.str t]) rfl (e := .int 0) rfl rfl) rfl)) (Nat.le_of_ble_eq_true rfl)
end Pu.Sv

namespace Pu.Sv
open PySem PySem.Spec PyProof.Rows L2 Evl
theorem no32 (d : Deed) : 32 ∉ d.w := by
  cases d with
  | add t => show ¬ 32 ∈ sAdd; decide
  | rem n => show ¬ 32 ∈ sRem; decide
theorem line_wr {d : Deed} (h : d.vd) : lineR (wrD d) = .ok d.d := by
  have e : spc 32 (wrD d) = [d.w, d.xs] := by
    unfold wrD
    rw [spc_hit _ (no32 d), spc_last fun z => ((vd_xs h).2 32 z).1 rfl]
  unfold lineR
  rw [e]
  cases d with
  | add t => rfl
  | rem n =>
    obtain ⟨a, b, c⟩ := dig_facts n h
    show (if sRem = sRem then (if (1 ≤ (digs n).length ∧ (digs n).length ≤ 3) ∧ digB (digs n) = true then Res.ok (D.tup [D.str sRem, D.int (valN (digs n) : Nat)]) else .ex ⟨7, none⟩) else Res.ok (D.tup [D.str sRem, D.str (digs n)])) = _
    rw [if_pos rfl, if_pos ⟨a, b⟩, c]
    rfl
/-- what a line may tell -/
def LX (p : List Nat × D) : Prop := okD p.2 ∧ (dB p.1 p.2 = true → ∃ d : Deed, d.vd ∧ D.tup [.str p.1, p.2] = d.d)
theorem line_all {l : List Nat} (hl : l.length ≤ 1000) : lineR l = .ex ⟨7, none⟩ ∨ ∃ p : List Nat × D, lineR l = .ok (.tup [.str p.1, p.2]) ∧ LX p := by
  unfold lineR
  have pl := spc_plen 32 l
  match e : spc 32 l with
  | [] => exact .inl rfl
  | [_] => exact .inl rfl
  | _ :: _ :: _ :: _ => exact .inl rfl
  | [w, t] =>
    dsimp only
    by_cases h : w = sRem
    · rw [if_pos h]
      by_cases g : (1 ≤ t.length ∧ t.length ≤ 3) ∧ digB t = true
      · rw [if_pos g]
        refine .inr ⟨(w, .int (valN t : Nat)), rfl, trivial, fun b => ⟨.rem (valN t), ?_, by rw [h]; rfl⟩⟩
        unfold dB at b
        dsimp only at b
        rw [h, if_neg (by decide)] at b
        have b2 := (Bool.and_eq_true_iff.mp b).2
        have b3 : (decide ((0 : Int) ≤ ((valN t : Nat) : Int)) && decide (((valN t : Nat) : Int) ≤ 999)) = true := b2
        have b4 := of_decide_eq_true (Bool.and_eq_true_iff.mp b3).2
        show valN t < 1000
        omega
      · rw [if_neg g]
        exact .inl rfl
    · rw [if_neg h]
      refine .inr ⟨(w, .str t), rfl, Nat.le_trans (pl t (by rw [e]; simp)) hl, fun b => ?_⟩
      unfold dB at b
      dsimp only at b
      by_cases k : w = sAdd
      · rw [if_pos k] at b
        exact ⟨.add t, b, by rw [k]; rfl⟩
      · rw [if_neg k, decide_eq_false h] at b
        cases b
theorem lines_read {ρ : Pu.Env} (hv : ∀ l, vr 2 (setsE ρ [(2, .str l)]) = .ok (.str l)) : ∀ ls : List (List Nat), (∀ l ∈ ls, l.length ≤ 1000) → lcGoX ρ (.nm 2) (calF m_deed_in (argC (vr 2) argN)) (ls.map .str) = .ex ⟨7, none⟩ ∨
    ∃ zs : List (List Nat × D), lcGoX ρ (.nm 2) (calF m_deed_in (argC (vr 2) argN)) (ls.map .str) = .ok (zs.map fun p => D.tup [.str p.1, p.2]) ∧ (∀ p ∈ zs, LX p) ∧ zs.length = ls.length
  | [], _ => .inr ⟨[], rfl, fun _ z => (by cases z), rfl⟩
  | l :: ls, h => by
    have e : calF m_deed_in (argC (vr 2) argN) (setsE ρ [(2, .str l)]) = lineR l := (eK (eC (hv l) rfl)).trans (deed_in_ok (h l List.mem_cons_self))
    have u : lcGoX ρ (.nm 2) (calF m_deed_in (argC (vr 2) argN)) ((l :: ls).map .str) = (lineR l).bind fun y => (lcGoX ρ (.nm 2) (calF m_deed_in (argC (vr 2) argN)) (ls.map .str)).bind fun ys => .ok (y :: ys) := by
      rw [← e]
      rfl
    rw [u]
    rcases line_all (h l List.mem_cons_self) with a | ⟨p, a, lx⟩
    · rw [a]; exact .inl rfl
    · rw [a]
      rcases lines_read hv ls fun x hx => h x (List.mem_cons_of_mem _ hx) with b | ⟨zs, b, c, d⟩
      · rw [b]; exact .inl rfl
      · rw [b]
        refine .inr ⟨p :: zs, rfl, fun q hq => ?_, by rw [List.length_cons, List.length_cons, d]⟩
        rcases List.mem_cons.mp hq with z | z
        · rw [z]; exact lx
        · exact c q z
theorem all_of : ∀ zs : List (List Nat × D), (∀ p ∈ zs, LX p) → (zs.map fun p => dB p.1 p.2).all id = true → ∃ ds : List Deed, (∀ d ∈ ds, d.vd) ∧ (zs.map fun p => D.tup [.str p.1, p.2]) = ds.map Deed.d
  | [], _, _ => ⟨[], fun _ z => (by cases z), rfl⟩
  | p :: zs, h, a => by
    rw [List.map_cons, List.all_cons] at a
    obtain ⟨a1, a2⟩ := Bool.and_eq_true_iff.mp a
    obtain ⟨ds, v, e⟩ := all_of zs (fun q hq => h q (List.mem_cons_of_mem _ hq)) a2
    obtain ⟨d, dv, de⟩ := (h p List.mem_cons_self).2 a1
    refine ⟨d :: ds, fun x hx => ?_, by rw [List.map_cons, List.map_cons, de, e]⟩
    rcases List.mem_cons.mp hx with z | z
    · rw [z]; exact dv
    · exact v x z
abbrev RE0 (s : List Nat) (s1 : Sl) : SEnv := [.sh (.str s), s1, .no, .no]
theorem read_it {s : List Nat} (hs : s.length ≤ 1000) {ps : List (List Nat)} {p : List Nat} (e : spc 10 s = ps ++ [p]) : (itF (slF (mt1 tyStr dSplit (vr 0) (cst (.str [10]))) noP (soP (op1 dNeg (cst (.int 1)))))) (shv (RE0 s .no)) = .ok (ps.map .str) := by
  refine eI (d := .lst (ps.map .str)) (eS (split_q rfl (by decide) (by omega)) rfl (eP (k := -1) (e1 rfl rfl)) ?_) rfl
  show some (D.lst (cut ((spc 10 s).map D.str) none (some (-1)))) = _
  rw [e, List.map_append]
  show some (D.lst (cut (ps.map D.str ++ [.str p]) none (some (-1)))) = _
  rw [cut_last]
theorem read_all {s : List Nat} (hs : s.length ≤ 1000) : m_read_log [.str s] = .ex ⟨7, none⟩ ∨ ∃ ds : List Deed, (∀ d ∈ ds, d.vd) ∧ ds.length ≤ s.length ∧ wl ds = s ∧ m_read_log [.str s] = .ok (.lst (ds.map Deed.d)) := by
  obtain ⟨ps, p, e⟩ := spc_split 10 s
  have pl := spc_len 10 s
  rw [e, List.length_append] at pl
  have pl : ps.length + 1 ≤ s.length + 1 := pl
  have e0 : ifS (noT (tst (op1 (isiD "str") (vr 0)))) (raS 7) nxS (RE0 s .no) = .nx (RE0 s .no) := if_nx (tNo (x := true) (tB (e1 (d := .str s) rfl rfl)))
  have it := read_it hs e
  have lc : ∀ r, lcGoX (wipeE (shv (RE0 s .no)) [2]) (.nm 2) (calF m_deed_in (argC (vr 2) argN)) (ps.map .str) = r → lcX (itF (slF (mt1 tyStr dSplit (vr 0) (cst (.str [10]))) noP (soP (op1 dNeg (cst (.int 1)))))) [2] (.nm 2) (calF m_deed_in (argC (vr 2) argN)) (shv (RE0 s .no)) = r := fun r h => by
    unfold lcX
    rw [it, Res.bind_ok, if_pos (by rw [List.length_map]; omega), h]
  rcases lines_read (ρ := wipeE (shv (RE0 s .no)) [2]) (fun _ => rfl) ps (fun l hl => Nat.le_trans (spc_plen 10 s l (by rw [e]; exact List.mem_append_left _ hl)) hs) with a | ⟨zs, a, lx, zl⟩
  · left
    have a := lc _ a
    refine ex7 (ρ := RE0 s .no) rfl ?_
    show sqS _ _ (RE0 s .no) = _
    rw [sq_nx e0]
    refine sq_ex ?_
    show shB ((ofL _) (shv (RE0 s .no))) _ _ = _
    unfold ofL
    rw [a]
    rfl
  · have a := lc _ a
    have e1' : asS 1 (ofL (lcX (itF (slF (mt1 tyStr dSplit (vr 0) (cst (.str [10]))) noP (soP (op1 dNeg (cst (.int 1)))))) [2] (.nm 2) (calF m_deed_in (argC (vr 2) argN)))) (RE0 s .no) = .nx (RE0 s (.sh (.lst (zs.map fun p => D.tup [.str p.1, p.2])))) := as_nx (eO a)
    have al : opN cAll (argC (ofL (lcO (itF (vr 1)) [3] (.nm 3) yesT (calF m_is_deed (argC (vr 3) argN)))) argN) (pkv (RE0 s (.sh (.lst (zs.map fun p => D.tup [.str p.1, p.2]))))) = .ok (.bl ((zs.map fun p => dB p.1 p.2).all id)) := by
      refine eN (eC (eO (eLc (eI rfl rfl) (by rw [List.length_map]; omega) (lcGo_im (g := fun p => .bl (dB p.1 p.2)) (ps := fun p => [(3, D.tup [.str p.1, p.2])]) fun p hp => ⟨rfl, (eK rfl).trans (is_deed_two (lx p hp).1)⟩))) rfl) ?_
      show (blsOf _).map _ = _
      rw [bls_map]
      rfl
    cases hb : (zs.map fun p => dB p.1 p.2).all id with
    | false =>
      rw [hb] at al
      left
      refine ex7 (ρ := RE0 s (.sh (.lst (zs.map fun p => D.tup [.str p.1, p.2])))) rfl ?_
      show sqS _ _ (RE0 s .no) = _
      rw [sq_nx e0, sq_nx e1']
      exact sq_ex ((if_yes ((tOr (x := true) (y := false) (tNo (tB al)) fun z => nomatch z).trans rfl)).trans ra_ex)
    | true =>
      rw [hb] at al
      obtain ⟨ds, v, ed⟩ := all_of zs lx hb
      rw [ed] at al e1'
      have dl : ds.length = zs.length := by
        have := congrArg List.length ed
        rw [List.length_map, List.length_map] at this
        exact this.symm
      have lt : (tst (op2 dNe (calF m_log_text (argC (vr 1) argN)) (vr 0))) (pkv (RE0 s (.sh (.lst (ds.map Deed.d))))) = .ok (!decide (wl ds = s)) := by
        refine tB (e2 ((eK rfl).trans (log_text_ok v (by omega))) (e := .str s) rfl ?_)
        rw [neq (by show 0 ≤ 60; decide) (by show 0 ≤ 60; decide), eqd_str]
      have or' := tOr (tNo (tB al)) fun _ => lt
      by_cases h : wl ds = s
      · rw [decide_eq_true h] at or'
        exact .inr ⟨ds, v, by omega, h, dm rfl (sq_to e0 (sq_to e1' (sq_to (if_nx or') (re_to rfl))))⟩
      · rw [decide_eq_false h] at or'
        left
        refine ex7 (ρ := RE0 s (.sh (.lst (ds.map Deed.d)))) rfl ?_
        show sqS _ _ (RE0 s .no) = _
        rw [sq_nx e0, sq_nx e1']
        exact sq_ex ((if_yes or').trans ra_ex)
theorem spc_wl : ∀ ds : List Deed, (∀ d ∈ ds, d.vd) → spc 10 (wl ds) = ds.map wrD ++ [[]]
  | [], _ => rfl
  | d :: ds, h => by
    rw [wl_cons, spc_hit _ (wr_no10 (h d List.mem_cons_self)), spc_wl ds fun e he => h e (List.mem_cons_of_mem _ he)]
    rfl
theorem lines_back {ρ : Pu.Env} (hv : ∀ l, vr 2 (setsE ρ [(2, .str l)]) = .ok (.str l)) : ∀ ds : List Deed, (∀ d ∈ ds, d.vd) → lcGoX ρ (.nm 2) (calF m_deed_in (argC (vr 2) argN)) ((ds.map wrD).map .str) = .ok (ds.map Deed.d)
  | [], _ => rfl
  | d :: ds, h => by
    have hd := h d List.mem_cons_self
    have e : calF m_deed_in (argC (vr 2) argN) (setsE ρ [(2, .str (wrD d))]) = .ok d.d := (eK (eC (hv _) rfl)).trans ((deed_in_ok (Nat.le_trans (wr_len hd) (by decide))).trans (line_wr hd))
    have u : lcGoX ρ (.nm 2) (calF m_deed_in (argC (vr 2) argN)) (((d :: ds).map wrD).map .str) = (calF m_deed_in (argC (vr 2) argN) (setsE ρ [(2, .str (wrD d))])).bind fun y => (lcGoX ρ (.nm 2) (calF m_deed_in (argC (vr 2) argN)) ((ds.map wrD).map .str)).bind fun ys => .ok (y :: ys) := rfl
    rw [u, e, lines_back hv ds fun x hx => h x (List.mem_cons_of_mem _ hx)]
    rfl
/-- what is written reads back -/
theorem read_wl {ds : List Deed} (v : ∀ d ∈ ds, d.vd) (hl : ds.length ≤ 20) : m_read_log [.str (wl ds)] = .ok (.lst (ds.map Deed.d)) := by
  have wl' := wl_len ds v
  have hs : (wl ds).length ≤ 1000 := by omega
  have it := read_it hs (spc_wl ds v)
  have e0 : ifS (noT (tst (op1 (isiD "str") (vr 0)))) (raS 7) nxS (RE0 (wl ds) .no) = .nx (RE0 (wl ds) .no) := if_nx (tNo (x := true) (tB (e1 (d := .str (wl ds)) rfl rfl)))
  have a : lcX (itF (slF (mt1 tyStr dSplit (vr 0) (cst (.str [10]))) noP (soP (op1 dNeg (cst (.int 1)))))) [2] (.nm 2) (calF m_deed_in (argC (vr 2) argN)) (shv (RE0 (wl ds) .no)) = .ok (ds.map Deed.d) := by
    unfold lcX
    rw [it, Res.bind_ok, if_pos (by rw [List.length_map, List.length_map]; omega)]
    exact lines_back (fun _ => rfl) ds v
  have e1' : asS 1 (ofL (lcX (itF (slF (mt1 tyStr dSplit (vr 0) (cst (.str [10]))) noP (soP (op1 dNeg (cst (.int 1)))))) [2] (.nm 2) (calF m_deed_in (argC (vr 2) argN)))) (RE0 (wl ds) .no) = .nx (RE0 (wl ds) (.sh (.lst (ds.map Deed.d)))) := as_nx (eO a)
  have al : opN cAll (argC (ofL (lcO (itF (vr 1)) [3] (.nm 3) yesT (calF m_is_deed (argC (vr 3) argN)))) argN) (pkv (RE0 (wl ds) (.sh (.lst (ds.map Deed.d))))) = .ok (.bl true) :=
    eN (eC (eO (eLc (eI rfl rfl) (by rw [List.length_map]; omega) (lcGo_im (g := fun _ => .bl true) (ps := fun d => [(3, d.d)]) fun d hd => ⟨rfl, (eK rfl).trans (is_deed_vd (v d hd))⟩))) rfl) (bls_all ds)
  have lt : (tst (op2 dNe (calF m_log_text (argC (vr 1) argN)) (vr 0))) (pkv (RE0 (wl ds) (.sh (.lst (ds.map Deed.d))))) = .ok false :=
    tB (e2 ((eK rfl).trans (log_text_ok v (by omega))) (e := .str (wl ds)) rfl (ne_same (by show 0 ≤ 60; decide)))
  exact dm rfl (sq_to e0 (sq_to e1' (sq_to (if_nx ((tOr (tNo (tB al)) fun _ => lt).trans rfl)) (re_to rfl))))
end Pu.Sv

namespace Lk68
open PySem PyProof.Rows L2 Pu
def top (i : Nat) : Stmt := PySem.Challenge.pw_slipmotes_k68_texts.main.body.getD i (.Pass ⟨0, 0, 0, 0⟩)
def inn : Stmt → Stmt
  | .ClassDef _ _ _ b .. => b.headD (.Pass ⟨0, 0, 0, 0⟩)
  | s => s
def memb (s : Stmt) (j : Nat) : Stmt := match s with
  | .ClassDef _ _ _ b .. => b.getD j (.Pass ⟨0, 0, 0, 0⟩)
  | s => s
def m__law_again : List D → Res D := dfM 1 1 (tyS [0, 6, 7] (reS (calF m_log_text (argC (calF m_read_log (argC (vr 0) argN)) argN))) [(0, 1, (reS (ifF (tst (op1 (isX [0, 6, 7] 7) (vr 1))) (cst .non) (cst (.str [97, 110, 111, 116, 104, 101, 114, 32, 114, 101, 102, 117, 115, 97, 108])))))])
def m__law_no : List D → Res D := dfM 1 1 (sqS (tyS [0, 6, 7] (exS (calF m_log_text (argC (vr 0) argN))) [(0, 1, (reS (anF (op1 (isX [0, 6, 7] 6) (vr 1)) (noF (op1 (isX [0, 6, 7] 7) (vr 1))))))]) (reS (cst (.bl false))))
def m_law : List D → Res D := dfM 1 14 (sqS (asS 1 (ofL (lcO (rgF (calF m__law_drawn (argC (vr 0) (argC (cst (.int 0)) (argC (cst (.int 7)) argN))))) [2] (.nm 2) yesT (calF m__law_deed (argC (vr 0) (argC (op2 dAdd (cst (.int 10)) (op2 dMul (cst (.int 14)) (vr 2))) (argC (cst (.str [97, 98, 99])) argN))))))) (sqS (paS 5 6 (.s (opN cList (argC (vr 1) argN))) (.s (mt1 tyStr dJoin (cst (.str [])) (ofL (lcO (itF (vr 1)) [13, 14] (.tp [13, 14]) yesT (op2 dAdd (op2 dAdd (op2 dAdd (vr 13) (cst (.str [32]))) (opN cStr (argC (vr 14) argN))) (cst (.str [10])))))))) (sqS (ifS (orT (tst (op2 dNe (calF m_log_text (argC (vr 1) argN)) (vr 6))) (orT (tst (op2 dNe (calF m_read_log (argC (vr 6) argN)) (vr 1))) (tst (op2 dNe (vr 1) (vr 5))))) (reS (cst (.bl false))) nxS) (sqS (forS (rgF (cst (.int 8))) (.nm 2) (sqS (asS 7 (op2 dAdd (cst (.int 200)) (op2 dMul (cst (.int 5)) (vr 2)))) (sqS (paS 10 11 (.s (calF m__law_drawn (argC (vr 0) (argC (vr 7) (argC (op2 dAdd (opN cLen (argC (vr 6) argN)) (cst (.int 1))) argN))))) (.s (op2 dIx (cst (.str [97, 100, 32, 48, 32, 49, 10, 114, 101, 109, 111, 118, 65, 45])) (calF m__law_drawn (argC (vr 0) (argC (op2 dAdd (vr 7) (cst (.int 1))) (argC (cst (.int 14)) argN))))))) (sqS (asS 8 (ifF (tst (op2 dEq (calF m__law_drawn (argC (vr 0) (argC (op2 dAdd (vr 7) (cst (.int 2))) (argC (cst (.int 3)) argN)))) (cst (.int 0)))) (cst (.str [])) (vr 11))) (sqS (asS 9 (op2 dAdd (op2 dAdd (slF (vr 6) noP (soP (vr 10))) (vr 8)) (slF (vr 6) (soP (op2 dAdd (vr 10) (calF m__law_drawn (argC (vr 0) (argC (op2 dAdd (vr 7) (cst (.int 3))) (argC (cst (.int 2)) argN)))))) noP))) (ifS (tst (op2 dNotIn (calF m__law_again (argC (vr 9) argN)) (tupF (argC (cst .non) (argC (vr 9) argN))))) (reS (cst (.bl false))) nxS)))))) (sqS (asS 3 (lstF (argC (cst .non) (argC (cst (.int 7)) (argC (cst (.str [97, 100, 100])) (argC (cst (.str [97, 100, 100, 32, 97])) (argC (cst (.str [10])) (argC (cst (.str [97, 100, 100, 32, 10])) (argC (cst (.str [97, 100, 100, 32, 65, 10])) (argC (cst (.str [32, 97, 100, 100, 32, 97, 10])) (argC (cst (.str [97, 100, 100, 32, 97, 32, 10])) argN))))))))))) (sqS (asS 3 (op2 dAdd (vr 3) (lstF (argC (cst (.str [97, 100, 100, 32, 32, 97, 10])) (argC (cst (.str [114, 101, 109, 111, 118, 101, 10])) (argC (cst (.str [114, 101, 109, 111, 118, 101, 32, 97, 10])) (argC (cst (.str [114, 101, 109, 111, 118, 101, 32, 48, 49, 10])) (argC (cst (.str [114, 101, 109, 111, 118, 101, 32, 45, 49, 10])) argN)))))))) (sqS (asS 3 (op2 dAdd (vr 3) (lstF (argC (cst (.str [114, 101, 109, 111, 118, 101, 32, 49, 48, 48, 48, 10])) (argC (cst (.str [65, 100, 100, 32, 97, 10])) (argC (cst (.str [97, 100, 100, 32, 97, 32, 98, 10])) (argC (cst (.str [97, 100, 100, 32, 97, 49, 10])) (argC (lstF (argC (cst (.str [97, 100, 100, 32, 97, 10])) argN)) argN)))))))) (sqS (asS 3 (op2 dAdd (vr 3) (lstF (argC (op2 dAdd (op2 dAdd (cst (.str [97, 100, 100, 32])) (op2 dMul (cst (.str [97])) (cst (.int 41)))) (cst (.str [10]))) argN)))) (sqS (ifS (tst (op2 dNe (ofL (lcO (itF (vr 3)) [12] (.nm 12) (tst (op2 dIsNot (calF m__law_again (argC (vr 12) argN)) (cst .non))) (vr 12))) (lstF argN))) (reS (cst (.bl false))) nxS) (sqS (asS 4 (lstF (argC (cst .non) (argC (tupF argN) (argC (tupF (argC (cst (.str [97, 100, 100])) (argC (cst (.str [97])) argN))) (argC (lstF (argC (tupF (argC (cst (.str [97, 100, 100])) (argC (cst (.str [])) argN))) argN)) (argC (lstF (argC (tupF (argC (cst (.str [97, 100, 100])) (argC (cst (.str [65])) argN))) argN)) (argC (lstF (argC (tupF (argC (cst (.str [114, 101, 109, 111, 118, 101])) (argC (cst (.int 1000)) argN))) argN)) argN)))))))) (sqS (asS 4 (op2 dAdd (vr 4) (lstF (argC (lstF (argC (tupF (argC (cst (.str [114, 101, 109, 111, 118, 101])) (argC (op1 dNeg (cst (.int 1))) argN))) argN)) (argC (lstF (argC (tupF (argC (cst (.str [114, 101, 109, 111, 118, 101])) (argC (cst (.bl true)) argN))) argN)) (argC (lstF (argC (tupF (argC (cst (.str [97, 100, 100])) (argC (cst (.str [97])) (argC (cst (.int 1)) argN)))) argN)) (argC (lstF (argC (cst .non) argN)) argN))))))) (sqS (ifS (noT (anT (tst (op2 dEq (ofL (lcO (itF (vr 4)) [12] (.nm 12) (noT (tst (calF m__law_no (argC (vr 12) argN)))) (vr 12))) (lstF argN))) (tst (op2 dEq (calF m_read_log (argC (cst (.str [])) argN)) (lstF argN))))) (reS (cst (.bl false))) nxS) (reS (op2 dEq (calF m_read_log (argC (cst (.str [114, 101, 109, 111, 118, 101, 32, 57, 57, 57, 10])) argN)) (lstF (argC (tupF (argC (cst (.str [114, 101, 109, 111, 118, 101])) (argC (cst (.int 999)) argN))) argN))))))))))))))))
structure Fx (K : PySem.W.Frag) (mg : Str → Option Value) : Prop where
  g_all : mg "all" = none
  g_bool : mg "bool" = none
  g_int : mg "int" = none
  g_isinstance : mg "isinstance" = none
  g_len : mg "len" = none
  g_list : mg "list" = none
  g_range : mg "range" = none
  g_str : mg "str" = none
  g_tuple : mg "tuple" = none
  i_MOST_WORD : ∃ t, mg "MOST_WORD" = some (.int 40 t)
  s_FIGURES : ∃ t, mg "FIGURES" = some (.str "0123456789" t)
  s_LETTERS : ∃ t, mg "LETTERS" = some (.str "abcdefghijklmnopqrstuvwxyz" t)
  c_NoDeeds : mg "NoDeeds" = some (.ref (He.ga K "NoDeeds"))
  c_NoText : mg "NoText" = some (.ref (He.ga K "NoText"))
  c_SlipError : mg "SlipError" = some (.ref (He.ga K "SlipError"))
  e_NoDeeds : (He.Fa.exc "NoDeeds").ok K = true
  e_NoText : (He.Fa.exc "NoText").ok K = true
  m_SlipError : ∀ k ∈ ([0, 6, 7] : List Nat), PySem.W.exmOne K (.ref (He.ga K (cN k))) (.ref (He.ga K (cN 0))) = some (takesB k 0)
  k_NoDeeds : ∀ k ∈ ([0, 6, 7] : List Nat), ExcC K (He.ga K (cN k)) ∧ PySem.W.kitOne K (.ref (He.ga K (cN k))) (.ref (He.ga K "NoDeeds")) = some (takesB k 6)
  k_NoText : ∀ k ∈ ([0, 6, 7] : List Nat), ExcC K (He.ga K (cN k)) ∧ PySem.W.kitOne K (.ref (He.ga K (cN k))) (.ref (He.ga K "NoText")) = some (takesB k 7)
def chs : List (PySem.W.Frag → Bool) := [fun K => ([0, 6, 7] : List Nat).all fun k => decide (PySem.W.exmOne K (.ref (He.ga K (cN k))) (.ref (He.ga K (cN 0))) = some (takesB k 0)), fun K => ([0, 6, 7] : List Nat).all fun k => excCB K (He.ga K (cN k)) && decide (PySem.W.kitOne K (.ref (He.ga K (cN k))) (.ref (He.ga K "NoDeeds")) = some (takesB k 6)), fun K => ([0, 6, 7] : List Nat).all fun k => excCB K (He.ga K (cN k)) && decide (PySem.W.kitOne K (.ref (He.ga K (cN k))) (.ref (He.ga K "NoText")) = some (takesB k 7))]
def chk (K : PySem.W.Frag) : Bool := chs.all fun f => f K
section
variable {P : Program} {w : World} {K : PySem.W.Frag} {mg : Str → Option Value} {base : Heap} {f : Addr} {fd : FuncData}
abbrev FD_is_number (K : PySem.W.Frag) (f : Addr) (fd : FuncData) : Prop := FunD K "is_number" "is_number" (defArgs (top 7)) (defBody (top 7)) (defScope (top 7)) [] [] f fd
theorem sc_is_number : FnScope ["thing", "least", "most"] ["thing", "least", "most"] (defScope (top 7)) := ⟨rfl, rfl, rfl, by decide +kernel, rfl, by decide +kernel, by decide +kernel⟩
theorem k_is_number (fx : Fx K mg) (F : FD_is_number K f fd)    : FnOk P w K mg base (L2N.CX P w) 1 f fd ["thing", "least", "most"] (spP K 3 m_is_number) := by
  refine fn_def F sc_is_number rfl rfl fun cdv A outer s H E hr tk hp => ?_
  have hN := (sc_is_number).nd
  exact (s_one (s_ret (p_anV (p_isi (x := "int") (by rfl) fx.g_isinstance (by rfl) fx.g_int (by decide +kernel) (p_var 0)) (p_anV (p_notV (p_isi (x := "bool") (by rfl) fx.g_isinstance (by rfl) fx.g_bool (by decide +kernel) (p_var 0))) (p_oneA (p_ch o_le o_le (p_var 1) (p_var 0) (p_var 2)))))))
theorem f_is_number (fx : Fx K mg) (F : FD_is_number K f fd) (g : mg "is_number" = some (.ref f))    : Fn P w K mg base 1 "is_number" 3 m_is_number :=
  ⟨⟨f, fd, ["thing", "least", "most"], k_is_number fx F   , g, F.kp, F.bindsN fun _ _ _ _ _ _ us hl => match us, hl with | [_, _, _], _ => rfl⟩, fun ds h => dfM_st h⟩
abbrev FD_is_plain (K : PySem.W.Frag) (f : Addr) (fd : FuncData) : Prop := FunD K "is_plain" "is_plain" (defArgs (top 8)) (defBody (top 8)) (defScope (top 8)) [] [] f fd
theorem sc_is_plain : FnScope ["thing", "sign"] ["thing"] (defScope (top 8)) := ⟨rfl, rfl, rfl, by decide +kernel, rfl, by decide +kernel, by decide +kernel⟩
theorem k_is_plain (fx : Fx K mg) (F : FD_is_plain K f fd)    : FnOk P w K mg base (L2N.CX P w) 1 f fd ["thing"] (spP K 1 m_is_plain) := by
  refine fn_def F sc_is_plain rfl rfl fun cdv A outer s H E hr tk hp => ?_
  have hN := (sc_is_plain).nd
  have hu65 : (A.deeper (envOfC "is_plain" (defScope (top 8)) s.heap.objs.size f cdv)).units + 65 < cLine := by have := hr.un; omega
  exact (s_one (s_ret (p_anV (p_isi (x := "str") (by rfl) fx.g_isinstance (by rfl) fx.g_str (by decide +kernel) (p_var 0)) (p_anV (p_ch o_le o_le p_int (p_callB c_len (by rfl) fx.g_len (by decide +kernel) (p_cons (p_var 0) p_nil)) (p_gint (by rfl) fx.i_MOST_WORD)) (p_oneA (p_callB (c_all (by rfl)) (by rfl) fx.g_all (by decide +kernel) (p_cons (p_lc rfl hN (i_data (p_var 0)) (blkOk_by (own := [("sign", 1)]) (by with_unfolding_all rfl)) (fun s H C cl fp => (g_nm 1 hN)) (fun s H C cl fp => t_no) (fun s H C cl fp => (p_cmp (o_in hu65) (p_var 1) (p_gstr (by rfl) fx.s_LETTERS)))) p_nil)))))))
theorem f_is_plain (fx : Fx K mg) (F : FD_is_plain K f fd) (g : mg "is_plain" = some (.ref f))    : Fn P w K mg base 1 "is_plain" 1 m_is_plain :=
  ⟨⟨f, fd, ["thing"], k_is_plain fx F   , g, F.kp, F.bindsN fun _ _ _ _ _ _ us hl => match us, hl with | [_], _ => rfl⟩, fun ds h => dfM_st h⟩
abbrev FD_is_deed (K : PySem.W.Frag) (f : Addr) (fd : FuncData) : Prop := FunD K "is_deed" "is_deed" (defArgs (top 11)) (defBody (top 11)) (defScope (top 11)) [] [] f fd
theorem sc_is_deed : FnScope ["thing"] ["thing"] (defScope (top 11)) := ⟨rfl, rfl, rfl, by decide +kernel, rfl, by decide +kernel, by decide +kernel⟩
theorem k_is_deed (fx : Fx K mg) (F : FD_is_deed K f fd) (F_is_number : Fn P w K mg base 1 "is_number" 3 m_is_number) (F_is_plain : Fn P w K mg base 1 "is_plain" 1 m_is_plain)   : FnOk P w K mg base (L2N.CX P w) 2 f fd ["thing"] (spP K 1 m_is_deed) := by
  refine fn_def F sc_is_deed rfl rfl fun cdv A outer s H E hr tk hp => ?_
  have hN := (sc_is_deed).nd
  have hu64 : (A.deeper (envOfC "is_deed" (defScope (top 11)) s.heap.objs.size f cdv)).units + 64 < cLine := by have := hr.un; omega
  exact (s_cons (s_if (PW.pt (p_or (p_not (p_val (p_isi (x := "tuple") (by rfl) fx.g_isinstance (by rfl) fx.g_tuple (by decide +kernel) (p_var 0)))) (p_or (p_tcmp (o_ne hu64) (p_callB c_len (by rfl) fx.g_len (by decide +kernel) (p_cons (p_var 0) p_nil)) p_int) (p_or1 (p_not (p_val (p_isi (x := "str") (by rfl) fx.g_isinstance (by rfl) fx.g_str (by decide +kernel) (p_ix o_ix (p_var 0) p_int)))))))) (s_one (s_ret p_bl)) s_nil) (s_cons (s_if (p_tcmp (o_eq hu64) (p_ix o_ix (p_var 0) p_int) p_str) (s_one (s_ret (p_call F_is_plain hr tk (p_cons (p_ix o_ix (p_var 0) p_int) p_nil)))) s_nil) (s_one (s_ret (p_anV (p_cmp (o_eq hu64) (p_ix o_ix (p_var 0) p_int) p_str) (p_oneA (p_call F_is_number hr tk (p_cons (p_ix o_ix (p_var 0) p_int) (p_cons p_int (p_cons p_int p_nil))))))))))
theorem f_is_deed (fx : Fx K mg) (F : FD_is_deed K f fd) (g : mg "is_deed" = some (.ref f)) (F_is_number : Fn P w K mg base 1 "is_number" 3 m_is_number) (F_is_plain : Fn P w K mg base 1 "is_plain" 1 m_is_plain)   : Fn P w K mg base 2 "is_deed" 1 m_is_deed :=
  ⟨⟨f, fd, ["thing"], k_is_deed fx F F_is_number F_is_plain  , g, F.kp, F.bindsN fun _ _ _ _ _ _ us hl => match us, hl with | [_], _ => rfl⟩, fun ds h => dfM_st h⟩
abbrev FD_need_deeds (K : PySem.W.Frag) (f : Addr) (fd : FuncData) : Prop := FunD K "need_deeds" "need_deeds" (defArgs (top 12)) (defBody (top 12)) (defScope (top 12)) [] [] f fd
theorem sc_need_deeds : FnScope ["deeds", "deed"] ["deeds"] (defScope (top 12)) := ⟨rfl, rfl, rfl, by decide +kernel, rfl, by decide +kernel, by decide +kernel⟩
theorem k_need_deeds (fx : Fx K mg) (F : FD_need_deeds K f fd) (F_is_deed : Fn P w K mg base 2 "is_deed" 1 m_is_deed)   : FnOk P w K mg base (L2N.CX P w) 3 f fd ["deeds"] (spP K 1 m_need_deeds) := by
  refine fn_def F sc_need_deeds rfl rfl fun cdv A outer s H E hr tk hp => ?_
  have hN := (sc_need_deeds).nd
  exact (s_one (s_if (PW.pt (p_or (p_not (p_val (p_isi (x := "list") (by rfl) fx.g_isinstance (by rfl) fx.g_list (by decide +kernel) (p_var 0)))) (p_or1 (p_not (p_val (p_callB (c_all (by rfl)) (by rfl) fx.g_all (by decide +kernel) (p_cons (p_lc rfl hN (i_data (p_var 0)) (blkOk_by (own := [("deed", 1)]) (by with_unfolding_all rfl)) (fun s H C cl fp => (g_nm 1 hN)) (fun s H C cl fp => t_no) (fun s H C cl fp => (p_call F_is_deed hr tk0 (p_cons (p_var 1) p_nil)))) p_nil))))))) (s_one (s_raise 6 rfl tk fx.c_NoDeeds fx.e_NoDeeds)) s_nil))
theorem f_need_deeds (fx : Fx K mg) (F : FD_need_deeds K f fd) (g : mg "need_deeds" = some (.ref f)) (F_is_deed : Fn P w K mg base 2 "is_deed" 1 m_is_deed)   : Fn P w K mg base 3 "need_deeds" 1 m_need_deeds :=
  ⟨⟨f, fd, ["deeds"], k_need_deeds fx F F_is_deed  , g, F.kp, F.bindsN fun _ _ _ _ _ _ us hl => match us, hl with | [_], _ => rfl⟩, fun ds h => dfM_st h⟩
abbrev FD_log_text (K : PySem.W.Frag) (f : Addr) (fd : FuncData) : Prop := FunD K "log_text" "log_text" (defArgs (top 13)) (defBody (top 13)) (defScope (top 13)) [] [] f fd
theorem sc_log_text : FnScope ["deeds", "word", "what"] ["deeds"] (defScope (top 13)) := ⟨rfl, rfl, rfl, by decide +kernel, rfl, by decide +kernel, by decide +kernel⟩
theorem k_log_text (fx : Fx K mg) (F : FD_log_text K f fd) (F_need_deeds : Fn P w K mg base 3 "need_deeds" 1 m_need_deeds)   : FnOk P w K mg base (L2N.CX P w) 4 f fd ["deeds"] (spP K 1 m_log_text) := by
  refine fn_def F sc_log_text rfl rfl fun cdv A outer s H E hr tk hp => ?_
  have hN := (sc_log_text).nd
  exact (s_cons (s_expr (p_call F_need_deeds hr tk (p_cons (p_var 0) p_nil))) (s_one (s_ret (p_join p_str (p_lc rfl hN (i_data (p_var 0)) (blkOk_by (own := [("word", 1), ("what", 2)]) (by with_unfolding_all rfl)) (fun s H C cl fp => (g_tp rfl (gn_cons (g_nm 1 hN) (gn_cons (g_nm 2 hN) gn_nil)))) (fun s H C cl fp => t_no) (fun s H C cl fp => (p_op o_add (p_op o_add (p_op o_add (p_var 1) p_str) (p_callTy c_str (by rfl) fx.g_str (by decide +kernel) (p_cons (p_var 2) p_nil))) p_str)))))))
theorem f_log_text (fx : Fx K mg) (F : FD_log_text K f fd) (g : mg "log_text" = some (.ref f)) (F_need_deeds : Fn P w K mg base 3 "need_deeds" 1 m_need_deeds)   : Fn P w K mg base 4 "log_text" 1 m_log_text :=
  ⟨⟨f, fd, ["deeds"], k_log_text fx F F_need_deeds  , g, F.kp, F.bindsN fun _ _ _ _ _ _ us hl => match us, hl with | [_], _ => rfl⟩, fun ds h => dfM_st h⟩
abbrev FD_deed_in (K : PySem.W.Frag) (f : Addr) (fd : FuncData) : Prop := FunD K "deed_in" "deed_in" (defArgs (top 14)) (defBody (top 14)) (defScope (top 14)) [] [] f fd
theorem sc_deed_in : FnScope ["line", "word", "rest", "sign"] ["line"] (defScope (top 14)) := ⟨rfl, rfl, rfl, by decide +kernel, rfl, by decide +kernel, by decide +kernel⟩
theorem k_deed_in (fx : Fx K mg) (F : FD_deed_in K f fd)    : FnOk P w K mg base (L2N.CX P w) 1 f fd ["line"] (spP K 1 m_deed_in) := by
  refine fn_def F sc_deed_in rfl rfl fun cdv A outer s H E hr tk hp => ?_
  have hN := (sc_deed_in).nd
  have hu64 : (A.deeper (envOfC "deed_in" (defScope (top 14)) s.heap.objs.size f cdv)).units + 64 < cLine := by have := hr.un; omega
  have hu65 : (A.deeper (envOfC "deed_in" (defScope (top 14)) s.heap.objs.size f cdv)).units + 65 < cLine := by have := hr.un; omega
  exact (s_cons (s_star 1 2 rfl (p_split (p_var 0) p_str) (g_nm 1 hN) (g_nm 2 hN)) (s_cons (s_if (p_tcmp (o_ne hu64) (p_callB c_len (by rfl) fx.g_len (by decide +kernel) (p_cons (p_var 2) p_nil)) p_int) (s_one (s_raise 7 rfl tk fx.c_NoText fx.e_NoText)) s_nil) (s_cons (s_if (p_tcmp (o_eq hu64) (p_var 1) p_str) (s_cons (s_if (PW.pt (p_or (p_not (p_tch o_le o_le p_int (p_callB c_len (by rfl) fx.g_len (by decide +kernel) (p_cons (p_ix o_ix (p_var 2) p_int) p_nil)) p_int)) (p_or1 (p_not (p_val (p_callB (c_all (by rfl)) (by rfl) fx.g_all (by decide +kernel) (p_cons (p_lc rfl hN (i_data (p_ix o_ix (p_var 2) p_int)) (blkOk_by (own := [("sign", 3)]) (by with_unfolding_all rfl)) (fun s H C cl fp => (g_nm 3 hN)) (fun s H C cl fp => t_no) (fun s H C cl fp => (p_cmp (o_in hu65) (p_var 3) (p_gstr (by rfl) fx.s_FIGURES)))) p_nil))))))) (s_one (s_raise 7 rfl tk fx.c_NoText fx.e_NoText)) s_nil) (s_one (s_ret (p_tup (p_cons (p_var 1) (p_cons (p_callTy c_intS (by rfl) fx.g_int (by decide +kernel) (p_cons (p_ix o_ix (p_var 2) p_int) p_nil)) p_nil)))))) s_nil) (s_one (s_ret (p_tup (p_cons (p_var 1) (p_cons (p_ix o_ix (p_var 2) p_int) p_nil))))))))
theorem f_deed_in (fx : Fx K mg) (F : FD_deed_in K f fd) (g : mg "deed_in" = some (.ref f))    : Fn P w K mg base 1 "deed_in" 1 m_deed_in :=
  ⟨⟨f, fd, ["line"], k_deed_in fx F   , g, F.kp, F.bindsN fun _ _ _ _ _ _ us hl => match us, hl with | [_], _ => rfl⟩, fun ds h => dfM_st h⟩
abbrev FD_read_log (K : PySem.W.Frag) (f : Addr) (fd : FuncData) : Prop := FunD K "read_log" "read_log" (defArgs (top 15)) (defBody (top 15)) (defScope (top 15)) [] [] f fd
theorem sc_read_log : FnScope ["text", "found", "line", "deed"] ["text"] (defScope (top 15)) := ⟨rfl, rfl, rfl, by decide +kernel, rfl, by decide +kernel, by decide +kernel⟩
theorem k_read_log (fx : Fx K mg) (F : FD_read_log K f fd) (F_deed_in : Fn P w K mg base 1 "deed_in" 1 m_deed_in) (F_is_deed : Fn P w K mg base 2 "is_deed" 1 m_is_deed) (F_log_text : Fn P w K mg base 4 "log_text" 1 m_log_text)   : FnOk P w K mg base (L2N.CX P w) 5 f fd ["text"] (spP K 1 m_read_log) := by
  refine fn_def F sc_read_log rfl rfl fun cdv A outer s H E hr tk hp => ?_
  have hN := (sc_read_log).nd
  have hu64 : (A.deeper (envOfC "read_log" (defScope (top 15)) s.heap.objs.size f cdv)).units + 64 < cLine := by have := hr.un; omega
  exact (s_cons (s_if (p_not (p_val (p_isi (x := "str") (by rfl) fx.g_isinstance (by rfl) fx.g_str (by decide +kernel) (p_var 0)))) (s_one (s_raise 7 rfl tk fx.c_NoText fx.e_NoText)) s_nil) (s_cons (s_lcX tk rfl hN (i_data (p_sl (p_split (p_var 0) p_str) p_noP (p_soP (p_un o_neg p_int)))) (blkOk_by (own := [("line", 2)]) (by with_unfolding_all rfl)) (fun s H C cl fp xe => (g_nm 2 hN)) (fun σ s H C cl fp xe hx => (p_callP F_deed_in hr hx (p_cons (p_var 2) p_nil)))) (s_cons (s_if (PW.pt (p_or (p_not (p_val (p_callB (c_all (by rfl)) (by rfl) fx.g_all (by decide +kernel) (p_cons (p_lc rfl hN (i_data (p_var 1)) (blkOk_by (own := [("deed", 3)]) (by with_unfolding_all rfl)) (fun s H C cl fp => (g_nm 3 hN)) (fun s H C cl fp => t_no) (fun s H C cl fp => (p_call F_is_deed hr tk0 (p_cons (p_var 3) p_nil)))) p_nil)))) (p_or1 (p_tcmp (o_ne hu64) (p_call F_log_text hr tk (p_cons (p_var 1) p_nil)) (p_var 0))))) (s_one (s_raise 7 rfl tk fx.c_NoText fx.e_NoText)) s_nil) (s_one (s_ret (p_var 1))))))
theorem f_read_log (fx : Fx K mg) (F : FD_read_log K f fd) (g : mg "read_log" = some (.ref f)) (F_deed_in : Fn P w K mg base 1 "deed_in" 1 m_deed_in) (F_is_deed : Fn P w K mg base 2 "is_deed" 1 m_is_deed) (F_log_text : Fn P w K mg base 4 "log_text" 1 m_log_text)   : Fn P w K mg base 5 "read_log" 1 m_read_log :=
  ⟨⟨f, fd, ["text"], k_read_log fx F F_deed_in F_is_deed F_log_text  , g, F.kp, F.bindsN fun _ _ _ _ _ _ us hl => match us, hl with | [_], _ => rfl⟩, fun ds h => dfM_st h⟩
abbrev FD__law_drawn (K : PySem.W.Frag) (f : Addr) (fd : FuncData) : Prop := FunD K "_law_drawn" "_law_drawn" (defArgs (top 17)) (defBody (top 17)) (defScope (top 17)) [] [] f fd
theorem sc__law_drawn : FnScope ["script", "k", "many", "cell", "turn", "rest"] ["script", "k", "many"] (defScope (top 17)) := ⟨rfl, rfl, rfl, by decide +kernel, rfl, by decide +kernel, by decide +kernel⟩
theorem k__law_drawn (fx : Fx K mg) (F : FD__law_drawn K f fd)    : FnOk P w K mg base (L2N.CX P w) 1 f fd ["script", "k", "many"] (spP K 3 m__law_drawn) := by
  refine fn_def F sc__law_drawn rfl rfl fun cdv A outer s H E hr tk hp => ?_
  have hN := (sc__law_drawn).nd
  have hu64 : (A.deeper (envOfC "_law_drawn" (defScope (top 17)) s.heap.objs.size f cdv)).units + 64 < cLine := by have := hr.un; omega
  exact (s_cons (s_set 3 hN (p_op o_mul p_int (p_var 1))) (s_cons (s_if (p_tcmp (o_ne hu64) (p_var 0) (p_lst p_nil)) (s_cons (s_set 3 hN (p_ix o_ix (p_var 0) (p_op o_mod (p_var 1) (p_callB c_len (by rfl) fx.g_len (by decide +kernel) (p_cons (p_var 0) p_nil))))) (s_cons (s_set 4 hN (p_op o_fdiv (p_var 1) (p_callB c_len (by rfl) fx.g_len (by decide +kernel) (p_cons (p_var 0) p_nil)))) (s_cons (s_if (PW.pt (p_an (p_tcmp o_ge (p_var 3) (p_op o_pow p_int p_int)) (p_an1 (p_tcmp o_lt (p_var 4) p_int)))) (s_cons (s_set 5 hN (p_op o_fdiv (p_var 3) (p_op o_pow p_int p_int))) (s_cons (s_while 1000 hp (PW.pt (p_an (p_tcmp o_gt (p_var 5) p_int) (p_an1 (p_tcmp o_gt (p_var 4) p_int)))) (s_cons (s_set 5 hN (p_op o_fdiv (p_var 5) p_int)) (s_one (s_set 4 hN (p_op o_sub (p_var 4) p_int))))) (s_one (s_if (p_tcmp o_gt (p_var 5) p_int) (s_one (s_ret (p_op o_mod (p_op o_mod (p_var 5) p_int) (p_var 2)))) s_nil)))) s_nil) (s_one (s_set 3 hN (p_op o_add (p_var 3) (p_op o_mul p_int (p_op o_fdiv (p_var 1) (p_callB c_len (by rfl) fx.g_len (by decide +kernel) (p_cons (p_var 0) p_nil)))))))))) s_nil) (s_cons (s_set 3 hN (p_op o_mod (p_op o_add (p_op o_mul (p_op o_mod (p_var 3) p_int) p_int) (p_op o_mul p_int (p_op o_add (p_var 1) p_int))) p_int)) (s_cons (s_set 3 hN (p_op o_mod (p_op o_add (p_op o_mul (p_var 3) (p_var 3)) (p_op o_fdiv (p_var 3) p_int)) p_int)) (s_one (s_ret (p_op o_mod (p_op o_fdiv (p_op o_mod (p_op o_add (p_op o_mul (p_var 3) (p_var 3)) (p_op o_fdiv (p_var 3) p_int)) p_int) p_int) (p_var 2))))))))
theorem f__law_drawn (fx : Fx K mg) (F : FD__law_drawn K f fd) (g : mg "_law_drawn" = some (.ref f))    : Fn P w K mg base 1 "_law_drawn" 3 m__law_drawn :=
  ⟨⟨f, fd, ["script", "k", "many"], k__law_drawn fx F   , g, F.kp, F.bindsN fun _ _ _ _ _ _ us hl => match us, hl with | [_, _, _], _ => rfl⟩, fun ds h => dfM_st h⟩
abbrev FD__law_word (K : PySem.W.Frag) (f : Addr) (fd : FuncData) : Prop := FunD K "_law_word" "_law_word" (defArgs (top 18)) (defBody (top 18)) (defScope (top 18)) [] [] f fd
theorem sc__law_word : FnScope ["script", "at", "alphabet", "length", "k"] ["script", "at", "alphabet", "length"] (defScope (top 18)) := ⟨rfl, rfl, rfl, by decide +kernel, rfl, by decide +kernel, by decide +kernel⟩
theorem k__law_word (fx : Fx K mg) (F : FD__law_word K f fd) (F__law_drawn : Fn P w K mg base 1 "_law_drawn" 3 m__law_drawn)   : FnOk P w K mg base (L2N.CX P w) 2 f fd ["script", "at", "alphabet", "length"] (spP K 4 m__law_word) := by
  refine fn_def F sc__law_word rfl rfl fun cdv A outer s H E hr tk hp => ?_
  have hN := (sc__law_word).nd
  exact (s_one (s_ret (p_join p_str (p_lc rfl hN (i_range (by rfl) fx.g_range (p_var 3)) (blkOk_by (own := [("k", 4)]) (by with_unfolding_all rfl)) (fun s H C cl fp => (g_nm 4 hN)) (fun s H C cl fp => t_no) (fun s H C cl fp => (p_ix o_ix (p_var 2) (p_call F__law_drawn hr tk0 (p_cons (p_var 0) (p_cons (p_op o_add (p_var 1) (p_var 4)) (p_cons (p_callB c_len (by rfl) fx.g_len (by decide +kernel) (p_cons (p_var 2) p_nil)) p_nil))))))))))
theorem f__law_word (fx : Fx K mg) (F : FD__law_word K f fd) (g : mg "_law_word" = some (.ref f)) (F__law_drawn : Fn P w K mg base 1 "_law_drawn" 3 m__law_drawn)   : Fn P w K mg base 2 "_law_word" 4 m__law_word :=
  ⟨⟨f, fd, ["script", "at", "alphabet", "length"], k__law_word fx F F__law_drawn  , g, F.kp, F.bindsN fun _ _ _ _ _ _ us hl => match us, hl with | [_, _, _, _], _ => rfl⟩, fun ds h => dfM_st h⟩
abbrev FD__law_deed (K : PySem.W.Frag) (f : Addr) (fd : FuncData) : Prop := FunD K "_law_deed" "_law_deed" (defArgs (top 19)) (defBody (top 19)) (defScope (top 19)) [] [] f fd
theorem sc__law_deed : FnScope ["script", "at", "alphabet"] ["script", "at", "alphabet"] (defScope (top 19)) := ⟨rfl, rfl, rfl, by decide +kernel, rfl, by decide +kernel, by decide +kernel⟩
theorem k__law_deed (fx : Fx K mg) (F : FD__law_deed K f fd) (F__law_drawn : Fn P w K mg base 1 "_law_drawn" 3 m__law_drawn) (F__law_word : Fn P w K mg base 2 "_law_word" 4 m__law_word)   : FnOk P w K mg base (L2N.CX P w) 3 f fd ["script", "at", "alphabet"] (spP K 3 m__law_deed) := by
  refine fn_def F sc__law_deed rfl rfl fun cdv A outer s H E hr tk hp => ?_
  have hN := (sc__law_deed).nd
  have hu64 : (A.deeper (envOfC "_law_deed" (defScope (top 19)) s.heap.objs.size f cdv)).units + 64 < cLine := by have := hr.un; omega
  exact (s_cons (s_if (p_tcmp (o_eq hu64) (p_call F__law_drawn hr tk (p_cons (p_var 0) (p_cons (p_var 1) (p_cons p_int p_nil)))) p_int) (s_one (s_ret (p_tup (p_cons p_str (p_cons (p_call F__law_drawn hr tk (p_cons (p_var 0) (p_cons (p_op o_add (p_var 1) p_int) (p_cons p_int p_nil)))) p_nil))))) s_nil) (s_one (s_ret (p_tup (p_cons p_str (p_cons (p_call F__law_word hr tk (p_cons (p_var 0) (p_cons (p_op o_add (p_var 1) p_int) (p_cons (p_var 2) (p_cons (p_op o_add p_int (p_call F__law_drawn hr tk (p_cons (p_var 0) (p_cons (p_op o_add (p_var 1) p_int) (p_cons p_int p_nil))))) p_nil))))) p_nil))))))
theorem f__law_deed (fx : Fx K mg) (F : FD__law_deed K f fd) (g : mg "_law_deed" = some (.ref f)) (F__law_drawn : Fn P w K mg base 1 "_law_drawn" 3 m__law_drawn) (F__law_word : Fn P w K mg base 2 "_law_word" 4 m__law_word)   : Fn P w K mg base 3 "_law_deed" 3 m__law_deed :=
  ⟨⟨f, fd, ["script", "at", "alphabet"], k__law_deed fx F F__law_drawn F__law_word  , g, F.kp, F.bindsN fun _ _ _ _ _ _ us hl => match us, hl with | [_, _, _], _ => rfl⟩, fun ds h => dfM_st h⟩
abbrev FD__law_again (K : PySem.W.Frag) (f : Addr) (fd : FuncData) : Prop := FunD K "_law_again" "_law_again" (defArgs (top 20)) (defBody (top 20)) (defScope (top 20)) [] [] f fd
theorem sc__law_again : FnScope ["text", "e"] ["text"] (defScope (top 20)) := ⟨rfl, rfl, rfl, by decide +kernel, rfl, by decide +kernel, by decide +kernel⟩
theorem k__law_again (fx : Fx K mg) (F : FD__law_again K f fd) (F_log_text : Fn P w K mg base 4 "log_text" 1 m_log_text) (F_read_log : Fn P w K mg base 5 "read_log" 1 m_read_log)   : FnOk P w K mg base (L2N.CX P w) 6 f fd ["text"] (spP K 1 m__law_again) := by
  refine fn_def F sc__law_again rfl rfl fun cdv A outer s H E hr tk hp => ?_
  let Xs := cxOf (L2N.CX P w) P w K mg base ["text", "e"] "_law_again" (defScope (top 20)) f cdv A outer s H E
  have hN := (sc__law_again).nd
  exact (s_one (s_try [0, 6, 7] tk (fun W pn xe tk hp => (s_one (s_ret (p_call F_log_text hr tk (p_cons (p_call F_read_log hr tk (p_cons (p_var 0) p_nil)) p_nil))))) (.cons hN ⟨rfl, rfl, .inl fx.c_SlipError⟩ fx.m_SlipError (fun a o cls dx pn hz hf => (s_one (s_ret (p_if (p_val (p_isXc (X := Xs) 1 7 [0, 6, 7] fx.g_isinstance fx.c_NoText fx.k_NoText hz hf)) p_non p_str)))) .nil)))
theorem f__law_again (fx : Fx K mg) (F : FD__law_again K f fd) (g : mg "_law_again" = some (.ref f)) (F_log_text : Fn P w K mg base 4 "log_text" 1 m_log_text) (F_read_log : Fn P w K mg base 5 "read_log" 1 m_read_log)   : Fn P w K mg base 6 "_law_again" 1 m__law_again :=
  ⟨⟨f, fd, ["text"], k__law_again fx F F_log_text F_read_log  , g, F.kp, F.bindsN fun _ _ _ _ _ _ us hl => match us, hl with | [_], _ => rfl⟩, fun ds h => dfM_st h⟩
abbrev FD__law_no (K : PySem.W.Frag) (f : Addr) (fd : FuncData) : Prop := FunD K "_law_no" "_law_no" (defArgs (top 21)) (defBody (top 21)) (defScope (top 21)) [] [] f fd
theorem sc__law_no : FnScope ["deeds", "e"] ["deeds"] (defScope (top 21)) := ⟨rfl, rfl, rfl, by decide +kernel, rfl, by decide +kernel, by decide +kernel⟩
theorem k__law_no (fx : Fx K mg) (F : FD__law_no K f fd) (F_log_text : Fn P w K mg base 4 "log_text" 1 m_log_text)   : FnOk P w K mg base (L2N.CX P w) 5 f fd ["deeds"] (spP K 1 m__law_no) := by
  refine fn_def F sc__law_no rfl rfl fun cdv A outer s H E hr tk hp => ?_
  let Xs := cxOf (L2N.CX P w) P w K mg base ["deeds", "e"] "_law_no" (defScope (top 21)) f cdv A outer s H E
  have hN := (sc__law_no).nd
  exact (s_cons (s_try [0, 6, 7] tk (fun W pn xe tk hp => (s_one (s_expr (p_call F_log_text hr tk (p_cons (p_var 0) p_nil))))) (.cons hN ⟨rfl, rfl, .inl fx.c_SlipError⟩ fx.m_SlipError (fun a o cls dx pn hz hf => (s_one (s_ret (p_anV (p_isXc (X := Xs) 1 6 [0, 6, 7] fx.g_isinstance fx.c_NoDeeds fx.k_NoDeeds hz hf) (p_oneA (p_notV (p_isXc (X := Xs) 1 7 [0, 6, 7] fx.g_isinstance fx.c_NoText fx.k_NoText hz hf))))))) .nil)) (s_one (s_ret p_bl)))
theorem f__law_no (fx : Fx K mg) (F : FD__law_no K f fd) (g : mg "_law_no" = some (.ref f)) (F_log_text : Fn P w K mg base 4 "log_text" 1 m_log_text)   : Fn P w K mg base 5 "_law_no" 1 m__law_no :=
  ⟨⟨f, fd, ["deeds"], k__law_no fx F F_log_text  , g, F.kp, F.bindsN fun _ _ _ _ _ _ us hl => match us, hl with | [_], _ => rfl⟩, fun ds h => dfM_st h⟩
abbrev FD_law (K : PySem.W.Frag) (f : Addr) (fd : FuncData) : Prop := FunD K "law" "law" (defArgs (top 22)) (defBody (top 22)) (defScope (top 22)) [] [] f fd
theorem sc_law : FnScope ["script", "log", "k", "bad", "none", "kept", "text", "at", "put", "spoilt", "place", "sign", "thing", "word", "what"] ["script"] (defScope (top 22)) := ⟨rfl, rfl, rfl, by decide +kernel, rfl, by decide +kernel, by decide +kernel⟩
theorem k_law (fx : Fx K mg) (F : FD_law K f fd) (F__law_again : Fn P w K mg base 6 "_law_again" 1 m__law_again) (F__law_deed : Fn P w K mg base 3 "_law_deed" 3 m__law_deed) (F__law_drawn : Fn P w K mg base 1 "_law_drawn" 3 m__law_drawn) (F__law_no : Fn P w K mg base 5 "_law_no" 1 m__law_no) (F_log_text : Fn P w K mg base 4 "log_text" 1 m_log_text) (F_read_log : Fn P w K mg base 5 "read_log" 1 m_read_log)   : FnOk P w K mg base (L2N.CX P w) 7 f fd ["script"] (spP K 1 m_law) := by
  refine fn_def F sc_law rfl rfl fun cdv A outer s H E hr tk hp => ?_
  have hN := (sc_law).nd
  have hu64 : (A.deeper (envOfC "law" (defScope (top 22)) s.heap.objs.size f cdv)).units + 64 < cLine := by have := hr.un; omega
  have hu65 : (A.deeper (envOfC "law" (defScope (top 22)) s.heap.objs.size f cdv)).units + 65 < cLine := by have := hr.un; omega
  exact (s_cons (s_lc rfl hN (i_range (by rfl) fx.g_range (p_call F__law_drawn hr tk (p_cons (p_var 0) (p_cons p_int (p_cons p_int p_nil))))) (blkOk_by (own := [("k", 2)]) (by with_unfolding_all rfl)) (fun s H C cl fp => (g_nm 2 hN)) (fun s H C cl fp => t_no) (fun s H C cl fp => (p_call F__law_deed hr tk0 (p_cons (p_var 0) (p_cons (p_op o_add p_int (p_op o_mul p_int (p_var 2))) (p_cons p_str p_nil)))))) (s_cons (s_par 5 6 rfl hN (z_s (p_callTy c_list (by rfl) fx.g_list (by decide +kernel) (p_cons (p_var 1) p_nil))) (z_s (p_join p_str (p_lc rfl hN (i_data (p_var 1)) (blkOk_by (own := [("word", 13), ("what", 14)]) (by with_unfolding_all rfl)) (fun s H C cl fp => (g_tp rfl (gn_cons (g_nm 13 hN) (gn_cons (g_nm 14 hN) gn_nil)))) (fun s H C cl fp => t_no) (fun s H C cl fp => (p_op o_add (p_op o_add (p_op o_add (p_var 13) p_str) (p_callTy c_str (by rfl) fx.g_str (by decide +kernel) (p_cons (p_var 14) p_nil))) p_str)))))) (s_cons (s_if (PW.pt (p_or (p_tcmp (o_ne hu64) (p_call F_log_text hr tk (p_cons (p_var 1) p_nil)) (p_var 6)) (p_or (p_tcmp (o_ne hu64) (p_call F_read_log hr tk (p_cons (p_var 6) p_nil)) (p_var 1)) (p_or1 (p_tcmp (o_ne hu64) (p_var 1) (p_var 5)))))) (s_one (s_ret p_bl)) s_nil) (s_cons (s_for hp rfl (i_range (by rfl) fx.g_range p_int) (g_nm 2 hN) (s_cons (s_set 7 hN (p_op o_add p_int (p_op o_mul p_int (p_var 2)))) (s_cons (s_par 10 11 rfl hN (z_s (p_call F__law_drawn hr tk (p_cons (p_var 0) (p_cons (p_var 7) (p_cons (p_op o_add (p_callB c_len (by rfl) fx.g_len (by decide +kernel) (p_cons (p_var 6) p_nil)) p_int) p_nil))))) (z_s (p_ix o_ix p_str (p_call F__law_drawn hr tk (p_cons (p_var 0) (p_cons (p_op o_add (p_var 7) p_int) (p_cons p_int p_nil))))))) (s_cons (s_set 8 hN (p_if (p_tcmp (o_eq hu64) (p_call F__law_drawn hr tk (p_cons (p_var 0) (p_cons (p_op o_add (p_var 7) p_int) (p_cons p_int p_nil)))) p_int) p_str (p_var 11))) (s_cons (s_set 9 hN (p_op o_add (p_op o_add (p_sl (p_var 6) p_noP (p_soP (p_var 10))) (p_var 8)) (p_sl (p_var 6) (p_soP (p_op o_add (p_var 10) (p_call F__law_drawn hr tk (p_cons (p_var 0) (p_cons (p_op o_add (p_var 7) p_int) (p_cons p_int p_nil)))))) p_noP))) (s_one (s_if (p_tcmp (o_notIn hu65) (p_call F__law_again hr tk (p_cons (p_var 9) p_nil)) (p_tup (p_cons p_non (p_cons (p_var 9) p_nil)))) (s_one (s_ret p_bl)) s_nil))))))) (s_cons (s_set 3 hN (p_lst (p_cons p_non (p_cons p_int (p_cons p_str (p_cons p_str (p_cons p_str (p_cons p_str (p_cons p_str (p_cons p_str (p_cons p_str p_nil))))))))))) (s_cons (s_set 3 hN (p_op o_add (p_var 3) (p_lst (p_cons p_str (p_cons p_str (p_cons p_str (p_cons p_str (p_cons p_str p_nil)))))))) (s_cons (s_set 3 hN (p_op o_add (p_var 3) (p_lst (p_cons p_str (p_cons p_str (p_cons p_str (p_cons p_str (p_cons (p_lst (p_cons p_str p_nil)) p_nil)))))))) (s_cons (s_set 3 hN (p_op o_add (p_var 3) (p_lst (p_cons (p_op o_add (p_op o_add p_str (p_op o_mul p_str p_int)) p_str) p_nil)))) (s_cons (s_if (p_tcmp (o_ne hu64) (p_lc rfl hN (i_data (p_var 3)) (blkOk_by (own := [("thing", 12)]) (by with_unfolding_all rfl)) (fun s H C cl fp => (g_nm 12 hN)) (fun s H C cl fp => (t_one (p_tcmp o_isNot (p_call F__law_again hr tk0 (p_cons (p_var 12) p_nil)) p_non))) (fun s H C cl fp => (p_var 12))) (p_lst p_nil)) (s_one (s_ret p_bl)) s_nil) (s_cons (s_set 4 hN (p_lst (p_cons p_non (p_cons (p_tup p_nil) (p_cons (p_tup (p_cons p_str (p_cons p_str p_nil))) (p_cons (p_lst (p_cons (p_tup (p_cons p_str (p_cons p_str p_nil))) p_nil)) (p_cons (p_lst (p_cons (p_tup (p_cons p_str (p_cons p_str p_nil))) p_nil)) (p_cons (p_lst (p_cons (p_tup (p_cons p_str (p_cons p_int p_nil))) p_nil)) p_nil)))))))) (s_cons (s_set 4 hN (p_op o_add (p_var 4) (p_lst (p_cons (p_lst (p_cons (p_tup (p_cons p_str (p_cons (p_un o_neg p_int) p_nil))) p_nil)) (p_cons (p_lst (p_cons (p_tup (p_cons p_str (p_cons p_bl p_nil))) p_nil)) (p_cons (p_lst (p_cons (p_tup (p_cons p_str (p_cons p_str (p_cons p_int p_nil)))) p_nil)) (p_cons (p_lst (p_cons p_non p_nil)) p_nil))))))) (s_cons (s_if (p_not (PW.pt (p_an (p_tcmp (o_eq hu64) (p_lc rfl hN (i_data (p_var 4)) (blkOk_by (own := [("thing", 12)]) (by with_unfolding_all rfl)) (fun s H C cl fp => (g_nm 12 hN)) (fun s H C cl fp => (t_one (p_not (p_val (p_call F__law_no hr tk0 (p_cons (p_var 12) p_nil)))))) (fun s H C cl fp => (p_var 12))) (p_lst p_nil)) (p_an1 (p_tcmp (o_eq hu64) (p_call F_read_log hr tk (p_cons p_str p_nil)) (p_lst p_nil)))))) (s_one (s_ret p_bl)) s_nil) (s_one (s_ret (p_cmp (o_eq hu64) (p_call F_read_log hr tk (p_cons p_str p_nil)) (p_lst (p_cons (p_tup (p_cons p_str (p_cons p_int p_nil))) p_nil)))))))))))))))))
theorem f_law (fx : Fx K mg) (F : FD_law K f fd) (g : mg "law" = some (.ref f)) (F__law_again : Fn P w K mg base 6 "_law_again" 1 m__law_again) (F__law_deed : Fn P w K mg base 3 "_law_deed" 3 m__law_deed) (F__law_drawn : Fn P w K mg base 1 "_law_drawn" 3 m__law_drawn) (F__law_no : Fn P w K mg base 5 "_law_no" 1 m__law_no) (F_log_text : Fn P w K mg base 4 "log_text" 1 m_log_text) (F_read_log : Fn P w K mg base 5 "read_log" 1 m_read_log)   : Fn P w K mg base 7 "law" 1 m_law :=
  ⟨⟨f, fd, ["script"], k_law fx F F__law_again F__law_deed F__law_drawn F__law_no F_log_text F_read_log  , g, F.kp, F.bindsN fun _ _ _ _ _ _ us hl => match us, hl with | [_], _ => rfl⟩, fun ds h => dfM_st h⟩
end
end Lk68

namespace Lk68
open PySem L2 Pu Pu.Sv
theorem again_ok {s : List Nat} (hs : s.length ≤ 1000) : m__law_again [.str s] = .ok .non ∨ m__law_again [.str s] = .ok (.str s) := by
  rcases read_all hs with h | ⟨ds, v, l, e, h⟩
  · left
    have : (calF m_log_text (argC (calF m_read_log (argC (vr 0) argN)) argN)) (pkv [.sh (.str s), .no]) = .ex ⟨7, none⟩ := by
      have r : calF m_read_log (argC (vr 0) argN) (pkv [.sh (.str s), .no]) = .ex ⟨7, none⟩ := (eK rfl).trans h
      show Res.bind (Res.bind (calF m_read_log (argC (vr 0) argN) (pkv [.sh (.str s), .no])) _) _ = _
      rw [r]
      rfl
    exact dm rfl (congrArg outR (ty_ex (x := ⟨7, none⟩) (o := .rt .non) (re_ex (ρ := [.sh (.str s), .no]) this) rfl))
  · right
    refine dm rfl ?_
    have : (calF m_log_text (argC (calF m_read_log (argC (vr 0) argN)) argN)) (pkv [.sh (.str s), .no]) = .ok (.str s) := (eK (eC ((eK rfl).trans h) rfl)).trans ((log_text_ok v (by omega)).trans (by rw [e]))
    unfold tyS
    rw [show [D.str s].map Sl.sh ++ noS 1 = [.sh (.str s), .no] from rfl, re_rt this]
    rfl
theorem lin {a b k : Nat} (hk : k ≤ 1000) (hb : b ≤ 1000) {ε : Pu.Env} {i : Nat} (e : vr i ε = .ok (.int (k : Nat))) : op2 dAdd (cst (.int (a : Nat))) (op2 dMul (cst (.int (b : Nat))) (vr i)) ε = .ok (.int ((a + b * k : Nat) : Int)) := by
  refine e2 rfl (e2 rfl e (mulq (by omega) (by omega))) ?_
  show some (D.int (((a : Nat) : Int) + ((b : Nat) : Int) * ((k : Nat) : Int))) = _
  rw [Int.natCast_add, Int.natCast_mul]
theorem abc4 : ([97, 98, 99] : List Nat) ∈ A4 := by decide
theorem deeds_of : ∀ ys : List D, (∀ y ∈ ys, ∃ d : Deed, d.ok [97, 98, 99] ∧ y = d.d) → ∃ ds : List Deed, (∀ d ∈ ds, d.ok [97, 98, 99]) ∧ ys = ds.map Deed.d
  | [], _ => ⟨[], fun _ z => (by cases z), rfl⟩
  | y :: ys, h => by
    obtain ⟨d, ok, e⟩ := h y List.mem_cons_self
    obtain ⟨ds, oks, es⟩ := deeds_of ys fun z hz => h z (List.mem_cons_of_mem _ hz)
    refine ⟨d :: ds, fun x hx => ?_, by rw [e, es]; rfl⟩
    rcases List.mem_cons.mp hx with z | z
    · rw [z]; exact ok
    · exact oks x z
theorem not_in {v : D} {s : List Nat} (h : v = .non ∨ v = .str s) : dNotIn v (.tup [.non, .str s]) = some (.bl false) := by
  have key : ∀ v : D, dep v = 0 → mem1 v [.non, .str s] = true → (match v, s with | .str [c], _ => False | _, _ => True) ∨ True := fun _ _ _ => .inr trivial
  rcases h with rfl | rfl
  · show (if dep D.non = 0 ∧ depL [D.non, .str s] = 0 then some (D.bl (!mem1 .non [.non, .str s])) else none) = _
    rw [if_pos ⟨rfl, rfl⟩]
    have : mem1 .non [.non, .str s] = true := List.any_eq_true.mpr ⟨.non, by simp, eqd_refl _⟩
    rw [this]
    rfl
  · have e : dNotIn (.str s) (.tup [.non, .str s]) = (if dep (D.str s) = 0 ∧ depL [D.non, .str s] = 0 then some (D.bl (!mem1 (.str s) [.non, .str s])) else none) := by
      match s with
      | [] => rfl
      | [_] => rfl
      | _ :: _ :: _ => rfl
    rw [e, if_pos ⟨rfl, rfl⟩]
    have : mem1 (.str s) [.non, .str s] = true := List.any_eq_true.mpr ⟨.str s, by simp, eqd_refl _⟩
    rw [this]
    rfl
def isR (b : Res D) (d : D) : Bool := match b, d with
  | .ok .non, .non => true
  | .ok (.bl x), .bl y => x == y
  | _, _ => false
theorem isR_non {r : Res D} (h : isR r .non = true) : r = .ok .non := by
  unfold isR at h
  split at h
  · rfl
  · rename_i hh; cases hh
  · cases h
theorem isR_t {r : Res D} (h : isR r (.bl true) = true) : r = .ok (.bl true) := by
  unfold isR at h
  split at h
  · rename_i hh; cases hh
  · rename_i hh
    cases hh
    rw [eq_of_beq h]
  · cases h
def bad : List D := [.non, .int 7, .str [97, 100, 100], .str [97, 100, 100, 32, 97], .str [10], .str [97, 100, 100, 32, 10], .str [97, 100, 100, 32, 65, 10], .str [32, 97, 100, 100, 32, 97, 10], .str [97, 100, 100, 32, 97, 32, 10],
  .str [97, 100, 100, 32, 32, 97, 10], .str [114, 101, 109, 111, 118, 101, 10], .str [114, 101, 109, 111, 118, 101, 32, 97, 10], .str [114, 101, 109, 111, 118, 101, 32, 48, 49, 10], .str [114, 101, 109, 111, 118, 101, 32, 45, 49, 10],
  .str [114, 101, 109, 111, 118, 101, 32, 49, 48, 48, 48, 10], .str [65, 100, 100, 32, 97, 10], .str [97, 100, 100, 32, 97, 32, 98, 10], .str [97, 100, 100, 32, 97, 49, 10], .lst [.str [97, 100, 100, 32, 97, 10]],
  .str ([97, 100, 100, 32] ++ List.replicate 41 97 ++ [10])]
theorem bad_no : ∀ d ∈ bad, m__law_again [d] = .ok .non := by
  have : (bad.all fun d => isR (m__law_again [d]) .non) = true := by decide +kernel
  exact fun d hd => isR_non (List.all_eq_true.mp this d hd)
def non : List D := [.non, .tup [], .tup [.str [97, 100, 100], .str [97]], .lst [.tup [.str [97, 100, 100], .str []]], .lst [.tup [.str [97, 100, 100], .str [65]]], .lst [.tup [.str [114, 101, 109, 111, 118, 101], .int 1000]],
  .lst [.tup [.str [114, 101, 109, 111, 118, 101], .int (-1)]], .lst [.tup [.str [114, 101, 109, 111, 118, 101], .bl true]], .lst [.tup [.str [97, 100, 100], .str [97], .int 1]], .lst [.non]]
theorem non_no : ∀ d ∈ non, m__law_no [d] = .ok (.bl true) := by
  have : (non.all fun d => isR (m__law_no [d]) (.bl true)) = true := by decide +kernel
  exact fun d hd => isR_t (List.all_eq_true.mp this d hd)
abbrev SG : List Nat := [97, 100, 32, 48, 32, 49, 10, 114, 101, 109, 111, 118, 65, 45]
abbrev E68 (ns : List Int) (ds : List Deed) (s2 s3 s4 s7 s8 s9 s10 s11 : Sl) : SEnv := [.sh (.frl (ns.map .int)), .sh (.lst (ds.map Deed.d)), s2, s3, s4, .sh (.lst (ds.map Deed.d)), .sh (.str (wl ds)), s7, s8, s9, s10, s11, .no, .no, .no]
abbrev body68 : SF := (sqS (asS 7 (op2 dAdd (cst (.int 200)) (op2 dMul (cst (.int 5)) (vr 2)))) (sqS (paS 10 11 (.s (calF m__law_drawn (argC (vr 0) (argC (vr 7) (argC (op2 dAdd (opN cLen (argC (vr 6) argN)) (cst (.int 1))) argN))))) (.s (op2 dIx (cst (.str [97, 100, 32, 48, 32, 49, 10, 114, 101, 109, 111, 118, 65, 45])) (calF m__law_drawn (argC (vr 0) (argC (op2 dAdd (vr 7) (cst (.int 1))) (argC (cst (.int 14)) argN))))))) (sqS (asS 8 (ifF (tst (op2 dEq (calF m__law_drawn (argC (vr 0) (argC (op2 dAdd (vr 7) (cst (.int 2))) (argC (cst (.int 3)) argN)))) (cst (.int 0)))) (cst (.str [])) (vr 11))) (sqS (asS 9 (op2 dAdd (op2 dAdd (slF (vr 6) noP (soP (vr 10))) (vr 8)) (slF (vr 6) (soP (op2 dAdd (vr 10) (calF m__law_drawn (argC (vr 0) (argC (op2 dAdd (vr 7) (cst (.int 3))) (argC (cst (.int 2)) argN)))))) noP))) (ifS (tst (op2 dNotIn (calF m__law_again (argC (vr 9) argN)) (tupF (argC (cst .non) (argC (vr 9) argN))))) (reS (cst (.bl false))) nxS)))))
section
variable {ns : List Int} {ds : List Deed}
theorem body_ok (hl : ns.length ≤ 1000) (v : ∀ d ∈ ds, d.vd) (dl : ds.length ≤ 6) {k : Nat} (hk : k < 8) (s3 s4 s7 s8 s9 s10 s11 : Sl) : ∃ a7 a8 a9 a10 a11, body68 (E68 ns ds (.sh (.int (k : Nat))) s3 s4 s7 s8 s9 s10 s11) = .nx (E68 ns ds (.sh (.int (k : Nat))) s3 s4 a7 a8 a9 a10 a11) := by
  have wlen := wl_len ds v
  obtain ⟨p, hp, ep⟩ := drawn_ok ns (200 + 5 * k) ((wl ds).length + 1) (by omega) (by omega) hl
  obtain ⟨g, hg, eg⟩ := drawn_ok ns (200 + 5 * k + 1) 14 (by decide) (by omega) hl
  obtain ⟨t, ht, et⟩ := drawn_ok ns (200 + 5 * k + 2) 3 (by decide) (by omega) hl
  obtain ⟨r, hr, er⟩ := drawn_ok ns (200 + 5 * k + 3) 2 (by decide) (by omega) hl
  have q : ∀ {c : Nat} {ε : Pu.Env}, vr 7 ε = .ok (.int ((200 + 5 * k : Nat) : Int)) → op2 dAdd (vr 7) (cst (.int (c : Nat))) ε = .ok (.int ((200 + 5 * k + c : Nat) : Int)) := fun {c ε} e => e2 e (e := .int (c : Nat)) rfl (by
    show some (D.int (((200 + 5 * k : Nat) : Int) + ((c : Nat) : Int))) = _
    rw [← Int.natCast_add])
  have n1 : asS 7 (op2 dAdd (cst (.int 200)) (op2 dMul (cst (.int 5)) (vr 2))) (E68 ns ds (.sh (.int (k : Nat))) s3 s4 s7 s8 s9 s10 s11) = .nx (E68 ns ds (.sh (.int (k : Nat))) s3 s4 (.sh (.int ((200 + 5 * k : Nat) : Int))) s8 s9 s10 s11) := as_nx (lin (by omega) (by decide) rfl)
  have lq : op2 dAdd (opN cLen (argC (vr 6) argN)) (cst (.int 1)) (shv (E68 ns ds (.sh (.int (k : Nat))) s3 s4 (.sh (.int ((200 + 5 * k : Nat) : Int))) s8 s9 s10 s11)) = .ok (.int (((wl ds).length + 1 : Nat) : Int)) :=
    e2 (d := .int ((wl ds).length : Nat)) (eN (eC rfl rfl) (if_pos (by omega))) (e := .int 1) rfl rfl
  have n2 : paS 10 11 (.s (calF m__law_drawn (argC (vr 0) (argC (vr 7) (argC (op2 dAdd (opN cLen (argC (vr 6) argN)) (cst (.int 1))) argN))))) (.s (op2 dIx (cst (.str SG)) (calF m__law_drawn (argC (vr 0) (argC (op2 dAdd (vr 7) (cst (.int 1))) (argC (cst (.int 14)) argN)))))) (E68 ns ds (.sh (.int (k : Nat))) s3 s4 (.sh (.int ((200 + 5 * k : Nat) : Int))) s8 s9 s10 s11) = .nx (E68 ns ds (.sh (.int (k : Nat))) s3 s4 (.sh (.int ((200 + 5 * k : Nat) : Int))) s8 s9 (.sh (.int (p : Nat))) (.sh (.str [SG[g]'hg]))) :=
    par_nx (zs_ok ((eK (eC rfl (eC rfl (eC lq rfl)))).trans ep)) (zs_ok (e2 (d := .str SG) rfl ((eK (eC rfl (eC (q (c := 1) rfl) (eC rfl rfl)))).trans eg) (by
      show (if SG.length ≤ 16777216 then (atI SG ((g : Nat) : Int)).map fun c => D.str [c] else none) = _
      rw [if_pos (by decide), @Pu.atI_nat Nat SG g hg]
      rfl)))
  obtain ⟨pt, pl, n3⟩ : ∃ pt : List Nat, pt.length ≤ 1 ∧ asS 8 (ifF (tst (op2 dEq (calF m__law_drawn (argC (vr 0) (argC (op2 dAdd (vr 7) (cst (.int 2))) (argC (cst (.int 3)) argN)))) (cst (.int 0)))) (cst (.str [])) (vr 11)) (E68 ns ds (.sh (.int (k : Nat))) s3 s4 (.sh (.int ((200 + 5 * k : Nat) : Int))) s8 s9 (.sh (.int (p : Nat))) (.sh (.str [SG[g]'hg]))) = .nx (E68 ns ds (.sh (.int (k : Nat))) s3 s4 (.sh (.int ((200 + 5 * k : Nat) : Int))) (.sh (.str pt)) s9 (.sh (.int (p : Nat))) (.sh (.str [SG[g]'hg]))) := by
    have tq : (tst (op2 dEq (calF m__law_drawn (argC (vr 0) (argC (op2 dAdd (vr 7) (cst (.int 2))) (argC (cst (.int 3)) argN)))) (cst (.int 0)))) (shv (E68 ns ds (.sh (.int (k : Nat))) s3 s4 (.sh (.int ((200 + 5 * k : Nat) : Int))) s8 s9 (.sh (.int (p : Nat))) (.sh (.str [SG[g]'hg])))) = .ok (decide (((t : Nat) : Int) = 0)) :=
      tB (e2 ((eK (eC rfl (eC (q (c := 2) rfl) (eC rfl rfl)))).trans et) (e := .int 0) rfl ((eqq (by show 0 ≤ 60; decide) (by show 0 ≤ 60; decide)).trans (by rw [eqd_int])))
    by_cases c : ((t : Nat) : Int) = 0
    · rw [decide_eq_true c] at tq
      exact ⟨[], Nat.zero_le _, as_nx (eIf tq (fun _ => rfl) fun z => nomatch z)⟩
    · rw [decide_eq_false c] at tq
      exact ⟨[SG[g]'hg], Nat.le_refl _, as_nx (eIf tq (fun z => nomatch z) fun _ => rfl)⟩
  have c1 := cut_len (wl ds) none (some ((p : Nat) : Int))
  have c2 := cut_len (wl ds) (some (((p : Nat) : Int) + ((r : Nat) : Int))) none
  generalize hA : cut (wl ds) none (some ((p : Nat) : Int)) = A at c1
  generalize hB : cut (wl ds) (some (((p : Nat) : Int) + ((r : Nat) : Int))) none = B at c2
  have n4 : asS 9 (op2 dAdd (op2 dAdd (slF (vr 6) noP (soP (vr 10))) (vr 8)) (slF (vr 6) (soP (op2 dAdd (vr 10) (calF m__law_drawn (argC (vr 0) (argC (op2 dAdd (vr 7) (cst (.int 3))) (argC (cst (.int 2)) argN)))))) noP)) (E68 ns ds (.sh (.int (k : Nat))) s3 s4 (.sh (.int ((200 + 5 * k : Nat) : Int))) (.sh (.str pt)) s9 (.sh (.int (p : Nat))) (.sh (.str [SG[g]'hg]))) = .nx (E68 ns ds (.sh (.int (k : Nat))) s3 s4 (.sh (.int ((200 + 5 * k : Nat) : Int))) (.sh (.str pt)) (.sh (.str ((A ++ pt) ++ B))) (.sh (.int (p : Nat))) (.sh (.str [SG[g]'hg]))) := by
    refine as_nx (e2 (d := .str (A ++ pt)) (e := .str B) (e2 (d := .str A) (e := .str pt) (eS (d := .str (wl ds)) rfl rfl (eP (k := (p : Nat)) rfl) ?_) rfl (addS (by omega))) (eS (d := .str (wl ds)) rfl (eP (k := ((p : Nat) : Int) + ((r : Nat) : Int)) (e2 (d := .int (p : Nat)) rfl ((eK (eC rfl (eC (q (c := 3) rfl) (eC rfl rfl)))).trans er) rfl)) rfl ?_) (addS (by rw [List.length_append]; omega)))
    · rw [slq (by omega), hA]
    · rw [slq (by omega), hB]
  have sl : ((A ++ pt) ++ B).length ≤ 1000 := by rw [List.length_append, List.length_append]; omega
  generalize hS : (A ++ pt) ++ B = S at n4 sl
  refine ⟨.sh (.int ((200 + 5 * k : Nat) : Int)), .sh (.str pt), .sh (.str S), .sh (.int (p : Nat)), .sh (.str [SG[g]'hg]), ?_⟩
  unfold body68
  rw [sq_nx n1, sq_nx n2, sq_nx n3, sq_nx n4]
  rcases again_ok sl with h | h
  · exact if_nx (tB (e2 ((eK rfl).trans h) (eTu rfl (Nat.le_of_ble_eq_true rfl)) (not_in (s := S) (.inl rfl))))
  · exact if_nx (tB (e2 ((eK rfl).trans h) (eTu rfl (Nat.le_of_ble_eq_true rfl)) (not_in (s := S) (.inr rfl))))
theorem loop_ok (hl : ns.length ≤ 1000) (v : ∀ d ∈ ds, d.vd) (dl : ds.length ≤ 6) : ∀ (n k : Nat), k + n ≤ 8 → ∀ (s2 s3 s4 s7 s8 s9 s10 s11 : Sl), ∃ a2 a7 a8 a9 a10 a11, forGo (.nm 2) body68 ((List.range' k n).map fun j => D.int (j : Nat)) (E68 ns ds s2 s3 s4 s7 s8 s9 s10 s11) = .nx (E68 ns ds a2 s3 s4 a7 a8 a9 a10 a11)
  | 0, k, _, s2, s3, s4, s7, s8, s9, s10, s11 => ⟨s2, s7, s8, s9, s10, s11, rfl⟩
  | n + 1, k, hk, s2, s3, s4, s7, s8, s9, s10, s11 => by
    obtain ⟨b7, b8, b9, b10, b11, e⟩ := body_ok hl v dl (k := k) (by omega) s3 s4 s7 s8 s9 s10 s11
    obtain ⟨a2, a7, a8, a9, a10, a11, e'⟩ := loop_ok hl v dl n (k + 1) (by omega) (.sh (.int (k : Nat))) s3 s4 b7 b8 b9 b10 b11
    refine ⟨a2, a7, a8, a9, a10, a11, ?_⟩
    rw [List.range'_succ, List.map_cons]
    exact (for_cons (t := .nm 2) (ps := [(2, .int (k : Nat))]) rfl e).trans e'
end
theorem plain (ns : List Int) (h : ns.length ≤ 63) : m_law [.frl (ns.map .int)] = .ok (.bl true) := by
  have hl : ns.length ≤ 1000 := by omega
  obtain ⟨r, hr, er⟩ := drawn_ok ns 0 7 (by decide) (by decide) hl
  -- the log
  obtain ⟨ys, ly, yl, yp⟩ := lcGo_ex (ρ := wipeE (shv [.sh (.frl (ns.map .int)), .no, .no, .no, .no, .no, .no, .no, .no, .no, .no, .no, .no, .no, .no]) [2]) (t := .nm 2) (f := calF m__law_deed (argC (vr 0) (argC (op2 dAdd (cst (.int 10)) (op2 dMul (cst (.int 14)) (vr 2))) (argC (cst (.str [97, 98, 99])) argN)))) (h := fun k : Nat => D.int (k : Nat)) (P := fun y => ∃ d : Deed, d.ok [97, 98, 99] ∧ y = d.d) (ps := fun k => [(2, .int (k : Nat))]) (w := List.range r) fun k hk => by
    have hk := List.mem_range.mp hk
    obtain ⟨dd, ok, ed⟩ := deed_ok ns hl (10 + 14 * k) (by omega) abc4
    exact ⟨rfl, dd.d, (eK (ds := [.frl (ns.map .int), .int ((10 + 14 * k : Nat) : Int), .str [97, 98, 99]]) (eC rfl (eC (lin (by omega) (by decide) rfl) (eC rfl rfl)))).trans ed, dd, ok, rfl⟩
  obtain ⟨ds, oks, rfl⟩ := deeds_of ys yp
  have v : ∀ d ∈ ds, d.vd := fun d hd => ok_vd abc4 (oks d hd)
  rw [List.length_map, List.length_range] at yl
  have dl : ds.length ≤ 6 := by omega
  have wlen := wl_len ds v
  have n1 : asS 1 (ofL (lcO (rgF (calF m__law_drawn (argC (vr 0) (argC (cst (.int 0)) (argC (cst (.int 7)) argN))))) [2] (.nm 2) yesT (calF m__law_deed (argC (vr 0) (argC (op2 dAdd (cst (.int 10)) (op2 dMul (cst (.int 14)) (vr 2))) (argC (cst (.str [97, 98, 99])) argN)))))) [.sh (.frl (ns.map .int)), .no, .no, .no, .no, .no, .no, .no, .no, .no, .no, .no, .no, .no, .no] = .nx [.sh (.frl (ns.map .int)), .sh (.lst (ds.map Deed.d)), .no, .no, .no, .no, .no, .no, .no, .no, .no, .no, .no, .no, .no] :=
    as_nx (eO (eLc ((eR ((eK rfl).trans er) (by omega)).trans (by rw [rgD_nat])) (by rw [List.length_map, List.length_range]; omega) ly))
  have n2 : paS 5 6 (.s (opN cList (argC (vr 1) argN))) (.s (mt1 tyStr dJoin (cst (.str [])) (ofL (lcO (itF (vr 1)) [13, 14] (.tp [13, 14]) yesT (op2 dAdd (op2 dAdd (op2 dAdd (vr 13) (cst (.str [32]))) (opN cStr (argC (vr 14) argN))) (cst (.str [10]))))))) [.sh (.frl (ns.map .int)), .sh (.lst (ds.map Deed.d)), .no, .no, .no, .no, .no, .no, .no, .no, .no, .no, .no, .no, .no] = .nx (E68 ns ds .no .no .no .no .no .no .no .no) :=
    par_nx (zs_ok (eN (eC rfl rfl) rfl)) (zs_ok (lines_ok v (by omega) (eI rfl rfl) (fun _ _ => rfl) fun _ _ => rfl))
  refine dm rfl (sq_to n1 (sq_to n2 ?_))
  have dpl : dep (.lst (ds.map Deed.d)) ≤ 60 := Nat.le_trans (dep_deeds ds) (by decide)
  have t1 : (orT (tst (op2 dNe (calF m_log_text (argC (vr 1) argN)) (vr 6))) (orT (tst (op2 dNe (calF m_read_log (argC (vr 6) argN)) (vr 1))) (tst (op2 dNe (vr 1) (vr 5))))) (pkv (E68 ns ds .no .no .no .no .no .no .no .no)) = .ok false :=
    (tOr (x := false) (y := false) (tB (e2 ((eK rfl).trans (log_text_ok v (by omega))) (e := .str (wl ds)) rfl (ne_same (by show 0 ≤ 60; decide)))) fun _ => (tOr (x := false) (y := false) (tB (e2 ((eK rfl).trans (read_wl v (by omega))) (e := .lst (ds.map Deed.d)) rfl (ne_same dpl))) fun _ => tB (e2 (d := .lst (ds.map Deed.d)) rfl (e := .lst (ds.map Deed.d)) rfl (ne_same dpl))).trans rfl).trans rfl
  refine sq_to (if_nx t1) ?_
  obtain ⟨a2, a7, a8, a9, a10, a11, el⟩ := loop_ok (ns := ns) (ds := ds) hl v dl 8 0 (Nat.le_refl _) .no .no .no .no .no .no .no .no
  have n4 : forS (rgF (cst (.int 8))) (.nm 2) body68 (E68 ns ds .no .no .no .no .no .no .no .no) = .nx (E68 ns ds a2 .no .no a7 a8 a9 a10 a11) := (for_go (ds := (List.range' 0 8).map fun j => D.int (j : Nat)) rfl).trans el
  refine sq_to n4 ?_
  refine sq_to (ρ' := E68 ns ds a2 (.sh (.lst (bad.take 9))) .no a7 a8 a9 a10 a11) (as_nx rfl) ?_
  refine sq_to (ρ' := E68 ns ds a2 (.sh (.lst (bad.take 14))) .no a7 a8 a9 a10 a11) (as_nx (e2 (d := .lst (bad.take 9)) (e := .lst ((bad.drop 9).take 5)) rfl rfl rfl)) ?_
  refine sq_to (ρ' := E68 ns ds a2 (.sh (.lst (bad.take 19))) .no a7 a8 a9 a10 a11) (as_nx (e2 (d := .lst (bad.take 14)) (e := .lst ((bad.drop 14).take 5)) rfl rfl rfl)) ?_
  refine sq_to (ρ' := E68 ns ds a2 (.sh (.lst bad)) .no a7 a8 a9 a10 a11) (as_nx (e2 (d := .lst (bad.take 19)) (e := .lst (bad.drop 19)) rfl rfl rfl)) ?_
  refine sq_to (ρ' := E68 ns ds a2 (.sh (.lst bad)) .no a7 a8 a9 a10 a11) (if_nx (tB (e2 (d := .lst []) (eO (eLc (ds := bad) (eI rfl rfl) (by decide) (lcGo_none fun d hd => tB (e2 ((eK (eC rfl rfl)).trans (bad_no d hd)) (e := .non) rfl rfl)))) (e := .lst []) (eL rfl (by decide)) (ne_same (by show 1 ≤ 60; decide))))) ?_
  refine sq_to (ρ' := E68 ns ds a2 (.sh (.lst bad)) (.sh (.lst (non.take 6))) a7 a8 a9 a10 a11) (as_nx rfl) ?_
  refine sq_to (ρ' := E68 ns ds a2 (.sh (.lst bad)) (.sh (.lst non)) a7 a8 a9 a10 a11) (as_nx (e2 (d := .lst (non.take 6)) (e := .lst (non.drop 6)) rfl rfl rfl)) ?_
  have r0 : m_read_log [.str []] = .ok (.lst []) := read_wl (ds := []) (fun _ z => by cases z) (by decide)
  have r9 : m_read_log [.str [114, 101, 109, 111, 118, 101, 32, 57, 57, 57, 10]] = .ok (.lst [(Deed.rem 999).d]) := (congrArg (fun s => m_read_log [.str s]) (show _ = wl [.rem 999] by decide +kernel)).trans (read_wl (ds := [.rem 999]) (fun d hd => by rw [List.mem_singleton.mp hd]; show 999 < 1000; decide) (by decide))
  refine sq_to (ρ' := E68 ns ds a2 (.sh (.lst bad)) (.sh (.lst non)) a7 a8 a9 a10 a11) (if_nx ((tNo ((tAn (x := true) (y := true) (tB (e2 (d := .lst []) (eO (eLc (ds := non) (eI rfl rfl) (by decide) (lcGo_none fun d hd => (tNo (tB ((eK (eC rfl rfl)).trans (non_no d hd)))).trans rfl))) (e := .lst []) (eL rfl (by decide)) (eq_same (by show 1 ≤ 60; decide)))) fun _ => tB (e2 ((eK rfl).trans r0) (e := .lst []) (eL rfl (by decide)) (eq_same (by show 1 ≤ 60; decide)))).trans rfl)).trans rfl)) ?_
  exact re_to (e2 ((eK rfl).trans r9) (e := .lst [(Deed.rem 999).d]) (eL (eC (eTu rfl (Nat.le_of_ble_eq_true rfl)) rfl) (by decide)) (eq_same (by show 2 ≤ 60; decide)))
end Lk68

namespace Lk68
open PySem PySem.Spec PyProof.Rows L2 Pu
def d_is_number : He.DefD := ⟨("is_number", none), "is_number", "is_number", defArgs (top 7), defBody (top 7), defScope (top 7), [], []⟩
def d_is_plain : He.DefD := ⟨("is_plain", none), "is_plain", "is_plain", defArgs (top 8), defBody (top 8), defScope (top 8), [], []⟩
def d_is_deed : He.DefD := ⟨("is_deed", none), "is_deed", "is_deed", defArgs (top 11), defBody (top 11), defScope (top 11), [], []⟩
def d_need_deeds : He.DefD := ⟨("need_deeds", none), "need_deeds", "need_deeds", defArgs (top 12), defBody (top 12), defScope (top 12), [], []⟩
def d_log_text : He.DefD := ⟨("log_text", none), "log_text", "log_text", defArgs (top 13), defBody (top 13), defScope (top 13), [], []⟩
def d_deed_in : He.DefD := ⟨("deed_in", none), "deed_in", "deed_in", defArgs (top 14), defBody (top 14), defScope (top 14), [], []⟩
def d_read_log : He.DefD := ⟨("read_log", none), "read_log", "read_log", defArgs (top 15), defBody (top 15), defScope (top 15), [], []⟩
def d__law_drawn : He.DefD := ⟨("_law_drawn", none), "_law_drawn", "_law_drawn", defArgs (top 17), defBody (top 17), defScope (top 17), [], []⟩
def d__law_word : He.DefD := ⟨("_law_word", none), "_law_word", "_law_word", defArgs (top 18), defBody (top 18), defScope (top 18), [], []⟩
def d__law_deed : He.DefD := ⟨("_law_deed", none), "_law_deed", "_law_deed", defArgs (top 19), defBody (top 19), defScope (top 19), [], []⟩
def d__law_again : He.DefD := ⟨("_law_again", none), "_law_again", "_law_again", defArgs (top 20), defBody (top 20), defScope (top 20), [], []⟩
def d__law_no : He.DefD := ⟨("_law_no", none), "_law_no", "_law_no", defArgs (top 21), defBody (top 21), defScope (top 21), [], []⟩
def d_law : He.DefD := ⟨("law", none), "law", "law", defArgs (top 22), defBody (top 22), defScope (top 22), [], []⟩
def fn : List He.DefD := [d_is_number, d_is_plain, d_is_deed, d_need_deeds, d_log_text, d_deed_in, d_read_log, d__law_drawn, d__law_word, d__law_deed, d__law_again, d__law_no, d_law]
def fa : List He.Fa := [.free "all", .free "bool", .free "int", .free "isinstance", .free "len", .free "list", .free "range", .free "str", .free "tuple", .int "MOST_WORD" 40, .str "FIGURES" "0123456789", .str "LETTERS" "abcdefghijklmnopqrstuvwxyz", .glo "NoDeeds", .glo "NoText", .glo "SlipError", .exc "NoDeeds", .exc "NoText", .glo "is_number", .glo "is_plain", .glo "is_deed", .glo "need_deeds", .glo "log_text", .glo "deed_in", .glo "read_log", .glo "_law_drawn", .glo "_law_word", .glo "_law_deed", .glo "_law_again", .glo "_law_no", .glo "law"]
abbrev R : PySem.W.OpenRow := PySem.W.OpenLaw.row PySem.Challenge.rw_slipmotes_k68_texts
abbrev hk : PySem.W.Hook := hkC 5 fa fn chk
def ob (s : PySem.W.SharedT) : He.AlD × Bool := obC 5 fa fn chk s
theorem run (w : World) : HandSHeadRun.RunEq R (PySem.W.view R.prog [22]) hk ob 20000 ("SlipError" :: "NoDeeds" :: "NoText" :: "LETTERS" :: "MOST_WORD" :: "is_number" :: "is_plain" :: "FIGURES" :: "is_deed" :: "need_deeds" :: "log_text" :: "deed_in" :: "read_log" :: "_law_drawn" :: "_law_word" :: "_law_deed" :: "_law_again" :: "_law_no" :: []) w := by
  intro os
  kernel_rfl
theorem fx_of {K : PySem.W.Frag} {h : Heap} {mg : Str → Option Value} (X : K.In h) (G : h.Ns mainGlobals mg) (c : He.SaysD fa fn K) (d : chk K = true) : Fx K mg := by
  have d := List.all_eq_true.mp d
  exact {
    g_all := He.free_ok X G (c.fact 0 (f := .free "all") rfl)
    g_bool := He.free_ok X G (c.fact 1 (f := .free "bool") rfl)
    g_int := He.free_ok X G (c.fact 2 (f := .free "int") rfl)
    g_isinstance := He.free_ok X G (c.fact 3 (f := .free "isinstance") rfl)
    g_len := He.free_ok X G (c.fact 4 (f := .free "len") rfl)
    g_list := He.free_ok X G (c.fact 5 (f := .free "list") rfl)
    g_range := He.free_ok X G (c.fact 6 (f := .free "range") rfl)
    g_str := He.free_ok X G (c.fact 7 (f := .free "str") rfl)
    g_tuple := He.free_ok X G (c.fact 8 (f := .free "tuple") rfl)
    i_MOST_WORD := He.int_ok X G (c.fact 9 (f := .int "MOST_WORD" 40) rfl)
    s_FIGURES := He.str_ok X G (c.fact 10 (f := .str "FIGURES" "0123456789") rfl)
    s_LETTERS := He.str_ok X G (c.fact 11 (f := .str "LETTERS" "abcdefghijklmnopqrstuvwxyz") rfl)
    c_NoDeeds := He.glo_ok X G (c.fact 12 (f := .glo "NoDeeds") rfl)
    c_NoText := He.glo_ok X G (c.fact 13 (f := .glo "NoText") rfl)
    c_SlipError := He.glo_ok X G (c.fact 14 (f := .glo "SlipError") rfl)
    e_NoDeeds := c.fact 15 (f := .exc "NoDeeds") rfl
    e_NoText := c.fact 16 (f := .exc "NoText") rfl
    m_SlipError := fun k hk => of_decide_eq_true (List.all_eq_true.mp (d _ (List.mem_of_getElem? (i := 0) rfl)) k hk)
    k_NoDeeds := fun k hk => ⟨excCB_ok (Bool.and_eq_true_iff.mp (List.all_eq_true.mp (d _ (List.mem_of_getElem? (i := 1) rfl)) k hk)).1, of_decide_eq_true (Bool.and_eq_true_iff.mp (List.all_eq_true.mp (d _ (List.mem_of_getElem? (i := 1) rfl)) k hk)).2⟩
    k_NoText := fun k hk => ⟨excCB_ok (Bool.and_eq_true_iff.mp (List.all_eq_true.mp (d _ (List.mem_of_getElem? (i := 2) rfl)) k hk)).1, of_decide_eq_true (Bool.and_eq_true_iff.mp (List.all_eq_true.mp (d _ (List.mem_of_getElem? (i := 2) rfl)) k hk)).2⟩
  }
theorem facts {P : Program} {w : World} {K : PySem.W.Frag} {h : Heap} {mg : Str → Option Value} {f : Addr} (X : K.In h) (G : h.Ns mainGlobals mg) (hfa : mg ("law" : Str) = some (.ref f)) (c : He.SaysD fa fn K) (d : chk K = true) :
    ∃ fd : FuncData, (∀ (s : Shared) (v : Value), BindsTo s fd ⟨[v], []⟩ [("script", v)]) ∧ ∀ base : Heap, K.In base → base.Ns mainGlobals mg → FnOk P w K mg base (L2N.CX P w) 7 f fd ["script"] (spP K 1 m_law) := by
  have fx := fx_of X G c d
  obtain ⟨fd_is_number, F_is_number⟩ := c.def_ 0 (d := d_is_number) rfl
  have g_is_number := He.glo_ok X G (c.fact 17 (f := .glo "is_number") rfl)
  obtain ⟨fd_is_plain, F_is_plain⟩ := c.def_ 1 (d := d_is_plain) rfl
  have g_is_plain := He.glo_ok X G (c.fact 18 (f := .glo "is_plain") rfl)
  obtain ⟨fd_is_deed, F_is_deed⟩ := c.def_ 2 (d := d_is_deed) rfl
  have g_is_deed := He.glo_ok X G (c.fact 19 (f := .glo "is_deed") rfl)
  obtain ⟨fd_need_deeds, F_need_deeds⟩ := c.def_ 3 (d := d_need_deeds) rfl
  have g_need_deeds := He.glo_ok X G (c.fact 20 (f := .glo "need_deeds") rfl)
  obtain ⟨fd_log_text, F_log_text⟩ := c.def_ 4 (d := d_log_text) rfl
  have g_log_text := He.glo_ok X G (c.fact 21 (f := .glo "log_text") rfl)
  obtain ⟨fd_deed_in, F_deed_in⟩ := c.def_ 5 (d := d_deed_in) rfl
  have g_deed_in := He.glo_ok X G (c.fact 22 (f := .glo "deed_in") rfl)
  obtain ⟨fd_read_log, F_read_log⟩ := c.def_ 6 (d := d_read_log) rfl
  have g_read_log := He.glo_ok X G (c.fact 23 (f := .glo "read_log") rfl)
  obtain ⟨fd__law_drawn, F__law_drawn⟩ := c.def_ 7 (d := d__law_drawn) rfl
  have g__law_drawn := He.glo_ok X G (c.fact 24 (f := .glo "_law_drawn") rfl)
  obtain ⟨fd__law_word, F__law_word⟩ := c.def_ 8 (d := d__law_word) rfl
  have g__law_word := He.glo_ok X G (c.fact 25 (f := .glo "_law_word") rfl)
  obtain ⟨fd__law_deed, F__law_deed⟩ := c.def_ 9 (d := d__law_deed) rfl
  have g__law_deed := He.glo_ok X G (c.fact 26 (f := .glo "_law_deed") rfl)
  obtain ⟨fd__law_again, F__law_again⟩ := c.def_ 10 (d := d__law_again) rfl
  have g__law_again := He.glo_ok X G (c.fact 27 (f := .glo "_law_again") rfl)
  obtain ⟨fd__law_no, F__law_no⟩ := c.def_ 11 (d := d__law_no) rfl
  have g__law_no := He.glo_ok X G (c.fact 28 (f := .glo "_law_no") rfl)
  obtain ⟨fd_law, F_law⟩ := c.def_ 12 (d := d_law) rfl
  have g_law := He.glo_ok X G (c.fact 29 (f := .glo "law") rfl)
  have e := hfa.symm.trans g_law
  cases e
  have b := FunD.bindsA (ps := ["script"]) F_law fun _ _ _ _ _ _ us hl => match us, hl with | [_], _ => rfl
  refine ⟨fd_law, fun s v => b s [v] rfl, fun base _ _ => ?_⟩
  have N_is_number := f_is_number (P := P) (w := w) (base := base) fx F_is_number g_is_number 
  have N_is_plain := f_is_plain (P := P) (w := w) (base := base) fx F_is_plain g_is_plain 
  have N_is_deed := f_is_deed (P := P) (w := w) (base := base) fx F_is_deed g_is_deed N_is_number N_is_plain
  have N_need_deeds := f_need_deeds (P := P) (w := w) (base := base) fx F_need_deeds g_need_deeds N_is_deed
  have N_log_text := f_log_text (P := P) (w := w) (base := base) fx F_log_text g_log_text N_need_deeds
  have N_deed_in := f_deed_in (P := P) (w := w) (base := base) fx F_deed_in g_deed_in 
  have N_read_log := f_read_log (P := P) (w := w) (base := base) fx F_read_log g_read_log N_deed_in N_is_deed N_log_text
  have N__law_drawn := f__law_drawn (P := P) (w := w) (base := base) fx F__law_drawn g__law_drawn 
  have N__law_word := f__law_word (P := P) (w := w) (base := base) fx F__law_word g__law_word N__law_drawn
  have N__law_deed := f__law_deed (P := P) (w := w) (base := base) fx F__law_deed g__law_deed N__law_drawn N__law_word
  have N__law_again := f__law_again (P := P) (w := w) (base := base) fx F__law_again g__law_again N_log_text N_read_log
  have N__law_no := f__law_no (P := P) (w := w) (base := base) fx F__law_no g__law_no N_log_text
  exact k_law fx F_law N__law_again N__law_deed N__law_drawn N__law_no N_log_text N_read_log
end Lk68

open PySem PySem.W PySem.Calls PyProof.Rows
theorem PySem.Challenge.cw_slipmotes_k68_texts_holds : PySem.Challenge.rw_slipmotes_k68_texts.Holds := by
  w_on; o_law
  refine HandSHeadRun.head_any (r := OpenLaw.row PySem.Challenge.rw_slipmotes_k68_texts) (q := view (OpenLaw.row PySem.Challenge.rw_slipmotes_k68_texts).prog [22]) (H := Lk68.hk) (ob := Lk68.ob) (M := 20000) (loose := ("SlipError" :: "NoDeeds" :: "NoText" :: "LETTERS" :: "MOST_WORD" :: "is_number" :: "is_plain" :: "FIGURES" :: "is_deed" :: "need_deeds" :: "log_text" :: "deed_in" :: "read_log" :: "_law_drawn" :: "_law_word" :: "_law_deed" :: "_law_again" :: "_law_no" :: [])) (d := HandSHeadRun.topDef (OpenLaw.row PySem.Challenge.rw_slipmotes_k68_texts).prog 22) (kwd := []) Pu.obC_eq
    (by kernel_rfl) (fun s => by kernel_rfl) Lk68.run (by kernel_rfl) (by kernel_rfl) (by kernel_rfl) (by rfl) (by first | assumption | decide +kernel) (by decide +kernel) ⟨rfl, rfl, rfl, rfl, rfl, by decide +kernel⟩ ?hw ?hc
  case hw => w_witness2
  case hc =>
    refine Pu.walk_x (l := PySem.Challenge.rw_slipmotes_k68_texts) (n := 63) (k := 7) (x := "script") rfl (by decide) (by kernel_rfl) ⟨rfl, by decide, by decide⟩ ?F
    intro w mg f h Y G hmg0
    obtain ⟨K, KX, c, ck⟩ := Y
    have hmg : mg ("law" : PySem.Str) = some (.ref f) := by
      have e : (HandSHeadRun.topDef (OpenLaw.row PySem.Challenge.rw_slipmotes_k68_texts).prog 22).name = ("law" : PySem.Str) := by kernel_rfl
      rw [← e]
      exact hmg0
    obtain ⟨fd, hb, hF⟩ := Lk68.facts (P := (PySem.Challenge.rw_slipmotes_k68_texts).prog) (w := w) KX G hmg c ck
    exact ⟨K, fd, Pu.spP K 1 Lk68.m_law, KX, hb, fun H a ns hl hS => Pu.law_end (Lk68.plain ns hl) hS, hF⟩

