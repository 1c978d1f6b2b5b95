import PyProof.Rows.All
import Wide.All
import OpenK.AllK
import Wide.FinOn
import HandS.ForMost
import HandS.TupAny
import HandS.Wide
import HandS.Style
import HandS.Flow
import HandS.More
import HandS.TupLe
import HandS.IsInst
import HandS.Deep
import HandS.Small
import KE.DataMinMax
import PyProof.ReprRoads
import HandS.Codes
import PySem.Challenge.RW_stillfiles_k10_which_tests_spans_may_mee
set_option Elab.async false
set_option linter.all false
set_option maxRecDepth 100000
set_option maxHeartbeats 4000000
/-! DL: Python data as trees (D), mutable objects apart (Mem), readings lifted to both. -/
namespace DL
open PySem PySem.Spec PyProof.Rows L2

inductive D where
  | non
  | bl (b : Bool)
  | int (i : Int)
  | str (s : Str)
  | tup (ds : List D)
  | lst (ds : List D)
  | dct (kvs : List (Key × D))
  | obj (a : Addr)
  | ty (n : String)

/-- what a mutable object holds -/
inductive MO where
  | ml (ds : List D)
  | md (kvs : List (Key × D))

abbrev Mem := Addr → Option MO
abbrev Rho := List (Option D)
/-- an exception: its class, its fields -/
structure Ex where
  cls : Value
  fs : List (Str × D)
abbrev XD := Ex → Mem → Prop
/-- what must hold ahead, by what is wanted behind -/
abbrev W (α : Type) := Mem → (α → Mem → Prop) → XD → Prop

namespace W
def ret {α : Type} (a : α) : W α := fun μ Q _ => Q a μ
def bnd {α β : Type} (m : W α) (f : α → W β) : W β := fun μ Q E => m μ (fun a μ' => f a μ' Q E) E
def req {α : Type} (P : Prop) (m : W α) : W α := fun μ Q E => P ∧ m μ Q E
def bad {α : Type} : W α := fun _ _ _ => False
def get : W Mem := fun μ Q _ => Q μ μ
def put (μ : Mem) : W Unit := fun _ Q _ => Q () μ
end W
instance : Monad W where
  pure := W.ret
  bind := W.bnd

theorem W.bind_def {α β : Type} (m : W α) (f : α → W β) : (m >>= f) = W.bnd m f := rfl
theorem W.pure_def {α : Type} (a : α) : (pure a : W α) = W.ret a := rfl
@[simp] theorem W.ret_bnd {α β : Type} (a : α) (f : α → W β) : W.bnd (W.ret a) f = f a := rfl
@[simp] theorem W.bnd_ret {α : Type} (m : W α) : W.bnd m W.ret = m := rfl
@[simp] theorem W.bnd_bnd {α β γ : Type} (m : W α) (f : α → W β) (g : β → W γ) : W.bnd (W.bnd m f) g = W.bnd m (fun a => W.bnd (f a) g) := rfl
theorem W.req_true {α : Type} {P : Prop} (h : P) (m : W α) : W.req P m = m := by
  funext μ Q E
  exact propext ⟨fun x => x.2, fun x => ⟨h, x⟩⟩

mutual
/-- the value v, over the part F of the heap that stays, is d -/
inductive Is (K : PySem.W.Frag) (F : Hp) : V → D → Prop
  | non : Is K F .non .non
  | bl (b : Bool) : Is K F (.bl b) (.bl b)
  | int (i : Int) : Is K F (.int i) (.int i)
  | str (s : Str) : Is K F (.str s) (.str s)
  | tup {a : Addr} {vs : List V} {ds : List D} : SqT K F a vs → IsL K F vs ds → Is K F (.ref a) (.tup ds)
  | lst {a : Addr} {vs : List V} {ds : List D} : SqL K F a vs → IsL K F vs ds → Is K F (.ref a) (.lst ds)
  | dct {a : Addr} {ks : List (Key × V)} {ds : List (Key × D)} : F a = some (.dK ks) → ks.map (·.1) = ds.map (·.1) → IsL K F (ks.map (·.2)) (ds.map (·.2)) → Is K F (.ref a) (.dct ds)
  | obj (a : Addr) : Is K F (.ref a) (.obj a)
  | ty (n : String) : Is K F (.ty n) (.ty n)
inductive IsL (K : PySem.W.Frag) (F : Hp) : List V → List D → Prop
  | nil : IsL K F [] []
  | cons {v : V} {d : D} {vs : List V} {ds : List D} : Is K F v d → IsL K F vs ds → IsL K F (v :: vs) (d :: ds)
end

theorem rd_up {F F' : Hp} {a : Addr} {u : HO} (e : Same F F') (h : Rd F a u) : Rd F' a u := by
  rcases h with h | ⟨o, h⟩
  · exact .inl (e _ _ h)
  · exact .inr ⟨o, e _ _ h⟩
theorem sqt_up {K : PySem.W.Frag} {F F' : Hp} {a : Addr} {xs : List V} (e : Same F F') (h : SqT K F a xs) : SqT K F' a xs := by
  rcases h with h | h
  · exact .inl (rd_up e h)
  · exact .inr h
theorem sql_up {K : PySem.W.Frag} {F F' : Hp} {a : Addr} {xs : List V} (e : Same F F') (h : SqL K F a xs) : SqL K F' a xs := by
  rcases h with h | h
  · exact .inl (rd_up e h)
  · exact .inr h

mutual
theorem Is.up {K : PySem.W.Frag} {F F' : Hp} (e : Same F F') : ∀ {v : V} {d : D}, Is K F v d → Is K F' v d
  | _, _, .non => .non
  | _, _, .bl b => .bl b
  | _, _, .int i => .int i
  | _, _, .str s => .str s
  | _, _, .tup h r => .tup (sqt_up e h) (r.up e)
  | _, _, .lst h r => .lst (sql_up e h) (r.up e)
  | _, _, .dct h k r => .dct (e _ _ h) k (r.up e)
  | _, _, .obj a => .obj a
  | _, _, .ty n => .ty n
theorem IsL.up {K : PySem.W.Frag} {F F' : Hp} (e : Same F F') : ∀ {vs : List V} {ds : List D}, IsL K F vs ds → IsL K F' vs ds
  | _, _, .nil => .nil
  | _, _, .cons h r => .cons (h.up e) (r.up e)
end

theorem IsL.length {K : PySem.W.Frag} {F : Hp} : ∀ {vs : List V} {ds : List D}, IsL K F vs ds → vs.length = ds.length
  | _, _, .nil => rfl
  | _, _, .cons _ r => by rw [List.length_cons, List.length_cons, r.length]
theorem IsL.get {K : PySem.W.Frag} {F : Hp} : ∀ {vs : List V} {ds : List D} {i : Nat} {d : D}, IsL K F vs ds → ds[i]? = some d → ∃ v, vs[i]? = some v ∧ Is K F v d
  | _, _, _, _, .nil, e => by simp at e
  | _, _, 0, _, .cons h _, e => by simp at e; subst e; exact ⟨_, rfl, h⟩
  | _, _, i + 1, d, .cons _ r, e => by
    obtain ⟨v, h1, h2⟩ := IsL.get (i := i) (d := d) r (by simpa using e)
    exact ⟨v, by simpa using h1, h2⟩
theorem IsL.getV {K : PySem.W.Frag} {F : Hp} {vs : List V} {ds : List D} {i : Nat} {v : V} (h : IsL K F vs ds) (e : vs[i]? = some v) : ∃ d, ds[i]? = some d ∧ Is K F v d := by
  have hl := h.length
  have hi : i < vs.length := by
    rcases Nat.lt_or_ge i vs.length with q | q
    · exact q
    · rw [List.getElem?_eq_none q] at e; cases e
  have hd : ds[i]? = some (ds[i]'(by omega)) := List.getElem?_eq_getElem (by omega)
  obtain ⟨v', e', r⟩ := h.get hd
  rw [e] at e'; cases e'
  exact ⟨_, hd, r⟩
theorem IsL.app {K : PySem.W.Frag} {F : Hp} : ∀ {vs us : List V} {ds es : List D}, IsL K F vs ds → IsL K F us es → IsL K F (vs ++ us) (ds ++ es)
  | _, _, _, _, .nil, r => r
  | _, _, _, _, .cons h q, r => .cons h (q.app r)
theorem IsL.take {K : PySem.W.Frag} {F : Hp} : ∀ (n : Nat) {vs : List V} {ds : List D}, IsL K F vs ds → IsL K F (vs.take n) (ds.take n)
  | 0, _, _, _ => .nil
  | _ + 1, _, _, .nil => .nil
  | n + 1, _, _, .cons h r => .cons h (r.take n)
theorem IsL.drop {K : PySem.W.Frag} {F : Hp} : ∀ (n : Nat) {vs : List V} {ds : List D}, IsL K F vs ds → IsL K F (vs.drop n) (ds.drop n)
  | 0, _, _, r => r
  | _ + 1, _, _, .nil => .nil
  | n + 1, _, _, .cons _ r => r.drop n
theorem IsL.rev {K : PySem.W.Frag} {F : Hp} : ∀ {vs : List V} {ds : List D}, IsL K F vs ds → IsL K F vs.reverse ds.reverse
  | _, _, .nil => .nil
  | _, _, .cons h r => by
    rw [List.reverse_cons, List.reverse_cons]
    exact r.rev.app (.cons h .nil)
theorem IsL.set {K : PySem.W.Frag} {F : Hp} {v : V} {d : D} (h : Is K F v d) : ∀ (n : Nat) {vs : List V} {ds : List D}, IsL K F vs ds → IsL K F (vs.set n v) (ds.set n d)
  | _, _, _, .nil => .nil
  | 0, _, _, .cons _ r => .cons h r
  | n + 1, _, _, .cons q r => .cons q (r.set h n)
theorem IsL.erase {K : PySem.W.Frag} {F : Hp} : ∀ (n : Nat) {vs : List V} {ds : List D}, IsL K F vs ds → IsL K F (vs.eraseIdx n) (ds.eraseIdx n)
  | _, _, _, .nil => .nil
  | 0, _, _, .cons _ r => r
  | n + 1, _, _, .cons q r => .cons q (r.erase n)

def MoIs (K : PySem.W.Frag) (F H : Hp) (a : Addr) : MO → Prop
  | .ml ds => ∃ vs, H a = some (.lst vs) ∧ IsL K F vs ds
  | .md kvs => ∃ ks, H a = some (.dK ks) ∧ ks.map (·.1) = kvs.map (·.1) ∧ IsL K F (ks.map (·.2)) (kvs.map (·.2))
/-- H is the part F that stays, and the mutable objects of μ beside it -/
structure Rep (K : PySem.W.Frag) (F H : Hp) (μ : Mem) : Prop where
  sub : Same F H
  mem : ∀ a mo, μ a = some mo → F a = none ∧ MoIs K F H a mo
structure EnvR (K : PySem.W.Frag) (F : Hp) (σ : L2.St) (ρ : Rho) : Prop where
  len : ρ.length = σ.length
  get : ∀ (i : Nat) (d : D), ρ[i]? = some (some d) → ∃ v, σ[i]? = some (some v) ∧ Is K F v d
theorem EnvR.up {K : PySem.W.Frag} {F F' : Hp} {σ : L2.St} {ρ : Rho} (h : EnvR K F σ ρ) (e : Same F F') : EnvR K F' σ ρ := ⟨h.len, fun i d q => by
  obtain ⟨v, h1, h2⟩ := h.get i d q
  exact ⟨v, h1, h2.up e⟩⟩
theorem EnvR.set {K : PySem.W.Frag} {F : Hp} {σ : L2.St} {ρ : Rho} {v : V} {d : D} (h : EnvR K F σ ρ) (n : Nat) (iv : Is K F v d) : EnvR K F (σ.set n (some v)) (ρ.set n (some d)) := by
  refine ⟨by rw [List.length_set, List.length_set]; exact h.len, fun i e q => ?_⟩
  have hl := h.len
  by_cases hi : n = i
  · subst hi
    by_cases hn : n < ρ.length
    · rw [List.getElem?_set_self hn] at q
      cases q
      exact ⟨v, List.getElem?_set_self (by omega), iv⟩
    · rw [List.getElem?_eq_none (by rw [List.length_set]; omega)] at q
      cases q
  · rw [List.getElem?_set_ne hi] at q
    obtain ⟨u, h1, h2⟩ := h.get i e q
    exact ⟨u, by rw [List.getElem?_set_ne hi]; exact h1, h2⟩
def ExIs (K : PySem.W.Frag) (F H : Hp) (x : Ex) (c : Value) (od : Option Addr) : Prop :=
  c = x.cls ∧ ((od = none ∧ x.fs = []) ∨ ∃ a kvs, od = some a ∧ H a = some (.xd kvs) ∧ kvs.map (·.1) = x.fs.map (·.1) ∧ IsL K F (kvs.map (·.2)) (x.fs.map (·.2)))
/-- nothing is wanted of exceptions: none comes -/
def NoX (ED : XD) : Prop := ∀ x μ, ¬ ED x μ
/-- what is wanted of exceptions, below and above -/
def Lnk (K : PySem.W.Frag) (Eh : Option XK) (F : Hp) (ED : XD) : Prop := match Eh with
  | none => NoX ED
  | some E => ∀ F' H' μ' x, Same F F' → Rep K F' H' μ' → ED x μ' → ∀ c od, ExIs K F' H' x c od → E c od H'
theorem Lnk.up {K : PySem.W.Frag} {Eh : Option XK} {F F' : Hp} {ED : XD} (h : Lnk K Eh F ED) (e : Same F F') : Lnk K Eh F' ED := by
  cases Eh with
  | none => exact h
  | some E => exact fun F1 H1 μ1 x s r q c od i => h F1 H1 μ1 x (e.trans s) r q c od i

/-- the ways behind a value -/
def Back (K : PySem.W.Frag) (F : Hp) {α β : Type} (R : Hp → β → α → Prop) (Q : α → Mem → Prop) (Qh : β → Hp → Prop) : Prop :=
  ∀ v H' d F' μ', Same F F' → Rep K F' H' μ' → R F' v d → Q d μ' → Qh v H'
def liftE (K : PySem.W.Frag) (Eh : Option XK) (m : Rho → W D) : TE := fun σ H Qh => ∃ F ρ μ Q ED, EnvR K F σ ρ ∧ Rep K F H μ ∧ Lnk K Eh F ED ∧ m ρ μ Q ED ∧ Back K F (Is K) Q Qh
def liftA (K : PySem.W.Frag) (Eh : Option XK) (m : Rho → W (List D)) : TA := fun σ H Qh => ∃ F ρ μ Q ED, EnvR K F σ ρ ∧ Rep K F H μ ∧ Lnk K Eh F ED ∧ m ρ μ Q ED ∧ Back K F (IsL K) Q Qh
def liftT (K : PySem.W.Frag) (Eh : Option XK) (m : Rho → W Bool) : TT := fun σ H Qh => ∃ F ρ μ Q ED, EnvR K F σ ρ ∧ Rep K F H μ ∧ Lnk K Eh F ED ∧ m ρ μ Q ED ∧ Back K F (fun _ (b : Bool) c => b = c) Q Qh
/-- how a statement ends -/
inductive Out where
  | nx (ρ : Rho)
  | rt (d : D)
  | bk (ρ : Rho)
  | ct (ρ : Rho)
def EndsOk (K : PySem.W.Frag) (F : Hp) (Q : Out → Mem → Prop) (De : Ends) : Prop :=
  (∀ F' H' μ' σ' ρ', Same F F' → Rep K F' H' μ' → EnvR K F' σ' ρ' → Q (.nx ρ') μ' → De.nx σ' H') ∧
  (∀ F' H' μ' v d, Same F F' → Rep K F' H' μ' → Is K F' v d → Q (.rt d) μ' → De.rt v H') ∧
  (∀ F' H' μ' σ' ρ', Same F F' → Rep K F' H' μ' → EnvR K F' σ' ρ' → Q (.bk ρ') μ' → De.bk σ' H') ∧
  (∀ F' H' μ' σ' ρ', Same F F' → Rep K F' H' μ' → EnvR K F' σ' ρ' → Q (.ct ρ') μ' → De.ct σ' H')
def liftS (K : PySem.W.Frag) (Eh : Option XK) (m : Rho → W Out) : TS := fun De σ H => ∃ F ρ μ Q ED, EnvR K F σ ρ ∧ Rep K F H μ ∧ Lnk K Eh F ED ∧ m ρ μ Q ED ∧ EndsOk K F Q De

theorem PE.imp {X : Cx} {e : Expr} {t t' : TE} (h : PE X e t) (i : ∀ σ H Q, t' σ H Q → t σ H Q) : PE X e t' := ⟨fun pins s σ H Q I q => h.run pins s σ H Q I (i _ _ _ q)⟩
theorem PT.imp {X : Cx} {e : Expr} {t t' : TT} (h : PT X e t) (i : ∀ σ H Q, t' σ H Q → t σ H Q) : PT X e t' := ⟨fun pins s σ H Q I q => h.run pins s σ H Q I (i _ _ _ q)⟩
theorem PW.imp {X : Cx} {e : Expr} {t t' : TT} (h : PW X e t) (i : ∀ σ H Q, t' σ H Q → t σ H Q) : PW X e t' := ⟨fun wh pins s σ H Q I q => h.run wh pins s σ H Q I (i _ _ _ q)⟩
theorem PA.imp {X : Cx} {e : List Expr} {t t' : TA} (h : PA X e t) (i : ∀ σ H Q, t' σ H Q → t σ H Q) : PA X e t' := ⟨fun pos pins s σ H Q I q => h.run pos pins s σ H Q I (i _ _ _ q)⟩
theorem PS.imp {X : Cx} {e : Stmt} {t t' : TS} (h : PS X e t) (i : ∀ D σ H, t' D σ H → t D σ H) : PS X e t' := ⟨fun pins s σ H D I q => h.run pins s σ H D I (i _ _ _ q)⟩
theorem PSs.imp {X : Cx} {e : List Stmt} {t t' : TS} (h : PSs X e t) (i : ∀ D σ H, t' D σ H → t D σ H) : PSs X e t' := ⟨fun pins s σ H D I q => h.run pins s σ H D I (i _ _ _ q)⟩

abbrev DE (X : Cx) (Eh : Option XK) (e : Expr) (m : Rho → W D) : Prop := PE X e (liftE X.K Eh m)
abbrev DA (X : Cx) (Eh : Option XK) (e : List Expr) (m : Rho → W (List D)) : Prop := PA X e (liftA X.K Eh m)
abbrev DT (X : Cx) (Eh : Option XK) (e : Expr) (m : Rho → W Bool) : Prop := PT X e (liftT X.K Eh m)
abbrev DW (X : Cx) (Eh : Option XK) (e : Expr) (m : Rho → W Bool) : Prop := PW X e (liftT X.K Eh m)
abbrev DS (X : Cx) (Eh : Option XK) (e : Stmt) (m : Rho → W Out) : Prop := PS X e (liftS X.K Eh m)
abbrev DSs (X : Cx) (Eh : Option XK) (e : List Stmt) (m : Rho → W Out) : Prop := PSs X e (liftS X.K Eh m)

/-! ### new objects -/
section
variable {K : PySem.W.Frag} {F H : Hp} {μ : Mem} {p : Addr} {o : HO}
theorem same_new (h : F p = none) : Same F (upd F p o) := fun b x e => by
  rw [upd_ne (ne_of_none e h)]
  exact e
theorem Rep.nn (r : Rep K F H μ) (h : H p = none) : F p = none := r.sub.free h
theorem MoIs.up {F' : Hp} {a : Addr} {mo : MO} (e : Same F F') (h : MoIs K F H a mo) : MoIs K F' H a mo := by
  cases mo with
  | ml ds => obtain ⟨vs, h1, h2⟩ := h; exact ⟨vs, h1, h2.up e⟩
  | md ds => obtain ⟨vs, h1, h2, h3⟩ := h; exact ⟨vs, h1, h2, h3.up e⟩
theorem MoIs.ne {a : Addr} {mo : MO} (h : MoIs K F H a mo) (hp : H p = none) : a ≠ p := by
  cases mo with
  | ml ds => obtain ⟨vs, h1, h2⟩ := h; exact ne_of_none h1 hp
  | md ds => obtain ⟨vs, h1, h2, h3⟩ := h; exact ne_of_none h1 hp
theorem MoIs.upd {a : Addr} {mo : MO} (h : MoIs K F H a mo) (hp : a ≠ p) : MoIs K F (L2.upd H p o) a mo := by
  cases mo with
  | ml ds => obtain ⟨vs, h1, h2⟩ := h; exact ⟨vs, by rw [upd_ne hp]; exact h1, h2⟩
  | md ds => obtain ⟨vs, h1, h2, h3⟩ := h; exact ⟨vs, by rw [upd_ne hp]; exact h1, h2, h3⟩
/-- a new object that stays -/
theorem Rep.new (r : Rep K F H μ) (h : H p = Option.none) : Rep K (L2.upd F p o) (L2.upd H p o) μ := by
  refine ⟨fun b x e => ?_, fun a mo e => ?_⟩
  · by_cases hb : b = p
    · subst hb; rw [upd_same] at e ⊢; exact e
    · rw [upd_ne hb] at e ⊢; exact r.sub _ _ e
  · obtain ⟨f, m⟩ := r.mem a mo e
    have ne := m.ne h
    exact ⟨by rw [upd_ne ne]; exact f, (m.upd ne).up (same_new (r.nn h))⟩
def put (μ : Mem) (a : Addr) (o : MO) : Mem := fun b => if b = a then some o else μ b
theorem put_same {μ : Mem} {a : Addr} {o : MO} : put μ a o a = some o := by unfold put; rw [if_pos rfl]
theorem put_ne {μ : Mem} {a b : Addr} {o : MO} (h : b ≠ a) : put μ a o b = μ b := by unfold put; rw [if_neg h]
/-- a new object that may change -/
theorem Rep.newM {mo : MO} (r : Rep K F H μ) (h : H p = Option.none) (hm : MoIs K F (L2.upd H p o) p mo) : Rep K F (L2.upd H p o) (put μ p mo) := by
  refine ⟨fun b x e => ?_, fun a mo' e => ?_⟩
  · rw [upd_ne (ne_of_none (r.sub _ _ e) h)]; exact r.sub _ _ e
  · by_cases hb : a = p
    · subst hb
      rw [put_same] at e; cases e
      exact ⟨r.nn h, hm⟩
    · rw [put_ne hb] at e
      obtain ⟨f, m⟩ := r.mem a mo' e
      exact ⟨f, m.upd hb⟩
/-- a mutable object changes -/
theorem Rep.write {mo mo' : MO} (r : Rep K F H μ) (h : μ p = some mo) (hm : MoIs K F (L2.upd H p o) p mo') : Rep K F (L2.upd H p o) (put μ p mo') := by
  have fp := (r.mem p mo h).1
  refine ⟨fun b x e => ?_, fun a mo' e => ?_⟩
  · rw [upd_ne (ne_of_none e fp)]; exact r.sub _ _ e
  · by_cases hb : a = p
    · subst hb
      rw [put_same] at e; cases e
      exact ⟨fp, hm⟩
    · rw [put_ne hb] at e
      obtain ⟨f, m⟩ := r.mem a _ e
      exact ⟨f, m.upd hb⟩
/-- a new object that nobody tells of -/
theorem Rep.lay (r : Rep K F H μ) (h : H p = Option.none) : Rep K F (L2.upd H p o) μ := by
  refine ⟨fun b x e => ?_, fun a mo' e => ?_⟩
  · rw [upd_ne (ne_of_none (r.sub _ _ e) h)]; exact r.sub _ _ e
  · obtain ⟨f, m⟩ := r.mem a _ e
    exact ⟨f, m.upd (m.ne h)⟩
/-- a mutable list stays from now on -/
theorem Rep.freeze {ds : List D} (r : Rep K F H μ) (h : μ p = some (.ml ds)) : ∃ F', Same F F' ∧ Rep K F' H (fun b => if b = p then none else μ b) ∧ Is K F' (.ref p) (.lst ds) := by
  obtain ⟨fp, vs, h1, h2⟩ := r.mem p _ h
  have e := same_new (o := .lst vs) fp
  refine ⟨L2.upd F p (.lst vs), e, ⟨fun b x q => ?_, fun a mo q => ?_⟩, .lst (.inl (.inl upd_same)) (h2.up e)⟩
  · by_cases hb : b = p
    · subst hb; rw [upd_same] at q; rw [h1]; exact q
    · rw [upd_ne hb] at q; exact r.sub _ _ q
  · by_cases hb : a = p
    · rw [if_pos hb] at q; cases q
    · rw [if_neg hb] at q
      obtain ⟨f, m⟩ := r.mem a mo q
      exact ⟨by rw [upd_ne hb]; exact f, m.up e⟩
theorem Rep.less {μ' : Mem} (r : Rep K F H μ) (h : ∀ a mo, μ' a = some mo → μ a = some mo) : Rep K F H μ' := ⟨r.sub, fun a mo q => r.mem a mo (h a mo q)⟩
end
end DL

namespace DL
open PySem PySem.Spec PyProof.Rows L2

def W.opt {α : Type} : Option α → W α
  | some a => W.ret a
  | none => W.bad
@[simp] theorem W.opt_some {α : Type} (a : α) : W.opt (some a) = W.ret a := rfl
@[simp] theorem W.opt_none {α : Type} : (W.opt none : W α) = W.bad := rfl

/-! ### names, constants -/
def eVar (i : Nat) (ρ : Rho) : W D := match ρ[i]? with
  | some (some d) => W.ret d
  | _ => W.bad
def eC (d : D) (_ : Rho) : W D := W.ret d
section
variable {X : Cx} {Eh : Option XK}
theorem de_var {i : Nat} {x : Str} {pos : Pos} (hN : X.N[i]? = some x) (hv : Vis X.env.scope x) (hd : (x == ("__debug__" : Str)) = false) (hcd : (x == ("__classdict__" : Str)) = false) : DE X Eh (.Name x pos) (eVar i) := by
  refine PE.imp (pe_var hN hv hd hcd) fun σ H Qh ⟨F, ρ, μ, Q, ED, env, rep, lnk, hm, bk⟩ => ?_
  unfold eVar at hm
  cases e : ρ[i]? with
  | none => rw [e] at hm; exact hm.elim
  | some o =>
    cases o with
    | none => rw [e] at hm; exact hm.elim
    | some d =>
      rw [e] at hm
      obtain ⟨v, h1, h2⟩ := env.get i d e
      exact ⟨v, h1, bk v H d F μ (Same.refl F) rep h2 hm⟩
theorem de_int {i j pos} : DE X Eh (.Constant (.int i) j pos) (eC (.int i)) :=
  PE.imp pe_int fun σ H Qh ⟨F, ρ, μ, Q, ED, env, rep, lnk, hm, bk⟩ => bk _ H _ F μ (Same.refl F) rep (.int i) hm
theorem de_bl {b j pos} : DE X Eh (.Constant (.bool b) j pos) (eC (.bl b)) :=
  PE.imp pe_bl fun σ H Qh ⟨F, ρ, μ, Q, ED, env, rep, lnk, hm, bk⟩ => bk _ H _ F μ (Same.refl F) rep (.bl b) hm
theorem de_non {j pos} : DE X Eh (.Constant .none j pos) (eC .non) :=
  PE.imp pe_non fun σ H Qh ⟨F, ρ, μ, Q, ED, env, rep, lnk, hm, bk⟩ => bk _ H _ F μ (Same.refl F) rep .non hm
theorem de_str {x j pos} : DE X Eh (.Constant (.str x) j pos) (eC (.str x)) :=
  PE.imp pe_str fun σ H Qh ⟨F, ρ, μ, Q, ED, env, rep, lnk, hm, bk⟩ => bk _ H _ F μ (Same.refl F) rep (.str x) hm
/-- a built-in class as a value -/
theorem de_ty {x : Str} {n : String} {pos : Pos} (hg : Gl X x) (hm : X.mg x = none) (hv : bootBuiltins x = some (.type n)) (hn : x ≠ "__name__") (hd : (x == ("__debug__" : Str)) = false) : DE X Eh (.Name x pos) (eC (.ty n)) :=
  PE.imp (pe_bltn (v := .ty n) hg hm hv rfl hn hd) fun σ H Qh ⟨F, ρ, μ, Q, ED, env, rep, lnk, hm, bk⟩ => bk _ H _ F μ (Same.refl F) rep (.ty n) hm
/-- a constant of the module -/
theorem de_glob {x : Str} {v : V} {u : Value} {d : D} {pos : Pos} (hg : Gl X x) (hm : X.mg x = some u) (r : RelV v u) (hi : ∀ F, Is X.K F v d) (hd : (x == ("__debug__" : Str)) = false) : DE X Eh (.Name x pos) (eC d) :=
  PE.imp (pe_glob hg hm r hd) fun σ H Qh ⟨F, ρ, μ, Q, ED, env, rep, lnk, hm, bk⟩ => bk _ H _ F μ (Same.refl F) rep (hi F) hm

/-! ### two operands -/
def OpD (K : PySem.W.Frag) (r : R2) (g : D → D → W D) : Prop := ∀ (F H : Hp) (μ : Mem) (x y : V) (dx dy : D) (Q : D → Mem → Prop) (ED : XD) (Qh : VK), Rep K F H μ → Is K F x dx → Is K F y dy → g dx dy μ Q ED → Back K F (Is K) Q Qh → r x y H Qh
def eBin (g : D → D → W D) (ma mb : Rho → W D) (ρ : Rho) : W D := W.bnd (ma ρ) fun x => W.bnd (mb ρ) fun y => g x y
theorem lift_bin {K : PySem.W.Frag} {r : R2} {g : D → D → W D} {ma mb : Rho → W D} (hg : OpD K r g) {σ : L2.St} {H : Hp} {Qh : VK} (h : liftE K Eh (eBin g ma mb) σ H Qh) : tOp r (liftE K Eh ma) (liftE K Eh mb) σ H Qh := by
  obtain ⟨F, ρ, μ, Q, ED, env, rep, lnk, hm, bk⟩ := h
  refine ⟨F, ρ, μ, _, ED, env, rep, lnk, hm, fun v1 H1 d1 F1 μ1 s1 r1 i1 q1 => ?_⟩
  refine ⟨F1, ρ, μ1, _, ED, env.up s1, r1, lnk.up s1, q1, fun v2 H2 d2 F2 μ2 s2 r2 i2 q2 => ?_⟩
  exact hg F2 H2 μ2 v1 v2 d1 d2 Q ED Qh r2 (i1.up s2) i2 q2 fun v3 H3 d3 F3 μ3 s3 r3 i3 q3 => bk v3 H3 d3 F3 μ3 ((s1.trans s2).trans s3) r3 i3 q3
theorem de_op {op : Operator} {r : R2} {g : D → D → W D} {a b : Expr} {ma mb : Rho → W D} {pos : Pos} (ho : OpR X (binaryOp op) r) (hg : OpD X.K r g) (ha : DE X Eh a ma) (hb : DE X Eh b mb) : DE X Eh (.BinOp a op b pos) (eBin g ma mb) :=
  PE.imp (pe_op ho ha hb) fun _ _ _ h => lift_bin hg h
theorem de_cmp {op : CmpOp} {r : R2} {g : D → D → W D} {a b : Expr} {ma mb : Rho → W D} {pos : Pos} (ho : OpR X (compareOp op) r) (hg : OpD X.K r g) (ha : DE X Eh a ma) (hb : DE X Eh b mb) (hm : behindInMarks op b = false) : DE X Eh (.Compare a [op] [b] pos) (eBin g ma mb) :=
  PE.imp (pe_cmpR ho ha hb hm) fun _ _ _ h => lift_bin hg h
theorem de_ix {r : R2} {g : D → D → W D} {a b : Expr} {ma mb : Rho → W D} {pos : Pos} (hr : IxR X r) (hg : OpD X.K r g) (ha : DE X Eh a ma) (hb : DE X Eh b mb) (hs : PlainIx b) : DE X Eh (.Subscript a b pos) (eBin g ma mb) :=
  PE.imp (pe_ix hr ha hb hs) fun _ _ _ h => lift_bin hg h
/-- .. as a test -/
def tBin (g : D → D → W D) (ma mb : Rho → W D) (ρ : Rho) : W Bool := W.bnd (eBin g ma mb ρ) fun d => match d with
  | .bl b => W.ret b
  | _ => W.bad
theorem is_bl {K : PySem.W.Frag} {F : Hp} {v : V} {b : Bool} (h : Is K F v (.bl b)) : v = .bl b := by
  cases h
  rfl
theorem is_int {K : PySem.W.Frag} {F : Hp} {v : V} {b : Int} (h : Is K F v (.int b)) : v = .int b := by
  cases h
  rfl
theorem is_str {K : PySem.W.Frag} {F : Hp} {v : V} {b : Str} (h : Is K F v (.str b)) : v = .str b := by
  cases h
  rfl
theorem is_obj {K : PySem.W.Frag} {F : Hp} {v : V} {a : Addr} (h : Is K F v (.obj a)) : v = .ref a := by
  cases h
  rfl
theorem dt_cmp {op : CmpOp} {r : R2} {g : D → D → W D} {a b : Expr} {ma mb : Rho → W D} {pos : Pos} (ho : OpR X (compareOp op) r) (hg : OpD X.K r g) (ha : DE X Eh a ma) (hb : DE X Eh b mb) (hm : behindInMarks op b = false) : DT X Eh (.Compare a [op] [b] pos) (tBin g ma mb) := by
  refine PT.imp (pt_cmpR ho ha hb hm) fun σ H Qh h => ?_
  obtain ⟨F, ρ, μ, Q, ED, env, rep, lnk, hm, bk⟩ := h
  refine lift_bin (Eh := Eh) hg ⟨F, ρ, μ, _, ED, env, rep, lnk, hm, fun v H' d F' μ' s' r' i' q' => ?_⟩
  cases d with
  | bl b =>
    cases is_bl i'
    exact ⟨b, rfl, bk b H' b F' μ' s' r' rfl q'⟩
  | _ => exact q'.elim
end

/-! ### what a value is, with the mutable objects -/
/-- the items of a list, a tuple -/
def lsOf (x : D) (μ : Mem) : Option (List D) := match x with
  | .lst ds => some ds
  | .obj a => (match μ a with
    | some (.ml ds) => some ds
    | _ => none)
  | _ => none
def sqOf (x : D) (μ : Mem) : Option (List D) := match x with
  | .tup ds => some ds
  | x => lsOf x μ
section
variable {K : PySem.W.Frag} {F H : Hp} {μ : Mem} {v : V} {d : D} {ds : List D}
theorem ls_of (r : Rep K F H μ) (i : Is K F v d) (h : lsOf d μ = some ds) : ∃ a vs, v = .ref a ∧ SqL K H a vs ∧ IsL K F vs ds := by
  cases i with
  | lst hr hl =>
    cases h
    exact ⟨_, _, rfl, sql_up r.sub hr, hl⟩
  | obj a =>
    unfold lsOf at h
    simp only at h
    split at h
    · rename_i es e
      cases h
      obtain ⟨_, vs, h1, h2⟩ := r.mem a _ e
      exact ⟨a, vs, rfl, .inl (.inl h1), h2⟩
    · cases h
  | _ => cases h
theorem sq_of (r : Rep K F H μ) (i : Is K F v d) (h : sqOf d μ = some ds) : ∃ a vs, v = .ref a ∧ IsL K F vs ds ∧ (SqL K H a vs ∨ SqT K H a vs) := by
  cases i with
  | tup hr hl =>
    cases h
    exact ⟨_, _, rfl, hl, .inr (sqt_up r.sub hr)⟩
  | lst hr hl =>
    obtain ⟨a, vs, e, h1, h2⟩ := ls_of r (.lst hr hl) h
    exact ⟨a, vs, e, h2, .inl h1⟩
  | obj a =>
    obtain ⟨a, vs, e, h1, h2⟩ := ls_of r (.obj a) h
    exact ⟨a, vs, e, h2, .inl h1⟩
  | _ => cases h
end

/-! ### a new list, a new tuple behind a value -/
section
variable {K : PySem.W.Frag} {F H : Hp} {μ : Mem} {Q : D → Mem → Prop} {Qh : VK} {vs : List V} {ds : List D} {p : Addr}
theorem back_lst (bk : Back K F (Is K) Q Qh) (r : Rep K F H μ) (hn : H p = none) (il : IsL K F vs ds) (q : Q (.lst ds) μ) : Qh (.ref p) (upd H p (.lst vs)) := by
  have e := same_new (o := .lst vs) (r.nn hn)
  exact bk _ _ _ _ _ e (r.new hn) (.lst (.inl (.inl upd_same)) (il.up e)) q
theorem back_tup (bk : Back K F (Is K) Q Qh) (r : Rep K F H μ) (hn : H p = none) (il : IsL K F vs ds) (q : Q (.tup ds) μ) : Qh (.ref p) (upd H p (.tup vs)) := by
  have e := same_new (o := .tup vs) (r.nn hn)
  exact bk _ _ _ _ _ e (r.new hn) (.tup (.inl (.inl upd_same)) (il.up e)) q
theorem back_mut (bk : Back K F (Is K) Q Qh) (r : Rep K F H μ) (hn : H p = none) (il : IsL K F vs ds) (q : Q (.obj p) (put μ p (.ml ds))) : Qh (.ref p) (upd H p (.lst vs)) :=
  bk _ _ _ _ _ (Same.refl F) (r.newM (mo := .ml ds) hn ⟨vs, upd_same, il⟩) (.obj p) q
theorem back_is {v : V} {d : D} (bk : Back K F (Is K) Q Qh) (r : Rep K F H μ) (i : Is K F v d) (q : Q d μ) : Qh v H := bk _ _ _ _ _ (Same.refl F) r i q
end

/-! ### + - * // % ** -/
def rCatR (K : PySem.W.Frag) : R2 := fun x y H Q => ∃ l b xs zs, x = .ref l ∧ y = .ref b ∧ SqL K H l xs ∧ SqL K H b zs ∧ xs.length + zs.length ≤ sizeLine ∧ ∀ p, H p = none → Q (.ref p) (upd H p (.lst (xs ++ zs)))
theorem op_catR {X : Cx} : OpR X (binaryOp .Add) (rCatR X.K) := by
  intro pins s σ H x y v u Q I rx ry h
  obtain ⟨l, b, xs, zs, rfl, rfl, hH, hB, hz, q⟩ := h
  cases rx
  cases ry
  obtain ⟨i1, v1, ⟨⟨c1, dd1, da1, sl1⟩, n1, g1, hc1, _, hd1⟩, z1⟩ := I.list hH
  obtain ⟨i2, v2, ⟨⟨c2, dd2, da2, sl2⟩, n2, g2, hc2, _, hd2⟩, z2⟩ := I.list hB
  simp only at hc1 hd1 hc2 hd2
  subst hc1 hd1 hc2 hd2
  have l1 := v1.length
  have l2 := v2.length
  have nw := I.lnew (t' := s.toks) (v1.append v2) (by rw [List.length_append]; omega)
  have fin : EP X pins σ Q (.ref s.heap.objs.size) { s with heap := s.heap.push { cls := .type "list", data := .seq (i1.toArray ++ i2.toArray) } } := by
    rw [show i1.toArray ++ i2.toArray = (i1 ++ i2).toArray by simp]
    exact ⟨.ref s.heap.objs.size, upd H s.heap.objs.size (.lst (xs ++ zs)), nw, rfl, q _ I.fresh⟩
  exact concat_meets ⟨_, g1, rfl⟩ ⟨_, g2, rfl⟩ noFill_list_add seq_list_add PySem.F.slot_list_add PySem.F.entry_list_add (PySem.F.args_list_add_2 _ _) (list_addW l b i1.toArray i2.toArray n1 n2 dd1 dd2 sl1 sl2 (by rw [List.size_toArray, List.size_toArray]; omega)) ⟨g1, g2, fin⟩
def addD : D → D → W D
  | .int i, .int j => W.ret (.int (i + j))
  | .str a, .str b => W.req (a.length + b.length ≤ sizeLine) (W.ret (.str (a ++ b)))
  | .tup a, .tup b => W.req (a.length + b.length ≤ sizeLine) (W.ret (.tup (a ++ b)))
  | x, y => W.bnd W.get fun μ => W.bnd (W.opt (lsOf x μ)) fun a => W.bnd (W.opt (lsOf y μ)) fun b => W.req (a.length + b.length ≤ sizeLine) (W.ret (.lst (a ++ b)))
def rAddA (K : PySem.W.Frag) : R2 := fun x y H Q => (rI0 fun i j => .int (i + j)) x y H Q ∨ ((∃ i j, x = .str i ∧ y = .str j ∧ i.length + j.length ≤ sizeLine ∧ Q (.str (i ++ j)) H) ∨ (rCatA K x y H Q ∨ rCatR K x y H Q))
theorem op_addA {X : Cx} : OpR X (binaryOp .Add) (rAddA X.K) := op_add.or (op_add_str.or (op_catA.or op_catR))
theorem opt_of {α : Type} {o : Option α} {μ : Mem} {Q : α → Mem → Prop} {E : XD} (h : W.opt o μ Q E) : ∃ a, o = some a ∧ Q a μ := by
  cases o with
  | none => exact h.elim
  | some a => exact ⟨a, rfl, h⟩
theorem cat_lists {K : PySem.W.Frag} {F H : Hp} {μ : Mem} {x y : V} {dx dy : D} {Q : D → Mem → Prop} {ED : XD} {Qh : VK} (r : Rep K F H μ) (ix : Is K F x dx) (iy : Is K F y dy)
    (h : W.bnd W.get (fun μ => W.bnd (W.opt (lsOf dx μ)) fun a => W.bnd (W.opt (lsOf dy μ)) fun b => W.req (a.length + b.length ≤ sizeLine) (W.ret (.lst (a ++ b)))) μ Q ED) (bk : Back K F (Is K) Q Qh) : rCatR K x y H Qh := by
  obtain ⟨a, ea, h⟩ := opt_of h
  obtain ⟨b, eb, h⟩ := opt_of h
  obtain ⟨hz, q⟩ := h
  obtain ⟨p1, v1, rfl, h1, l1⟩ := ls_of r ix ea
  obtain ⟨p2, v2, rfl, h2, l2⟩ := ls_of r iy eb
  exact ⟨p1, p2, v1, v2, rfl, rfl, h1, h2, by rw [l1.length, l2.length]; exact hz, fun p hn => back_lst bk r hn (l1.app l2) q⟩
theorem opd_add {K : PySem.W.Frag} : OpD K (rAddA K) addD := by
  intro F H μ x y dx dy Q ED Qh r ix iy h bk
  unfold addD at h
  split at h
  · cases ix; cases iy
    exact .inl ⟨_, _, rfl, rfl, back_is bk r (.int _) h⟩
  · cases ix; cases iy
    obtain ⟨hz, q⟩ := h
    exact .inr (.inl ⟨_, _, rfl, rfl, hz, back_is bk r (.str _) q⟩)
  · obtain ⟨hz, q⟩ := h
    cases ix with
    | tup s1 l1 =>
      cases iy with
      | tup s2 l2 =>
        refine .inr (.inr (.inl ⟨_, _, _, _, rfl, rfl, sqt_up r.sub s1, sqt_up r.sub s2, by rw [l1.length, l2.length]; exact hz, fun e => ?_, fun _ e => ?_, fun _ _ p hn => back_tup bk r hn (l1.app l2) q⟩))
        · subst e; cases l1
          exact back_is bk r (.tup s2 l2) q
        · subst e; cases l2
          rw [List.append_nil] at q
          exact back_is bk r (.tup s1 l1) q
  · exact .inr (.inr (.inr (cat_lists r ix iy h bk)))
def subD : D → D → W D
  | .int i, .int j => W.ret (.int (i - j))
  | _, _ => W.bad
theorem opd_sub {K : PySem.W.Frag} : OpD K (rI0 fun i j => .int (i - j)) subD := by
  intro F H μ x y dx dy Q ED Qh r ix iy h bk
  unfold subD at h
  split at h
  · cases ix; cases iy
    exact ⟨_, _, rfl, rfl, back_is bk r (.int _) h⟩
  · exact h.elim
def mulD : D → D → W D
  | .int i, .int j => W.req (CMulW i j) (W.ret (.int (i * j)))
  | _, _ => W.bad
theorem opd_mul {K : PySem.W.Frag} : OpD K (rI CMulW fun i j => .int (i * j)) mulD := by
  intro F H μ x y dx dy Q ED Qh r ix iy h bk
  unfold mulD at h
  split at h
  · cases ix; cases iy
    exact ⟨_, _, rfl, rfl, h.1, back_is bk r (.int _) h.2⟩
  · exact h.elim
def divD : D → D → W D
  | .int i, .int j => W.req (CDivW i j) (W.ret (.int (i / j)))
  | _, _ => W.bad
theorem opd_div {K : PySem.W.Frag} : OpD K (rI CDivW fun i j => .int (i / j)) divD := by
  intro F H μ x y dx dy Q ED Qh r ix iy h bk
  unfold divD at h
  split at h
  · cases ix; cases iy
    exact ⟨_, _, rfl, rfl, h.1, back_is bk r (.int _) h.2⟩
  · exact h.elim
def modD : D → D → W D
  | .int i, .int j => W.req (0 < j) (W.ret (.int (i % j)))
  | _, _ => W.bad
theorem opd_mod {K : PySem.W.Frag} : OpD K (rI (fun _ j => 0 < j) fun i j => .int (i % j)) modD := by
  intro F H μ x y dx dy Q ED Qh r ix iy h bk
  unfold modD at h
  split at h
  · cases ix; cases iy
    exact ⟨_, _, rfl, rfl, h.1, back_is bk r (.int _) h.2⟩
  · exact h.elim
def powD : D → D → W D
  | .int i, .int j => W.req (CPow i j) (W.ret (.int (i ^ j.toNat)))
  | _, _ => W.bad
theorem opd_pow {K : PySem.W.Frag} : OpD K (rI CPow fun i j => .int (i ^ j.toNat)) powD := by
  intro F H μ x y dx dy Q ED Qh r ix iy h bk
  unfold powD at h
  split at h
  · cases ix; cases iy
    exact ⟨_, _, rfl, rfl, h.1, back_is bk r (.int _) h.2⟩
  · exact h.elim

/-! ### one operand -/
def eUn (g : D → W D) (ma : Rho → W D) (ρ : Rho) : W D := W.bnd (ma ρ) g
def UnD (K : PySem.W.Frag) (r : V → Hp → VK → Prop) (g : D → W D) : Prop := ∀ (F H : Hp) (μ : Mem) (x : V) (dx : D) (Q : D → Mem → Prop) (ED : XD) (Qh : VK), Rep K F H μ → Is K F x dx → g dx μ Q ED → Back K F (Is K) Q Qh → r x H Qh
theorem lift_un {Eh : Option XK} {K : PySem.W.Frag} {r : V → Hp → VK → Prop} {g : D → W D} {ma : Rho → W D} (hg : UnD K r g) {σ : L2.St} {H : Hp} {Qh : VK} (h : liftE K Eh (eUn g ma) σ H Qh) : tUn r (liftE K Eh ma) σ H Qh := by
  obtain ⟨F, ρ, μ, Q, ED, env, rep, lnk, hm, bk⟩ := h
  refine ⟨F, ρ, μ, _, ED, env, rep, lnk, hm, fun v1 H1 d1 F1 μ1 s1 r1 i1 q1 => ?_⟩
  exact hg F1 H1 μ1 v1 d1 Q ED Qh r1 i1 q1 fun v3 H3 d3 F3 μ3 s3 r3 i3 q3 => bk v3 H3 d3 F3 μ3 (s1.trans s3) r3 i3 q3
def negD : D → W D
  | .int i => W.ret (.int (-i))
  | _ => W.bad
theorem de_neg {X : Cx} {Eh : Option XK} {a : Expr} {ma : Rho → W D} {pos : Pos} (ha : DE X Eh a ma) : DE X Eh (.UnaryOp .USub a pos) (eUn negD ma) :=
  PE.imp (pe_un un_neg ha) fun _ _ _ h => lift_un (by
    intro F H μ x dx Q ED Qh r ix h bk
    unfold negD at h
    split at h
    · cases ix
      exact ⟨_, rfl, back_is bk r (.int _) h⟩
    · exact h.elim) h

/-! ### comparisons -/
def cmpI (p : Int → Int → Bool) (q : List Nat → List Nat → Bool) : D → D → W D
  | .int i, .int j => W.ret (.bl (p i j))
  | .str a, .str b => W.ret (.bl (q a.cps.toList b.cps.toList))
  | _, _ => W.bad
abbrev ltD := cmpI (fun i j => decide (i < j)) (fun a b => decide (a < b))
abbrev leD := cmpI (fun i j => decide (i ≤ j)) (fun a b => !decide (b < a))
abbrev gtD := cmpI (fun i j => decide (j < i)) (fun a b => decide (b < a))
abbrev geD := cmpI (fun i j => decide (j ≤ i)) (fun a b => !decide (a < b))
def rCmpA (p : Int → Int → Bool) (q : List Nat → List Nat → Bool) : R2 := fun x y H Q => (rI0 fun i j => .bl (p i j)) x y H Q ∨ ∃ i j, x = .str i ∧ y = .str j ∧ Q (.bl (q i.cps.toList j.cps.toList)) H
theorem opd_cmp {K : PySem.W.Frag} {p : Int → Int → Bool} {q : List Nat → List Nat → Bool} : OpD K (rCmpA p q) (cmpI p q) := by
  intro F H μ x y dx dy Q ED Qh r ix iy h bk
  unfold cmpI at h
  split at h
  · cases ix; cases iy
    exact .inl ⟨_, _, rfl, rfl, back_is bk r (.bl _) h⟩
  · cases ix; cases iy
    exact .inr ⟨_, _, rfl, rfl, back_is bk r (.bl _) h⟩
  · exact h.elim
section
variable {X : Cx}
theorem op_ltA : OpR X (compareOp .Lt) (rCmpA (fun i j => decide (i < j)) (fun a b => decide (a < b))) := op_lt.or op_lt_str
theorem op_leA : OpR X (compareOp .LtE) (rCmpA (fun i j => decide (i ≤ j)) (fun a b => !decide (b < a))) := op_le.or op_le_str
theorem op_gtA : OpR X (compareOp .Gt) (rCmpA (fun i j => decide (j < i)) (fun a b => decide (b < a))) := op_gt.or op_gt_str
theorem op_geA : OpR X (compareOp .GtE) (rCmpA (fun i j => decide (j ≤ i)) (fun a b => !decide (a < b))) := op_ge.or op_ge_str
end
end DL

namespace DL
open PySem PySem.Spec PyProof.Rows L2

/-! ### data as the model has it -/
def keyPy : Key → PyData
  | .inl i => .int i
  | .inr x => .str x
mutual
def py : D → Option PyData
  | .non => some .none
  | .bl b => some (.bool b)
  | .int i => some (.int i)
  | .str s => some (.str s)
  | .tup ds => (pyL ds).map .tuple
  | .lst ds => (pyL ds).map .list
  | .dct kvs => (pyK kvs).map .dict
  | .obj _ => none
  | .ty _ => none
def pyL : List D → Option (List PyData)
  | [] => some []
  | d :: r => match py d, pyL r with
    | some x, some xs => some (x :: xs)
    | _, _ => none
def pyK : List (Key × D) → Option (List (PyData × PyData))
  | [] => some []
  | (k, d) :: r => match py d, pyK r with
    | some x, some xs => some ((keyPy k, x) :: xs)
    | _, _ => none
end
def pyM (μ : Mem) (d : D) : Option PyData := match d with
  | .obj a => (match μ a with
    | some (.ml ds) => (pyL ds).map .list
    | _ => none)
  | d => py d
theorem pyL_cons {d : D} {r : List D} {ps : List PyData} (h : pyL (d :: r) = some ps) : ∃ x xs, py d = some x ∧ pyL r = some xs ∧ ps = x :: xs := by
  unfold pyL at h
  split at h
  · rename_i x xs e1 e2
    cases h
    exact ⟨x, xs, e1, e2, rfl⟩
  · cases h
section
variable {K : PySem.W.Frag} {F H : Hp} (e : Same F H)
include e
mutual
theorem Is.dp : ∀ {v : V} {d : D} {p : PyData}, Is K F v d → py d = some p → p.canLay0 = true → Dp K H v p
  | _, _, _, .non, h, _ => by cases h; exact .non
  | _, _, _, .bl b, h, _ => by cases h; exact .bl b
  | _, _, _, .int i, h, _ => by cases h; exact .int i
  | _, _, _, .str s, h, _ => by cases h; exact .str s
  | _, _, _, .tup hs hl, h, c => by
    unfold py at h
    obtain ⟨ps, h1, h2⟩ := Option.map_eq_some_iff.mp h
    subst h2
    exact .tup (sqt_up e hs) (IsL.dp hl h1 c)
  | _, _, _, .lst hs hl, h, c => by
    unfold py at h
    obtain ⟨ps, h1, h2⟩ := Option.map_eq_some_iff.mp h
    subst h2
    exact .lst (sql_up e hs) (IsL.dp hl h1 c)
  | _, _, _, .dct hs hk hl, h, c => by
    unfold py at h
    obtain ⟨ps, h1, h2⟩ := Option.map_eq_some_iff.mp h
    subst h2
    cases c
  | _, _, _, .obj a, h, c => by cases h
  | _, _, _, .ty a, h, c => by cases h
theorem IsL.dp : ∀ {vs : List V} {ds : List D} {ps : List PyData}, IsL K F vs ds → pyL ds = some ps → PyData.canLayAll0 ps = true → DpAll K H vs ps
  | _, _, _, .nil, h, _ => by cases h; exact .nil
  | _, _, _, .cons i r, h, c => by
    obtain ⟨x, xs, h1, h2, rfl⟩ := pyL_cons h
    have c' := Bool.and_eq_true_iff.mp (show (x.canLay0 && PyData.canLayAll0 xs) = true from c)
    exact .cons (Is.dp i h1 c'.1) (IsL.dp r h2 c'.2)
end
end
theorem dp_of {K : PySem.W.Frag} {F H : Hp} {μ : Mem} {v : V} {d : D} {p : PyData} (r : Rep K F H μ) (i : Is K F v d) (h : pyM μ d = some p) (c : p.canLay0 = true) : Dp K H v p := by
  cases i with
  | obj a =>
    unfold pyM at h
    simp only at h
    split at h
    · rename_i ds e
      obtain ⟨ps, h1, h2⟩ := Option.map_eq_some_iff.mp h
      subst h2
      obtain ⟨_, vs, h3, h4⟩ := r.mem a _ e
      exact .lst (.inl (.inl h3)) (IsL.dp r.sub h4 h1 c)
    · cases h
  | non => exact Is.dp r.sub .non h c
  | bl b => exact Is.dp r.sub (.bl b) h c
  | int b => exact Is.dp r.sub (.int b) h c
  | str b => exact Is.dp r.sub (.str b) h c
  | tup a b => exact Is.dp r.sub (.tup a b) h c
  | lst a b => exact Is.dp r.sub (.lst a b) h c
  | dct a b c' => exact Is.dp r.sub (.dct a b c') h c
  | ty b => cases h

/-! ### == and != -/
def eqW (f : Bool → Bool) (x y : D) : W D := W.bnd W.get fun μ => W.bnd (W.opt (pyM μ x)) fun a => W.bnd (W.opt (pyM μ y)) fun b => W.req (SeqAt.shaped a = true ∧ SeqAt.shaped b = true) (W.ret (.bl (f (PyData.eqv a b))))
theorem eqw_of {K : PySem.W.Frag} {F H : Hp} {μ : Mem} {x y : V} {dx dy : D} {f : Bool → Bool} {Q : D → Mem → Prop} {ED : XD} {Qh : VK} (r : Rep K F H μ) (ix : Is K F x dx) (iy : Is K F y dy) (h : eqW f dx dy μ Q ED) (bk : Back K F (Is K) Q Qh) :
    ∃ a b, Dp K H x a ∧ Dp K H y b ∧ SeqAt.shaped a = true ∧ SeqAt.shaped b = true ∧ Qh (.bl (f (PyData.eqv a b))) H := by
  obtain ⟨a, ea, h⟩ := opt_of h
  obtain ⟨b, eb, h⟩ := opt_of h
  obtain ⟨⟨s1, s2⟩, q⟩ := h
  exact ⟨a, b, dp_of r ix ea (SeqAt.canLay_of_shaped s1), dp_of r iy eb (SeqAt.canLay_of_shaped s2), s1, s2, back_is bk r (.bl _) q⟩
/-- texts and numbers at once, all else by what it holds -/
def eqA (f : Bool → Bool) (x y : D) : W D := match x, y with
  | .str a, .str b => W.ret (.bl (f (a == b)))
  | .int a, .int b => W.ret (.bl (f (decide (a = b))))
  | x, y => eqW f x y
abbrev eqD := eqA id
abbrev neD := eqA not
def rEqA (K : PySem.W.Frag) : R2 := fun x y H Q => rEq x y H Q ∨ rEqD K x y H Q
def rNeA (K : PySem.W.Frag) : R2 := fun x y H Q => rNe x y H Q ∨ rNeD K x y H Q
theorem op_eqA {X : Cx} (hu : X.A.units + 64 < cLine) : OpR X (compareOp .Eq) (rEqA X.K) := op_eq.or (op_eqD hu)
theorem op_neA {X : Cx} (hu : X.A.units + 64 < cLine) : OpR X (compareOp .NotEq) (rNeA X.K) := op_ne.or (op_neD hu)
theorem opd_eq {K : PySem.W.Frag} : OpD K (rEqA K) eqD := fun F H μ x y dx dy Q ED Qh r ix iy h bk => by
  unfold eqD eqA at h
  split at h
  · cases ix; cases iy
    refine .inl ⟨rfl, ?_⟩
    rw [dec_str]
    exact back_is bk r (.bl _) h
  · cases ix; cases iy
    refine .inl ⟨rfl, ?_⟩
    have e : ∀ i j : Int, decide (V.int i = V.int j) = decide (i = j) := fun i j => by rw [Bool.eq_iff_iff]; simp
    rw [e]
    exact back_is bk r (.bl _) h
  · exact .inr (eqw_of r ix iy h bk)
theorem opd_ne {K : PySem.W.Frag} : OpD K (rNeA K) neD := fun F H μ x y dx dy Q ED Qh r ix iy h bk => by
  unfold neD eqA at h
  split at h
  · cases ix; cases iy
    refine .inl ⟨rfl, ?_⟩
    rw [dec_str]
    exact back_is bk r (.bl _) h
  · cases ix; cases iy
    refine .inl ⟨rfl, ?_⟩
    have e : ∀ i j : Int, decide (V.int i = V.int j) = decide (i = j) := fun i j => by rw [Bool.eq_iff_iff]; simp
    rw [e]
    exact back_is bk r (.bl _) h
  · exact .inr (eqw_of r ix iy h bk)
theorem eqA_of {f : Bool → Bool} {x y : D} {μ : Mem} {Q : D → Mem → Prop} {E : XD} (h : eqW f x y μ Q E) : eqA f x y μ Q E := by
  unfold eqA
  split
  · obtain ⟨_, q⟩ := h
    exact q
  · rename_i a b
    obtain ⟨_, q⟩ := h
    have q : Q (.bl (f (a == b))) μ := q
    have e : (a == b) = decide (a = b) := Bool.eq_iff_iff.mpr (by simp)
    rw [e] at q
    exact q
  · exact h

/-! ### is None -/
def isNon : D → Bool
  | .non => true
  | _ => false
def isND (f : Bool → Bool) (x y : D) : W D := match y with
  | .non => W.ret (.bl (f (isNon x)))
  | _ => W.bad
theorem non_iff {K : PySem.W.Frag} {F : Hp} {v : V} {d : D} (i : Is K F v d) : decide (v = .non) = isNon d := by
  cases i <;> first | rfl | exact decide_eq_false (fun e => nomatch e)
theorem opd_isN {K : PySem.W.Frag} : OpD K (fun x y H Q => y = .non ∧ Q (.bl (decide (x = .non))) H) (isND id) := by
  intro F H μ x y dx dy Q ED Qh r ix iy h bk
  unfold isND at h
  split at h
  · cases iy
    refine ⟨rfl, ?_⟩
    rw [non_iff ix]
    exact back_is bk r (.bl _) h
  · exact h.elim
theorem opd_notN {K : PySem.W.Frag} : OpD K (fun x y H Q => y = .non ∧ Q (.bl (!decide (x = .non))) H) (isND not) := by
  intro F H μ x y dx dy Q ED Qh r ix iy h bk
  unfold isND at h
  split at h
  · cases iy
    refine ⟨rfl, ?_⟩
    rw [non_iff ix]
    exact back_is bk r (.bl _) h
  · exact h.elim

/-! ### truth -/
def truD (x : D) : W Bool := match x with
  | .non => W.ret false
  | .bl b => W.ret b
  | .int i => W.ret (i != 0)
  | .str y => W.req (y.length ≤ sizeLine) (W.ret ((y.length : Int) != 0))
  | .dct kvs => W.ret (!kvs.isEmpty)
  | x => W.bnd W.get fun μ => W.bnd (W.opt (sqOf x μ)) fun ds => W.ret (!ds.isEmpty)
theorem isEmpty_isL {K : PySem.W.Frag} {F : Hp} {vs : List V} {ds : List D} (h : IsL K F vs ds) : ds.isEmpty = vs.isEmpty := by
  cases h <;> rfl
theorem tru_of {K : PySem.W.Frag} {F H : Hp} {μ : Mem} {x : V} {d : D} {Q : Bool → Mem → Prop} {ED : XD} (r : Rep K F H μ) (i : Is K F x d) (h : truD d μ Q ED) : ∃ k, TruV K x H k ∧ Q k μ := by
  have sq : ∀ {a : Addr} {d : D}, Is K F (.ref a) d → W.bnd W.get (fun μ => W.bnd (W.opt (sqOf d μ)) fun ds => W.ret (!ds.isEmpty)) μ Q ED → ∃ k, TruV K (.ref a) H k ∧ Q k μ := fun {a d} i h => by
    obtain ⟨ds, e, q⟩ := opt_of h
    obtain ⟨b, vs, ev, hl, hs⟩ := sq_of r i e
    cases ev
    refine ⟨_, ?_, q⟩
    rw [isEmpty_isL hl]
    rcases hs with hs | hs
    · exact .inl ⟨vs, hs, rfl⟩
    · exact .inr (.inl ⟨vs, hs, rfl⟩)
  cases i with
  | non => exact ⟨false, rfl, h⟩
  | bl b => exact ⟨b, rfl, h⟩
  | int b => exact ⟨_, rfl, h⟩
  | str b => exact ⟨_, ⟨h.1, rfl⟩, h.2⟩
  | tup a b => exact sq (.tup a b) h
  | lst a b => exact sq (.lst a b) h
  | obj a => exact sq (.obj a) h
  | @dct a ks ds h1 h2 h3 =>
    refine ⟨_, .inr (.inr ⟨ks, r.sub _ _ h1, rfl⟩), ?_⟩
    have e : ks.isEmpty = ds.isEmpty := by
      have := congrArg List.length h2
      rw [List.length_map, List.length_map] at this
      cases ks <;> cases ds <;> simp at this ⊢
    rw [e]
    exact h
  | ty n => exact False.elim h
section
variable {X : Cx} {Eh : Option XK} {a b c : Expr} {ma mb mc : Rho → W D} {ta tb tc : Rho → W Bool} {pos : Pos}
def tTru (ma : Rho → W D) (ρ : Rho) : W Bool := W.bnd (ma ρ) truD
theorem dt_truth (ha : DE X Eh a ma) (he : ∀ whole, isTrue a X.env whole = (do let v ← whole; standAt a.pos; holding [v] (truthy v))) : DT X Eh a (tTru ma) := by
  refine PT.imp (pt_truth ha he) fun σ H Qh h => ?_
  obtain ⟨F, ρ, μ, Q, ED, env, rep, lnk, hm, bk⟩ := h
  refine ⟨F, ρ, μ, _, ED, env, rep, lnk, hm, fun v1 H1 d1 F1 μ1 s1 r1 i1 q1 => ?_⟩
  obtain ⟨k, t, q⟩ := tru_of r1 i1 q1
  exact ⟨k, t, bk k H1 k F1 μ1 s1 r1 rfl q⟩
def tAndW (ta tb : Rho → W Bool) (ρ : Rho) : W Bool := W.bnd (ta ρ) fun k => if k = true then tb ρ else W.ret false
def tOrW (ta tb : Rho → W Bool) (ρ : Rho) : W Bool := W.bnd (ta ρ) fun k => if k = true then W.ret true else tb ρ
def tNotW (ta : Rho → W Bool) (ρ : Rho) : W Bool := W.bnd (ta ρ) fun k => W.ret (!k)
variable {rest : List Expr}
theorem dw_and (ha : DT X Eh a ta) (hb : DW X Eh (.BoolOp .And (b :: rest) pos) tb) : DW X Eh (.BoolOp .And (a :: b :: rest) pos) (tAndW ta tb) := by
  refine PW.imp (pw_and ha hb) fun σ H Qh h => ?_
  obtain ⟨F, ρ, μ, Q, ED, env, rep, lnk, hm, bk⟩ := h
  refine ⟨F, ρ, μ, _, ED, env, rep, lnk, hm, fun v1 H1 d1 F1 μ1 s1 r1 i1 q1 => ?_⟩
  subst i1
  cases v1 with
  | true => exact ⟨F1, ρ, μ1, _, ED, env.up s1, r1, lnk.up s1, q1, fun v2 H2 d2 F2 μ2 s2 r2 i2 q2 => bk v2 H2 d2 F2 μ2 (s1.trans s2) r2 i2 q2⟩
  | false => exact bk _ H1 _ F1 μ1 s1 r1 rfl q1
theorem dw_or (ha : DT X Eh a ta) (hb : DW X Eh (.BoolOp .Or (b :: rest) pos) tb) : DW X Eh (.BoolOp .Or (a :: b :: rest) pos) (tOrW ta tb) := by
  refine PW.imp (pw_or ha hb) fun σ H Qh h => ?_
  obtain ⟨F, ρ, μ, Q, ED, env, rep, lnk, hm, bk⟩ := h
  refine ⟨F, ρ, μ, _, ED, env, rep, lnk, hm, fun v1 H1 d1 F1 μ1 s1 r1 i1 q1 => ?_⟩
  subst i1
  cases v1 with
  | false => exact ⟨F1, ρ, μ1, _, ED, env.up s1, r1, lnk.up s1, q1, fun v2 H2 d2 F2 μ2 s2 r2 i2 q2 => bk v2 H2 d2 F2 μ2 (s1.trans s2) r2 i2 q2⟩
  | true => exact bk _ H1 _ F1 μ1 s1 r1 rfl q1
theorem dw_and1 (ha : DT X Eh a ta) : DW X Eh (.BoolOp .And [a] pos) ta := pw_and1 ha
theorem dw_or1 (ha : DT X Eh a ta) : DW X Eh (.BoolOp .Or [a] pos) ta := pw_or1 ha
theorem dt_not (ha : DT X Eh a ta) : DT X Eh (.UnaryOp .Not a pos) (tNotW ta) := by
  refine PT.imp (pt_not ha) fun σ H Qh h => ?_
  obtain ⟨F, ρ, μ, Q, ED, env, rep, lnk, hm, bk⟩ := h
  refine ⟨F, ρ, μ, _, ED, env, rep, lnk, hm, fun v1 H1 d1 F1 μ1 s1 r1 i1 q1 => ?_⟩
  subst i1
  exact bk _ H1 _ F1 μ1 s1 r1 rfl q1
/-- as values, by truth -/
def eAnd (ma mb : Rho → W D) (ρ : Rho) : W D := W.bnd (ma ρ) fun x => W.bnd (truD x) fun k => if k = true then mb ρ else W.ret x
def eOr (ma mb : Rho → W D) (ρ : Rho) : W D := W.bnd (ma ρ) fun x => W.bnd (truD x) fun k => if k = true then W.ret x else mb ρ
def eNot (ma : Rho → W D) (ρ : Rho) : W D := W.bnd (ma ρ) fun x => W.bnd (truD x) fun k => W.ret (.bl (!k))
theorem de_one {op} (ha : DE X Eh a ma) : DE X Eh (.BoolOp op [a] pos) ma := pe_one ha
theorem de_and (ha : DE X Eh a ma) (hb : DE X Eh (.BoolOp .And (b :: rest) pos) mb) : DE X Eh (.BoolOp .And (a :: b :: rest) pos) (eAnd ma mb) := by
  refine PE.imp (pe_andT ha hb) fun σ H Qh h => ?_
  obtain ⟨F, ρ, μ, Q, ED, env, rep, lnk, hm, bk⟩ := h
  refine ⟨F, ρ, μ, _, ED, env, rep, lnk, hm, fun v1 H1 d1 F1 μ1 s1 r1 i1 q1 => ?_⟩
  obtain ⟨k, t, q⟩ := tru_of r1 i1 q1
  refine ⟨k, t, ?_⟩
  cases k with
  | true => exact ⟨F1, ρ, μ1, _, ED, env.up s1, r1, lnk.up s1, q, fun v2 H2 d2 F2 μ2 s2 r2 i2 q2 => bk v2 H2 d2 F2 μ2 (s1.trans s2) r2 i2 q2⟩
  | false => exact bk _ H1 _ F1 μ1 s1 r1 i1 q
theorem de_or (ha : DE X Eh a ma) (hb : DE X Eh (.BoolOp .Or (b :: rest) pos) mb) : DE X Eh (.BoolOp .Or (a :: b :: rest) pos) (eOr ma mb) := by
  refine PE.imp (pe_orT ha hb) fun σ H Qh h => ?_
  obtain ⟨F, ρ, μ, Q, ED, env, rep, lnk, hm, bk⟩ := h
  refine ⟨F, ρ, μ, _, ED, env, rep, lnk, hm, fun v1 H1 d1 F1 μ1 s1 r1 i1 q1 => ?_⟩
  obtain ⟨k, t, q⟩ := tru_of r1 i1 q1
  refine ⟨k, t, ?_⟩
  cases k with
  | false => exact ⟨F1, ρ, μ1, _, ED, env.up s1, r1, lnk.up s1, q, fun v2 H2 d2 F2 μ2 s2 r2 i2 q2 => bk v2 H2 d2 F2 μ2 (s1.trans s2) r2 i2 q2⟩
  | true => exact bk _ H1 _ F1 μ1 s1 r1 i1 q
theorem de_not (ha : DE X Eh a ma) : DE X Eh (.UnaryOp .Not a pos) (eNot ma) := by
  refine PE.imp (pe_notT ha) fun σ H Qh h => ?_
  obtain ⟨F, ρ, μ, Q, ED, env, rep, lnk, hm, bk⟩ := h
  refine ⟨F, ρ, μ, _, ED, env, rep, lnk, hm, fun v1 H1 d1 F1 μ1 s1 r1 i1 q1 => ?_⟩
  obtain ⟨k, t, q⟩ := tru_of r1 i1 q1
  exact ⟨k, t, bk _ H1 _ F1 μ1 s1 r1 (.bl _) q⟩
def eIf (tc : Rho → W Bool) (ma mb : Rho → W D) (ρ : Rho) : W D := W.bnd (tc ρ) fun k => if k = true then ma ρ else mb ρ
theorem de_if (hc : DT X Eh c tc) (ha : DE X Eh a ma) (hb : DE X Eh b mb) : DE X Eh (.IfExp c a b pos) (eIf tc ma mb) := by
  refine PE.imp (pe_ifExp hc ha hb) fun σ H Qh h => ?_
  obtain ⟨F, ρ, μ, Q, ED, env, rep, lnk, hm, bk⟩ := h
  refine ⟨F, ρ, μ, _, ED, env, rep, lnk, hm, fun v1 H1 d1 F1 μ1 s1 r1 i1 q1 => ?_⟩
  subst i1
  cases v1 with
  | true => exact ⟨F1, ρ, μ1, _, ED, env.up s1, r1, lnk.up s1, q1, fun v2 H2 d2 F2 μ2 s2 r2 i2 q2 => bk v2 H2 d2 F2 μ2 (s1.trans s2) r2 i2 q2⟩
  | false => exact ⟨F1, ρ, μ1, _, ED, env.up s1, r1, lnk.up s1, q1, fun v2 H2 d2 F2 μ2 s2 r2 i2 q2 => bk v2 H2 d2 F2 μ2 (s1.trans s2) r2 i2 q2⟩
/-- a op b op' c -/
def eChain (g g' : D → D → W D) (ma mb mc : Rho → W D) (ρ : Rho) : W D := W.bnd (ma ρ) fun x => W.bnd (mb ρ) fun y => W.bnd (g x y) fun z => match z with
  | .bl true => W.bnd (mc ρ) fun u => g' y u
  | .bl false => W.ret (.bl false)
  | _ => W.bad
end

/-! ### displays -/
section
variable {X : Cx} {Eh : Option XK} {e : Expr} {es : List Expr} {me : Rho → W D} {ms : Rho → W (List D)} {pos : Pos}
def aNil (_ : Rho) : W (List D) := W.ret []
def aCons (me : Rho → W D) (ms : Rho → W (List D)) (ρ : Rho) : W (List D) := W.bnd (me ρ) fun x => W.bnd (ms ρ) fun xs => W.ret (x :: xs)
theorem da_nil : DA X Eh [] aNil := PA.imp pa_nil fun σ H Qh ⟨F, ρ, μ, Q, ED, env, rep, lnk, hm, bk⟩ => bk _ H _ F μ (Same.refl F) rep .nil hm
theorem da_cons (ha : DE X Eh e me) (hr : DA X Eh es ms) (hs : starEach (e :: es) X.env = (false, eval e X.env) :: starEach es X.env) : DA X Eh (e :: es) (aCons me ms) := by
  refine PA.imp (pa_cons ha hr hs) fun σ H Qh h => ?_
  obtain ⟨F, ρ, μ, Q, ED, env, rep, lnk, hm, bk⟩ := h
  refine ⟨F, ρ, μ, _, ED, env, rep, lnk, hm, fun v1 H1 d1 F1 μ1 s1 r1 i1 q1 => ?_⟩
  refine ⟨F1, ρ, μ1, _, ED, env.up s1, r1, lnk.up s1, q1, fun v2 H2 d2 F2 μ2 s2 r2 i2 q2 => ?_⟩
  exact bk _ H2 _ F2 μ2 (s1.trans s2) r2 (.cons (i1.up s2) i2) q2
def eTup (ms : Rho → W (List D)) (ρ : Rho) : W D := W.bnd (ms ρ) fun ds => W.req (ds.length ≤ sizeLine) (W.ret (.tup ds))
def eLst (ms : Rho → W (List D)) (ρ : Rho) : W D := W.bnd (ms ρ) fun ds => W.req (ds.length ≤ sizeLine) (W.ret (.lst ds))
/-- a list that will change: at any free place -/
def eLstM (ms : Rho → W (List D)) (ρ : Rho) : W D := W.bnd (ms ρ) fun ds => W.req (ds.length ≤ sizeLine) (fun μ Q _ => ∀ p, μ p = none → Q (.obj p) (put μ p (.ml ds)))
theorem de_tup {k} (h : DA X Eh es ms) : DE X Eh (.Tuple es k pos) (eTup ms) := by
  refine PE.imp (pe_tup h) fun σ H Qh h => ?_
  obtain ⟨F, ρ, μ, Q, ED, env, rep, lnk, hm, bk⟩ := h
  refine ⟨F, ρ, μ, _, ED, env, rep, lnk, hm, fun v1 H1 d1 F1 μ1 s1 r1 i1 q1 => ⟨by rw [i1.length]; exact q1.1, fun p hn => ?_⟩⟩
  exact back_tup (fun v2 H2 d2 F2 μ2 s2 r2 i2 q2 => bk v2 H2 d2 F2 μ2 (s1.trans s2) r2 i2 q2) r1 hn i1 q1.2
theorem de_lst (h : DA X Eh es ms) : DE X Eh (.List es pos) (eLst ms) := by
  refine PE.imp (pe_lst h) fun σ H Qh h => ?_
  obtain ⟨F, ρ, μ, Q, ED, env, rep, lnk, hm, bk⟩ := h
  refine ⟨F, ρ, μ, _, ED, env, rep, lnk, hm, fun v1 H1 d1 F1 μ1 s1 r1 i1 q1 => ⟨by rw [i1.length]; exact q1.1, fun p hn => ?_⟩⟩
  exact back_lst (fun v2 H2 d2 F2 μ2 s2 r2 i2 q2 => bk v2 H2 d2 F2 μ2 (s1.trans s2) r2 i2 q2) r1 hn i1 q1.2
theorem Rep.mfree {K : PySem.W.Frag} {F H : Hp} {μ : Mem} {p : Addr} (r : Rep K F H μ) (hn : H p = none) : μ p = none := by
  cases e : μ p with
  | none => rfl
  | some mo => exact absurd rfl ((r.mem p mo e).2.ne hn)
theorem de_lstM (h : DA X Eh es ms) : DE X Eh (.List es pos) (eLstM ms) := by
  refine PE.imp (pe_lst h) fun σ H Qh h => ?_
  obtain ⟨F, ρ, μ, Q, ED, env, rep, lnk, hm, bk⟩ := h
  refine ⟨F, ρ, μ, _, ED, env, rep, lnk, hm, fun v1 H1 d1 F1 μ1 s1 r1 i1 q1 => ⟨by rw [i1.length]; exact q1.1, fun p hn => ?_⟩⟩
  exact back_mut (fun v2 H2 d2 F2 μ2 s2 r2 i2 q2 => bk v2 H2 d2 F2 μ2 (s1.trans s2) r2 i2 q2) r1 hn i1 (q1.2 p (r1.mfree hn))
end
end DL

namespace DL
open PySem PySem.Spec PyProof.Rows L2

/-! ### a op b op' c -/
section
variable {X : Cx} {Eh : Option XK} {a b c : Expr} {ma mb mc : Rho → W D} {pos : Pos}
theorem lift_chain {K : PySem.W.Frag} {r r' : R2} {g g' : D → D → W D} (hg : OpD K r g) (hg' : OpD K r' g') {σ : L2.St} {H : Hp} {Qh : VK} (h : liftE K Eh (eChain g g' ma mb mc) σ H Qh) : tChain r r' (liftE K Eh ma) (liftE K Eh mb) (liftE K Eh mc) σ H Qh := by
  obtain ⟨F, ρ, μ, Q, ED, env, rep, lnk, hm, bk⟩ := h
  refine ⟨F, ρ, μ, _, ED, env, rep, lnk, hm, fun v1 H1 d1 F1 μ1 s1 r1 i1 q1 => ?_⟩
  refine ⟨F1, ρ, μ1, _, ED, env.up s1, r1, lnk.up s1, q1, fun v2 H2 d2 F2 μ2 s2 r2 i2 q2 => ?_⟩
  refine hg F2 H2 μ2 v1 v2 d1 d2 _ ED _ r2 (i1.up s2) i2 q2 fun v3 H3 d3 F3 μ3 s3 r3 i3 q3 => ?_
  cases d3 with
  | bl k =>
    cases is_bl i3
    refine ⟨k, rfl, ?_⟩
    cases k with
    | true =>
      refine ⟨F3, ρ, μ3, _, ED, env.up ((s1.trans s2).trans s3), r3, lnk.up ((s1.trans s2).trans s3), q3, fun v4 H4 d4 F4 μ4 s4 r4 i4 q4 => ?_⟩
      exact hg' F4 H4 μ4 v2 v4 d2 d4 Q ED Qh r4 ((i2.up s3).up s4) i4 q4 fun v5 H5 d5 F5 μ5 s5 r5 i5 q5 => bk v5 H5 d5 F5 μ5 ((((s1.trans s2).trans s3).trans s4).trans s5) r5 i5 q5
    | false => exact bk _ H3 _ F3 μ3 ((s1.trans s2).trans s3) r3 (.bl false) q3
  | _ => exact q3.elim
theorem de_chain {op op' : CmpOp} {r r' : R2} {g g' : D → D → W D} (ho : OpR X (compareOp op) r) (hg : OpD X.K r g) (ho' : OpR X (compareOp op') r') (hg' : OpD X.K r' g') (ha : DE X Eh a ma) (hb : DE X Eh b mb) (hc : DE X Eh c mc)
    (hm : lastMarks [op, op'] [b, c] = false) : DE X Eh (.Compare a [op, op'] [b, c] pos) (eChain g g' ma mb mc) :=
  PE.imp (pe_chain ho ho' ha hb hc hm) fun _ _ _ h => lift_chain hg hg' h
def tOfE (m : Rho → W D) (ρ : Rho) : W Bool := W.bnd (m ρ) fun d => match d with
  | .bl b => W.ret b
  | _ => W.bad
theorem dt_chain {op op' : CmpOp} {r r' : R2} {g g' : D → D → W D} (ho : OpR X (compareOp op) r) (hg : OpD X.K r g) (ho' : OpR X (compareOp op') r') (hg' : OpD X.K r' g') (ha : DE X Eh a ma) (hb : DE X Eh b mb) (hc : DE X Eh c mc)
    (hm : lastMarks [op, op'] [b, c] = false) : DT X Eh (.Compare a [op, op'] [b, c] pos) (tOfE (eChain g g' ma mb mc)) := by
  refine PT.imp (pt_chain ho ho' ha hb hc hm) fun σ H Qh h => ?_
  obtain ⟨F, ρ, μ, Q, ED, env, rep, lnk, hm, bk⟩ := h
  refine lift_chain (Eh := Eh) hg hg' ⟨F, ρ, μ, _, ED, env, rep, lnk, hm, fun v H' d F' μ' s' r' i' q' => ?_⟩
  cases d with
  | bl b =>
    cases is_bl i'
    exact ⟨b, rfl, bk b H' b F' μ' s' r' rfl q'⟩
  | _ => exact q'.elim
end

/-! ### a[i] -/
def ixD (x i : D) : W D := match i with
  | .int k => (match x with
    | .str s => W.req (s.length ≤ sizeLine) (W.bnd (W.opt (atI s.cps.toList k)) fun c => W.ret (.str ⟨#[c]⟩))
    | x => W.bnd W.get fun μ => W.bnd (W.opt (sqOf x μ)) fun ds => W.opt (atI ds k))
  | _ => W.bad
theorem atI_isL {K : PySem.W.Frag} {F : Hp} {vs : List V} {ds : List D} {k : Int} {d : D} (h : IsL K F vs ds) (e : atI ds k = some d) : ∃ v, atI vs k = some v ∧ Is K F v d := by
  unfold atI at e ⊢
  rw [h.length]
  cases q : ixN ds.length k with
  | none => rw [q] at e; cases e
  | some j =>
    rw [q] at e
    obtain ⟨v, h1, h2⟩ := h.get (i := j) (d := d) e
    exact ⟨v, h1, h2⟩
theorem opd_ix {K : PySem.W.Frag} : OpD K (rIx K) ixD := by
  intro F H μ x y dx dy Q ED Qh r ix iy h bk
  unfold ixD at h
  split at h
  · cases iy
    split at h
    · obtain ⟨hz, h⟩ := h
      obtain ⟨c, e, q⟩ := opt_of h
      cases ix
      exact .inr (.inr ⟨_, _, c, rfl, rfl, hz, e, back_is bk r (.str _) q⟩)
    · obtain ⟨ds, e, h⟩ := opt_of h
      obtain ⟨d, e2, q⟩ := opt_of h
      obtain ⟨a, vs, rfl, hl, hs⟩ := sq_of r ix e
      obtain ⟨v, e3, iv⟩ := atI_isL hl e2
      rcases hs with hs | hs
      · exact .inl ⟨a, vs, _, v, rfl, rfl, hs, e3, back_is bk r iv q⟩
      · exact .inr (.inl ⟨a, vs, _, v, rfl, rfl, hs, e3, back_is bk r iv q⟩)
  · exact h.elim

/-! ### a[i:j] -/
def liftO (K : PySem.W.Frag) (Eh : Option XK) (m : Rho → W (Option Int)) : TO := fun σ H Qh => ∃ F ρ μ Q ED, EnvR K F σ ρ ∧ Rep K F H μ ∧ Lnk K Eh F ED ∧ m ρ μ Q ED ∧ Back K F (fun _ (b : Option Int) c => b = c) Q Qh
abbrev DO (X : Cx) (Eh : Option XK) (e : Option Expr) (m : Rho → W (Option Int)) : Prop := PO X e (liftO X.K Eh m)
theorem PO.imp {X : Cx} {e : Option Expr} {t t' : TO} (h : PO X e t) (i : ∀ σ H Q, t' σ H Q → t σ H Q) : PO X e t' := ⟨fun pins s σ H Q I q => h.run pins s σ H Q I (i _ _ _ q)⟩
def oNone (_ : Rho) : W (Option Int) := W.ret none
def oSome (m : Rho → W D) (ρ : Rho) : W (Option Int) := W.bnd (m ρ) fun d => match d with
  | .int i => W.ret (some i)
  | _ => W.bad
def cutD {α : Type} (xs : List α) (lo hi : Option Int) : List α := (xs.drop (HT.sIx xs.length 0 lo)).take (HT.sIx xs.length xs.length hi - HT.sIx xs.length 0 lo)
def slD (x : D) (lo hi : Option Int) : W D := match x with
  | .str s => W.req (s.length ≤ sizeLine) (W.ret (.str (cutS s lo hi)))
  | .tup ds => W.ret (.tup (cutD ds lo hi))
  | x => W.bnd W.get fun μ => W.bnd (W.opt (lsOf x μ)) fun ds => W.ret (.lst (cutD ds lo hi))
def eSl (m : Rho → W D) (ml mh : Rho → W (Option Int)) (ρ : Rho) : W D := W.bnd (m ρ) fun x => W.bnd (ml ρ) fun lo => W.bnd (mh ρ) fun hi => slD x lo hi
theorem cut_isL {K : PySem.W.Frag} {F : Hp} {vs : List V} {ds : List D} (lo hi : Option Int) (h : IsL K F vs ds) : IsL K F (cutV vs lo hi) (cutD ds lo hi) := by
  unfold cutV cutD
  rw [h.length]
  exact (h.drop _).take _
theorem cut_whole {α : Type} {ds : List α} {lo hi : Option Int} (h : HT.sIx ds.length 0 lo = 0 ∧ HT.sIx ds.length ds.length hi = ds.length) : cutD ds lo hi = ds := by
  unfold cutD
  rw [h.1, h.2, List.drop_zero, Nat.sub_zero, List.take_length]
def rSlAll (K : PySem.W.Frag) : V → Option Int → Option Int → Hp → VK → Prop := fun x lo hi H Q => rSlS x lo hi H Q ∨ (rSlA K x lo hi H Q ∨ rSlL K x lo hi H Q)
theorem sl_all {X : Cx} : SlR X (rSlAll X.K) := sl_str.or (sl_tupA.or sl_list)
section
variable {X : Cx} {Eh : Option XK} {e : Expr} {lo hi : Option Expr} {m : Rho → W D} {ml mh : Rho → W (Option Int)} {pos p2 : Pos}
theorem do_none : DO X Eh none oNone := PO.imp po_none fun σ H Qh ⟨F, ρ, μ, Q, ED, env, rep, lnk, hm, bk⟩ => bk _ H _ F μ (Same.refl F) rep rfl hm
theorem do_some (h : DE X Eh e m) : DO X Eh (some e) (oSome m) := by
  refine PO.imp (po_some h) fun σ H Qh h => ?_
  obtain ⟨F, ρ, μ, Q, ED, env, rep, lnk, hm, bk⟩ := h
  refine ⟨F, ρ, μ, _, ED, env, rep, lnk, hm, fun v1 H1 d1 F1 μ1 s1 r1 i1 q1 => ?_⟩
  cases d1 with
  | int i =>
    cases is_int i1
    exact ⟨i, rfl, bk _ H1 _ F1 μ1 s1 r1 rfl q1⟩
  | _ => exact q1.elim
theorem de_slice (h : DE X Eh e m) (hl : DO X Eh lo ml) (hh : DO X Eh hi mh) : DE X Eh (.Subscript e (.Slice lo hi none p2) pos) (eSl m ml mh) := by
  refine PE.imp (pe_slice sl_all h hl hh) fun σ H Qh h => ?_
  obtain ⟨F, ρ, μ, Q, ED, env, rep, lnk, hm, bk⟩ := h
  refine ⟨F, ρ, μ, _, ED, env, rep, lnk, hm, fun v1 H1 d1 F1 μ1 s1 r1 i1 q1 => ?_⟩
  refine ⟨F1, ρ, μ1, _, ED, env.up s1, r1, lnk.up s1, q1, fun v2 H2 d2 F2 μ2 s2 r2 i2 q2 => ?_⟩
  refine ⟨F2, ρ, μ2, _, ED, (env.up s1).up s2, r2, (lnk.up s1).up s2, q2, fun v3 H3 d3 F3 μ3 s3 r3 i3 q3 => ?_⟩
  subst i2 i3
  have bk' : Back X.K F3 (Is X.K) Q Qh := fun v H' d F' μ' s' r' i' q' => bk v H' d F' μ' (((s1.trans s2).trans s3).trans s') r' i' q'
  have i1' := (i1.up s2).up s3
  unfold slD at q3
  split at q3
  · cases i1'
    exact .inl ⟨_, rfl, q3.1, back_is bk' r3 (.str _) q3.2⟩
  · cases i1' with
    | tup hs hl =>
      refine .inr (.inl ⟨_, _, rfl, sqt_up r3.sub hs, fun hw => ?_, fun _ p hn => back_tup bk' r3 hn (cut_isL _ _ hl) q3⟩)
      rw [hl.length] at hw
      have q : Q (.tup _) μ3 := q3
      rw [cut_whole hw] at q
      exact back_is bk' r3 (.tup hs hl) q
  · obtain ⟨ds, e1, q⟩ := opt_of q3
    obtain ⟨a, vs, rfl, h1, h2⟩ := ls_of r3 i1' e1
    exact .inr (.inr ⟨a, vs, rfl, h1, fun p hn => back_lst bk' r3 hn (cut_isL _ _ h2) q⟩)
/-- a[::-1] of a list -/
def revD (x : D) : W D := W.bnd W.get fun μ => W.bnd (W.opt (lsOf x μ)) fun ds => W.ret (.lst ds.reverse)
def revMD (x : D) : W D := W.bnd W.get fun μ => W.bnd (W.opt (lsOf x μ)) fun ds => (fun μ Q _ => ∀ p, μ p = none → Q (.obj p) (put μ p (.ml ds.reverse)))
theorem de_revL {k : Nat} {p1 p3 : Pos} (h : DE X Eh e m) : DE X Eh (.Subscript e (.Slice none none (some (.UnaryOp .USub (.Constant (.int 1) k p1) p2)) p3) pos) (eUn revD m) := by
  refine PE.imp (pe_revL h) fun σ H Qh h => ?_
  obtain ⟨F, ρ, μ, Q, ED, env, rep, lnk, hm, bk⟩ := h
  refine ⟨F, ρ, μ, _, ED, env, rep, lnk, hm, fun v1 H1 d1 F1 μ1 s1 r1 i1 q1 => ?_⟩
  obtain ⟨ds, e1, q⟩ := opt_of q1
  obtain ⟨a, vs, rfl, h1, h2⟩ := ls_of r1 i1 e1
  exact ⟨a, vs, rfl, h1, fun p hn => back_lst (fun v H' d F' μ' s' r' i' q' => bk v H' d F' μ' (s1.trans s') r' i' q') r1 hn h2.rev q⟩
theorem de_revM {k : Nat} {p1 p3 : Pos} (h : DE X Eh e m) : DE X Eh (.Subscript e (.Slice none none (some (.UnaryOp .USub (.Constant (.int 1) k p1) p2)) p3) pos) (eUn revMD m) := by
  refine PE.imp (pe_revL h) fun σ H Qh h => ?_
  obtain ⟨F, ρ, μ, Q, ED, env, rep, lnk, hm, bk⟩ := h
  refine ⟨F, ρ, μ, _, ED, env, rep, lnk, hm, fun v1 H1 d1 F1 μ1 s1 r1 i1 q1 => ?_⟩
  obtain ⟨ds, e1, q⟩ := opt_of q1
  obtain ⟨a, vs, rfl, h1, h2⟩ := ls_of r1 i1 e1
  exact ⟨a, vs, rfl, h1, fun p hn => back_mut (fun v H' d F' μ' s' r' i' q' => bk v H' d F' μ' (s1.trans s') r' i' q') r1 hn h2.rev (q p (r1.mfree hn))⟩
end

/-! ### calls of built-ins -/
def CallD (K : PySem.W.Frag) (r : List V → Hp → VK → Prop) (g : List D → W D) : Prop := ∀ (F H : Hp) (μ : Mem) (xs : List V) (ds : List D) (Q : D → Mem → Prop) (ED : XD) (Qh : VK), Rep K F H μ → IsL K F xs ds → g ds μ Q ED → Back K F (Is K) Q Qh → r xs H Qh
def eCall (g : List D → W D) (ms : Rho → W (List D)) (ρ : Rho) : W D := W.bnd (ms ρ) g
theorem lift_call {Eh : Option XK} {K : PySem.W.Frag} {r : List V → Hp → VK → Prop} {g : List D → W D} {ms : Rho → W (List D)} (hg : CallD K r g) {σ : L2.St} {H : Hp} {Qh : VK} (h : liftE K Eh (eCall g ms) σ H Qh) : tCB r (liftA K Eh ms) σ H Qh := by
  obtain ⟨F, ρ, μ, Q, ED, env, rep, lnk, hm, bk⟩ := h
  refine ⟨F, ρ, μ, _, ED, env, rep, lnk, hm, fun v1 H1 d1 F1 μ1 s1 r1 i1 q1 => ?_⟩
  exact hg F1 H1 μ1 v1 d1 Q ED Qh r1 i1 q1 fun v3 H3 d3 F3 μ3 s3 r3 i3 q3 => bk v3 H3 d3 F3 μ3 (s1.trans s3) r3 i3 q3
section
variable {X : Cx} {Eh : Option XK} {e o : Expr} {es : List Expr} {mo : Rho → W D} {ms : Rho → W (List D)} {x : Str} {p pos : Pos} {id T : String} {r : List V → Hp → VK → Prop} {g : List D → W D}
theorem de_callB (hc : CallR X (.builtin id) r) (hd : CallD X.K r g) (hg : Gl X x) (hm : X.mg x = none) (hv : bootBuiltins x = some (.builtin id)) (hn : x ≠ "__name__") (hdb : (x == ("__debug__" : Str)) = false) (ha : DA X Eh (e :: es) ms)
    (he : starEach (e :: es) X.env = (false, eval e X.env) :: starEach es X.env) (hpl : (backTo pos (starEach es X.env)).any (·.1) = false) : DE X Eh (.Call (.Name x p) (e :: es) [] pos) (eCall g ms) :=
  PE.imp (pe_callB hc hg hm hv ha hn hdb he hpl) fun _ _ _ h => lift_call hd h
theorem de_callTy (hc : CallR X (.type T) r) (hd : CallD X.K r g) (hg : Gl X x) (hm : X.mg x = none) (hv : bootBuiltins x = some (.type T)) (hn : x ≠ "__name__") (hdb : (x == ("__debug__" : Str)) = false) (ha : DA X Eh (e :: es) ms)
    (he : starEach (e :: es) X.env = (false, eval e X.env) :: starEach es X.env) (hpl : (backTo pos (starEach es X.env)).any (·.1) = false) : DE X Eh (.Call (.Name x p) (e :: es) [] pos) (eCall g ms) :=
  PE.imp (pe_callTy hc hg hm hv ha hn hdb he hpl) fun _ _ _ h => lift_call hd h
/-! methods of built-in types -/
def tyD (T : String) (x : D) (μ : Mem) : Prop := match x with
  | .str _ => T = "str"
  | .lst _ => T = "list"
  | .obj a => (match μ a with
    | some (.ml _) => T = "list"
    | some (.md _) => T = "dict"
    | none => False)
  | .dct _ => T = "dict"
  | _ => False
theorem ty_of {K : PySem.W.Frag} {F H : Hp} {μ : Mem} {v : V} {d : D} (r : Rep K F H μ) (i : Is K F v d) (h : tyD T d μ) : tyV K T v H := by
  cases i with
  | str s => exact h
  | lst hs hl => exact .inl ⟨h, _, sql_up r.sub hs⟩
  | dct hs hk hl => exact .inr (.inr (.inl ⟨h, .inl ⟨_, r.sub _ _ hs⟩⟩))
  | obj a =>
    unfold tyD at h
    simp only at h
    split at h
    · rename_i e
      obtain ⟨_, vs, h1, _⟩ := r.mem a _ e
      exact .inl ⟨h, vs, .inl (.inl h1)⟩
    · rename_i e
      obtain ⟨_, vs, h1, _⟩ := r.mem a _ e
      exact .inr (.inr (.inl ⟨h, .inl ⟨_, h1⟩⟩))
    · exact h.elim
  | _ => exact h.elim
def MtD (K : PySem.W.Frag) (r : V → List V → Hp → VK → Prop) (g : D → List D → W D) : Prop := ∀ (F H : Hp) (μ : Mem) (x : V) (dx : D) (xs : List V) (ds : List D) (Q : D → Mem → Prop) (ED : XD) (Qh : VK), Rep K F H μ → Is K F x dx → IsL K F xs ds → g dx ds μ Q ED → Back K F (Is K) Q Qh → r x xs H Qh
def eMeth (T : String) (g : D → List D → W D) (mo : Rho → W D) (ms : Rho → W (List D)) (ρ : Rho) : W D := W.bnd (mo ρ) fun o => W.bnd W.get fun μ => W.req (tyD T o μ) (W.bnd (ms ρ) fun as => g o as)
variable {rm : V → List V → Hp → VK → Prop} {gm : D → List D → W D} {name : Str} {apos cpos : Pos}
theorem de_bm0 (pa : PlainAttrs T) (slot : Slot T name id) (hty : typeOf (.builtin id) = pure (.type "method_descriptor")) (hm : MtR X id rm) (hd : MtD X.K rm gm) (ho : DE X Eh o mo)
    (hbase : attributeBase o name X.env (eval o X.env) = eval o X.env) (hline : (apos.endLine == cpos.line) = true) : DE X Eh (.Call (.Attribute o name apos) [] [] cpos) (eMeth T gm mo aNil) := by
  refine PE.imp (pe_bm0 pa slot hty hm ho hbase hline) fun σ H Qh h => ?_
  obtain ⟨F, ρ, μ, Q, ED, env, rep, lnk, hm, bk⟩ := h
  refine ⟨F, ρ, μ, _, ED, env, rep, lnk, hm, fun v1 H1 d1 F1 μ1 s1 r1 i1 q1 => ⟨ty_of r1 i1 q1.1, ?_⟩⟩
  exact hd F1 H1 μ1 v1 d1 [] [] Q ED Qh r1 i1 .nil q1.2 fun v3 H3 d3 F3 μ3 s3 r3 i3 q3 => bk v3 H3 d3 F3 μ3 (s1.trans s3) r3 i3 q3
theorem de_bm (pa : PlainAttrs T) (slot : Slot T name id) (hty : typeOf (.builtin id) = pure (.type "method_descriptor")) (hm : MtR X id rm) (hd : MtD X.K rm gm) (ho : DE X Eh o mo) (ha : DA X Eh (e :: es) ms)
    (hbase : attributeBase o name X.env (eval o X.env) = eval o X.env)
    (hfew : ((backTo cpos (starEach (e :: es) X.env)).all (fun x => !x.1) && (backToKw cpos (keywordEach [] X.env)).all (fun x => x.1.isSome) && decide ((e :: es).length + ([] : List Keyword).length + (if ([] : List Keyword).isEmpty then 0 else 1) < 30)) = true)
    (hline : (apos.endLine == cpos.line) = true) (hs : starEach (e :: es) X.env = (false, eval e X.env) :: starEach es X.env) (hplain : (backTo cpos (starEach es X.env)).any (·.1) = false) :
    DE X Eh (.Call (.Attribute o name apos) (e :: es) [] cpos) (eMeth T gm mo ms) := by
  refine PE.imp (pe_bm pa slot hty hm ho ha hbase hfew hline hs hplain) fun σ H Qh h => ?_
  obtain ⟨F, ρ, μ, Q, ED, env, rep, lnk, hm, bk⟩ := h
  refine ⟨F, ρ, μ, _, ED, env, rep, lnk, hm, fun v1 H1 d1 F1 μ1 s1 r1 i1 q1 => ⟨ty_of r1 i1 q1.1, ?_⟩⟩
  refine ⟨F1, ρ, μ1, _, ED, env.up s1, r1, lnk.up s1, q1.2, fun v2 H2 d2 F2 μ2 s2 r2 i2 q2 => ?_⟩
  exact hd F2 H2 μ2 v1 d1 v2 d2 Q ED Qh r2 (i1.up s2) i2 q2 fun v3 H3 d3 F3 μ3 s3 r3 i3 q3 => bk v3 H3 d3 F3 μ3 ((s1.trans s2).trans s3) r3 i3 q3
end

/-! ### the built-ins -/
theorem isL1 {K : PySem.W.Frag} {F : Hp} {vs : List V} {d : D} (h : IsL K F vs [d]) : ∃ v, vs = [v] ∧ Is K F v d := by
  cases h with
  | cons i r => cases r; exact ⟨_, rfl, i⟩
theorem isL2 {K : PySem.W.Frag} {F : Hp} {vs : List V} {d e : D} (h : IsL K F vs [d, e]) : ∃ v u, vs = [v, u] ∧ Is K F v d ∧ Is K F u e := by
  cases h with
  | cons i r =>
    obtain ⟨u, rfl, j⟩ := isL1 r
    exact ⟨_, _, rfl, i, j⟩
def lenD : List D → W D
  | [.str s] => W.req (s.length ≤ sizeLine) (W.ret (.int s.length))
  | [x] => W.bnd W.get fun μ => W.bnd (W.opt (sqOf x μ)) fun ds => W.ret (.int ds.length)
  | _ => W.bad
theorem cd_len {K : PySem.W.Frag} : CallD K (fun xs H Q => ∃ x n, xs = [x] ∧ LenV K x H n ∧ Q (.int n) H) lenD := by
  intro F H μ xs ds Q ED Qh r il h bk
  unfold lenD at h
  split at h
  · obtain ⟨v, rfl, i⟩ := isL1 il
    cases i
    exact ⟨_, _, rfl, ⟨h.1, rfl⟩, back_is bk r (.int _) h.2⟩
  · obtain ⟨v, rfl, i⟩ := isL1 il
    obtain ⟨es, e, q⟩ := opt_of h
    obtain ⟨a, vs, rfl, hl, hs⟩ := sq_of r i e
    refine ⟨_, es.length, rfl, ?_, back_is bk r (.int _) q⟩
    rw [← hl.length]
    rcases hs with hs | hs
    · exact .inl ⟨vs, hs, rfl⟩
    · exact .inr ⟨vs, hs, rfl⟩
  · exact h.elim
/-- list(x) | tuple(x) -/
def listD : List D → W D
  | [x] => W.bnd W.get fun μ => W.bnd (W.opt (sqOf x μ)) fun ds => W.ret (.lst ds)
  | _ => W.bad
def listMD : List D → W D
  | [x] => W.bnd W.get fun μ => W.bnd (W.opt (sqOf x μ)) fun ds => (fun μ Q _ => ∀ p, μ p = none → Q (.obj p) (put μ p (.ml ds)))
  | _ => W.bad
def tupleD : List D → W D
  | [x] => W.bnd W.get fun μ => W.bnd (W.opt (sqOf x μ)) fun ds => W.ret (.tup ds)
  | _ => W.bad
theorem cd_list {K : PySem.W.Frag} : CallD K (fun xs H Q => ∃ p ys, xs = [.ref p] ∧ (SqL K H p ys ∨ SqT K H p ys) ∧ ∀ l, H l = none → Q (.ref l) (upd H l (.lst ys))) listD := by
  intro F H μ xs ds Q ED Qh r il h bk
  unfold listD at h
  split at h
  · obtain ⟨v, rfl, i⟩ := isL1 il
    obtain ⟨es, e, q⟩ := opt_of h
    obtain ⟨a, vs, rfl, hl, hs⟩ := sq_of r i e
    exact ⟨a, vs, rfl, hs, fun l hn => back_lst bk r hn hl q⟩
  · exact h.elim
theorem cd_listM {K : PySem.W.Frag} : CallD K (fun xs H Q => ∃ p ys, xs = [.ref p] ∧ (SqL K H p ys ∨ SqT K H p ys) ∧ ∀ l, H l = none → Q (.ref l) (upd H l (.lst ys))) listMD := by
  intro F H μ xs ds Q ED Qh r il h bk
  unfold listMD at h
  split at h
  · obtain ⟨v, rfl, i⟩ := isL1 il
    obtain ⟨es, e, q⟩ := opt_of h
    obtain ⟨a, vs, rfl, hl, hs⟩ := sq_of r i e
    exact ⟨a, vs, rfl, hs, fun l hn => back_mut bk r hn hl (q l (r.mfree hn))⟩
  · exact h.elim
theorem cd_tuple {K : PySem.W.Frag} : CallD K (fun xs H Q => ∃ p ys, xs = [.ref p] ∧ ((SqL K H p ys ∧ ∀ l, H l = none → Q (.ref l) (upd H l (.tup ys))) ∨ (SqT K H p ys ∧ Q (.ref p) H))) tupleD := by
  intro F H μ xs ds Q ED Qh r il h bk
  unfold tupleD at h
  split at h
  · obtain ⟨v, rfl, i⟩ := isL1 il
    obtain ⟨es, e, q⟩ := opt_of h
    cases i with
    | tup hs hl =>
      cases e
      exact ⟨_, _, rfl, .inr ⟨sqt_up r.sub hs, back_is bk r (.tup hs hl) q⟩⟩
    | lst hs hl =>
      cases e
      exact ⟨_, _, rfl, .inl ⟨sql_up r.sub hs, fun l hn => back_tup bk r hn hl q⟩⟩
    | obj a =>
      obtain ⟨b, vs, e1, h1, h2⟩ := ls_of r (.obj a) e
      cases e1
      exact ⟨_, _, rfl, .inl ⟨h1, fun l hn => back_tup bk r hn h2 q⟩⟩
    | _ => cases e
  · exact h.elim
/-- sum of a list of ints -/
def intsOf : List D → Option (List Int)
  | [] => some []
  | .int i :: r => (intsOf r).map (i :: ·)
  | _ => none
theorem ints_isL {K : PySem.W.Frag} {F : Hp} : ∀ {vs : List V} {ds : List D} {ns : List Int}, IsL K F vs ds → intsOf ds = some ns → vs = ns.map V.int
  | _, _, _, .nil, e => by cases e; rfl
  | _, _, _, .cons (d := .int i) h r, e => by
    obtain ⟨ms, h1, h2⟩ := Option.map_eq_some_iff.mp (show (intsOf _).map (i :: ·) = some _ from e)
    subst h2
    cases h
    rw [ints_isL r h1]
    rfl
  | _, _, _, .cons (d := .non) _ _, e => by cases e
  | _, _, _, .cons (d := .bl _) _ _, e => by cases e
  | _, _, _, .cons (d := .str _) _ _, e => by cases e
  | _, _, _, .cons (d := .tup _) _ _, e => by cases e
  | _, _, _, .cons (d := .lst _) _ _, e => by cases e
  | _, _, _, .cons (d := .dct _) _ _, e => by cases e
  | _, _, _, .cons (d := .obj _) _ _, e => by cases e
  | _, _, _, .cons (d := .ty _) _ _, e => by cases e
def sumD : List D → W D
  | [x] => W.bnd W.get fun μ => W.bnd (W.opt (lsOf x μ)) fun ds => W.bnd (W.opt (intsOf ds)) fun ns => W.ret (.int ns.sum)
  | _ => W.bad
theorem cd_sum {K : PySem.W.Frag} : CallD K (rSum K) sumD := by
  intro F H μ xs ds Q ED Qh r il h bk
  unfold sumD at h
  split at h
  · obtain ⟨v, rfl, i⟩ := isL1 il
    obtain ⟨es, e, h⟩ := opt_of h
    obtain ⟨ns, e2, q⟩ := opt_of h
    obtain ⟨a, vs, rfl, h1, h2⟩ := ls_of r i e
    rw [ints_isL h2 e2] at h1
    exact ⟨a, ns, rfl, h1, back_is bk r (.int _) q⟩
  · exact h.elim
/-- int(n), int(flag) -/
def intD : List D → W D
  | [.int i] => W.ret (.int i)
  | [.bl b] => W.ret (.int (if b then 1 else 0))
  | _ => W.bad
theorem cd_int {K : PySem.W.Frag} : CallD K (fun xs H Q => (∃ i, xs = [.int i] ∧ Q (.int i) H) ∨ ∃ k, xs = [.bl k] ∧ Q (.int (if k then 1 else 0)) H) intD := by
  intro F H μ xs ds Q ED Qh r il h bk
  unfold intD at h
  split at h
  · obtain ⟨v, rfl, i⟩ := isL1 il
    cases i
    exact .inl ⟨_, rfl, back_is bk r (.int _) h⟩
  · obtain ⟨v, rfl, i⟩ := isL1 il
    cases i
    exact .inr ⟨_, rfl, back_is bk r (.int _) h⟩
  · exact h.elim
/-! methods that change a list -/
def mlOf (x : D) (μ : Mem) : Option (Addr × List D) := match x with
  | .obj a => (match μ a with
    | some (.ml ds) => some (a, ds)
    | _ => none)
  | _ => none
theorem ml_of {K : PySem.W.Frag} {F H : Hp} {μ : Mem} {v : V} {d : D} {a : Addr} {ds : List D} (r : Rep K F H μ) (i : Is K F v d) (h : mlOf d μ = some (a, ds)) : v = .ref a ∧ μ a = some (.ml ds) ∧ ∃ vs, H a = some (.lst vs) ∧ IsL K F vs ds := by
  cases i with
  | obj b =>
    unfold mlOf at h
    simp only at h
    split at h
    · rename_i es e
      cases h
      obtain ⟨_, vs, h1, h2⟩ := r.mem _ _ e
      exact ⟨rfl, e, vs, h1, h2⟩
    · cases h
  | _ => cases h
def W.setL {α : Type} (a : Addr) (ds : List D) (m : W α) : W α := fun μ Q E => m (DL.put μ a (.ml ds)) Q E
def appendD (o : D) : List D → W D
  | [x] => W.bnd W.get fun μ => W.bnd (W.opt (mlOf o μ)) fun p => W.req (p.2.length < sizeLine) (W.setL p.1 (p.2 ++ [x]) (W.ret .non))
  | _ => W.bad
theorem md_append {K : PySem.W.Frag} : MtD K rAppend appendD := by
  intro F H μ x dx xs ds Q ED Qh r ix il h bk
  unfold appendD at h
  split at h
  · obtain ⟨v, rfl, i⟩ := isL1 il
    obtain ⟨⟨a, es⟩, e, hz, q⟩ := opt_of h
    obtain ⟨rfl, e2, vs, h1, h2⟩ := ml_of r ix e
    refine ⟨a, vs, v, rfl, rfl, h1, by rw [h2.length]; exact hz, ?_⟩
    exact bk _ _ _ F _ (Same.refl F) (r.write (mo' := .ml (es ++ [_])) e2 ⟨_, upd_same, h2.app (.cons i .nil)⟩) .non q
  · exact h.elim
def popD (o : D) : List D → W D
  | [] => W.bnd W.get fun μ => W.bnd (W.opt (mlOf o μ)) fun p => W.bnd (W.opt p.2[p.2.length - 1]?) fun y => W.setL p.1 p.2.dropLast (W.ret y)
  | _ => W.bad
theorem dropLast_isL {K : PySem.W.Frag} {F : Hp} {vs : List V} {ds : List D} (h : IsL K F vs ds) : IsL K F vs.dropLast ds.dropLast := by
  rw [List.dropLast_eq_take, List.dropLast_eq_take, h.length]
  exact h.take _
theorem md_pop {K : PySem.W.Frag} : MtD K rPop popD := by
  intro F H μ x dx xs ds Q ED Qh r ix il h bk
  unfold popD at h
  split at h
  · cases il
    obtain ⟨⟨a, es⟩, e, h⟩ := opt_of h
    obtain ⟨y, ey, q⟩ := opt_of h
    obtain ⟨rfl, e2, vs, h1, h2⟩ := ml_of r ix e
    have ey' : es[vs.length - 1]? = some y := by rw [h2.length]; exact ey
    obtain ⟨v, ev, iv⟩ := h2.get ey'
    refine ⟨a, vs, v, rfl, rfl, h1, ev, ?_⟩
    exact bk _ _ _ F _ (Same.refl F) (r.write (mo' := .ml es.dropLast) e2 ⟨_, upd_same, dropLast_isL h2⟩) iv q
  · exact h.elim
/-- sep.join(texts) -/
def strsOf : List D → Option (List Str)
  | [] => some []
  | .str i :: r => (strsOf r).map (i :: ·)
  | _ => none
theorem strs_isL {K : PySem.W.Frag} {F : Hp} : ∀ {vs : List V} {ds : List D} {ns : List Str}, IsL K F vs ds → strsOf ds = some ns → vs = ns.map V.str
  | _, _, _, .nil, e => by cases e; rfl
  | _, _, _, .cons (d := .str i) h r, e => by
    obtain ⟨ms, h1, h2⟩ := Option.map_eq_some_iff.mp (show (strsOf _).map (i :: ·) = some _ from e)
    subst h2
    cases h
    rw [strs_isL r h1]
    rfl
  | _, _, _, .cons (d := .non) _ _, e => by cases e
  | _, _, _, .cons (d := .bl _) _ _, e => by cases e
  | _, _, _, .cons (d := .int _) _ _, e => by cases e
  | _, _, _, .cons (d := .tup _) _ _, e => by cases e
  | _, _, _, .cons (d := .lst _) _ _, e => by cases e
  | _, _, _, .cons (d := .dct _) _ _, e => by cases e
  | _, _, _, .cons (d := .obj _) _ _, e => by cases e
  | _, _, _, .cons (d := .ty _) _ _, e => by cases e
def joinD (o : D) : List D → W D
  | [x] => (match o with
    | .str sep => W.bnd W.get fun μ => W.bnd (W.opt (sqOf x μ)) fun ds => W.bnd (W.opt (strsOf ds)) fun ys => W.req ((ys.map (·.length)).sum + ys.length * sep.length ≤ 16777216) (W.ret (.str (Txt.join sep ys)))
    | _ => W.bad)
  | _ => W.bad
theorem md_join {K : PySem.W.Frag} : MtD K (fun x xs H Q => ∃ a p, ∃ ys : List Str, x = .str a ∧ xs = [.ref p] ∧ (SqL K H p (ys.map V.str) ∨ SqT K H p (ys.map V.str)) ∧ (ys.map (·.length)).sum + ys.length * a.length ≤ 16777216 ∧ Q (.str (Txt.join a ys)) H) joinD := by
  intro F H μ x dx xs ds Q ED Qh r ix il h bk
  unfold joinD at h
  split at h
  · split at h
    · obtain ⟨v, rfl, i⟩ := isL1 il
      obtain ⟨es, e, h⟩ := opt_of h
      obtain ⟨ys, e2, hz, q⟩ := opt_of h
      cases ix
      obtain ⟨a, vs, rfl, hl, hs⟩ := sq_of r i e
      cases strs_isL hl e2
      exact ⟨_, a, ys, rfl, rfl, hs, hz, back_is bk r (.str _) q⟩
    · exact h.elim
  · exact h.elim
end DL

namespace DL
open PySem PySem.Spec PyProof.Rows L2

/-! ### statements -/
theorem EndsOk.up {K : PySem.W.Frag} {F F' : Hp} {Q : Out → Mem → Prop} {De : Ends} (h : EndsOk K F Q De) (e : Same F F') : EndsOk K F' Q De :=
  ⟨fun F1 H1 μ1 σ1 ρ1 s r n q => h.1 F1 H1 μ1 σ1 ρ1 (e.trans s) r n q, fun F1 H1 μ1 v d s r n q => h.2.1 F1 H1 μ1 v d (e.trans s) r n q,
    fun F1 H1 μ1 σ1 ρ1 s r n q => h.2.2.1 F1 H1 μ1 σ1 ρ1 (e.trans s) r n q, fun F1 H1 μ1 σ1 ρ1 s r n q => h.2.2.2 F1 H1 μ1 σ1 ρ1 (e.trans s) r n q⟩
def outSeq (m : Rho → W Out) : Out → W Out
  | .nx ρ => m ρ
  | o => W.ret o
def sSeq (m1 m2 : Rho → W Out) (ρ : Rho) : W Out := W.bnd (m1 ρ) (outSeq m2)
def sNil (ρ : Rho) : W Out := W.ret (.nx ρ)
def sRet (m : Rho → W D) (ρ : Rho) : W Out := W.bnd (m ρ) fun d => W.ret (.rt d)
def sRetN (_ : Rho) : W Out := W.ret (.rt .non)
def sDrop (m : Rho → W D) (ρ : Rho) : W Out := W.bnd (m ρ) fun _ => W.ret (.nx ρ)
def sIf (t : Rho → W Bool) (m1 m2 : Rho → W Out) (ρ : Rho) : W Out := W.bnd (t ρ) fun k => if k = true then m1 ρ else m2 ρ
def sSet (i : Nat) (m : Rho → W D) (ρ : Rho) : W Out := W.bnd (m ρ) fun d => W.ret (.nx (ρ.set i (some d)))
section
variable {X : Cx} {Eh : Option XK} {st : Stmt} {rest a b : List Stmt} {e c : Expr} {m1 m2 : Rho → W Out} {m : Rho → W D} {t : Rho → W Bool} {pos : Pos}
theorem dss_nil : DSs X Eh [] sNil := PSs.imp pss_nil fun De σ H ⟨F, ρ, μ, Q, ED, env, rep, lnk, hm, en⟩ => en.1 F H μ σ ρ (Same.refl F) rep env hm
theorem dss_one (h : DS X Eh st m1) : DSs X Eh [st] m1 := pss_one h
theorem dss_cons (h1 : DS X Eh st m1) (h2 : DSs X Eh rest m2) : DSs X Eh (st :: rest) (sSeq m1 m2) := by
  refine PSs.imp (pss_cons h1 h2) fun De σ H h => ?_
  obtain ⟨F, ρ, μ, Q, ED, env, rep, lnk, hm, en⟩ := h
  refine ⟨F, ρ, μ, _, ED, env, rep, lnk, hm, fun F1 H1 μ1 σ1 ρ1 s1 r1 n1 q1 => ?_, fun F1 H1 μ1 v d s1 r1 i1 q1 => ?_, fun F1 H1 μ1 σ1 ρ1 s1 r1 n1 q1 => ?_, fun F1 H1 μ1 σ1 ρ1 s1 r1 n1 q1 => ?_⟩
  · exact ⟨F1, ρ1, μ1, Q, ED, n1, r1, lnk.up s1, q1, en.up s1⟩
  · exact en.2.1 F1 H1 μ1 v d s1 r1 i1 q1
  · exact en.2.2.1 F1 H1 μ1 σ1 ρ1 s1 r1 n1 q1
  · exact en.2.2.2 F1 H1 μ1 σ1 ρ1 s1 r1 n1 q1
theorem ds_ret (h : DE X Eh e m) : DS X Eh (.Return (some e) pos) (sRet m) := by
  refine PS.imp (ps_ret h) fun De σ H h => ?_
  obtain ⟨F, ρ, μ, Q, ED, env, rep, lnk, hm, en⟩ := h
  exact ⟨F, ρ, μ, _, ED, env, rep, lnk, hm, fun v1 H1 d1 F1 μ1 s1 r1 i1 q1 => en.2.1 F1 H1 μ1 v1 d1 s1 r1 i1 q1⟩
theorem ds_retN : DS X Eh (.Return none pos) sRetN := PS.imp ps_retN fun De σ H ⟨F, ρ, μ, Q, ED, env, rep, lnk, hm, en⟩ => en.2.1 F H μ _ _ (Same.refl F) rep .non hm
theorem ds_pass : DS X Eh (.Pass pos) sNil := PS.imp ps_pass fun De σ H ⟨F, ρ, μ, Q, ED, env, rep, lnk, hm, en⟩ => en.1 F H μ σ ρ (Same.refl F) rep env hm
def sBreak (ρ : Rho) : W Out := W.ret (.bk ρ)
def sCont (ρ : Rho) : W Out := W.ret (.ct ρ)
theorem ds_break : DS X Eh (.Break pos) sBreak := PS.imp ps_break fun De σ H ⟨F, ρ, μ, Q, ED, env, rep, lnk, hm, en⟩ => en.2.2.1 F H μ σ ρ (Same.refl F) rep env hm
theorem ds_cont : DS X Eh (.Continue pos) sCont := PS.imp ps_continue fun De σ H ⟨F, ρ, μ, Q, ED, env, rep, lnk, hm, en⟩ => en.2.2.2 F H μ σ ρ (Same.refl F) rep env hm
theorem ds_expr (h : DE X Eh e m) (hs : swapsWith e none pos.line X.env = pure false) : DS X Eh (.Expr e pos) (sDrop m) := by
  refine PS.imp (ps_expr h hs) fun De σ H h => ?_
  obtain ⟨F, ρ, μ, Q, ED, env, rep, lnk, hm, en⟩ := h
  exact ⟨F, ρ, μ, _, ED, env, rep, lnk, hm, fun v1 H1 d1 F1 μ1 s1 r1 i1 q1 => en.1 F1 H1 μ1 σ ρ s1 r1 (env.up s1) q1⟩
theorem ds_if (hc : DT X Eh c t) (ha : DSs X Eh a m1) (hb : DSs X Eh b m2) : DS X Eh (.If c a b pos) (sIf t m1 m2) := by
  refine PS.imp (ps_if hc ha hb) fun De σ H h => ?_
  obtain ⟨F, ρ, μ, Q, ED, env, rep, lnk, hm, en⟩ := h
  refine ⟨F, ρ, μ, _, ED, env, rep, lnk, hm, fun v1 H1 d1 F1 μ1 s1 r1 i1 q1 => ?_⟩
  subst i1
  cases v1 with
  | true => exact ⟨F1, ρ, μ1, Q, ED, env.up s1, r1, lnk.up s1, q1, en.up s1⟩
  | false => exact ⟨F1, ρ, μ1, Q, ED, env.up s1, r1, lnk.up s1, q1, en.up s1⟩
theorem ds_set {i : Nat} {x : Str} {pos' : Pos} (hN : X.N.Nodup) (hi : X.N[i]? = some x) (hx : Loc X.env.scope x) (hf : X.fn x = true ∨ X.env.scope.names.lookup x = some .local) (h : DE X Eh e m)
    (hs : swapsWith e (some (.Name x pos')) pos.line X.env = pure false) : DS X Eh (.Assign [.Name x pos'] e pos) (sSet i m) := by
  refine PS.imp (ps_set hN hi hx h hs hf) fun De σ H h => ?_
  obtain ⟨F, ρ, μ, Q, ED, env, rep, lnk, hm, en⟩ := h
  exact ⟨F, ρ, μ, _, ED, env, rep, lnk, hm, fun v1 H1 d1 F1 μ1 s1 r1 i1 q1 => en.1 F1 H1 μ1 _ _ s1 r1 ((env.up s1).set i i1) q1⟩
end

/-! ### targets -/
def Frm (ts : List Nat) (σ σ' : L2.St) : Prop := σ'.length = σ.length ∧ ∀ j, j ∉ ts → σ'[j]? = σ[j]?
theorem Frm.refl (ts : List Nat) (σ : L2.St) : Frm ts σ σ := ⟨rfl, fun _ _ => rfl⟩
def liftG (K : PySem.W.Frag) (Eh : Option XK) (ts : List Nat) (g : D → Rho → W Rho) : TG := fun v σ H Qh => ∃ F ρ μ d Q ED, EnvR K F σ ρ ∧ Rep K F H μ ∧ Lnk K Eh F ED ∧ Is K F v d ∧ g d ρ μ Q ED ∧
  ∀ σ' H' ρ' F' μ', Same F F' → Rep K F' H' μ' → EnvR K F' σ' ρ' → Frm ts σ σ' → Q ρ' μ' → Qh σ' H'
def liftGs (K : PySem.W.Frag) (Eh : Option XK) (ts : List Nat) (g : List D → Rho → W Rho) : TGs := fun v σ H Qh => ∃ F ρ μ d Q ED, EnvR K F σ ρ ∧ Rep K F H μ ∧ Lnk K Eh F ED ∧ IsL K F v d ∧ g d ρ μ Q ED ∧
  ∀ σ' H' ρ' F' μ', Same F F' → Rep K F' H' μ' → EnvR K F' σ' ρ' → Frm ts σ σ' → Q ρ' μ' → Qh σ' H'
theorem PG.imp {X : Cx} {e : Expr} {t t' : TG} (h : PG X e t) (i : ∀ v σ H Q, t' v σ H Q → t v σ H Q) : PG X e t' := ⟨fun pins s σ H v u Q I r q => h.run pins s σ H v u Q I r (i _ _ _ _ q)⟩
theorem PGs.imp {X : Cx} {e : List Expr} {t t' : TGs} (h : PGs X e t) (i : ∀ v σ H Q, t' v σ H Q → t v σ H Q) : PGs X e t' := ⟨fun pins s σ H v u Q I r q => h.run pins s σ H v u Q I r (i _ _ _ _ q)⟩
abbrev DG (X : Cx) (Eh : Option XK) (e : Expr) (ts : List Nat) (g : D → Rho → W Rho) : Prop := PG X e (liftG X.K Eh ts g)
abbrev DGs (X : Cx) (Eh : Option XK) (e : List Expr) (ts : List Nat) (g : List D → Rho → W Rho) : Prop := PGs X e (liftGs X.K Eh ts g)
def gNm (i : Nat) (d : D) (ρ : Rho) : W Rho := W.ret (ρ.set i (some d))
def gsNil (ds : List D) (ρ : Rho) : W Rho := match ds with
  | [] => W.ret ρ
  | _ => W.bad
def gsCons (g : D → Rho → W Rho) (gs : List D → Rho → W Rho) (ds : List D) (ρ : Rho) : W Rho := match ds with
  | d :: r => W.bnd (g d ρ) fun ρ' => gs r ρ'
  | _ => W.bad
def gTp (n : Nat) (gs : List D → Rho → W Rho) (d : D) (ρ : Rho) : W Rho := match d with
  | .tup ds => W.req (ds.length = n) (gs ds ρ)
  | _ => W.bad
theorem frm_set {i : Nat} {σ : L2.St} {v : Option V} : Frm [i] σ (σ.set i v) := ⟨List.length_set, fun j hj => List.getElem?_set_ne (fun e => hj (by simp [e]))⟩
theorem Frm.app {ts us : List Nat} {a b c : L2.St} (h : Frm ts a b) (k : Frm us b c) : Frm (ts ++ us) a c :=
  ⟨k.1.trans h.1, fun j hj => (k.2 j fun q => hj (List.mem_append_right _ q)).trans (h.2 j fun q => hj (List.mem_append_left _ q))⟩
section
variable {X : Cx} {Eh : Option XK} {pos : Pos}
theorem dg_name {i : Nat} {x : Str} (hN : X.N.Nodup) (hi : X.N[i]? = some x) (hx : Loc X.env.scope x) (hf : X.fn x = true ∨ X.env.scope.names.lookup x = some .local) : DG X Eh (.Name x pos) [i] (gNm i) :=
  PG.imp (pg_name hN hi hx hf) fun v σ H Qh ⟨F, ρ, μ, d, Q, ED, env, rep, lnk, iv, hm, bk⟩ => bk _ H _ F μ (Same.refl F) rep (env.set i iv) frm_set hm
theorem dgs_nil : DGs X Eh [] [] gsNil := by
  refine PGs.imp pgs_nil fun v σ H Qh ⟨F, ρ, μ, d, Q, ED, env, rep, lnk, iv, hm, bk⟩ => ?_
  cases iv with
  | nil => exact ⟨rfl, bk σ H ρ F μ (Same.refl F) rep env (Frm.refl _ _) hm⟩
  | cons _ _ => exact hm.elim
theorem dgs_cons {e : Expr} {es : List Expr} {ts us : List Nat} {g : D → Rho → W Rho} {gs : List D → Rho → W Rho} (h1 : DG X Eh e ts g) (h2 : DGs X Eh es us gs)
    (hs : (assignEach (e :: es) X.env).map (·.2) = assign e X.env :: (assignEach es X.env).map (·.2)) : DGs X Eh (e :: es) (ts ++ us) (gsCons g gs) := by
  refine PGs.imp (pgs_cons h1 h2 hs) fun v σ H Qh ⟨F, ρ, μ, d, Q, ED, env, rep, lnk, iv, hm, bk⟩ => ?_
  cases iv with
  | nil => exact hm.elim
  | cons i r =>
    refine ⟨_, _, rfl, F, ρ, μ, _, _, ED, env, rep, lnk, i, hm, fun σ1 H1 ρ1 F1 μ1 s1 r1 e1 f1 q1 => ?_⟩
    exact ⟨F1, ρ1, μ1, _, Q, ED, e1, r1, lnk.up s1, r.up s1, q1, fun σ2 H2 ρ2 F2 μ2 s2 r2 e2 f2 q2 => bk σ2 H2 ρ2 F2 μ2 (s1.trans s2) r2 e2 (f1.app f2) q2⟩
theorem dg_tup {es : List Expr} {k : Nat} {ts : List Nat} {gs : List D → Rho → W Rho} {n : Nat} (hc : X.calm = true) (h : DGs X Eh es ts gs)
    (hn : (assignEach es X.env).length = n) (hst : (assignEach es X.env).findIdx? (·.1) = none) : DG X Eh (.Tuple es k pos) ts (gTp n gs) := by
  refine PG.imp (pg_tup hc h hn hst) fun v σ H Qh ⟨F, ρ, μ, d, Q, ED, env, rep, lnk, iv, hm, bk⟩ => ?_
  cases iv with
  | tup hs hl => exact ⟨_, _, rfl, sqt_up rep.sub hs, by rw [hl.length]; exact hm.1, F, ρ, μ, _, Q, ED, env, rep, lnk, hl, hm.2, bk⟩
  | _ => exact hm.elim
/-- o[i] = v -/
def setD (o i v : D) : W Unit := W.bnd W.get fun μ => W.bnd (W.opt (mlOf o μ)) fun p => match i with
  | .int k => W.bnd (W.opt (ixN p.2.length k)) fun j => W.setL p.1 (p.2.set j v) (W.ret ())
  | _ => W.bad
def gIx (mo mi : Rho → W D) (d : D) (ρ : Rho) : W Rho := W.bnd (mo ρ) fun o => W.bnd (mi ρ) fun i => W.bnd (setD o i d) fun _ => W.ret ρ
theorem dg_ix {o i : Expr} {mo mi : Rho → W D} (ho : DE X Eh o mo) (hi : DE X Eh i mi)
    (ha : ∀ v, assign (.Subscript o i pos) X.env v = (do
      let ov ← holding [v] (eval o X.env)
      let iv ← holding [v, ov] (eval i X.env)
      standAt pos
      holding [v, ov, iv] (setItem ov iv v)
      release [v, ov, iv] [])) : DG X Eh (.Subscript o i pos) [] (gIx mo mi) := by
  refine PG.imp (pg_sub ho hi set_list ha) fun v σ H Qh ⟨F, ρ, μ, d, Q, ED, env, rep, lnk, iv, hm, bk⟩ => ?_
  refine ⟨F, ρ, μ, _, ED, env, rep, lnk, hm, fun v1 H1 d1 F1 μ1 s1 r1 i1 q1 => ?_⟩
  refine ⟨F1, ρ, μ1, _, ED, env.up s1, r1, lnk.up s1, q1, fun v2 H2 d2 F2 μ2 s2 r2 i2 q2 => ?_⟩
  obtain ⟨⟨a, es⟩, e, h⟩ := opt_of q2
  obtain ⟨rfl, e2, vs, h1, h2⟩ := ml_of r2 (i1.up s2) e
  cases d2 with
  | int k =>
    obtain ⟨j, ej, q⟩ := opt_of h
    cases is_int i2
    refine ⟨a, vs, k, j, rfl, rfl, h1, by rw [h2.length]; exact ej, ?_⟩
    exact bk σ _ ρ F2 _ (s1.trans s2) (r2.write (mo' := .ml (es.set j d)) e2 ⟨_, upd_same, h2.set ((iv.up s1).up s2) j⟩) ((env.up s1).up s2) (Frm.refl _ _) q
  | _ => exact h.elim
def sAsg (m : Rho → W D) (g : D → Rho → W Rho) (ρ : Rho) : W Out := W.bnd (m ρ) fun d => W.bnd (g d ρ) fun ρ' => W.ret (.nx ρ')
theorem ds_asg {tg e : Expr} {m : Rho → W D} {ts : List Nat} {g : D → Rho → W Rho} (he : DE X Eh e m) (hg : DG X Eh tg ts g) (hs : swapsWithSole [tg] e pos.line X.env = pure false) (hw : swappedStores [tg] e X.env = pure none)
    (h1 : (assignEach [tg] X.env).map (·.2) = [assign tg X.env]) : DS X Eh (.Assign [tg] e pos) (sAsg m g) := by
  refine PS.imp (ps_asg he hg hs hw h1) fun De σ H h => ?_
  obtain ⟨F, ρ, μ, Q, ED, env, rep, lnk, hm, en⟩ := h
  refine ⟨F, ρ, μ, _, ED, env, rep, lnk, hm, fun v1 H1 d1 F1 μ1 s1 r1 i1 q1 => ?_⟩
  exact ⟨F1, ρ, μ1, d1, _, ED, env.up s1, r1, lnk.up s1, i1, q1, fun σ2 H2 ρ2 F2 μ2 s2 r2 e2 f2 q2 => en.1 F2 H2 μ2 σ2 ρ2 (s1.trans s2) r2 e2 q2⟩
/-- a, b = x, y | a, b, c = x, y, z -/
def sPar2 (i j : Nat) (ms : Rho → W (List D)) (ρ : Rho) : W Out := W.bnd (ms ρ) fun ds => match ds with
  | [x, y] => W.ret (.nx ((ρ.set i (some x)).set j (some y)))
  | _ => W.bad
def sPar3 (i j l : Nat) (ms : Rho → W (List D)) (ρ : Rho) : W Out := W.bnd (ms ρ) fun ds => match ds with
  | [x, y, z] => W.ret (.nx (((ρ.set i (some x)).set j (some y)).set l (some z)))
  | _ => W.bad
theorem isL_cons {K : PySem.W.Frag} {F : Hp} {vs : List V} {d : D} {r : List D} (h : IsL K F vs (d :: r)) : ∃ v us, vs = v :: us ∧ Is K F v d ∧ IsL K F us r := by
  cases h with
  | cons i r => exact ⟨_, _, rfl, i, r⟩
theorem ds_par2 {i j : Nat} {x y : Str} {a b : Expr} {ms : Rho → W (List D)} {px py pt : Pos} {kt k2 pt2} (hc : X.calm = true) (hN : X.N.Nodup) (hi : X.N[i]? = some x) (hj : X.N[j]? = some y) (hij : i ≠ j)
    (hx : X.env.scope.names.lookup x = some .local) (hy : X.env.scope.names.lookup y = some .local) (ha : DA X Eh [a, b] ms)
    (hw : swappedStores [.Tuple [.Name x px, .Name y py] kt pt] (.Tuple [a, b] k2 pt2) X.env = pure (some [x, y]))
    (hs : swapsWithSole [.Tuple [.Name x px, .Name y py] kt pt] (.Tuple [a, b] k2 pt2) pos.line X.env = pure false) :
    DS X Eh (.Assign [.Tuple [.Name x px, .Name y py] kt pt] (.Tuple [a, b] k2 pt2) pos) (sPar2 i j ms) := by
  refine PS.imp (ps_par hc hN hi hj hij hx hy ha hw hs) fun De σ H h => ?_
  obtain ⟨F, ρ, μ, Q, ED, env, rep, lnk, hm, en⟩ := h
  refine ⟨F, ρ, μ, _, ED, env, rep, lnk, hm, fun v1 H1 d1 F1 μ1 s1 r1 i1 q1 => ?_⟩
  match d1, q1, i1 with
  | [dx, dy], q1, i1 =>
    obtain ⟨v, w', rfl, iv, iw⟩ := isL2 i1
    exact ⟨v, w', rfl, en.1 F1 H1 μ1 _ _ s1 r1 (((env.up s1).set i iv).set j iw) q1⟩
theorem ds_par3 {i j l : Nat} {x y z : Str} {a b c : Expr} {ms : Rho → W (List D)} {px py pz pt : Pos} {kt k2 pt2} (hc : X.calm = true) (hN : X.N.Nodup) (hi : X.N[i]? = some x) (hj : X.N[j]? = some y) (hl : X.N[l]? = some z) (hij : i ≠ j) (hil : i ≠ l) (hjl : j ≠ l)
    (hx : X.env.scope.names.lookup x = some .local) (hy : X.env.scope.names.lookup y = some .local) (hz : X.env.scope.names.lookup z = some .local) (ha : DA X Eh [a, b, c] ms)
    (hw : swappedStores [.Tuple [.Name x px, .Name y py, .Name z pz] kt pt] (.Tuple [a, b, c] k2 pt2) X.env = pure (some [x, y, z]))
    (hs : swapsWithSole [.Tuple [.Name x px, .Name y py, .Name z pz] kt pt] (.Tuple [a, b, c] k2 pt2) pos.line X.env = pure false) :
    DS X Eh (.Assign [.Tuple [.Name x px, .Name y py, .Name z pz] kt pt] (.Tuple [a, b, c] k2 pt2) pos) (sPar3 i j l ms) := by
  refine PS.imp (ps_par3 hc hN hi hj hl hij hil hjl hx hy hz ha hw hs) fun De σ H h => ?_
  obtain ⟨F, ρ, μ, Q, ED, env, rep, lnk, hm, en⟩ := h
  refine ⟨F, ρ, μ, _, ED, env, rep, lnk, hm, fun v1 H1 d1 F1 μ1 s1 r1 i1 q1 => ?_⟩
  match d1, q1, i1 with
  | [dx, dy, dz], q1, i1 =>
    obtain ⟨u, us, rfl, iu, i2⟩ := isL_cons i1
    obtain ⟨v, w', rfl, iv, iw⟩ := isL2 i2
    exact ⟨u, v, w', rfl, en.1 F1 H1 μ1 _ _ s1 r1 ((((env.up s1).set i iu).set j iv).set l iw) q1⟩
end

/-! ### what is walked -/
structure ItD where
  items : List D
  chk : Mem → Prop
/-- an iterator gives these items, as long as chk holds -/
structure ItIs (K : PySem.W.Frag) (F : Hp) (J : It) (it : ItD) : Prop where
  go : ∀ i F1 H1 μ1, Same F F1 → Rep K F1 H1 μ1 → it.chk μ1 → i < it.items.length → J.go i H1
  yld : ∀ i F1 H1 μ1 x H2, Same F F1 → Rep K F1 H1 μ1 → it.chk μ1 → i < it.items.length → J.yld i H1 x H2 → ∃ F2 d, Same F1 F2 ∧ Rep K F2 H2 μ1 ∧ it.items[i]? = some d ∧ Is K F2 x d
  stop : ∀ F1 H1 μ1, Same F F1 → Rep K F1 H1 μ1 → it.chk μ1 → J.stop it.items.length H1
theorem ItIs.up {K : PySem.W.Frag} {F F' : Hp} {J : It} {it : ItD} (h : ItIs K F J it) (e : Same F F') : ItIs K F' J it :=
  ⟨fun i F1 H1 μ1 s => h.go i F1 H1 μ1 (e.trans s), fun i F1 H1 μ1 x H2 s => h.yld i F1 H1 μ1 x H2 (e.trans s), fun F1 H1 μ1 s => h.stop F1 H1 μ1 (e.trans s)⟩
def liftI (K : PySem.W.Frag) (Eh : Option XK) (m : Rho → W ItD) : TI := fun σ H R => ∃ F ρ μ Q ED, EnvR K F σ ρ ∧ Rep K F H μ ∧ Lnk K Eh F ED ∧ m ρ μ Q ED ∧ ∀ J H' F' μ' it, Same F F' → Rep K F' H' μ' → ItIs K F' J it → Q it μ' → R J H'
abbrev DI (X : Cx) (Eh : Option XK) (tg e : Expr) (m : Rho → W ItD) : Prop := PI X tg e (liftI X.K Eh m)
theorem PI.imp {X : Cx} {tg e : Expr} {t t' : TI} (h : PI X tg e t) (i : ∀ σ H Q, t' σ H Q → t σ H Q) : PI X tg e t' := ⟨fun pins s σ H Q I q => h.run pins s σ H Q I (i _ _ _ q)⟩
def W.chk {α : Type} (c : Mem → Prop) (m : W α) : W α := fun μ Q E => c μ ∧ m μ Q E
/-- a list that stays, or a list object (then chk), or a tuple -/
def iLst (m : Rho → W D) (ρ : Rho) : W ItD := W.bnd (m ρ) fun d => match d with
  | .lst ds => W.ret ⟨ds, fun _ => True⟩
  | .obj a => W.bnd W.get fun μ => W.bnd (W.opt (lsOf (.obj a) μ)) fun ds => W.ret ⟨ds, fun μ' => μ' a = some (.ml ds)⟩
  | _ => W.bad
def iTpl (m : Rho → W D) (ρ : Rho) : W ItD := W.bnd (m ρ) fun d => match d with
  | .tup ds => W.ret ⟨ds, fun _ => True⟩
  | _ => W.bad
def rangeL (lo : Int) (n : Nat) : List D := (List.range n).map fun i => .int (lo + (i : Nat))
def iRg1 (ms : Rho → W (List D)) (ρ : Rho) : W ItD := W.bnd (ms ρ) fun ds => match ds with
  | [.int j] => W.req (-(2 ^ 62) ≤ j ∧ j < 2 ^ 62) (W.ret ⟨rangeL 0 j.toNat, fun _ => True⟩)
  | _ => W.bad
def iRg2 (ms : Rho → W (List D)) (ρ : Rho) : W ItD := W.bnd (ms ρ) fun ds => match ds with
  | [.int i, .int j] => W.req (-(2 ^ 62) ≤ i ∧ i < 2 ^ 62 ∧ -(2 ^ 62) ≤ j ∧ j < 2 ^ 62) (W.ret ⟨rangeL i (j - i).toNat, fun _ => True⟩)
  | _ => W.bad
theorem itIs_list {K : PySem.W.Frag} {F : Hp} {a : Addr} {vs : List V} {ds : List D} {c : Mem → Prop} (hs : ∀ F1 H1 μ1, Same F F1 → Rep K F1 H1 μ1 → c μ1 → SqL K H1 a vs) (hl : IsL K F vs ds) : ItIs K F (Itl K a) ⟨ds, c⟩ := by
  refine ⟨fun i F1 H1 μ1 s r hc hi => ?_, fun i F1 H1 μ1 x H2 s r hc hb y => ?_, fun F1 H1 μ1 s r hc => ?_⟩
  · have h := hl.length
    have hi' : i < ds.length := hi
    exact ⟨vs, vs[i]'(by omega), hs F1 H1 μ1 s r hc, List.getElem?_eq_getElem (by omega)⟩
  · obtain ⟨e, y⟩ := y
    subst e
    obtain ⟨d, h1, h2⟩ := hl.getV (y vs (hs F1 _ μ1 s r hc))
    exact ⟨F1, d, Same.refl _, r, h1, h2.up s⟩
  · exact ⟨vs, hs F1 H1 μ1 s r hc, by rw [hl.length]; exact Nat.le_refl _⟩
theorem itIs_tup {K : PySem.W.Frag} {F : Hp} {a : Addr} {vs : List V} {ds : List D} (hs : SqT K F a vs) (hl : IsL K F vs ds) : ItIs K F (Itt K a) ⟨ds, fun _ => True⟩ := by
  refine ⟨fun i F1 H1 μ1 s r hc hi => ?_, fun i F1 H1 μ1 x H2 s r hc hb y => ?_, fun F1 H1 μ1 s r hc => ?_⟩
  · have h := hl.length
    have hi' : i < ds.length := hi
    exact ⟨vs, vs[i]'(by omega), sqt_up r.sub (sqt_up s hs), List.getElem?_eq_getElem (by omega)⟩
  · obtain ⟨e, y⟩ := y
    subst e
    obtain ⟨d, h1, h2⟩ := hl.getV (y vs (sqt_up r.sub (sqt_up s hs)))
    exact ⟨F1, d, Same.refl _, r, h1, h2.up s⟩
  · exact ⟨vs, sqt_up r.sub (sqt_up s hs), by rw [hl.length]; exact Nat.le_refl _⟩
theorem rangeL_len (lo : Int) (n : Nat) : (rangeL lo n).length = n := by unfold rangeL; rw [List.length_map, List.length_range]
theorem rangeL_get {lo : Int} {n i : Nat} (h : i < n) : (rangeL lo n)[i]? = some (.int (lo + (i : Nat))) := by
  unfold rangeL
  rw [List.getElem?_map, List.getElem?_range h]
  rfl
theorem itIs_range {K : PySem.W.Frag} {F : Hp} {lo : Int} {n : Nat} : ItIs K F (Itr lo n) ⟨rangeL lo n, fun _ => True⟩ := by
  refine ⟨fun i F1 H1 μ1 s r hc hi => ?_, fun i F1 H1 μ1 x H2 s r hc hb y => ?_, fun F1 H1 μ1 s r hc => ?_⟩
  · have : i < (rangeL lo n).length := hi
    rw [rangeL_len] at this
    exact this
  · obtain ⟨e, y⟩ := y
    subst e y
    have hb' : i < (rangeL lo n).length := hb
    rw [rangeL_len] at hb'
    exact ⟨F1, _, Same.refl _, r, rangeL_get hb', .int _⟩
  · show n ≤ (rangeL lo n).length
    rw [rangeL_len]
    exact Nat.le_refl _
section
variable {X : Cx} {Eh : Option XK} {tg e : Expr} {m : Rho → W D}
theorem di_list (h : DE X Eh e m) : DI X Eh tg e (iLst m) := by
  refine PI.imp (pi_list h) fun σ H R h => ?_
  obtain ⟨F, ρ, μ, Q, ED, env, rep, lnk, hm, bk⟩ := h
  refine ⟨F, ρ, μ, _, ED, env, rep, lnk, hm, fun v1 H1 d1 F1 μ1 s1 r1 i1 q1 => ?_⟩
  cases i1 with
  | lst hs hl => exact ⟨_, rfl, ⟨_, sql_up r1.sub hs⟩, bk _ _ F1 μ1 _ s1 r1 (itIs_list (fun F2 H2 μ2 s2 r2 _ => sql_up r2.sub (sql_up s2 hs)) hl) q1⟩
  | obj a =>
    obtain ⟨ds, e1, q⟩ := opt_of q1
    obtain ⟨b, vs, eb, h1, h2⟩ := ls_of r1 (.obj a) e1
    cases eb
    refine ⟨_, rfl, ⟨_, h1⟩, bk _ _ F1 μ1 ⟨ds, fun μ' => μ' a = some (.ml ds)⟩ s1 r1 ?_ q⟩
    refine ⟨fun i F2 H2 μ2 s2 r2 hc hi => ?_, fun i F2 H2 μ2 x H3 s2 r2 hc hb y => ?_, fun F2 H2 μ2 s2 r2 hc => ?_⟩
    · obtain ⟨_, us, h3, h4⟩ := r2.mem a _ hc
      have hl := h4.length
      have hi' : i < ds.length := hi
      exact ⟨us, us[i]'(by omega), .inl (.inl h3), List.getElem?_eq_getElem (by omega)⟩
    · obtain ⟨_, us, h3, h4⟩ := r2.mem a _ hc
      obtain ⟨e, y⟩ := y
      subst e
      obtain ⟨d, h5, h6⟩ := h4.getV (y us (.inl (.inl h3)))
      exact ⟨F2, d, Same.refl _, r2, h5, h6⟩
    · obtain ⟨_, us, h3, h4⟩ := r2.mem a _ hc
      exact ⟨us, .inl (.inl h3), by rw [h4.length]; exact Nat.le_refl _⟩
  | _ => exact q1.elim
theorem di_tup (h : DE X Eh e m) : DI X Eh tg e (iTpl m) := by
  refine PI.imp (pi_tup h) fun σ H R h => ?_
  obtain ⟨F, ρ, μ, Q, ED, env, rep, lnk, hm, bk⟩ := h
  refine ⟨F, ρ, μ, _, ED, env, rep, lnk, hm, fun v1 H1 d1 F1 μ1 s1 r1 i1 q1 => ?_⟩
  cases i1 with
  | tup hs hl => exact ⟨_, rfl, ⟨_, sqt_up r1.sub hs⟩, bk _ _ F1 μ1 _ s1 r1 (itIs_tup hs hl) q1⟩
  | _ => exact q1.elim
theorem di_range1 {a : Expr} {ms : Rho → W (List D)} {p pos : Pos} (hg : Gl X "range") (hm : X.mg "range" = none) (ha : DA X Eh [a] ms) (hs : starEach [a] X.env = [(false, eval a X.env)]) : DI X Eh tg (.Call (.Name "range" p) [a] [] pos) (iRg1 ms) := by
  refine PI.imp (pi_range1 hg hm ha hs) fun σ H R h => ?_
  obtain ⟨F, ρ, μ, Q, ED, env, rep, lnk, hm, bk⟩ := h
  refine ⟨F, ρ, μ, _, ED, env, rep, lnk, hm, fun v1 H1 d1 F1 μ1 s1 r1 i1 q1 => ?_⟩
  match d1, q1, i1 with
  | [.int j], q1, i1 =>
    obtain ⟨v, rfl, iv⟩ := isL1 i1
    cases iv
    exact ⟨j, rfl, q1.1.1, q1.1.2, bk _ _ F1 μ1 _ s1 r1 itIs_range q1.2⟩
theorem di_range2 {a b : Expr} {ms : Rho → W (List D)} {p pos : Pos} (hg : Gl X "range") (hm : X.mg "range" = none) (ha : DA X Eh [a, b] ms) (hs : starEach [a, b] X.env = [(false, eval a X.env), (false, eval b X.env)]) (hs2 : starEach [b] X.env = [(false, eval b X.env)]) :
    DI X Eh tg (.Call (.Name "range" p) [a, b] [] pos) (iRg2 ms) := by
  refine PI.imp (pi_range2 hg hm ha hs hs2) fun σ H R h => ?_
  obtain ⟨F, ρ, μ, Q, ED, env, rep, lnk, hm, bk⟩ := h
  refine ⟨F, ρ, μ, _, ED, env, rep, lnk, hm, fun v1 H1 d1 F1 μ1 s1 r1 i1 q1 => ?_⟩
  match d1, q1, i1 with
  | [.int j, .int l], q1, i1 =>
    obtain ⟨v, u, rfl, iv, iu⟩ := isL2 i1
    cases iv
    cases iu
    exact ⟨j, l, rfl, q1.1, bk _ _ F1 μ1 _ s1 r1 itIs_range q1.2⟩
end

/-! ### for -/
def forW (chk : Mem → Prop) (g : D → Rho → W Rho) (body : Rho → W Out) : List D → Rho → W Out
  | [], ρ => W.chk chk (W.ret (.nx ρ))
  | x :: xs, ρ => W.chk chk (W.bnd (g x ρ) fun ρ1 => W.bnd (body ρ1) fun o => match o with
    | .nx ρ2 => forW chk g body xs ρ2
    | .ct ρ2 => forW chk g body xs ρ2
    | .bk ρ2 => W.ret (.nx ρ2)
    | .rt d => W.ret (.rt d))
def sFor (mi : Rho → W ItD) (g : D → Rho → W Rho) (body : Rho → W Out) (ρ : Rho) : W Out := W.bnd (mi ρ) fun it => forW it.chk g body it.items ρ
theorem ds_for {X : Cx} {Eh : Option XK} {tg iter : Expr} {body : List Stmt} {mi : Rho → W ItD} {g : D → Rho → W Rho} {ts : List Nat} {mb : Rho → W Out} {pos : Pos} (hp : PassesOwn (model X.prog X.w) X.A X.env X.xe) (hc : X.calm = true)
    (hi : DI X Eh tg iter mi) (hg : DG X Eh tg ts g) (hb : DSs X Eh body mb) (hs : ∀ x, foldedSetIterable iter X.env x = pure x) : DS X Eh (.For tg iter body [] pos) (sFor mi g mb) := by
  refine PS.imp (ps_for hp hc hi hg hb hs) fun De σ H h => ?_
  obtain ⟨F, ρ, μ, Q, ED, env, rep, lnk, hm, en⟩ := h
  refine ⟨F, ρ, μ, _, ED, env, rep, lnk, hm, fun J H1 F1 μ1 it s1 r1 ij q1 => ?_⟩
  refine ⟨fun i n σ2 H2 => i + n = it.items.length ∧ ∃ F2 ρ2 μ2, Same F1 F2 ∧ Rep X.K F2 H2 μ2 ∧ EnvR X.K F2 σ2 ρ2 ∧ forW it.chk g mb (it.items.drop i) ρ2 μ2 Q ED,
    ⟨it.items.length, by omega, F1, ρ, μ1, Same.refl _, r1, env.up s1, q1⟩, fun i n σ2 H2 hw => ?_⟩
  obtain ⟨hn, F2, ρ2, μ2, s2, r2, e2, q2⟩ := hw
  by_cases hi : i < it.items.length
  · rw [List.drop_eq_getElem_cons hi] at q2
    obtain ⟨hc2, q2⟩ := q2
    refine .inr ⟨ij.go i F2 H2 μ2 s2 r2 hc2 hi, fun σ3 H3 => ∃ F3 ρ3 μ3, Same F1 F3 ∧ Rep X.K F3 H3 μ3 ∧ EnvR X.K F3 σ3 ρ3 ∧ forW it.chk g mb (it.items.drop (i + 1)) ρ3 μ3 Q ED, fun σ3 H3 h3 => ⟨n - 1, by omega, by omega, h3⟩, fun x H3 hy => ?_⟩
    obtain ⟨F3, d, s3, r3, ed, iv⟩ := ij.yld i F2 H2 μ2 x H3 s2 r2 hc2 hi hy
    rw [List.getElem?_eq_getElem hi] at ed
    cases ed
    refine ⟨F3, ρ2, μ2, _, _, ED, e2.up s3, r3, (lnk.up s1).up (s2.trans s3), iv, q2, fun σ4 H4 ρ4 F4 μ4 s4 r4 e4 f4 q4 => ?_⟩
    refine ⟨F4, ρ4, μ4, _, ED, e4, r4, ((lnk.up s1).up (s2.trans s3)).up s4, q4, fun F5 H5 μ5 σ5 ρ5 s5 r5 e5 q5 => ?_, fun F5 H5 μ5 v d5 s5 r5 i5 q5 => ?_, fun F5 H5 μ5 σ5 ρ5 s5 r5 e5 q5 => ?_, fun F5 H5 μ5 σ5 ρ5 s5 r5 e5 q5 => ?_⟩
    · exact ⟨F5, ρ5, μ5, ((s2.trans s3).trans s4).trans s5, r5, e5, q5⟩
    · exact en.2.1 F5 H5 μ5 v d5 (s1.trans (((s2.trans s3).trans s4).trans s5)) r5 i5 q5
    · exact en.1 F5 H5 μ5 σ5 ρ5 (s1.trans (((s2.trans s3).trans s4).trans s5)) r5 e5 q5
    · exact ⟨F5, ρ5, μ5, ((s2.trans s3).trans s4).trans s5, r5, e5, q5⟩
  · have ei : i = it.items.length := by omega
    subst ei
    rw [List.drop_length] at q2
    obtain ⟨hc2, q2⟩ := q2
    exact .inl ⟨ij.stop F2 H2 μ2 s2 r2 hc2, en.1 F2 H2 μ2 σ2 ρ2 (s1.trans s2) r2 e2 q2⟩

/-! ### [e for x in xs if t] -/
def wipeD (ρ : Rho) : List Nat → Rho
  | [] => ρ
  | v :: vs => (wipeD ρ vs).set v none
theorem wipeD_len (ρ : Rho) : ∀ vs : List Nat, (wipeD ρ vs).length = ρ.length
  | [] => rfl
  | v :: vs => by unfold wipeD; rw [List.length_set, wipeD_len ρ vs]
theorem EnvR.unset {K : PySem.W.Frag} {F : Hp} {σ : L2.St} {ρ : Rho} (h : EnvR K F σ ρ) (n : Nat) : EnvR K F (σ.set n none) (ρ.set n none) := by
  refine ⟨by rw [List.length_set, List.length_set]; exact h.len, fun i e q => ?_⟩
  by_cases hi : n = i
  · subst hi
    by_cases hn : n < ρ.length
    · rw [List.getElem?_set_self hn] at q
      cases q
    · rw [List.getElem?_eq_none (by rw [List.length_set]; omega)] at q
      cases q
  · rw [List.getElem?_set_ne hi] at q
    obtain ⟨u, h1, h2⟩ := h.get i e q
    exact ⟨u, by rw [List.getElem?_set_ne hi]; exact h1, h2⟩
theorem EnvR.wipe {K : PySem.W.Frag} {F : Hp} {σ : L2.St} {ρ : Rho} (h : EnvR K F σ ρ) : ∀ vs : List Nat, EnvR K F (L2.wipe σ vs) (wipeD ρ vs)
  | [] => h
  | v :: vs => (EnvR.wipe h vs).unset v
theorem wipe_at {σ : L2.St} : ∀ {vs : List Nat} {j : Nat}, j ∉ vs → (L2.wipe σ vs)[j]? = σ[j]?
  | [], _, _ => rfl
  | v :: vs, j, h => by
    unfold L2.wipe
    rw [List.getElem?_set_ne (fun e => h (by simp [e]))]
    exact wipe_at fun q => h (List.mem_cons_of_mem _ q)
theorem wipe_in {σ : L2.St} : ∀ {vs : List Nat} {j : Nat}, j ∈ vs → j < σ.length → (L2.wipe σ vs)[j]? = some none
  | [], _, h, _ => by cases h
  | v :: vs, j, h, hl => by
    unfold L2.wipe
    by_cases e : v = j
    · subst e
      exact List.getElem?_set_self (by rw [wipe_length]; exact hl)
    · rw [List.getElem?_set_ne e]
      refine wipe_in ?_ hl
      rcases List.mem_cons.mp h with q | q
      · exact absurd q.symm e
      · exact q
theorem wipe_frm {ts vs : List Nat} {σ σ' : L2.St} (h : Frm ts (L2.wipe σ vs) σ') (hs : ∀ j ∈ ts, j ∈ vs) : L2.wipe σ' vs = L2.wipe σ vs := by
  apply List.ext_getElem?
  intro j
  have hl : σ'.length = σ.length := h.1.trans (wipe_length σ vs)
  by_cases hj : j ∈ vs
  · by_cases hb : j < σ.length
    · rw [wipe_in hj hb, wipe_in hj (by omega)]
    · rw [List.getElem?_eq_none (by rw [wipe_length]; omega), List.getElem?_eq_none (by rw [wipe_length]; omega)]
  · rw [wipe_at hj, h.2 j fun q => hj (hs j q)]
def del (μ : Mem) (p : Addr) : Mem := fun b => if b = p then none else μ b
/-- one more item of the list at p -/
def W.push (p : Addr) (d : D) : W Unit := W.bnd W.get fun μ => match μ p with
  | some (.ml acc) => W.req (acc.length < sizeLine) (W.setL p (acc ++ [d]) (W.ret ()))
  | _ => W.bad
def lcW (chk : Mem → Prop) (g : D → Rho → W Rho) (tt : Rho → W Bool) (te : Rho → W D) (p : Addr) (ρ : Rho) : List D → W Unit
  | [] => W.chk chk (W.ret ())
  | x :: xs => W.chk chk (W.bnd (g x ρ) fun ρ1 => W.bnd (tt ρ1) fun k => if k = true then W.bnd (te ρ1) fun d => W.bnd (W.push p d) fun _ => lcW chk g tt te p ρ xs else lcW chk g tt te p ρ xs)
/-- the list stays (frozen) | it will change -/
def eLc (mi : Rho → W ItD) (g : D → Rho → W Rho) (tt : Rho → W Bool) (te : Rho → W D) (vs : List Nat) (ρ : Rho) : W D := W.bnd (mi ρ) fun it => fun μ Q E => ∀ p, μ p = none →
  lcW it.chk g tt te p (wipeD ρ vs) it.items (put μ p (.ml [])) (fun _ μ' => ∃ ds, μ' p = some (.ml ds) ∧ Q (.lst ds) (del μ' p)) E
def eLcM (mi : Rho → W ItD) (g : D → Rho → W Rho) (tt : Rho → W Bool) (te : Rho → W D) (vs : List Nat) (ρ : Rho) : W D := W.bnd (mi ρ) fun it => fun μ Q E => ∀ p, μ p = none →
  lcW it.chk g tt te p (wipeD ρ vs) it.items (put μ p (.ml [])) (fun _ μ' => (∃ ds, μ' p = some (.ml ds)) ∧ Q (.obj p) μ') E
def liftTs := liftT
abbrev DTs (X : Cx) (Eh : Option XK) (e : List Expr) (m : Rho → W Bool) : Prop := PTs X e (liftT X.K Eh m)
def tsYes (_ : Rho) : W Bool := W.ret true
theorem dts_nil {X : Cx} {Eh : Option XK} : DTs X Eh [] tsYes := by
  refine ⟨fun pins s σ H Q I h => (pts_nil (X := X)).run pins s σ H Q I ?_⟩
  obtain ⟨F, ρ, μ, Qd, ED, env, rep, lnk, hm, bk⟩ := h
  exact bk _ H _ F μ (Same.refl F) rep rfl hm
theorem dts_one {X : Cx} {Eh : Option XK} {c : Expr} {m : Rho → W Bool} (h : DT X Eh c m) : DTs X Eh [c] m := pts_one h
theorem push_of {p : Addr} {d : D} {f : Unit → W Unit} {μ : Mem} {Q : Unit → Mem → Prop} {E : XD} (h : W.bnd (W.push p d) f μ Q E) : ∃ acc, μ p = some (.ml acc) ∧ acc.length < sizeLine ∧ f () (put μ p (.ml (acc ++ [d]))) Q E := by
  have h' : (match μ p with
    | some (.ml acc) => W.req (acc.length < sizeLine) (W.setL p (acc ++ [d]) (W.ret ()))
    | _ => W.bad) μ (fun a μ' => f a μ' Q E) E := h
  cases e : μ p with
  | none => rw [e] at h'; exact h'.elim
  | some mo =>
    cases mo with
    | ml acc => rw [e] at h'; exact ⟨acc, rfl, h'.1, h'.2⟩
    | md kvs => rw [e] at h'; exact h'.elim
theorem lc_turns {K : PySem.W.Frag} {mi : Rho → W ItD} {g : D → Rho → W Rho} {tt : Rho → W Bool} {te : Rho → W D} {ts vs : List Nat} (hsub : ∀ j ∈ ts, j ∈ vs) {σ : L2.St} {H : Hp} {Qh : VK} {Qe : D → Mem → Prop} {ED : XD} {F : Hp} {ρ : Rho} {μ : Mem} {Qf : Addr → Mem → Prop}
    (env : EnvR K F σ ρ) (rep : Rep K F H μ) (lnk : Lnk K none F ED)
    (hm : W.bnd (mi ρ) (fun it => fun μ (Q : D → Mem → Prop) E => ∀ p, μ p = none → lcW it.chk g tt te p (wipeD ρ vs) it.items (put μ p (.ml [])) (fun _ μ' => Qf p μ') E) μ Qe ED)
    (fin : ∀ p F' H' μ', Same F F' → Rep K F' H' μ' → Qf p μ' → Qh (.ref p) H') : tLc (liftI K none mi) (liftG K none ts g) (liftT K none tt) (liftE K none te) vs σ H Qh := by
  refine ⟨F, ρ, μ, _, ED, env, rep, lnk, hm, fun J H1 F1 μ1 it s1 r1 ij q1 => ?_⟩
  intro p hn
  have q1 := q1 p (r1.mfree hn)
  have r1' : Rep K F1 (upd H1 p (.lst [])) (put μ1 p (.ml [])) := r1.newM (mo := .ml []) hn ⟨[], upd_same, .nil⟩
  refine ⟨fun i n H2 => i + n = it.items.length ∧ ∃ F2 μ2, Same F1 F2 ∧ Rep K F2 H2 μ2 ∧ lcW it.chk g tt te p (wipeD ρ vs) (it.items.drop i) μ2 (fun _ μ' => Qf p μ') ED,
    ⟨it.items.length, by omega, F1, _, Same.refl _, r1', q1⟩, fun i n H2 hw => ?_⟩
  obtain ⟨hn2, F2, μ2, s2, r2, q2⟩ := hw
  by_cases hi : i < it.items.length
  · rw [List.drop_eq_getElem_cons hi] at q2
    obtain ⟨hc2, q2⟩ := q2
    refine .inr ⟨ij.go i F2 H2 μ2 s2 r2 hc2 hi, fun H3 => ∃ F3 μ3, Same F1 F3 ∧ Rep K F3 H3 μ3 ∧ lcW it.chk g tt te p (wipeD ρ vs) (it.items.drop (i + 1)) μ3 (fun _ μ' => Qf p μ') ED, fun H3 h3 => ⟨n - 1, by omega, by omega, h3⟩, fun x H3 hy => ?_⟩
    obtain ⟨F3, d, s3, r3, ed, iv⟩ := ij.yld i F2 H2 μ2 x H3 s2 r2 hc2 hi hy
    rw [List.getElem?_eq_getElem hi] at ed
    cases ed
    have envw : EnvR K F3 (L2.wipe σ vs) (wipeD ρ vs) := (env.wipe vs).up (s1.trans (s2.trans s3))
    refine ⟨F3, wipeD ρ vs, μ2, _, _, ED, envw, r3, lnk, iv, q2, fun σ4 H4 ρ4 F4 μ4 s4 r4 e4 f4 q4 => ⟨wipe_frm f4 hsub, ?_⟩⟩
    refine ⟨F4, ρ4, μ4, _, ED, e4, r4, lnk, q4, fun b H5 c F5 μ5 s5 r5 ibc q5 => ?_⟩
    subst ibc
    cases b with
    | false => exact ⟨F5, μ5, ((s2.trans s3).trans s4).trans s5, r5, q5⟩
    | true =>
      refine ⟨F5, ρ4, μ5, _, ED, e4.up s5, r5, lnk, q5, fun y H6 dy F6 μ6 s6 r6 iy q6 => ?_⟩
      have q6' : W.bnd (W.push p dy) (fun _ => lcW it.chk g tt te p (wipeD ρ vs) (it.items.drop (i + 1))) μ6 (fun _ μ' => Qf p μ') ED := q6
      obtain ⟨acc, ea, hz, q7⟩ := push_of q6'
      obtain ⟨_, us, h1, h2⟩ := r6.mem p _ ea
      exact ⟨us, h1, by rw [h2.length]; exact hz, F6, _, ((((s2.trans s3).trans s4).trans s5).trans s6), r6.write (mo' := .ml (acc ++ [dy])) ea ⟨_, upd_same, h2.app (.cons iy .nil)⟩, q7⟩
  · have ei : i = it.items.length := by omega
    subst ei
    rw [List.drop_length] at q2
    obtain ⟨hc2, q2⟩ := q2
    exact .inl ⟨ij.stop F2 H2 μ2 s2 r2 hc2, fin p F2 H2 μ2 (s1.trans s2) r2 q2⟩
section
variable {X : Cx} {elt tg iter : Expr} {ifs : List Expr} {scope : Scope} {own : List (Str × Nat)} {pos : Pos} {mi : Rho → W ItD} {g : D → Rho → W Rho} {tt : Rho → W Bool} {te : Rho → W D} {ts : List Nat}
theorem de_lc (hc : X.calm = true) (hN : X.N.Nodup) (hi : DI X none tg iter mi) (ok : BlkOk X.N X.env.scope scope own) (hsub : ∀ j ∈ ts, j ∈ own.map (·.2))
    (hg : ∀ (s : Shared) (H : Hp) (C : Addr) (cl : List (Str × Addr)) (fp : List Addr), DG (X.blk s H scope (compEnvC scope cl C X.env) fp) none tg ts g)
    (ht : ∀ (s : Shared) (H : Hp) (C : Addr) (cl : List (Str × Addr)) (fp : List Addr), DTs (X.blk s H scope (compEnvC scope cl C X.env) fp) none ifs tt)
    (he : ∀ (s : Shared) (H : Hp) (C : Addr) (cl : List (Str × Addr)) (fp : List Addr), DE (X.blk s H scope (compEnvC scope cl C X.env) fp) none elt te) (hs : ∀ x, foldedSetIterable iter X.env x = pure x) :
    DE X none (.ListComp elt [⟨tg, iter, ifs, 0⟩] scope pos) (eLc mi g tt te (own.map (·.2))) := by
  refine PE.imp (pe_lc (g := liftG X.K none ts g) (tt := liftT X.K none tt) (te := liftE X.K none te) hc hN hi ok hg ht he hs) fun σ H Qh h => ?_
  obtain ⟨F, ρ, μ, Q, ED, env, rep, lnk, hm, bk⟩ := h
  refine lc_turns (Qe := Q) (Qf := fun p μ' => ∃ ds, μ' p = some (.ml ds) ∧ Q (.lst ds) (del μ' p)) hsub env rep lnk hm fun p F' H' μ' s' r' q' => ?_
  obtain ⟨ds, e, q⟩ := q'
  obtain ⟨F2, s2, r2, i2⟩ := r'.freeze e
  exact bk _ H' _ F2 _ (s'.trans s2) r2 i2 q
theorem de_lcM (hc : X.calm = true) (hN : X.N.Nodup) (hi : DI X none tg iter mi) (ok : BlkOk X.N X.env.scope scope own) (hsub : ∀ j ∈ ts, j ∈ own.map (·.2))
    (hg : ∀ (s : Shared) (H : Hp) (C : Addr) (cl : List (Str × Addr)) (fp : List Addr), DG (X.blk s H scope (compEnvC scope cl C X.env) fp) none tg ts g)
    (ht : ∀ (s : Shared) (H : Hp) (C : Addr) (cl : List (Str × Addr)) (fp : List Addr), DTs (X.blk s H scope (compEnvC scope cl C X.env) fp) none ifs tt)
    (he : ∀ (s : Shared) (H : Hp) (C : Addr) (cl : List (Str × Addr)) (fp : List Addr), DE (X.blk s H scope (compEnvC scope cl C X.env) fp) none elt te) (hs : ∀ x, foldedSetIterable iter X.env x = pure x) :
    DE X none (.ListComp elt [⟨tg, iter, ifs, 0⟩] scope pos) (eLcM mi g tt te (own.map (·.2))) := by
  refine PE.imp (pe_lc (g := liftG X.K none ts g) (tt := liftT X.K none tt) (te := liftE X.K none te) hc hN hi ok hg ht he hs) fun σ H Qh h => ?_
  obtain ⟨F, ρ, μ, Q, ED, env, rep, lnk, hm, bk⟩ := h
  refine lc_turns (Qe := Q) (Qf := fun p μ' => (∃ ds, μ' p = some (.ml ds)) ∧ Q (.obj p) μ') hsub env rep lnk hm fun p F' H' μ' s' r' q' => ?_
  exact bk _ H' _ F' _ s' r' (.obj p) q'.2
/-- y = [..] on one line -/
theorem ds_setLc {i : Nat} {y : Str} {py spos : Pos} (hc : X.calm = true) (hN : X.N.Nodup) (hy : X.N[i]? = some y) (hyl : X.env.scope.names.lookup y = some .local)
    (hsw : swapsWith (.ListComp elt [⟨tg, iter, ifs, 0⟩] scope pos) (some (.Name y py)) spos.line X.env = pure true) (hi : DI X none tg iter mi) (ok : BlkOk X.N X.env.scope scope own) (hsub : ∀ j ∈ ts, j ∈ own.map (·.2))
    (hg : ∀ (s : Shared) (H : Hp) (C : Addr) (cl : List (Str × Addr)) (fp : List Addr), DG (X.blk s H scope (compEnvC scope cl C X.env) fp) none tg ts g)
    (ht : ∀ (s : Shared) (H : Hp) (C : Addr) (cl : List (Str × Addr)) (fp : List Addr), DTs (X.blk s H scope (compEnvC scope cl C X.env) fp) none ifs tt)
    (he : ∀ (s : Shared) (H : Hp) (C : Addr) (cl : List (Str × Addr)) (fp : List Addr), DE (X.blk s H scope (compEnvC scope cl C X.env) fp) none elt te) (hs : ∀ x, foldedSetIterable iter X.env x = pure x) :
    DS X none (.Assign [.Name y py] (.ListComp elt [⟨tg, iter, ifs, 0⟩] scope pos) spos) (sSet i (eLc mi g tt te (own.map (·.2)))) := by
  refine PS.imp (ps_setLc (g := liftG X.K none ts g) (tt := liftT X.K none tt) (te := liftE X.K none te) hc hN hy hyl hsw hi ok hg ht he hs) fun De σ H h => ?_
  obtain ⟨F, ρ, μ, Q, ED, env, rep, lnk, hm, en⟩ := h
  refine lc_turns (Qe := fun d μ' => Q (.nx (ρ.set i (some d))) μ') (Qf := fun p μ' => ∃ ds, μ' p = some (.ml ds) ∧ Q (.nx (ρ.set i (some (.lst ds)))) (del μ' p)) hsub env rep lnk hm fun p F' H' μ' s' r' q' => ?_
  obtain ⟨ds, e, q⟩ := q'
  obtain ⟨F2, s2, r2, i2⟩ := r'.freeze e
  exact en.1 F2 H' _ _ _ (s'.trans s2) r2 ((env.up (s'.trans s2)).set i i2) q
theorem ds_setLcM {i : Nat} {y : Str} {py spos : Pos} (hc : X.calm = true) (hN : X.N.Nodup) (hy : X.N[i]? = some y) (hyl : X.env.scope.names.lookup y = some .local)
    (hsw : swapsWith (.ListComp elt [⟨tg, iter, ifs, 0⟩] scope pos) (some (.Name y py)) spos.line X.env = pure true) (hi : DI X none tg iter mi) (ok : BlkOk X.N X.env.scope scope own) (hsub : ∀ j ∈ ts, j ∈ own.map (·.2))
    (hg : ∀ (s : Shared) (H : Hp) (C : Addr) (cl : List (Str × Addr)) (fp : List Addr), DG (X.blk s H scope (compEnvC scope cl C X.env) fp) none tg ts g)
    (ht : ∀ (s : Shared) (H : Hp) (C : Addr) (cl : List (Str × Addr)) (fp : List Addr), DTs (X.blk s H scope (compEnvC scope cl C X.env) fp) none ifs tt)
    (he : ∀ (s : Shared) (H : Hp) (C : Addr) (cl : List (Str × Addr)) (fp : List Addr), DE (X.blk s H scope (compEnvC scope cl C X.env) fp) none elt te) (hs : ∀ x, foldedSetIterable iter X.env x = pure x) :
    DS X none (.Assign [.Name y py] (.ListComp elt [⟨tg, iter, ifs, 0⟩] scope pos) spos) (sSet i (eLcM mi g tt te (own.map (·.2)))) := by
  refine PS.imp (ps_setLc (g := liftG X.K none ts g) (tt := liftT X.K none tt) (te := liftE X.K none te) hc hN hy hyl hsw hi ok hg ht he hs) fun De σ H h => ?_
  obtain ⟨F, ρ, μ, Q, ED, env, rep, lnk, hm, en⟩ := h
  refine lc_turns (Qe := fun d μ' => Q (.nx (ρ.set i (some d))) μ') (Qf := fun p μ' => (∃ ds, μ' p = some (.ml ds)) ∧ Q (.nx (ρ.set i (some (.obj p)))) μ') hsub env rep lnk hm fun p F' H' μ' s' r' q' => ?_
  exact en.1 F' H' _ _ _ s' r' ((env.up s').set i (.obj p)) q'.2
end
end DL

namespace DL
open PySem PySem.Spec PyProof.Rows L2

/-! ### repr -/
def rRepr (K : PySem.W.Frag) : List V → Hp → VK → Prop := fun xs H Q => ∃ x d, xs = [x] ∧ Dp K H x d ∧ d.canLay0 = true ∧ d.showable = true ∧ d.depth ≤ 60 ∧ d.shown.length ≤ sizeLine ∧ Q (.str d.shown) H
theorem call_repr {X : Cx} (hg : X.A.guards = some []) (hu : X.A.units + 64 < cLine) : CallR X (.builtin "repr") (rRepr X.K) := by
  intro pins s σ H xs us Q I r h
  obtain ⟨x, d, rfl, hd, hc, hs, hdp, hz, q⟩ := h
  obtain ⟨u, rfl, ru⟩ := vals1 r
  have fin : ∀ h' t tk, (∀ b o, s.heap.get? b = some o → h'.get? b = some o) → EP X pins σ Q (.str d.shown t) { s with heap := h', toks := tk } := fun h' t tk hk => ⟨.str d.shown, H, I.kept (t' := tk) hk, ⟨_, rfl⟩, q⟩
  cases hd with
  | non => cases ru; exact PySem.P.repr_of_none (fin s.heap _ _ fun _ _ e => e)
  | bl b => cases ru; exact PySem.P.repr_of_bool (fin s.heap _ _ fun _ _ e => e)
  | int i => obtain ⟨t, rfl⟩ := ru; exact PySem.P.repr_of_int (by simpa [PyData.showable] using hs) (fin s.heap _ _ fun _ _ e => e)
  | str z => obtain ⟨t, rfl⟩ := ru; exact PySem.P.repr_of_str (fin s.heap _ _ fun _ _ e => e) hz
  | lst hl ha =>
    cases ru
    obtain ⟨as, rd⟩ := Dp.reads I _ _ _ (.lst hl ha) rfl
    exact repr_of_reads' rd hs (PyData.noDict_hsm (PyData.hasDict_of_canLay _ hc)) hg (by omega) (fun _ _ e => e) (fun h' t tk hk => fin h' t tk hk) hz
  | tup hl ha =>
    cases ru
    obtain ⟨as, rd⟩ := Dp.reads I _ _ _ (.tup hl ha) rfl
    exact repr_of_reads' rd hs (PyData.noDict_hsm (PyData.hasDict_of_canLay _ hc)) hg (by omega) (fun _ _ e => e) (fun h' t tk hk => fin h' t tk hk) hz
/-- what repr asks of data -/
def ShowOk (p : PyData) : Prop := p.canLay0 = true ∧ p.showable = true ∧ p.depth ≤ 60 ∧ p.shown.length ≤ sizeLine
def reprD : List D → W D
  | [x] => W.bnd W.get fun μ => W.bnd (W.opt (pyM μ x)) fun p => W.req (ShowOk p) (W.ret (.str p.shown))
  | _ => W.bad
theorem cd_repr {K : PySem.W.Frag} : CallD K (rRepr K) reprD := by
  intro F H μ xs ds Q ED Qh r il h bk
  unfold reprD at h
  split at h
  · obtain ⟨v, rfl, i⟩ := isL1 il
    obtain ⟨p, e, ⟨h1, h2, h3, h4⟩, q⟩ := opt_of h
    exact ⟨v, p, rfl, dp_of r i e h1, h1, h2, h3, h4, back_is bk r (.str _) q⟩
  · exact h.elim

/-! ### min, max -/
def ltS : D → D → Bool
  | .int i, .int j => decide (i < j)
  | .str a, .str b => decide (a.cps.toList < b.cps.toList)
  | _, _ => false
def minL (x : D) (xs : List D) : D := xs.foldl (fun a y => if ltS y a then y else a) x
def maxL (x : D) (xs : List D) : D := xs.foldl (fun a y => if ltS a y then y else a) x
/-- all numbers, or all texts -/
def OneSort (xs : List D) : Prop := (∃ ns : List Int, xs = ns.map .int) ∨ ∃ ss : List Str, xs = ss.map .str
def flatP : D → PyData
  | .int i => .int i
  | .str a => .str a
  | _ => .none
theorem lt_flat {x y : D} (h : OneSort [x, y]) : PySem.W.dataLt (flatP x) (flatP y) = ltS x y := by
  rcases h with ⟨ns, h⟩ | ⟨ns, h⟩
  · match ns, h with
    | [i, j], h => cases h; exact PySem.W.dataLt_int i j
  · match ns, h with
    | [i, j], h => cases h; exact PySem.W.dataLt_str i j
theorem sort_sub {x : D} {xs : List D} (h : OneSort (x :: xs)) : ∀ y ∈ x :: xs, ∀ z ∈ x :: xs, OneSort [y, z] := by
  rcases h with ⟨ns, h⟩ | ⟨ns, h⟩
  · rw [h]
    intro y hy z hz
    obtain ⟨i, _, rfl⟩ := List.mem_map.mp hy
    obtain ⟨j, _, rfl⟩ := List.mem_map.mp hz
    exact .inl ⟨[i, j], rfl⟩
  · rw [h]
    intro y hy z hz
    obtain ⟨i, _, rfl⟩ := List.mem_map.mp hy
    obtain ⟨j, _, rfl⟩ := List.mem_map.mp hz
    exact .inr ⟨[i, j], rfl⟩
theorem min_flat : ∀ (xs : List D) (x : D), OneSort (x :: xs) → PySem.W.minD (flatP x) (xs.map flatP) = flatP (minL x xs) ∧ minL x xs ∈ x :: xs
  | [], x, _ => ⟨rfl, by simp [minL]⟩
  | y :: ys, x, h => by
    have hs := sort_sub h
    have e : PySem.W.dataLt (flatP y) (flatP x) = ltS y x := lt_flat (hs y (by simp) x (by simp))
    have sub : ∀ z, z = x ∨ z = y → OneSort (z :: ys) := fun z hz => by
      rcases h with ⟨ns, h⟩ | ⟨ns, h⟩
      · match ns, h with
        | i :: j :: r, h =>
          cases h
          rcases hz with rfl | rfl
          · exact .inl ⟨i :: r, rfl⟩
          · exact .inl ⟨j :: r, rfl⟩
      · match ns, h with
        | i :: j :: r, h =>
          cases h
          rcases hz with rfl | rfl
          · exact .inr ⟨i :: r, rfl⟩
          · exact .inr ⟨j :: r, rfl⟩
    have st : PySem.W.minD (flatP x) ((y :: ys).map flatP) = PySem.W.minD (flatP (if ltS y x then y else x)) (ys.map flatP) := by
      unfold PySem.W.minD
      rw [List.map_cons, List.foldl_cons, e]
      cases ltS y x <;> rfl
    have sl : minL x (y :: ys) = minL (if ltS y x then y else x) ys := rfl
    rw [st, sl]
    cases hb : ltS y x with
    | true =>
      obtain ⟨h1, h2⟩ := min_flat ys y (sub y (.inr rfl))
      exact ⟨h1, List.mem_cons_of_mem _ h2⟩
    | false =>
      obtain ⟨h1, h2⟩ := min_flat ys x (sub x (.inl rfl))
      refine ⟨h1, ?_⟩
      rcases List.mem_cons.mp h2 with q | q
      · exact List.mem_cons.mpr (.inl q)
      · exact List.mem_cons_of_mem _ (List.mem_cons_of_mem _ q)
theorem max_flat : ∀ (xs : List D) (x : D), OneSort (x :: xs) → PySem.W.maxD (flatP x) (xs.map flatP) = flatP (maxL x xs) ∧ maxL x xs ∈ x :: xs
  | [], x, _ => ⟨rfl, by simp [maxL]⟩
  | y :: ys, x, h => by
    have hs := sort_sub h
    have e : PySem.W.dataLt (flatP x) (flatP y) = ltS x y := lt_flat (hs x (by simp) y (by simp))
    have sub : ∀ z, z = x ∨ z = y → OneSort (z :: ys) := fun z hz => by
      rcases h with ⟨ns, h⟩ | ⟨ns, h⟩
      · match ns, h with
        | i :: j :: r, h =>
          cases h
          rcases hz with rfl | rfl
          · exact .inl ⟨i :: r, rfl⟩
          · exact .inl ⟨j :: r, rfl⟩
      · match ns, h with
        | i :: j :: r, h =>
          cases h
          rcases hz with rfl | rfl
          · exact .inr ⟨i :: r, rfl⟩
          · exact .inr ⟨j :: r, rfl⟩
    have st : PySem.W.maxD (flatP x) ((y :: ys).map flatP) = PySem.W.maxD (flatP (if ltS x y then y else x)) (ys.map flatP) := by
      unfold PySem.W.maxD
      rw [List.map_cons, List.foldl_cons, e]
      cases ltS x y <;> rfl
    have sl : maxL x (y :: ys) = maxL (if ltS x y then y else x) ys := rfl
    rw [st, sl]
    cases hb : ltS x y with
    | true =>
      obtain ⟨h1, h2⟩ := max_flat ys y (sub y (.inr rfl))
      exact ⟨h1, List.mem_cons_of_mem _ h2⟩
    | false =>
      obtain ⟨h1, h2⟩ := max_flat ys x (sub x (.inl rfl))
      refine ⟨h1, ?_⟩
      rcases List.mem_cons.mp h2 with q | q
      · exact List.mem_cons.mpr (.inl q)
      · exact List.mem_cons_of_mem _ (List.mem_cons_of_mem _ q)
/-- the values of such -/
def flatV1 : D → V
  | .int i => .int i
  | .str a => .str a
  | _ => .non
theorem sort_py {xs : List D} (h : OneSort xs) : PySem.W.AlikeAll (xs.map flatP) ∧ PyData.depthAll (xs.map flatP) = 0 := by
  have dz : ∀ ys : List D, PyData.depthAll (ys.map flatP) = 0 := fun ys => by
    induction ys with
    | nil => rfl
    | cons y r ih =>
      rw [List.map_cons, PyData.depthAll, ih]
      cases y <;> simp [flatP, PyData.depth]
  refine ⟨?_, dz xs⟩
  rcases h with ⟨ns, rfl⟩ | ⟨ns, rfl⟩
  · refine ⟨fun x hx y hy => ?_, fun x hx => ?_⟩
    · obtain ⟨a, ha, rfl⟩ := List.mem_map.mp hx
      obtain ⟨b, hb, rfl⟩ := List.mem_map.mp hy
      obtain ⟨i, _, rfl⟩ := List.mem_map.mp ha
      obtain ⟨j, _, rfl⟩ := List.mem_map.mp hb
      simp [flatP, PySem.W.alike]
    · obtain ⟨a, ha, rfl⟩ := List.mem_map.mp hx
      obtain ⟨i, _, rfl⟩ := List.mem_map.mp ha
      simp [flatP]
  · refine ⟨fun x hx y hy => ?_, fun x hx => ?_⟩
    · obtain ⟨a, ha, rfl⟩ := List.mem_map.mp hx
      obtain ⟨b, hb, rfl⟩ := List.mem_map.mp hy
      obtain ⟨i, _, rfl⟩ := List.mem_map.mp ha
      obtain ⟨j, _, rfl⟩ := List.mem_map.mp hb
      simp [flatP, PySem.W.alike]
    · obtain ⟨a, ha, rfl⟩ := List.mem_map.mp hx
      obtain ⟨i, _, rfl⟩ := List.mem_map.mp ha
      simp [flatP]
theorem flat_reads {h : Heap} {v : Value} {d : D} {as : List Addr} (r : Reads h v (flatP d) as) (hd : OneSort [d]) : RelV (flatV1 d) v := by
  rcases hd with ⟨ns, hd⟩ | ⟨ns, hd⟩
  · match ns, hd with
    | [i], hd =>
      cases hd
      cases r
      exact ⟨_, rfl⟩
  · match ns, hd with
    | [i], hd =>
      cases hd
      cases r
      exact ⟨_, rfl⟩
theorem flat_vals {K : PySem.W.Frag} {F : Hp} {vs : List V} {ds : List D} (h : IsL K F vs ds) (hs : OneSort ds) : vs = ds.map flatV1 := by
  rcases hs with ⟨ns, rfl⟩ | ⟨ns, rfl⟩
  · induction ns generalizing vs with
    | nil => cases h; rfl
    | cons n r ih =>
      obtain ⟨v, us, rfl, i, l⟩ := isL_cons h
      cases i
      rw [ih l]
      rfl
  · induction ns generalizing vs with
    | nil => cases h; rfl
    | cons n r ih =>
      obtain ⟨v, us, rfl, i, l⟩ := isL_cons h
      cases i
      rw [ih l]
      rfl
theorem vals_reads {h : Heap} : ∀ {ds : List D} {us : List Value}, (∀ d ∈ ds, OneSort [d]) → Vals (ds.map flatV1) us → ∃ as, ReadsAll h us (ds.map flatP) as
  | [], _, _, r => by cases r; exact ⟨_, .nil⟩
  | d :: ds, _, hs, r => by
    cases r with
    | cons r1 r2 =>
      obtain ⟨as, q⟩ := vals_reads (h := h) (fun e he => hs e (List.mem_cons_of_mem _ he)) r2
      rcases hs d List.mem_cons_self with ⟨ns, e⟩ | ⟨ns, e⟩
      · match ns, e with
        | [i], e =>
          cases e
          obtain ⟨t, rfl⟩ := r1
          exact ⟨_, .cons (.int i t) q⟩
      · match ns, e with
        | [i], e =>
          cases e
          obtain ⟨t, rfl⟩ := r1
          exact ⟨_, .cons (.str i t) q⟩
def rMM (K : PySem.W.Frag) (f : D → List D → D) : List V → Hp → VK → Prop := fun vs H Q => ∃ (a : Addr) (x : D) (xs : List D), vs = [.ref a] ∧ SqL K H a ((x :: xs).map flatV1) ∧ OneSort (x :: xs) ∧ Q (flatV1 (f x xs)) H
theorem sort_one {x : D} {xs : List D} (h : OneSort (x :: xs)) : ∀ d ∈ x :: xs, OneSort [d] := fun d hd => by
  rcases sort_sub h d hd d hd with ⟨ns, e⟩ | ⟨ns, e⟩
  · match ns, e with
    | [i, j], e => cases e; exact .inl ⟨[i], rfl⟩
  · match ns, e with
    | [i, j], e => cases e; exact .inr ⟨[i], rfl⟩
theorem call_minL {X : Cx} (hc : X.calm = true) (hu : X.A.units + 64 < cLine) : CallR X (.builtin "min") (rMM X.K minL) := by
  intro pins s σ H xs us Q I r h
  obtain ⟨a, x, ds, rfl, hs, ho, q⟩ := h
  obtain ⟨u, rfl, ru⟩ := vals1 r
  cases ru
  obtain ⟨its, rv, p, _⟩ := I.list hs
  obtain ⟨as, rd⟩ := vals_reads (h := s.heap) (sort_one ho) rv
  obtain ⟨al, dz⟩ := sort_py ho
  have mf := min_flat ds x ho
  refine PySem.W.min_list_data (x := flatP x) (xs := ds.map flatP) (I.ok.hd hc) p.isList (by simpa using rd) al (by rw [show PyData.depthAll (flatP x :: ds.map flatP) = 0 from dz]; omega) fun i v h' tk bs hv rv' hk => ?_
  rw [mf.1] at rv'
  exact ⟨_, H, I.kept (t' := tk) hk, flat_reads rv' (sort_one ho _ mf.2), q⟩
theorem call_maxL {X : Cx} (hc : X.calm = true) (hu : X.A.units + 64 < cLine) : CallR X (.builtin "max") (rMM X.K maxL) := by
  intro pins s σ H xs us Q I r h
  obtain ⟨a, x, ds, rfl, hs, ho, q⟩ := h
  obtain ⟨u, rfl, ru⟩ := vals1 r
  cases ru
  obtain ⟨its, rv, p, _⟩ := I.list hs
  obtain ⟨as, rd⟩ := vals_reads (h := s.heap) (sort_one ho) rv
  obtain ⟨al, dz⟩ := sort_py ho
  have mf := max_flat ds x ho
  refine PySem.W.max_list_data (x := flatP x) (xs := ds.map flatP) (I.ok.hd hc) p.isList (by simpa using rd) al (by rw [show PyData.depthAll (flatP x :: ds.map flatP) = 0 from dz]; omega) fun i v h' tk bs hv rv' hk => ?_
  rw [mf.1] at rv'
  exact ⟨_, H, I.kept (t' := tk) hk, flat_reads rv' (sort_one ho _ mf.2), q⟩
/-- two texts -/
def txt2 (a b : Str) (i : Nat) : Str := if i = 0 then a else b
theorem two_strs {prog : Program} {w : World} {A : Around} {E : Value → Shared → Prop} {s : Shared} {a b : Str} {t u : Tok} {Q : Value → Shared → Prop} (hh : A.handled = none)
    (h : ∀ h' tk, (∀ c o, s.heap.get? c = some o → h'.get? c = some o) → Q (if b.cps.toList < a.cps.toList then .str b u else .str a t) { s with heap := h', toks := tk }) : wpAny (model prog w) A (call (.builtin "min") [.str a t, .str b u]) Q E s := by
  have hT : (s.heap.push { cls := .type "tuple", data := .seq #[.str a t, .str b u] }).IsTuple s.heap.objs.size #[.str a t, .str b u] := ⟨_, Heap.get?_push_size _ rfl, rfl, 0, rfl⟩
  have hz : (s.heap.push { cls := .type "tuple", data := .seq #[.str a t, .str b u] }).objs.size = s.heap.objs.size + 1 := Heap.size_push ..
  have at2 : ∀ (i : Nat) (v : Value), (#[Value.str a t, .str b u])[i]? = some v → (i = 0 ∧ v = .str a t) ∨ (i = 1 ∧ v = .str b u) := fun i v e => by
    match i, e with
    | 0, e => cases e; exact .inl ⟨rfl, rfl⟩
    | 1, e => cases e; exact .inr ⟨rfl, rfl⟩
    | i + 2, e => simp at e
  refine call_min_two (wpAny_pyIter_tuple hT ?_)
  refine ⟨_, [_, s.heap.objs.size], [_], _, _, _, fun i j => decide ((txt2 a b i).cps.toList < (txt2 a b j).cps.toList), rfl, Walks.tuple (A := A.in1) hh _ s.heap.objs.size (by rw [hz]; exact Nat.ne_of_lt (Nat.lt_succ_self _)) #[.str a t, .str b u],
    ⟨⟨_, Heap.get?_push_size _ rfl, rfl, rfl⟩, hT.push _⟩, fun c hc => ?_, by simp, fun i j vi vj s' Q' E' hi hj q => ?_, fun v h' tk hP hk => ?_⟩
  · show c < ((s.heap.push _).push _).objs.size
    rw [Heap.size_push, hz]
    simp only [List.mem_cons, List.not_mem_nil, or_false] at hc
    rcases hc with rfl | rfl
    · rw [hz]; exact Nat.lt_succ_self _
    · exact Nat.lt_succ_of_lt (Nat.lt_succ_self _)
  · rcases at2 i vi hi with ⟨rfl, rfl⟩ | ⟨rfl, rfl⟩ <;> rcases at2 j vj hj with ⟨rfl, rfl⟩ | ⟨rfl, rfl⟩ <;> exact PyProof.Rows.lt_str q
  · have hold : ∀ c o, s.heap.get? c = some o → h'.get? c = some o := fun c o e => by
      refine hk c o (fun hm => ?_) (Heap.get?_push_of_some _ (Heap.get?_push_of_some _ e))
      simp only [List.mem_cons, List.not_mem_nil, or_false] at hm
      have := Heap.lt_size e
      rw [hm, hz] at this
      exact Nat.lt_irrefl _ (Nat.lt_of_succ_lt this)
    have q := h h' tk hold
    have e1 : argBest (fun i j => decide ((txt2 a b i).cps.toList < (txt2 a b j).cps.toList)) 1 = if b.cps.toList < a.cps.toList then 1 else 0 := by
      simp [argBest, txt2]
    have hP' : (#[Value.str a t, .str b u])[if b.cps.toList < a.cps.toList then 1 else 0]? = some v := by
      rw [← e1]; exact hP
    by_cases hb : b.cps.toList < a.cps.toList
    · rw [if_pos hb] at q hP'
      cases hP'
      exact q
    · rw [if_neg hb] at q hP'
      cases hP'
      exact q
theorem two_strsX {prog : Program} {w : World} {A : Around} {E : Value → Shared → Prop} {s : Shared} {a b : Str} {t u : Tok} {Q : Value → Shared → Prop} (hh : A.handled = none)
    (h : ∀ h' tk, (∀ c o, s.heap.get? c = some o → h'.get? c = some o) → Q (if a.cps.toList < b.cps.toList then .str b u else .str a t) { s with heap := h', toks := tk }) : wpAny (model prog w) A (call (.builtin "max") [.str a t, .str b u]) Q E s := by
  have hT : (s.heap.push { cls := .type "tuple", data := .seq #[.str a t, .str b u] }).IsTuple s.heap.objs.size #[.str a t, .str b u] := ⟨_, Heap.get?_push_size _ rfl, rfl, 0, rfl⟩
  have hz : (s.heap.push { cls := .type "tuple", data := .seq #[.str a t, .str b u] }).objs.size = s.heap.objs.size + 1 := Heap.size_push ..
  have at2 : ∀ (i : Nat) (v : Value), (#[Value.str a t, .str b u])[i]? = some v → (i = 0 ∧ v = .str a t) ∨ (i = 1 ∧ v = .str b u) := fun i v e => by
    match i, e with
    | 0, e => cases e; exact .inl ⟨rfl, rfl⟩
    | 1, e => cases e; exact .inr ⟨rfl, rfl⟩
    | i + 2, e => simp at e
  refine call_max_two (wpAny_pyIter_tuple hT ?_)
  refine ⟨_, [_, s.heap.objs.size], [_], _, _, _, fun i j => decide ((txt2 a b j).cps.toList < (txt2 a b i).cps.toList), rfl, Walks.tuple (A := A.in1) hh _ s.heap.objs.size (by rw [hz]; exact Nat.ne_of_lt (Nat.lt_succ_self _)) #[.str a t, .str b u],
    ⟨⟨_, Heap.get?_push_size _ rfl, rfl, rfl⟩, hT.push _⟩, fun c hc => ?_, by simp, fun i j vi vj s' Q' E' hi hj q => ?_, fun v h' tk hP hk => ?_⟩
  · show c < ((s.heap.push _).push _).objs.size
    rw [Heap.size_push, hz]
    simp only [List.mem_cons, List.not_mem_nil, or_false] at hc
    rcases hc with rfl | rfl
    · rw [hz]; exact Nat.lt_succ_self _
    · exact Nat.lt_succ_of_lt (Nat.lt_succ_self _)
  · have gt : ∀ {x y : Str} {t1 t2 : Tok}, Q' (.bool (decide (y.cps.toList < x.cps.toList))) s' → wpAny (model prog w) A.in1 (richCompare .Gt (.str x t1) (.str y t2)) Q' E' s' := fun q => PySem.P.gt_str q
    rcases at2 i vi hi with ⟨rfl, rfl⟩ | ⟨rfl, rfl⟩ <;> rcases at2 j vj hj with ⟨rfl, rfl⟩ | ⟨rfl, rfl⟩ <;> exact gt q
  · have hold : ∀ c o, s.heap.get? c = some o → h'.get? c = some o := fun c o e => by
      refine hk c o (fun hm => ?_) (Heap.get?_push_of_some _ (Heap.get?_push_of_some _ e))
      simp only [List.mem_cons, List.not_mem_nil, or_false] at hm
      have := Heap.lt_size e
      rw [hm, hz] at this
      exact Nat.lt_irrefl _ (Nat.lt_of_succ_lt this)
    have q := h h' tk hold
    have e1 : argBest (fun i j => decide ((txt2 a b j).cps.toList < (txt2 a b i).cps.toList)) 1 = if a.cps.toList < b.cps.toList then 1 else 0 := by
      simp [argBest, txt2]
    have hP' : (#[Value.str a t, .str b u])[if a.cps.toList < b.cps.toList then 1 else 0]? = some v := by
      rw [← e1]; exact hP
    by_cases hb : a.cps.toList < b.cps.toList
    · rw [if_pos hb] at q hP'
      cases hP'
      exact q
    · rw [if_neg hb] at q hP'
      cases hP'
      exact q
def r2S (f : Str → Str → Str) : List V → Hp → VK → Prop := fun xs H Q => ∃ a b, xs = [.str a, .str b] ∧ Q (.str (f a b)) H
theorem call_min2S {X : Cx} (hc : X.calm = true) : CallR X (.builtin "min") (r2S fun a b => if b.cps.toList < a.cps.toList then b else a) := by
  intro pins s σ H xs us Q I r h
  obtain ⟨a, b, rfl, q⟩ := h
  obtain ⟨u, w', rfl, ⟨t, rfl⟩, ⟨t', rfl⟩⟩ := vals2 r
  refine two_strs (I.ok.hd hc) fun h' tk k => ⟨_, H, I.kept (t' := tk) k, ?_, q⟩
  dsimp only
  by_cases hb : b.cps.toList < a.cps.toList
  · rw [if_pos hb, if_pos hb]; exact ⟨_, rfl⟩
  · rw [if_neg hb, if_neg hb]; exact ⟨_, rfl⟩
theorem call_max2S {X : Cx} (hc : X.calm = true) : CallR X (.builtin "max") (r2S fun a b => if a.cps.toList < b.cps.toList then b else a) := by
  intro pins s σ H xs us Q I r h
  obtain ⟨a, b, rfl, q⟩ := h
  obtain ⟨u, w', rfl, ⟨t, rfl⟩, ⟨t', rfl⟩⟩ := vals2 r
  refine two_strsX (I.ok.hd hc) fun h' tk k => ⟨_, H, I.kept (t' := tk) k, ?_, q⟩
  dsimp only
  by_cases hb : a.cps.toList < b.cps.toList
  · rw [if_pos hb, if_pos hb]; exact ⟨_, rfl⟩
  · rw [if_neg hb, if_neg hb]; exact ⟨_, rfl⟩
def mmD (f : D → List D → D) : List D → W D
  | [x] => W.bnd W.get fun μ => W.bnd (W.opt (lsOf x μ)) fun ds => match ds with
    | d :: r => W.req (OneSort (d :: r)) (W.ret (f d r))
    | [] => W.bad
  | [x, y] => W.req (OneSort [x, y]) (W.ret (f x [y]))
  | _ => W.bad
abbrev minD := mmD minL
abbrev maxD := mmD maxL
theorem is_flat {K : PySem.W.Frag} {F : Hp} {d : D} (h : OneSort [d]) : Is K F (flatV1 d) d := by
  rcases h with ⟨ns, e⟩ | ⟨ns, e⟩
  · match ns, e with
    | [i], e => cases e; exact .int i
  · match ns, e with
    | [i], e => cases e; exact .str i
def rMinA (K : PySem.W.Frag) : List V → Hp → VK → Prop := fun xs H Q => rMM K minL xs H Q ∨ ((∃ i j, xs = [.int i, .int j] ∧ Q (.int (if j < i then j else i)) H) ∨ r2S (fun a b => if b.cps.toList < a.cps.toList then b else a) xs H Q)
def rMaxA (K : PySem.W.Frag) : List V → Hp → VK → Prop := fun xs H Q => rMM K maxL xs H Q ∨ ((∃ i j, xs = [.int i, .int j] ∧ Q (.int (if j > i then j else i)) H) ∨ r2S (fun a b => if a.cps.toList < b.cps.toList then b else a) xs H Q)
theorem call_minA {X : Cx} (hc : X.calm = true) (hu : X.A.units + 64 < cLine) : CallR X (.builtin "min") (rMinA X.K) := (call_minL hc hu).or ((call_min2 hc).or (call_min2S hc))
theorem call_maxA {X : Cx} (hc : X.calm = true) (hu : X.A.units + 64 < cLine) : CallR X (.builtin "max") (rMaxA X.K) := (call_maxL hc hu).or ((call_max2 hc).or (call_max2S hc))
theorem one_sub {d : D} {r : List D} (h : OneSort (d :: r)) {e : D} (he : e ∈ d :: r) : OneSort [e] := sort_one h e he
theorem cd_min {K : PySem.W.Frag} : CallD K (rMinA K) minD := by
  intro F H μ xs ds Q ED Qh r il h bk
  unfold minD mmD at h
  split at h
  · obtain ⟨v, rfl, i⟩ := isL1 il
    obtain ⟨es, e, h⟩ := opt_of h
    match es, h with
    | d :: rs, h =>
      obtain ⟨ho, q⟩ := h
      obtain ⟨a, vs, rfl, h1, h2⟩ := ls_of r i e
      rw [flat_vals h2 ho] at h1
      exact .inl ⟨a, d, rs, rfl, h1, ho, back_is bk r (is_flat (sort_one ho _ (min_flat rs d ho).2)) q⟩
  · obtain ⟨v, u, rfl, iv, iu⟩ := isL2 il
    obtain ⟨ho, q⟩ := h
    rcases ho with ⟨ns, e⟩ | ⟨ns, e⟩
    · match ns, e with
      | [i, j], e =>
        cases e
        cases iv
        cases iu
        refine .inr (.inl ⟨i, j, rfl, ?_⟩)
        have q' : Q (if decide (j < i) = true then .int j else .int i) μ := q
        by_cases hb : j < i
        · rw [if_pos hb]; rw [if_pos (by simpa using hb)] at q'; exact back_is bk r (.int _) q'
        · rw [if_neg hb]; rw [if_neg (by simpa using hb)] at q'; exact back_is bk r (.int _) q'
    · match ns, e with
      | [i, j], e =>
        cases e
        cases iv
        cases iu
        refine .inr (.inr ⟨i, j, rfl, ?_⟩)
        dsimp only
        have q' : Q (if decide (j.cps.toList < i.cps.toList) = true then .str j else .str i) μ := q
        by_cases hb : j.cps.toList < i.cps.toList
        · rw [if_pos hb]; rw [if_pos (by simpa using hb)] at q'; exact back_is bk r (.str _) q'
        · rw [if_neg hb]; rw [if_neg (by simpa using hb)] at q'; exact back_is bk r (.str _) q'
  · exact h.elim
theorem cd_max {K : PySem.W.Frag} : CallD K (rMaxA K) maxD := by
  intro F H μ xs ds Q ED Qh r il h bk
  unfold maxD mmD at h
  split at h
  · obtain ⟨v, rfl, i⟩ := isL1 il
    obtain ⟨es, e, h⟩ := opt_of h
    match es, h with
    | d :: rs, h =>
      obtain ⟨ho, q⟩ := h
      obtain ⟨a, vs, rfl, h1, h2⟩ := ls_of r i e
      rw [flat_vals h2 ho] at h1
      exact .inl ⟨a, d, rs, rfl, h1, ho, back_is bk r (is_flat (sort_one ho _ (max_flat rs d ho).2)) q⟩
  · obtain ⟨v, u, rfl, iv, iu⟩ := isL2 il
    obtain ⟨ho, q⟩ := h
    rcases ho with ⟨ns, e⟩ | ⟨ns, e⟩
    · match ns, e with
      | [i, j], e =>
        cases e
        cases iv
        cases iu
        refine .inr (.inl ⟨i, j, rfl, ?_⟩)
        have q' : Q (if decide (i < j) = true then .int j else .int i) μ := q
        by_cases hb : i < j
        · rw [if_pos hb]; rw [if_pos (by simpa using hb)] at q'; exact back_is bk r (.int _) q'
        · rw [if_neg hb]; rw [if_neg (by simpa using hb)] at q'; exact back_is bk r (.int _) q'
    · match ns, e with
      | [i, j], e =>
        cases e
        cases iv
        cases iu
        refine .inr (.inr ⟨i, j, rfl, ?_⟩)
        dsimp only
        have q' : Q (if decide (i.cps.toList < j.cps.toList) = true then .str j else .str i) μ := q
        by_cases hb : i.cps.toList < j.cps.toList
        · rw [if_pos hb]; rw [if_pos (by simpa using hb)] at q'; exact back_is bk r (.str _) q'
        · rw [if_neg hb]; rw [if_neg (by simpa using hb)] at q'; exact back_is bk r (.str _) q'
  · exact h.elim
end DL

namespace DL
open PySem PySem.Spec PyProof.Rows L2

/-! ### defs, where no repr is under way -/
structure FnG (P : Program) (w : World) (K : PySem.W.Frag) (mg : Str → Option Value) (base : Heap) (CX : CXT) (k : Nat) (f : Addr) (fd : FuncData) (ps : List Str) (sp : Sp) : Prop where
  len : ∀ vs H Q E, sp vs H Q E → vs.length = ps.length
  go : ∀ (A : Around) (outer : List Env) (s : Shared) (H : Hp) (args : Args) (us : List Value) (vs : List V) (Q : VK) (E : XK), A.guards = some [] → Room k A → Env0 P w K mg base A outer s H → BindsTo s fd args (ps.zip us) → Vals vs us → sp vs H Q E →
    codeAny (model P w) A (.call (.ref f) args) (CR CX outer P w H s Q E) s
section
variable {P : Program} {w : World} {K : PySem.W.Frag} {mg : Str → Option Value} {base : Heap} {CX : CXT} {k : Nat}
/-- a def by its body -/
theorem fng_of {x qual : Str} {st : Stmt} {f : Addr} {fd : FuncData} {N ps : List Str} {sp : Sp} (Fn : Fun K x qual st f fd) (S : FnScope N ps (defScope st)) (len : ∀ vs H Q E, sp vs H Q E → vs.length = ps.length)
    (hbody : ∀ (cdv : Value) (A : Around) (outer : List Env) (s : Shared) (H : Hp) (vs : List V) (Q : VK) (E : XK), A.guards = some [] → Room k (A.deeper (envOfC qual (defScope st) s.heap.objs.size f cdv)) → sp vs H Q E →
      ∃ t, PSs (cxOf CX P w K mg base N qual (defScope st) f cdv A outer s H E) (defBody st) t ∧ t { nx := fun _ H' => Q .non H', rt := Q } (start N vs) H) : FnG P w K mg base CX (k + 1) f fd ps sp := by
  obtain ⟨oc, od, kV, doc, pm, an, cdv, ct, osl, rfl, lk, hcd⟩ := Fn.ex
  refine ⟨len, fun A outer s H args us vs Q E hg hr e0 hb rv hsp => ?_⟩
  have keepB : ∀ b o, base.get? b = some o → s.heap.get? b = some o := fun b o e => (e0.bs b o e).1
  have inK : K.In s.heap := e0.mod.kin.keeps keepB
  have kinds : ∀ y ∈ ps.zip us, (defScope st).names.lookup y.1 = some .local ∨ ((defScope st).names.lookup y.1 = some .cell ∧ ((cellsFrom (s.heap.objs.size + 1) (defScope st).names []).lookup y.1).isSome = true) := by
    rintro ⟨n, v⟩ hy
    cases S.par n (List.of_mem_zip hy).1 with
    | inl q => exact .inl q
    | inr q => exact .inr ⟨q, PySem.W.cellsFrom_some _ _ _ (.inl q)⟩
  refine codeAny_call_function hr.depth (inK _ _ lk) rfl S.co S.gen rfl (PySem.W.codeRec_of inK hcd) (hb _ _ _ _ ?_)
  refine wpAny_newFunctionEnv_cells S.kind kinds fun env he s1 hx => ?_
  subst he
  refine ⟨(e0.mod.nolimit.keeps keepB).keeps hx.toInCall.keep, codeAny_func ?_⟩
  obtain ⟨t, ht, hq⟩ := hbody cdv A outer s H vs Q E hg (hr.deeper _) hsp
  have inv := inv_start (CX := CX) (E := E) S hr.hd e0 (len _ _ _ _ hsp) rv hx
  refine wpAny_mono (ht.run [] s1 (start N vs) H _ inv hq) (fun fl s' hs => ?_) fun e s' hs => hs
  cases fl with
  | ret u => obtain ⟨v, σ', H', J, r, q⟩ := hs; exact ⟨v, H', J.os, J.bare, J.base, J.hok, r, q⟩
  | next => obtain ⟨σ', H', J, q⟩ := hs; exact ⟨V.non, H', J.os, J.bare, J.base, J.hok, rfl, q⟩
  | brk => exact hs.choose_spec.choose_spec.2.elim
  | cont => exact hs.choose_spec.choose_spec.2.elim
end
section
variable {X : Cx} {CX : CXT} {k : Nat} {f : Addr} {fd : FuncData} {ps ks : List Str} {sp : Sp} {E : XK} {x : Str} {p pos : Pos} {e : Expr} {es : List Expr} {kws : List Keyword} {t tk : TA} {g : List Value → List Value → List Value} {gV : List V → List V → List V}
theorem run_fng {pins : List (Addr × Obj)} {σ : L2.St} {H : Hp} {s : Shared} {Q : VK} {us ws : List Value} {vs zs : List V} (Fn : FnG X.prog X.w X.K X.mg X.base CX k f fd ps sp) (hg : X.A.guards = some []) (hr : Room k X.A) (hb : KBinds X.K fd ps ks g gV) (hx : Passes CX X E)
    (I : Inv X pins σ H s) (rv : Vals vs us) (rz : Vals zs ws) (h : sp (gV vs zs) H Q E) : wpAny (model X.prog X.w) X.A (call (.ref f) us (ks.zip ws)) (EP X pins σ Q) X.xe s := by
  have rr := hb.rel rv rz
  refine wpAny_call (codeAny_mono (Fn.go X.A X.stack s H ⟨us, ks.zip ws⟩ (g us ws) (gV vs zs) Q E hg hr I.env0 (hb.to s us ws I.kIn (by rw [← rr.length]; exact Fn.len _ _ _ _ h)) rr h) fun r s' hq => ?_)
  cases r with
  | error e => exact hx pins σ H s e s' I hq
  | ok fl =>
    cases fl with
    | ret u => exact I.after hq
    | _ => exact False.elim hq
/-- every parameter by its place -/
theorem kbinds_pos {K : PySem.W.Frag} (h : ∀ us : List Value, us.length = ps.length → bindArgs fd ⟨us, []⟩ = pure (ps.zip us)) : KBinds K fd ps [] (fun us _ => us) (fun vs _ => vs) :=
  ⟨fun s us ws _ hl => .of_eq (h us hl), fun rv _ => rv⟩
theorem pe_callG (Fn : FnG X.prog X.w X.K X.mg X.base CX k f fd ps sp) (hgd : X.A.guards = some []) (hr : Room k X.A) (hg : Gl X x) (hm : X.mg x = some (.ref f)) (hk : PySem.W.keepIn X.K (.ref f) = true) (hb : KBinds X.K fd ps [] g gV) (hx : Passes CX X E)
    (ha : PA X (e :: es) t) (hdb : (x == ("__debug__" : Str)) = false) (he : starEach (e :: es) X.env = (false, eval e X.env) :: starEach es X.env) (hpl : (backTo pos (starEach es X.env)).any (·.1) = false) :
    PE X (.Call (.Name x p) (e :: es) [] pos) (fun σ H Q => t σ H fun vs H1 => sp (gV vs []) H1 Q E) := by
  refine ⟨fun pins s σ H Q I h => ?_⟩
  refine wpAny_Call_Name_kw (ld_glob I hg hm ?_ hdb)
  refine PySem.W.callWith_K (h₀ := X.base) I.ok.mod.kin hk (thn (ha.run pos pins s σ H _ I h) fun us s1 ⟨vs, H1, I1, r, q⟩ => ⟨I1.kIn, ?_⟩) he hpl
  exact run_fng (ws := []) Fn hgd hr hb hx I1 r .nil q
theorem pe_callG0 (Fn : FnG X.prog X.w X.K X.mg X.base CX k f fd ps sp) (hgd : X.A.guards = some []) (hr : Room k X.A) (hg : Gl X x) (hm : X.mg x = some (.ref f)) (hk : PySem.W.keepIn X.K (.ref f) = true) (hb : KBinds X.K fd ps [] g gV) (hx : Passes CX X E)
    (hdb : (x == ("__debug__" : Str)) = false) : PE X (.Call (.Name x p) [] [] pos) (fun σ H Q => sp (gV [] []) H Q E) := by
  refine ⟨fun pins s σ H Q I h => ?_⟩
  refine wpAny_Call_Name_kw (ld_glob I hg hm ?_ hdb)
  exact PySem.W.callWith_K0 I.kIn hk (run_fng (us := []) (ws := []) Fn hgd hr hb hx I .nil .nil h)
/-- f(k = v, ..) -/
theorem pe_callGK (Fn : FnG X.prog X.w X.K X.mg X.base CX k f fd ps sp) (hgd : X.A.guards = some []) (hr : Room k X.A) (hg : Gl X x) (hm : X.mg x = some (.ref f)) (hk : PySem.W.keepIn X.K (.ref f) = true) (hb : KBinds X.K fd ps ks g gV) (hx : Passes CX X E)
    (hkw : PK X kws tk) (hdb : (x == ("__debug__" : Str)) = false)
    (hall : (backToKw pos (keywordEach kws X.env)).all (·.1.isSome) = true) (hks : (backToKw pos (keywordEach kws X.env)).filterMap (·.1) = ks)
    (hpl : ((backTo pos (starEach [] X.env)).any (·.1) || (backToKw pos (keywordEach kws X.env)).any (·.1.isNone)) = false) :
    PE X (.Call (.Name x p) [] kws pos) (fun σ H Q => tk σ H fun zs H1 => sp (gV [] zs) H1 Q E) := by
  refine ⟨fun pins s σ H Q I h => ?_⟩
  refine wpAny_Call_Name_kw (ld_glob I hg hm ?_ hdb)
  refine PySem.W.callWith_KW0 (h₀ := X.base) I.ok.mod.kin hk hall (thn (hkw.run pos pins s σ H _ I h) fun ws s2 ⟨zs, H2, I2, rz, q2⟩ => ⟨I2.kIn, ?_⟩) hpl
  rw [hks]
  exact run_fng (us := []) Fn hgd hr hb hx I2 .nil rz q2
end

/-! ### the promise of a def over data -/
def eCallD (n : Nat) (m : List D → W D) (ms : Rho → W (List D)) (ρ : Rho) : W D := W.bnd (ms ρ) fun ds => W.req (ds.length = n) (m ds)
def pick {α : Type} (is : List Nat) (xs : List α) : List α := is.filterMap fun i => xs[i]?
def eCallK (is : List Nat) (n : Nat) (m : List D → W D) (ms : Rho → W (List D)) (ρ : Rho) : W D := W.bnd (ms ρ) fun ds => W.req ((pick is ds).length = n) (m (pick is ds))
def spD (K : PySem.W.Frag) (n : Nat) (m : List D → W D) : Sp := fun vs H Qh _ => vs.length = n ∧ ∃ F ds μ Q ED, IsL K F vs ds ∧ Rep K F H μ ∧ NoX ED ∧ m ds μ Q ED ∧ Back K F (Is K) Q Qh
def startD (n : Nat) (ds : List D) : Rho := ds.map some ++ List.replicate (n - ds.length) none
theorem env_start {K : PySem.W.Frag} {F : Hp} {N : List Str} {vs : List V} {ds : List D} (h : IsL K F vs ds) : EnvR K F (start N vs) (startD N.length ds) := by
  have hl := h.length
  refine ⟨by simp [L2.start, startD, hl], fun i d e => ?_⟩
  unfold startD at e
  unfold L2.start
  by_cases hi : i < ds.length
  · rw [List.getElem?_append_left (by simpa using hi), List.getElem?_map] at e
    rw [List.getElem?_append_left (by simpa [hl] using hi), List.getElem?_map]
    cases q : ds[i]? with
    | none => rw [q] at e; cases e
    | some d' =>
      rw [q] at e
      cases e
      obtain ⟨v, h1, h2⟩ := h.get q
      exact ⟨v, by rw [h1]; rfl, h2⟩
  · rw [List.getElem?_append_right (by simpa using hi), List.getElem?_replicate] at e
    split at e <;> cases e
/-- what a def is: its body from its arguments -/
def bodyD (n : Nat) (m : Rho → W Out) (ds : List D) : W D := W.bnd (m (startD n ds)) fun o => match o with
  | .nx _ => W.ret .non
  | .rt d => W.ret d
  | _ => W.bad
section
variable {P : Program} {w : World} {K : PySem.W.Frag} {mg : Str → Option Value} {base : Heap} {k : Nat}
theorem fnd_of {x qual : Str} {st : Stmt} {f : Addr} {fd : FuncData} {N ps : List Str} {m : Rho → W Out} (Fn : Fun K x qual st f fd) (S : FnScope N ps (defScope st))
    (hbody : ∀ (cdv : Value) (A : Around) (outer : List Env) (s : Shared) (H : Hp) (E : XK), A.guards = some [] → Room k (A.deeper (envOfC qual (defScope st) s.heap.objs.size f cdv)) →
      DSs (cxOf CX0 P w K mg base N qual (defScope st) f cdv A outer s H E).nox none (defBody st) m) : FnG P w K mg base CX0 (k + 1) f fd ps (spD K ps.length (bodyD N.length m)) := by
  refine fng_of Fn S (fun vs H Q E h => h.1) fun cdv A outer s H vs Qh E hg hr h => ?_
  obtain ⟨_, F, ds, μ, Q, ED, il, rep, nox, hm, bk⟩ := h
  refine ⟨_, (hbody cdv A outer s H E hg hr).nox, ?_⟩
  refine ⟨F, startD N.length ds, μ, _, ED, env_start il, rep, nox, hm, fun F1 H1 μ1 σ1 ρ1 s1 r1 n1 q1 => bk _ _ _ F1 μ1 s1 r1 .non q1, fun F1 H1 μ1 v d s1 r1 i1 q1 => bk _ _ _ F1 μ1 s1 r1 i1 q1, fun F1 H1 μ1 σ1 ρ1 s1 r1 n1 q1 => q1, fun F1 H1 μ1 σ1 ρ1 s1 r1 n1 q1 => q1⟩
end
section
variable {X : Cx} {k : Nat} {f : Addr} {fd : FuncData} {ps ks : List Str} {x : Str} {p pos : Pos} {e : Expr} {es : List Expr} {kws : List Keyword} {m : List D → W D} {n : Nat} {ms : Rho → W (List D)}
theorem de_call (Fn : FnG X.prog X.w X.K X.mg X.base CX0 k f fd ps (spD X.K n m)) (hgd : X.A.guards = some []) (hr : Room k X.A) (hg : Gl X x) (hm : X.mg x = some (.ref f)) (hk : PySem.W.keepIn X.K (.ref f) = true) (hb : KBinds X.K fd ps [] (fun us _ => us) (fun vs _ => vs))
    (hdb : (x == ("__debug__" : Str)) = false) (ha : DA X none (e :: es) ms) (he : starEach (e :: es) X.env = (false, eval e X.env) :: starEach es X.env) (hpl : (backTo pos (starEach es X.env)).any (·.1) = false) :
    DE X none (.Call (.Name x p) (e :: es) [] pos) (eCallD n m ms) := by
  refine PE.imp (pe_callG Fn hgd hr hg hm hk hb (pass0 (X := X)) ha hdb he hpl) fun σ H Qh h => ?_
  obtain ⟨F, ρ, μ, Q, ED, env, rep, lnk, hm, bk⟩ := h
  refine ⟨F, ρ, μ, _, ED, env, rep, lnk, hm, fun v1 H1 d1 F1 μ1 s1 r1 i1 q1 => ⟨by rw [i1.length]; exact q1.1, ?_⟩⟩
  exact ⟨F1, d1, μ1, Q, ED, i1, r1, lnk, q1.2, fun v2 H2 d2 F2 μ2 s2 r2 i2 q2 => bk v2 H2 d2 F2 μ2 (s1.trans s2) r2 i2 q2⟩
/-- keywords in an order of their own: g puts them in the parameters' order -/
def liftK := liftA
abbrev DK (X : Cx) (Eh : Option XK) (e : List Keyword) (m : Rho → W (List D)) : Prop := PK X e (liftA X.K Eh m)
theorem PK.imp {X : Cx} {e : List Keyword} {t t' : TA} (h : PK X e t) (i : ∀ σ H Q, t' σ H Q → t σ H Q) : PK X e t' := ⟨fun pos pins s σ H Q I q => h.run pos pins s σ H Q I (i _ _ _ q)⟩
theorem dk_nil {Eh : Option XK} : DK X Eh [] aNil := PK.imp pk_nil fun σ H Qh ⟨F, ρ, μ, Q, ED, env, rep, lnk, hm, bk⟩ => bk _ H _ F μ (Same.refl F) rep .nil hm
theorem dk_cons {Eh : Option XK} {nm : Option Str} {kpos : Pos} {me : Rho → W D} (ha : DE X Eh e me) (hr : DK X Eh kws ms) : DK X Eh (⟨nm, e, kpos⟩ :: kws) (aCons me ms) := by
  refine PK.imp (pk_cons ha hr) fun σ H Qh h => ?_
  obtain ⟨F, ρ, μ, Q, ED, env, rep, lnk, hm, bk⟩ := h
  refine ⟨F, ρ, μ, _, ED, env, rep, lnk, hm, fun v1 H1 d1 F1 μ1 s1 r1 i1 q1 => ?_⟩
  refine ⟨F1, ρ, μ1, _, ED, env.up s1, r1, lnk.up s1, q1, fun v2 H2 d2 F2 μ2 s2 r2 i2 q2 => ?_⟩
  exact bk _ H2 _ F2 μ2 (s1.trans s2) r2 (.cons (i1.up s2) i2) q2
/-- a permutation of the keywords' values, by places -/
theorem pick_vals {is : List Nat} {vs : List V} {us : List Value} (h : Vals vs us) : Vals (pick is vs) (pick is us) := by
  unfold pick
  induction is with
  | nil => exact .nil
  | cons i r ih =>
    rw [List.filterMap_cons, List.filterMap_cons]
    cases e : vs[i]? with
    | none => rw [h.none_of e]; exact ih
    | some v =>
      obtain ⟨u, e2, r2⟩ := h.get e
      rw [e2]
      exact .cons r2 ih
theorem pick_isL {K : PySem.W.Frag} {F : Hp} {is : List Nat} {vs : List V} {ds : List D} (h : IsL K F vs ds) : IsL K F (pick is vs) (pick is ds) := by
  unfold pick
  induction is with
  | nil => exact .nil
  | cons i r ih =>
    rw [List.filterMap_cons, List.filterMap_cons]
    cases e : ds[i]? with
    | none =>
      have : vs[i]? = none := List.getElem?_eq_none (by rw [h.length]; exact List.getElem?_eq_none_iff.mp e)
      rw [this]
      exact ih
    | some d =>
      obtain ⟨v, e2, i2⟩ := h.get e
      rw [e2]
      exact .cons i2 ih
/-- by keywords alone -/
def gKw {α : Type} (is : List Nat) (us ws : List α) : List α := match us with
  | [] => pick is ws
  | _ => []
theorem kbinds_kw {K : PySem.W.Frag} {is : List Nat} (h0 : ps ≠ []) (h : ∀ ws : List Value, (pick is ws).length = ps.length → bindArgs fd ⟨[], ks.zip ws⟩ = pure (ps.zip (pick is ws))) : KBinds K fd ps ks (gKw is) (gKw is) := by
  refine ⟨fun s us ws _ hl => ?_, fun {vs us zs ws} rv rz => ?_⟩
  · cases us with
    | nil => exact .of_eq (h ws hl)
    | cons u r => exact absurd (List.length_eq_zero_iff.mp hl.symm) h0
  · cases rv with
    | nil => exact pick_vals rz
    | cons _ _ => exact .nil
theorem de_callK {is : List Nat} (Fn : FnG X.prog X.w X.K X.mg X.base CX0 k f fd ps (spD X.K n m)) (hgd : X.A.guards = some []) (hr : Room k X.A) (hg : Gl X x) (hm : X.mg x = some (.ref f)) (hk : PySem.W.keepIn X.K (.ref f) = true) (hb : KBinds X.K fd ps ks (gKw is) (gKw is))
    (hdb : (x == ("__debug__" : Str)) = false) (ha : DK X none kws ms) (hall : (backToKw pos (keywordEach kws X.env)).all (·.1.isSome) = true) (hks : (backToKw pos (keywordEach kws X.env)).filterMap (·.1) = ks)
    (hpl : ((backTo pos (starEach [] X.env)).any (·.1) || (backToKw pos (keywordEach kws X.env)).any (·.1.isNone)) = false) :
    DE X none (.Call (.Name x p) [] kws pos) (eCallK is n m ms) := by
  refine PE.imp (pe_callGK Fn hgd hr hg hm hk hb (pass0 (X := X)) ha hdb hall hks hpl) fun σ H Qh h => ?_
  obtain ⟨F, ρ, μ, Q, ED, env, rep, lnk, hm, bk⟩ := h
  refine ⟨F, ρ, μ, _, ED, env, rep, lnk, hm, fun v1 H1 d1 F1 μ1 s1 r1 i1 q1 => ⟨by show (pick is v1).length = n; rw [(pick_isL i1).length]; exact q1.1, ?_⟩⟩
  exact ⟨F1, pick is d1, μ1, Q, ED, pick_isL i1, r1, lnk, q1.2, fun v2 H2 d2 F2 μ2 s2 r2 i2 q2 => bk v2 H2 d2 F2 μ2 (s1.trans s2) r2 i2 q2⟩
theorem de_call0 (Fn : FnG X.prog X.w X.K X.mg X.base CX0 k f fd ps (spD X.K 0 m)) (hgd : X.A.guards = some []) (hr : Room k X.A) (hg : Gl X x) (hm : X.mg x = some (.ref f)) (hk : PySem.W.keepIn X.K (.ref f) = true) (hb : KBinds X.K fd ps [] (fun us _ => us) (fun vs _ => vs))
    (hdb : (x == ("__debug__" : Str)) = false) : DE X none (.Call (.Name x p) [] [] pos) (fun _ => m []) := by
  refine PE.imp (pe_callG0 Fn hgd hr hg hm hk hb (pass0 (X := X)) hdb) fun σ H Qh h => ?_
  obtain ⟨F, ρ, μ, Q, ED, env, rep, lnk, hm, bk⟩ := h
  exact ⟨rfl, F, [], μ, Q, ED, .nil, rep, lnk, hm, bk⟩
end
/-- how the arguments of a def of the text bind -/
theorem Fun.kpos {K : PySem.W.Frag} {x qual : Str} {st : Stmt} {f : Addr} {fd : FuncData} {ps : List Str} (Fn : Fun K x qual st f fd)
    (h : ∀ (kV doc pm : Value) (an : Option Addr) (cdv ct : Value) (us : List Value), us.length = ps.length → bindArgs (PySem.W.fnOf x qual (defArgs st) (defBody st) (defScope st) .none kV doc pm an cdv ct) ⟨us, []⟩ = pure (ps.zip us)) : KBinds K fd ps [] (fun us _ => us) (fun vs _ => vs) := by
  obtain ⟨oc, od, kV, doc, pm, an, cdv, ct, osl, rfl, lk, hcd⟩ := Fn.ex
  exact kbinds_pos (h kV doc pm an cdv ct)
theorem Fun.kkw {K : PySem.W.Frag} {x qual : Str} {st : Stmt} {f : Addr} {fd : FuncData} {ps : List Str} (ks : List Str) (is : List Nat) (Fn : Fun K x qual st f fd) (h0 : ps ≠ [])
    (h : ∀ (kV doc pm : Value) (an : Option Addr) (cdv ct : Value) (ws : List Value), (pick is ws).length = ps.length → bindArgs (PySem.W.fnOf x qual (defArgs st) (defBody st) (defScope st) .none kV doc pm an cdv ct) ⟨[], ks.zip ws⟩ = pure (ps.zip (pick is ws))) : KBinds K fd ps ks (gKw is) (gKw is) := by
  obtain ⟨oc, od, kV, doc, pm, an, cdv, ct, osl, rfl, lk, hcd⟩ := Fn.ex
  exact kbinds_kw h0 (h kV doc pm an cdv ct)

/-! ### the law's end -/
/-- from an abstract heap that tells of the script alone -/
theorem law_run {P : Program} {w : World} {K : PySem.W.Frag} {mg mb : Str → Option Value} {k : Nat} {fa a : Addr} {fd : FuncData} {x : Str} {m : List D → W D} {s : Shared} {ns : List Int} {H : Hp} {ob : Obj}
    (inK : K.In s.heap) (gl : s.heap.Ns mainGlobals mg) (bl : s.heap.Ns builtinsNs mb) (bb : ∀ x : Str, x ≠ "__name__" → mb x = bootBuiltins x) (lim : s.heap.NoLimit) (gens : s.gens = #[])
    (ho : s.heap.get? a = some ob) (hnd : ∀ es ep, ob.data ≠ .dict es ep) (hr : Room k callerA)
    (Fn : ∀ base : Heap, K.In base → base.Ns mainGlobals mg → FnG P w K mg base CX0 k fa fd [x] (spD K 1 m)) (hb : ∀ (s : Shared) (u : Value), BindsTo s fd ⟨[u], []⟩ [(x, u)])
    (hm : ∀ μ : Mem, (∀ b, μ b = none) → m [.lst (ns.map .int)] μ (fun d _ => d = .bl true) (fun _ _ => False))
    (hS : SqL K H a (ns.map V.int)) (hH : HOk P w H s.heap) (one : ∀ b, H b ≠ none → b = a ∧ K.lookup a = none ∧ ∃ xs, H b = some (.frz ob (.lst xs))) :
    codeAny (model P w) callerA (.call (.ref fa) ⟨[.ref a], []⟩) (fun r s' => r = .ok (.ret (.bool true)) ∧ OldK s.heap s'.heap ∧ s'.os = s.os ∧ AllBare s'.gens) s := by
  have out : ∀ {b : Addr} {o : Obj}, s.heap.get? b = some o → (b ≠ a ∨ K.lookup a ≠ none) → H b = none := fun {b o} e hb => by
    cases q : H b with
    | none => rfl
    | some u =>
      obtain ⟨h1, h2, _⟩ := one b (by rw [q]; exact Option.some_ne_none u)
      exact hb.elim (fun z => absurd h1 z) fun z => absurd h2 z
  have dic : ∀ {b : Addr} {mm : Str → Option Value}, s.heap.Ns b mm → (hidT s.heap H).Ns b mm := fun {b mm} ⟨o, es, ep, e, d, r⟩ => by
    refine ⟨o, es, ep, hidT_get e (out e (.inl fun z => ?_)), d, r⟩
    rw [z, ho] at e
    cases e
    exact hnd es ep d
  have inB : K.In (hidT s.heap H) := fun b o e => hidT_get (inK b o e) (by
    by_cases z : b = a
    · exact out (inK b o e) (.inr (by rw [← z, e]; exact Option.some_ne_none o))
    · exact out (inK b o e) (.inl z))
  have md : Mod K mg (hidT s.heap H) := ⟨inB, dic gl, ⟨mb, dic bl, bb⟩, by
    obtain ⟨mc, h1, h2⟩ := lim
    exact ⟨mc, dic h1, h2⟩⟩
  have e0 : Env0 P w K mg (hidT s.heap H) callerA [] s H := ⟨rfl, md, fun b o e => of_hidT e, Nat.le_of_eq (hidT_size _ _), trivial, fun b hb => (nomatch (show b ∈ ([] : List Addr) from hb)), hH, .of_eq gens⟩
  have isInts : ∀ (l : List Int), IsL K H (l.map V.int) (l.map .int) := fun l => by
    induction l with
    | nil => exact .nil
    | cons n r ih => exact .cons (.int n) ih
  have pr : spD K 1 m [.ref a] H (fun v _ => v = .bl true) fun _ _ _ => False :=
    ⟨rfl, H, [.lst (ns.map .int)], fun _ => none, _, _, .cons (.lst hS (isInts ns)) .nil, ⟨Same.refl H, fun _ _ e => nomatch e⟩, fun _ _ z => z, hm _ fun _ => rfl, fun v H' d F' μ' _ _ i q => by
      subst q
      exact is_bl i⟩
  refine codeAny_mono ((Fn _ inB (dic gl)).go callerA [] s H ⟨[.ref a], []⟩ [.ref a] [.ref a] _ _ rfl hr e0 (hb s (.ref a)) (.cons rfl .nil) pr) fun r s' hq => ?_
  match r, hq with
  | .ok (.ret u), ⟨v, H', os, bare, un, hok, rv, q⟩ =>
    have q' : v = .bl true := q
    subst q'
    cases rv
    refine ⟨rfl, OldK.of_keep fun b o e => ?_, os, bare⟩
    cases z : H b with
    | none => exact un.keep b o e z (fun hb => (nomatch (show b ∈ ([] : List Addr) from hb))) (fun hb => nomatch hb)
    | some u =>
      obtain ⟨_, _, xs, z2⟩ := one b (by rw [z]; exact Option.some_ne_none u)
      have e1 := (hH b _ z2).1
      have e2 := (hok b _ (un.frzs b _ _ z2)).1
      rw [e] at e1
      cases e1
      exact e2
theorem law_go {P : Program} {w : World} {K : PySem.W.Frag} {mg mb : Str → Option Value} {k : Nat} {fa a : Addr} {fd : FuncData} {x : Str} {m : List D → W D} {s : Shared} {vs : List Value} {ns : List Int}
    (inK : K.In s.heap) (gl : s.heap.Ns mainGlobals mg) (bl : s.heap.Ns builtinsNs mb) (bb : ∀ x : Str, x ≠ "__name__" → mb x = bootBuiltins x) (lim : s.heap.NoLimit) (gens : s.gens = #[])
    (ho : s.heap.get? a = some { cls := .type "list", data := .seq vs.toArray }) (hi : IntsAre vs ns) (hl : ns.length ≤ sizeLine) (hr : Room k callerA)
    (Fn : ∀ base : Heap, K.In base → base.Ns mainGlobals mg → FnG P w K mg base CX0 k fa fd [x] (spD K 1 m)) (hb : ∀ (s : Shared) (u : Value), BindsTo s fd ⟨[u], []⟩ [(x, u)])
    (hm : ∀ μ : Mem, (∀ b, μ b = none) → m [.lst (ns.map .int)] μ (fun d _ => d = .bl true) (fun _ _ => False)) :
    codeAny (model P w) callerA (.call (.ref fa) ⟨[.ref a], []⟩) (fun r s' => r = .ok (.ret (.bool true)) ∧ OldK s.heap s'.heap ∧ s'.os = s.os ∧ AllBare s'.gens) s := by
  have vals := vals_ints hi
  have hlen := hi.length
  cases hk : K.lookup a with
  | some o =>
    have e := inK a o hk
    rw [ho] at e
    cases e
    refine law_run (H := fun _ => none) inK gl bl bb lim gens ho (fun _ _ z => nomatch z) hr Fn hb hm (.inr ⟨_, vs.toArray, _, hk, rfl, rfl, rfl, ?_, by simpa using vals⟩) (fun b u z => nomatch z) fun b z => absurd rfl z
    rw [List.size_toArray, hlen]
    exact hl
  | none =>
    refine law_run (H := fun b => if b = a then some (.frz { cls := .type "list", data := .seq vs.toArray } (.lst (ns.map V.int))) else none) inK gl bl bb lim gens ho (fun _ _ z => nomatch z) hr Fn hb hm (.inl (.inr ⟨_, if_pos rfl⟩)) (fun b u z => ?_) fun b z => ?_
    · by_cases hba : b = a
      · have z' := (if_pos hba).symm.trans z
        cases z'
        subst hba
        exact ⟨ho, by rw [List.length_map]; exact hl, vs, _, vals, ho⟩
      · exact nomatch (if_neg hba).symm.trans z
    · by_cases hba : b = a
      · exact ⟨hba, hk, _, if_pos hba⟩
      · exact absurd (if_neg hba) z
/-- the goal that k_head leaves -/
theorem walkD {l : PySem.W.OpenLaw} {n k : Nat} {q : Program} {loose : List Str} {XP : (Str → Option Value) → Heap → Prop} {YP : World → Heap → Prop} {d : DefRec} {K : Params → PySem.W.Frag} {x : Str} {m : List D → W D}
    (hn : l.most = some n) (hn2 : n ≤ sizeLine) (hdf : d.params.defaults = []) (hr : Room k callerA) (hY : ∀ (w : World) (h : Heap), YP w h → (K w.params).In h)
    (Fn : ∀ (w : World) (mg : Str → Option Value) (fa : Addr) (h : Heap), (K w.params).In h → h.Ns mainGlobals mg → mg d.name = some (.ref fa) →
      ∃ fd : FuncData, (∀ (s : Shared) (u : Value), BindsTo s fd ⟨[u], []⟩ [(x, u)]) ∧ ∀ base : Heap, (K w.params).In base → base.Ns mainGlobals mg → FnG l.prog w (K w.params) mg base CX0 k fa fd [x] (spD (K w.params) 1 m))
    (hm : ∀ (ns : List Int) (μ : Mem), ns.length ≤ n → (∀ b, μ b = none) → m [.lst (ns.map .int)] μ (fun d _ => d = .bl true) (fun _ _ => False)) :
    PySem.W.WalkO q loose XP YP l.row.toRowW d [] (fun f vs => PySem.call f vs) := by
  refine Att.attach_call hn hdf fun w s₀ s₁ mg mb fa o pm cd doc a vs ns G Y ho hd hcd hmg hobj hints hlen hg => ?_
  have KX := hY w _ Y
  obtain ⟨fd, hb, hF⟩ := Fn w mg fa _ KX G.T.g hmg
  exact law_go KX G.T.g G.T.b G.T.builtins G.T.nolimit hg hobj hints (Nat.le_trans hlen hn2) hr hF hb fun μ h0 => hm ns μ hlen h0
end DL

namespace DL
open PySem PySem.Spec PyProof.Rows L2

/-! ### t[::-1] of a tuple -/
section
variable {prog : Program} {w : World} {A : Around} {E : Value → Shared → Prop} {s : Shared}
theorem back_pick (xs : Array Value) : ((List.range xs.size).filterMap fun (m : Nat) => xs[((xs.size : Int) - 1 + (m : Int) * -1).toNat]?).toArray = xs.toList.reverse.toArray := by
  have e : ((List.range xs.size).filterMap fun (m : Nat) => xs[((xs.size : Int) - 1 + (m : Int) * -1).toNat]?) = (List.range xs.size).filterMap ((fun i => xs[i]?) ∘ fun m => xs.size - 1 - m) := by
    have go : ∀ l : List Nat, (∀ m ∈ l, m < xs.size) → (l.filterMap fun (m : Nat) => xs[((xs.size : Int) - 1 + (m : Int) * -1).toNat]?) = l.filterMap ((fun i => xs[i]?) ∘ fun m => xs.size - 1 - m) := fun l => by
      induction l with
      | nil => intro _; rfl
      | cons m r ih =>
        intro hl
        have hm := hl m List.mem_cons_self
        have e1 : ((xs.size : Int) - 1 + (m : Int) * -1).toNat = xs.size - 1 - m := by omega
        rw [List.filterMap_cons, List.filterMap_cons, ih fun z hz => hl z (List.mem_cons_of_mem _ hz), e1]
        rfl
    exact go _ fun m hm => List.mem_range.mp hm
  rw [e, ← List.filterMap_map, PySem.W.krv_range, List.filterMap_reverse, PySem.W.krv_all]
theorem back_applied {sl : Addr} {vl vu vk : Value} {n : Nat} {Q : Int × Int × Nat → Shared → Prop} (hs : s.heap.IsSliceOf sl vl vu vk) (pl : IsPart vl none) (pu : IsPart vu none) (pk : IsPart vk (some (-1)))
    (h : Q ((n : Int) - 1, -1, n) s) : wpAny (model prog w) A (Builtin.Slice.sliceApplied (.ref sl) (pure (n : Int))) Q E s := by
  obtain ⟨os, hos, hcs, hds⟩ := id hs
  unfold Builtin.Slice.sliceApplied Builtin.Slice.sliceFields
  refine wpAny_bind (wpAny_bind (wpAny_field hos hds (x := vl) rfl (wpAny_bind (wpAny_field hos hds (x := vu) rfl (wpAny_bind (wpAny_field hos hds (x := vk) rfl (wpAny_pure ?_)))))))
  refine wpAny_bind (HT.slicePart_ pk ?_)
  show wpAny _ _ (if ((-1 : Int) == 0) = true then _ else _) _ _ s
  rw [if_neg (by decide)]
  refine wpAny_bind (HT.slicePart_ pl (wpAny_bind (HT.slicePart_ pu (wpAny_bind (wpAny_pure ?_)))))
  have pc : Builtin.Slice.slicePlaces ((n : Int) - 1) (-1) (-1) = n := by
    unfold Builtin.Slice.slicePlaces
    rw [if_neg (by decide), show (-(-1 : Int)) = 1 from rfl, Int.ediv_one]
    split <;> omega
  show wpAny _ _ (pure ((n : Int) - 1, (-1 : Int), Builtin.Slice.slicePlaces ((n : Int) - 1) (-1) (-1))) _ _ s
  rw [pc]
  exact wpAny_pure h
theorem tup_back {t sl : Addr} {items : Array Value} {vl vu vk : Value} {Q : Value → Shared → Prop} (ht : IsTup s.heap t items) (hs : s.heap.IsSliceOf sl vl vu vk) (pl : IsPart vl none) (pu : IsPart vu none) (pk : IsPart vk (some (-1)))
    (h : Q (.ref s.heap.objs.size) { s with heap := s.heap.push { cls := .type "tuple", data := .seq items.toList.reverse.toArray } }) (hz : items.size ≤ sizeLine) : wpAny (model prog w) A (getItem (.ref t) (.ref sl)) Q E s := by
  have hok : sizeOk (.seq items.toList.reverse.toArray) := by
    show items.toList.reverse.toArray.size ≤ sizeLine
    rw [List.size_toArray, List.length_reverse, Array.length_toList]
    exact hz
  obtain ⟨os, hos, hcs, hds⟩ := id hs
  unfold getItem
  try with_reducible refine wpAny_holding ?_
  first | refine wpAny_bind (wpAny_pure ?_) | skip
  refine wpAny_bind (wpAny_sequenceKey ht.typeIs (by decide) ?_)
  refine wpAny_bind (wpAny_callSpecial?_slot (name := Str.ofString "__getitem__") ht.typeIs PyProof.Rows.slot_tuple_getitem (wpAny_call_entry PyProof.Rows.slot_tuple_getitem ht.typeIs entry_tuple_getitem ?_ (args_tuple_getitem _ _)))
  show wpAny _ _ (Builtin.Tuple.tupleItemsOf (.ref t) >>= _) _ _ s
  refine wpAny_bind (tupleItemsOf_ ht (wpAny_bind (wpAny_typeOf ⟨os, hos, hcs⟩ ?_)))
  rw [if_pos (by decide)]
  refine wpAny_bind (back_applied hs pl pu pk ?_)
  show wpAny _ _ (if (((items.size : Int) - 1) == 0 && (-1 : Int) == 1 && items.size == items.size) = true then _ else _) _ _ s
  rw [if_neg (by rw [show ((-1 : Int) == 1) = false from by decide, Bool.and_false, Bool.false_and]; exact Bool.false_ne_true), back_pick]
  first
    | exact wpAny_bind (m := Builtin.Tuple.tupleExact _) (wpAny_newObj_type (wpAny_pure ⟨_, rfl, wpAny_pure h⟩) hok)
    | exact wpAny_bind (m := Builtin.Tuple.tupleExact _) (wpAny_newObj_type (wpAny_bind (wpAny_pure (wpAny_pure ⟨_, rfl, wpAny_pure h⟩))) hok)
    | exact wpAny_bind (wpAny_bind (m := Builtin.Tuple.tupleExact _) (wpAny_newObj_type (wpAny_pure (wpAny_pure ⟨_, rfl, wpAny_pure h⟩)) hok))
    | exact wpAny_bind (wpAny_bind (m := Builtin.Tuple.tupleExact _) (wpAny_newObj_type (wpAny_pure ⟨_, rfl, wpAny_pure h⟩) hok))
end
def tRevT (K : PySem.W.Frag) (te : TE) : TE := fun σ H Q => te σ H fun x H1 => ∃ a xs, x = .ref a ∧ ((SqL K H1 a xs ∧ ∀ p, H1 p = none → Q (.ref p) (upd H1 p (.lst xs.reverse))) ∨ (SqT K H1 a xs ∧ ∀ p, H1 p = none → Q (.ref p) (upd H1 p (.tup xs.reverse))))
theorem pe_revT {X : Cx} {e : Expr} {te : TE} {k : Nat} {p1 p2 p3 pos : Pos} (he : PE X e te) : PE X (.Subscript e (.Slice none none (some (.UnaryOp .USub (.Constant (.int 1) k p1) p2)) p3) pos) (tRevT X.K te) := by
  refine ⟨fun pins s σ H Q I h => ?_⟩
  refine Subscript_ (thn (he.run pins s σ H _ I h) fun v s1 ⟨x, H1, I1, r1, q1⟩ => ?_)
  obtain ⟨a, xs, rfl, hx⟩ := q1
  cases r1
  have step : PO X (some (.UnaryOp .USub (.Constant (.int 1) k p1) p2)) (tPart (tUn (rU fun i => .int (-i)) (tC (.int 1)))) := po_some (pe_un un_neg pe_int)
  refine wpAny_Slice (thn (po_none.run pins s1 σ H1 (fun o H2 => o = none ∧ H2 = H1) I1 ⟨rfl, rfl⟩) fun vl s2 ⟨l, H2, I2, pl, el, e2⟩ => ?_)
  subst el e2
  refine thn (po_none.run pins s2 σ H2 (fun o H3 => o = none ∧ H3 = H2) I2 ⟨rfl, rfl⟩) fun vu s3 ⟨u, H3, I3, pu, eu, e3⟩ => ?_
  subst eu e3
  refine thn (step.run pins s3 σ H3 (fun o H4 => o = some (-1) ∧ H4 = H3) I3 ⟨1, rfl, -1, rfl, rfl, rfl⟩) fun vs s4 ⟨o, H4, I4, pk, eo, e4⟩ => ?_
  subst eo e4
  have I5 : Inv X pins σ H4 { s4 with heap := s4.heap.push { cls := .type "slice", data := .fields #[vl, vu, vs] } } := I4.kept (t' := s4.toks) fun b ob q => Heap.get?_push_of_some _ q
  show wpAny (model X.prog X.w) X.A (subscriptTail e (.Slice none none (some (.UnaryOp .USub (.Constant (.int 1) k p1) p2)) p3) (.ref a) (.ref s4.heap.objs.size)) (EP X pins σ Q) X.xe { s4 with heap := s4.heap.push { cls := .type "slice", data := .fields #[vl, vu, vs] } }
  rcases hx with ⟨hx, q⟩ | ⟨hx, q⟩
  · obtain ⟨its, r, ht, hz⟩ := I5.list hx
    have hlen := r.length
    refine tail_any (ops := [.ref a, .ref s4.heap.objs.size]) ht.isList.typeIs PySem.slot_list_getitem.lookup ?_ (by with_unfolding_all rfl)
    refine wpAny_getItem_list_slice ht.isList (Heap.IsSliceOf.new _ vl vu vs) pl pu pk (by decide) ?_ (by rw [List.size_toArray]; omega)
    rw [PySem.W.krv_pick]
    refine ⟨.ref _, _, I5.laid (t' := s4.toks) (o := .lst xs.reverse) (fun b ob q => Heap.get?_push_of_some _ q) (Nat.le_refl _) ?_, rfl, q _ (I5.hok.fresh (Nat.le_refl _))⟩
    exact ⟨by rw [List.length_reverse]; exact hz, _, 0, r.reverse, Heap.get?_push_size _ rfl⟩
  · obtain ⟨its, r, ht, hz⟩ := I5.tuple hx
    have hlen := r.length
    refine tail_any (ops := [.ref a, .ref s4.heap.objs.size]) ht.typeIs PyProof.Rows.slot_tuple_getitem.lookup ?_ (by with_unfolding_all rfl)
    refine tup_back ht (Heap.IsSliceOf.new _ vl vu vs) pl pu pk ?_ (by rw [List.size_toArray]; omega)
    refine ⟨.ref _, _, I5.laid (t' := s4.toks) (o := .tup xs.reverse) (fun b ob q => Heap.get?_push_of_some _ q) (Nat.le_refl _) ?_, rfl, q _ (I5.hok.fresh (Nat.le_refl _))⟩
    exact ⟨by rw [List.length_reverse]; exact hz, _, r.reverse, IsTup.new _ _⟩
def revTD (x : D) : W D := match x with
  | .tup ds => W.ret (.tup ds.reverse)
  | x => revD x
theorem de_rev {X : Cx} {Eh : Option XK} {e : Expr} {m : Rho → W D} {k : Nat} {p1 p2 p3 pos : Pos} (h : DE X Eh e m) : DE X Eh (.Subscript e (.Slice none none (some (.UnaryOp .USub (.Constant (.int 1) k p1) p2)) p3) pos) (eUn revTD m) := by
  refine PE.imp (pe_revT h) fun σ H Qh h => ?_
  obtain ⟨F, ρ, μ, Q, ED, env, rep, lnk, hm, bk⟩ := h
  refine ⟨F, ρ, μ, _, ED, env, rep, lnk, hm, fun v1 H1 d1 F1 μ1 s1 r1 i1 q1 => ?_⟩
  have bk' : Back X.K F1 (Is X.K) Q Qh := fun v H' d F' μ' s' r' i' q' => bk v H' d F' μ' (s1.trans s') r' i' q'
  unfold revTD at q1
  split at q1
  · cases i1 with
    | tup hs hl => exact ⟨_, _, rfl, .inr ⟨sqt_up r1.sub hs, fun p hn => back_tup bk' r1 hn hl.rev q1⟩⟩
  · obtain ⟨ds, e1, q⟩ := opt_of q1
    obtain ⟨a, vs, rfl, h1, h2⟩ := ls_of r1 i1 e1
    exact ⟨a, vs, rfl, .inl ⟨h1, fun p hn => back_lst bk' r1 hn h2.rev q⟩⟩

/-! ### for over a list or a tuple -/
def iSeqH (K : PySem.W.Frag) (tl : TE) : TI := fun σ H R => tl σ H fun x H1 => ∃ a, x = .ref a ∧ (((∃ xs, SqL K H1 a xs) ∧ R (Itl K a) H1) ∨ ((∃ xs, SqT K H1 a xs) ∧ R (Itt K a) H1))
theorem pi_seq {X : Cx} {tg l : Expr} {tl : TE} (hl : PE X l tl) : PI X tg l (iSeqH X.K tl) := by
  refine ⟨fun pins s σ H R I h => ?_⟩
  refine thn (hl.run pins s σ H _ I h) fun v s1 ⟨x, H1, I1, r1, q1⟩ => ?_
  obtain ⟨a, rfl, q1⟩ := q1
  cases r1
  have fp1 : ∀ b ∈ [s1.heap.objs.size], FpOk X pins H1 b := fun b hb => by
    cases List.mem_singleton.mp hb
    exact I1.fpOk (Nat.le_refl _) (I1.hok.fresh (Nat.le_refl _))
  rcases q1 with ⟨⟨xs, hq⟩, q⟩ | ⟨⟨xs, hq⟩, q⟩
  · obtain ⟨its, rv, p, hz⟩ := I1.list hq
    exact wpAny_pyIter_list p.isList ⟨_, [s1.heap.objs.size], _, Itl X.K a, H1, rfl, I1.kept (t' := s1.toks) fun b o e => Heap.get?_push_of_some _ e, turn_list a _, ⟨_, Heap.get?_push_size _ rfl, rfl, rfl⟩, fp1, q⟩
  · obtain ⟨its, rv, p, hz⟩ := I1.tuple hq
    exact wpAny_pyIter_tuple (show s1.heap.IsTuple a its.toArray from p) ⟨_, [s1.heap.objs.size], _, Itt X.K a, H1, rfl, I1.kept (t' := s1.toks) fun b o e => Heap.get?_push_of_some _ e, turn_tuple a _, ⟨_, Heap.get?_push_size _ rfl, rfl, rfl⟩, fp1, q⟩
def iSeq (m : Rho → W D) (ρ : Rho) : W ItD := W.bnd (m ρ) fun d => match d with
  | .lst ds => W.ret ⟨ds, fun _ => True⟩
  | .tup ds => W.ret ⟨ds, fun _ => True⟩
  | .obj a => W.bnd W.get fun μ => W.bnd (W.opt (lsOf (.obj a) μ)) fun ds => W.ret ⟨ds, fun μ' => μ' a = some (.ml ds)⟩
  | _ => W.bad
theorem itIs_obj {K : PySem.W.Frag} {F : Hp} {a : Addr} {ds : List D} : ItIs K F (Itl K a) ⟨ds, fun μ' => μ' a = some (.ml ds)⟩ := by
  refine ⟨fun i F2 H2 μ2 s2 r2 hc hi => ?_, fun i F2 H2 μ2 x H3 s2 r2 hc hb y => ?_, fun F2 H2 μ2 s2 r2 hc => ?_⟩
  · obtain ⟨_, us, h3, h4⟩ := r2.mem a _ hc
    have hl := h4.length
    have hi' : i < ds.length := hi
    exact ⟨us, us[i]'(by omega), .inl (.inl h3), List.getElem?_eq_getElem (by omega)⟩
  · obtain ⟨_, us, h3, h4⟩ := r2.mem a _ hc
    obtain ⟨e, y⟩ := y
    subst e
    obtain ⟨d, h5, h6⟩ := h4.getV (y us (.inl (.inl h3)))
    exact ⟨F2, d, Same.refl _, r2, h5, h6⟩
  · obtain ⟨_, us, h3, h4⟩ := r2.mem a _ hc
    exact ⟨us, .inl (.inl h3), by rw [h4.length]; exact Nat.le_refl _⟩
theorem di_seq {X : Cx} {Eh : Option XK} {tg e : Expr} {m : Rho → W D} (h : DE X Eh e m) : DI X Eh tg e (iSeq m) := by
  refine PI.imp (pi_seq h) fun σ H R h => ?_
  obtain ⟨F, ρ, μ, Q, ED, env, rep, lnk, hm, bk⟩ := h
  refine ⟨F, ρ, μ, _, ED, env, rep, lnk, hm, fun v1 H1 d1 F1 μ1 s1 r1 i1 q1 => ?_⟩
  cases i1 with
  | lst hs hl => exact ⟨_, rfl, .inl ⟨⟨_, sql_up r1.sub hs⟩, bk _ _ F1 μ1 _ s1 r1 (itIs_list (fun F2 H2 μ2 s2 r2 _ => sql_up r2.sub (sql_up s2 hs)) hl) q1⟩⟩
  | tup hs hl => exact ⟨_, rfl, .inr ⟨⟨_, sqt_up r1.sub hs⟩, bk _ _ F1 μ1 _ s1 r1 (itIs_tup hs hl) q1⟩⟩
  | obj a =>
    obtain ⟨ds, e1, q⟩ := opt_of q1
    obtain ⟨b, vs, eb, h1, h2⟩ := ls_of r1 (.obj a) e1
    cases eb
    exact ⟨_, rfl, .inl ⟨⟨_, h1⟩, bk _ _ F1 μ1 _ s1 r1 itIs_obj q⟩⟩
  | _ => exact q1.elim

/-! ### the built-ins' names -/
theorem bt_len : bootBuiltins "len" = some (.builtin "len") := by decide +kernel
theorem bt_sum : bootBuiltins "sum" = some (.builtin "sum") := by decide +kernel
theorem bt_min : bootBuiltins "min" = some (.builtin "min") := by decide +kernel
theorem bt_max : bootBuiltins "max" = some (.builtin "max") := by decide +kernel
theorem bt_repr : bootBuiltins "repr" = some (.builtin "repr") := by decide +kernel
theorem bt_all : bootBuiltins "all" = some (.builtin "all") := by decide +kernel
theorem bt_any : bootBuiltins "any" = some (.builtin "any") := by decide +kernel
theorem bt_sorted : bootBuiltins "sorted" = some (.builtin "sorted") := by decide +kernel
theorem bt_isinstance : bootBuiltins "isinstance" = some (.builtin "isinstance") := by decide +kernel
theorem bt_list : bootBuiltins "list" = some (.type "list") := by decide +kernel
theorem bt_tuple : bootBuiltins "tuple" = some (.type "tuple") := by decide +kernel
theorem bt_int : bootBuiltins "int" = some (.type "int") := by decide +kernel
theorem bt_str : bootBuiltins "str" = some (.type "str") := by decide +kernel
theorem bt_bool : bootBuiltins "bool" = some (.type "bool") := by decide +kernel
theorem bt_dict : bootBuiltins "dict" = some (.type "dict") := by decide +kernel
end DL

/-! DLi: a list times a number, isinstance -/
namespace DL
open PySem PySem.Spec PyProof.Rows L2

theorem IsL.rep {K : PySem.W.Frag} {F : Hp} {vs : List V} {ds : List D} (h : IsL K F vs ds) : ∀ k : Nat, IsL K F (List.replicate k vs).flatten (List.replicate k ds).flatten
  | 0 => .nil
  | k + 1 => by
    rw [List.replicate_succ, List.replicate_succ, List.flatten_cons, List.flatten_cons]
    exact h.app (h.rep k)
def rRepR (K : PySem.W.Frag) : R2 := fun x y H Q => ∃ l k xs, x = .ref l ∧ y = .int k ∧ SqL K H l xs ∧ -(2 ^ 62) ≤ k ∧ k < 2 ^ 62 ∧ xs.length * k.toNat ≤ sizeLine ∧ ∀ p, H p = none → Q (.ref p) (upd H p (.lst (List.replicate k.toNat xs).flatten))
theorem op_repR {X : Cx} : OpR X (binaryOp .Mult) (rRepR X.K) := by
  intro pins s σ H x y v u Q I rx ry h
  obtain ⟨l, k, xs, rfl, rfl, hs, h1, h2, hz, q⟩ := h
  obtain rfl : v = Value.ref l := rx
  obtain ⟨t, rfl⟩ : ∃ t, u = Value.int k t := ry
  obtain ⟨its, rv, ⟨⟨cls, dd, data, sl⟩, n, ho, hc, hdn, hd⟩, hlen⟩ := I.list hs
  have hc1 : cls = Value.type "list" := hc
  have hd1 : data = Data.seq its.toArray n := hd
  subst hc1 hd1
  have hl := rv.length
  have hz' : its.length * k.toNat ≤ 2 ^ 24 := by rw [← hl]; exact hz
  have hz2 : its.toArray.size * k.toNat ≤ 2 ^ 24 := by rw [List.size_toArray]; exact hz'
  refine wpAny_binaryOp_repeat_ref (T := "list") (U := "int") (by decide) ⟨_, ho, rfl⟩ (fun s' => typeIs_int s' k t) noFill_list_mul F.fills_int_mul F.slot_int_rmul repeat_list F.slot_int_index.lookup
    (call_meets F.slot_int_rmul (typeIs_int s k t) F.entry_int_rmul (F.args_int_rmul_2 _ _) (lm_int_rmul_list_any k t l its.toArray n dd sl)
      ⟨ho, rfl, ⟨_, ho, rfl⟩, call_meets F.slot_list_mul ⟨_, ho, rfl⟩ F.entry_list_mul (F.args_list_mul_2 _ _)
        (lm_list_mul_any l its.toArray n dd sl k t (by simp [Builtin.List.listFitsIndex]; omega) (by omega) (by simp [Builtin.List.listTooLong, sizeLine]; omega))
        ⟨ho, ?_⟩⟩)
  have e : List.foldl (fun x1 x2 => x1 ++ x2) #[] (List.replicate (if its.toArray.isEmpty = true then 0 else k.toNat) its.toArray) = (List.replicate k.toNat its).flatten.toArray := by
    rw [listMul_foldl_if]
  rw [e]
  exact ⟨.ref s.heap.objs.size, _, I.lnew (t' := s.toks) (rv.rep k.toNat) (by rw [lm_len_rep_flat, Nat.mul_comm]; exact hz), rfl, q _ I.fresh⟩
def mulAD : D → D → W D
  | .int i, .int j => W.req (CMul i j) (W.ret (.int (i * j)))
  | .lst xs, .int k => W.req (-(2 ^ 62) ≤ k ∧ k < 2 ^ 62 ∧ xs.length * k.toNat ≤ sizeLine) (W.ret (.lst (List.replicate k.toNat xs).flatten))
  | _, _ => W.bad
def rMulA (K : PySem.W.Frag) : R2 := fun x y H Q => (rI CMul fun i j => .int (i * j)) x y H Q ∨ rRepR K x y H Q
theorem op_mulA {X : Cx} : OpR X (binaryOp .Mult) (rMulA X.K) := op_mul.or op_repR
theorem opd_mulA {K : PySem.W.Frag} : OpD K (rMulA K) mulAD := by
  intro F H μ x y dx dy Q ED Qh r ix iy h bk
  unfold mulAD at h
  split at h
  · cases ix; cases iy
    exact .inl ⟨_, _, rfl, rfl, h.1, back_is bk r (.int _) h.2⟩
  · cases iy
    obtain ⟨⟨h1, h2, h3⟩, q⟩ := h
    cases ix with
    | lst hs hl => exact .inr ⟨_, _, _, rfl, rfl, sql_up r.sub hs, h1, h2, by rw [hl.length]; exact h3, fun p hn => back_lst bk r hn (hl.rep _) q⟩
  · exact h.elim

/-! ### isinstance(x, c), c a built-in class -/
def tyM (μ : Mem) : D → Option String
  | .non => some "NoneType"
  | .bl _ => some "bool"
  | .int _ => some "int"
  | .str _ => some "str"
  | .tup _ => some "tuple"
  | .lst _ => some "list"
  | .dct _ => some "dict"
  | .obj a => (match μ a with
    | some (.ml _) => some "list"
    | some (.md _) => some "dict"
    | none => none)
  | .ty _ => none
def isiD : List D → W D
  | [x, .ty n] => W.bnd W.get fun μ => W.bnd (W.opt (tyM μ x)) fun t => W.bnd (W.opt (kitB t n)) fun b => W.ret (.bl b)
  | _ => W.bad
theorem tyX_of {K : PySem.W.Frag} {F H : Hp} {μ : Mem} {v : V} {d : D} {t : String} (r : Rep K F H μ) (i : Is K F v d) (h : tyM μ d = some t) : TyX K H v (.type t) := by
  cases i with
  | non => cases h; exact .base .non
  | bl b => cases h; exact .base (.bl b)
  | int b => cases h; exact .base (.int b)
  | str b => cases h; exact .base (.str b)
  | tup hs hl =>
    cases h
    rcases sqt_up r.sub hs with (e | ⟨o, e⟩) | ⟨o, its, n, e, c, _⟩
    · exact .base (.tup e)
    · exact .fTuple e
    · exact .kTuple e c
  | lst hs hl =>
    cases h
    rcases sql_up r.sub hs with (e | ⟨o, e⟩) | ⟨o, its, n, e, c, _⟩
    · exact .base (.lst e)
    · exact .base (.frz e)
    · exact .kList e c
  | dct hs hk hl => cases h; exact .base (.dK (r.sub _ _ hs))
  | obj a =>
    unfold tyM at h
    simp only at h
    split at h
    · rename_i ds e
      cases h
      obtain ⟨_, vs, h3, h4⟩ := r.mem a _ e
      exact .base (.lst h3)
    · rename_i ds e
      cases h
      obtain ⟨_, vs, h3, h4⟩ := r.mem a _ e
      exact .base (.dK h3)
    · cases h
  | ty n => cases h
theorem is_ty {K : PySem.W.Frag} {F : Hp} {v : V} {n : String} (h : Is K F v (.ty n)) : v = .ty n := by
  cases h
  rfl
theorem cd_isi {K : PySem.W.Frag} : CallD K (rIsi K) isiD := by
  intro F H μ xs ds Q ED Qh r il h bk
  unfold isiD at h
  split at h
  · obtain ⟨v, us, rfl, i, il'⟩ := isL_cons il
    obtain ⟨w, us', rfl, j, il''⟩ := isL_cons il'
    cases il''
    cases is_ty j
    obtain ⟨t, et, h⟩ := opt_of h
    obtain ⟨b, eb, q⟩ := opt_of h
    exact ⟨v, _, _, _, b, rfl, .ty _, tyX_of r i et, kit_ty eb, back_is bk r (.bl _) q⟩
  · exact h.elim
end DL

namespace DL
open PySem PySem.Spec PyProof.Rows L2

end DL
namespace DL
open PySem PySem.Spec PyProof.Rows L2
theorem look_relabel {b : Str → NameKind → Bool} (hb : ∀ n k, b n k = true → k = .free) : ∀ {names : List (Str × NameKind)} {x : Str}, names.lookup x = some .free →
    (names.map fun (n, k) => if b n k = true then (n, NameKind.cell) else (n, k)).lookup x = some .cell ∨ (names.map fun (n, k) => if b n k = true then (n, NameKind.cell) else (n, k)).lookup x = some .free
  | [], _, h => by cases h
  | (n, k) :: r, x, h => by
    rw [List.lookup_cons] at h
    rw [List.map_cons]
    by_cases e : (x == n) = true
    · rw [e] at h
      simp only at h
      cases h
      simp only
      by_cases q : b n .free = true
      · rw [if_pos q, List.lookup_cons, e]; exact .inl rfl
      · rw [if_neg q, List.lookup_cons, e]; exact .inr rfl
    · have e' : (x == n) = false := Bool.eq_false_iff.mpr e
      rw [e'] at h
      simp only
      by_cases q : b n k = true
      · rw [if_pos q, List.lookup_cons, e']; exact look_relabel hb h
      · rw [if_neg q, List.lookup_cons, e']; exact look_relabel hb h
theorem vis_relabel {scope : Scope} {env : Env} {x : Str} (h : scope.names.lookup x = some .local ∨ scope.names.lookup x = some .free) : Vis (relabel scope env) x := by
  rcases h with h | h
  · exact .inl (lookup_relabel_local h)
  · exact .inr (look_relabel (b := fun n k => k == .free && env.scope.kind == .function && env.kindOf n == some .cell) (fun n k e => by
      cases k <;> first | rfl | (exfalso; revert e; simp; done) | (exfalso; cases e)) h)
/-- a name in a comprehension -/
theorem de_varB {X : Cx} {Eh : Option XK} {s : Shared} {H : Hp} {scope : Scope} {cl : List (Str × Addr)} {C : Addr} {fp : List Addr} {i : Nat} {x : Str} {pos : Pos} (hN : X.N[i]? = some x) (hv : scope.names.lookup x = some .local ∨ scope.names.lookup x = some .free) (hd : (x == ("__debug__" : Str)) = false) (hcd : (x == ("__classdict__" : Str)) = false) :
    DE (X.blk s H scope (compEnvC scope cl C X.env) fp) Eh (.Name x pos) (eVar i) := de_var (X := X.blk s H scope (compEnvC scope cl C X.env) fp) hN (vis_relabel hv) hd hcd
end DL

/-! DLr: plain data, its repr's length -/
namespace DL
open PySem PySem.Spec PyProof.Rows L2

mutual
/-- plain data: numbers that can be shown, texts of signs, lists and tuples of them -/
def gd : D → Bool
  | .non => true
  | .bl _ => true
  | .int i => decide (i.natAbs.log2 < 1920)
  | .str s => PyData.canLay0 (.str s)
  | .tup ds => gdL ds
  | .lst ds => gdL ds
  | _ => false
def gdL : List D → Bool
  | [] => true
  | d :: r => gd d && gdL r
end
mutual
def toPy : D → PyData
  | .non => .none
  | .bl b => .bool b
  | .int i => .int i
  | .str s => .str s
  | .tup ds => .tuple (toPyL ds)
  | .lst ds => .list (toPyL ds)
  | _ => .none
def toPyL : List D → List PyData
  | [] => []
  | d :: r => toPy d :: toPyL r
end
mutual
def dpt : D → Nat
  | .tup ds => dptL ds + 1
  | .lst ds => dptL ds + 1
  | _ => 0
def dptL : List D → Nat
  | [] => 0
  | d :: r => max (dpt d) (dptL r)
end
mutual
def dsz : D → Nat
  | .non => 4
  | .bl _ => 5
  | .int _ => 1921
  | .str s => 10 * s.length + 2
  | .tup ds => dszL ds + 3
  | .lst ds => dszL ds + 3
  | _ => 0
def dszL : List D → Nat
  | [] => 0
  | d :: r => dsz d + 2 + dszL r
end
theorem textFrom_le : ∀ (ts : List Str) (k : Nat) (acc : Str), (textFrom k acc ts).length ≤ acc.length + piled ts
  | [], k, acc => by show acc.length ≤ _; exact Nat.le_add_right _ _
  | t :: r, k, acc => by
    have ih := textFrom_le r (k + 1) (acc ++ (if k > 0 then ", " else "" : String) ++ t)
    have e : (acc ++ (if k > 0 then ", " else "" : String) ++ t).length = acc.length + (if k > 0 then 2 else 0) + t.length := by
      rw [strLen_append, strLen_append]
      split <;> rfl
    rw [e] at ih
    show (textFrom (k + 1) _ r).length ≤ _
    rw [piled_cons]
    have : (if k > 0 then 2 else 0 : Nat) ≤ 2 := by split <;> omega
    omega
theorem listText_le (ts : List Str) : (listText ts).length ≤ piled ts + 2 := by
  unfold listText
  rw [strLen_append]
  have := textFrom_le ts 0 "["
  have e1 : (("[" : String) : Str).length = 1 := rfl
  have e2 : (("]" : String) : Str).length = 1 := rfl
  omega
theorem tupleText_le (ts : List Str) : (tupleText ts).length ≤ piled ts + 3 := by
  unfold tupleText
  rw [strLen_append, strLen_append]
  have e1 : ((("(" : String) : Str)).length = 1 := rfl
  have e3 : (((if ts.length == 1 then ",)" else ")" : String) : Str)).length ≤ 2 := by split <;> decide
  by_cases h : ts = []
  · subst h
    have : (Str.join ", " ([] : List Str)).length = 0 := rfl
    omega
  · have := join_length_add ts h
    omega
theorem strOk_lt {x : Str} (h : PyData.canLay0 (.str x) = true) : ∀ c ∈ x.cps.toList, c < 16 ^ 8 := by
  intro c hc
  have h1 : PyData.strOk x = true := h
  unfold PyData.strOk at h1
  rw [Array.all_eq_true_iff_forall_mem] at h1
  have h2 := of_decide_eq_true (h1 c (Array.mem_toList_iff.mp hc))
  omega
mutual
theorem gd_ok : ∀ {d : D}, gd d = true → py d = some (toPy d) ∧ (toPy d).canLay0 = true ∧ (toPy d).showable = true ∧ (toPy d).depth = dpt d ∧ (toPy d).shown.length ≤ dsz d
  | .non, _ => ⟨rfl, rfl, rfl, rfl, by decide⟩
  | .bl b, _ => ⟨rfl, rfl, rfl, rfl, by cases b <;> decide⟩
  | .int i, h => ⟨rfl, rfl, h, rfl, int_text_len_1921 (of_decide_eq_true h)⟩
  | .str s, h => ⟨rfl, h, rfl, rfl, StrLaws.reprText_len s (strOk_lt h)⟩
  | .tup ds, h => by
    obtain ⟨h1, h2, h3, h4, h5⟩ := gd_okL (ds := ds) h
    refine ⟨by unfold py; rw [h1]; rfl, h2, h3, by show PyData.depthAll _ + 1 = _; rw [h4]; rfl, ?_⟩
    have := tupleText_le (PyData.shownAll (toPyL ds))
    show (tupleText (PyData.shownAll (toPyL ds))).length ≤ dszL ds + 3
    omega
  | .lst ds, h => by
    obtain ⟨h1, h2, h3, h4, h5⟩ := gd_okL (ds := ds) h
    refine ⟨by unfold py; rw [h1]; rfl, h2, h3, by show PyData.depthAll _ + 1 = _; rw [h4]; rfl, ?_⟩
    have := listText_le (PyData.shownAll (toPyL ds))
    show (listText (PyData.shownAll (toPyL ds))).length ≤ dszL ds + 3
    omega
  | .dct _, h => by cases h
  | .obj _, h => by cases h
  | .ty _, h => by cases h
theorem gd_okL : ∀ {ds : List D}, gdL ds = true → pyL ds = some (toPyL ds) ∧ PyData.canLayAll0 (toPyL ds) = true ∧ PyData.showableAll (toPyL ds) = true ∧ PyData.depthAll (toPyL ds) = dptL ds ∧ piled (PyData.shownAll (toPyL ds)) ≤ dszL ds
  | [], _ => ⟨rfl, rfl, rfl, rfl, Nat.le_refl _⟩
  | d :: r, h => by
    have h' : gd d = true ∧ gdL r = true := Bool.and_eq_true_iff.mp h
    obtain ⟨a1, a2, a3, a4, a5⟩ := gd_ok h'.1
    obtain ⟨b1, b2, b3, b4, b5⟩ := gd_okL h'.2
    refine ⟨by unfold pyL; rw [a1, b1]; rfl, Bool.and_eq_true_iff.mpr ⟨a2, b2⟩, Bool.and_eq_true_iff.mpr ⟨a3, b3⟩, by show max _ _ = max _ _; rw [a4, b4], ?_⟩
    show piled ((toPy d).shown :: PyData.shownAll (toPyL r)) ≤ dsz d + 2 + dszL r
    rw [piled_cons]
    omega
end
theorem gd_pyM {d : D} {μ : Mem} (h : gd d = true) : pyM μ d = some (toPy d) := by
  cases d with
  | obj a => cases h
  | _ => exact (gd_ok h).1
theorem eq_w {f : Bool → Bool} {x y : D} {μ : Mem} {Q : D → Mem → Prop} {E : XD} (hx : gd x = true) (hy : gd y = true) (dx : dpt x ≤ 60) (dy : dpt y ≤ 60) (q : Q (.bl (f (PyData.eqv (toPy x) (toPy y)))) μ) : eqA f x y μ Q E := by
  refine eqA_of ?_
  unfold eqW
  show W.bnd (W.opt (pyM μ x)) _ μ Q E
  rw [gd_pyM hx, gd_pyM hy]
  obtain ⟨_, a, _, b, _⟩ := gd_ok hx
  obtain ⟨_, c, _, d, _⟩ := gd_ok hy
  have s : ∀ p : PyData, p.canLay0 = true → p.depth ≤ 64 → SeqAt.shaped p = true := fun p h1 h2 => by
    unfold SeqAt.shaped
    rw [h1, decide_eq_true h2]; rfl
  exact ⟨⟨s _ a (by omega), s _ c (by omega)⟩, q⟩
theorem repr_w {x : D} {μ : Mem} {Q : D → Mem → Prop} {E : XD} (hx : gd x = true) (dx : dpt x ≤ 60) (zx : dsz x ≤ 16777216) (q : Q (.str (toPy x).shown) μ) : reprD [x] μ Q E := by
  unfold reprD
  show W.bnd (W.opt (pyM μ x)) _ μ Q E
  rw [gd_pyM hx]
  obtain ⟨_, a, c, b, e⟩ := gd_ok hx
  exact ⟨⟨a, c, by omega, Nat.le_trans e zx⟩, q⟩
end DL

/-! DLp: tools for the plain laws over W -/
namespace DL
open PySem PySem.Spec PyProof.Rows L2

theorem del_put {μ : Mem} {p : Addr} {o : MO} (h : μ p = none) : del (put μ p o) p = μ := by
  funext b
  unfold del put
  by_cases e : b = p
  · rw [if_pos e, e, h]
  · rw [if_neg e, if_neg e]
theorem put_put {μ : Mem} {p : Addr} {o o' : MO} : put (put μ p o) p o' = put μ p o' := by
  funext b
  unfold put
  by_cases e : b = p
  · rw [if_pos e, if_pos e]
  · rw [if_neg e, if_neg e, if_neg e]
theorem put_none {μ : Mem} {a p : Addr} {o : MO} (h : put μ a o p = none) : p ≠ a ∧ μ p = none := by
  unfold put at h
  split at h
  · cases h
  · exact ⟨‹_›, h⟩
/-- a for statement, by an invariant -/
theorem for_w {chk : Mem → Prop} {g : D → Rho → W Rho} {body : Rho → W Out} {Q : Out → Mem → Prop} {E : XD} (I : Nat → Rho → Mem → Prop) (items : List D)
    (step : ∀ (i : Nat) (x : D) (ρ : Rho) (μ : Mem) (R : Out → Mem → Prop), items[i]? = some x → I i ρ μ → (∀ ρ' μ', I (i + 1) ρ' μ' → R (.nx ρ') μ') → (∀ d μ', Q (.rt d) μ' → R (.rt d) μ') →
      chk μ ∧ g x ρ μ (fun ρ1 μ1 => body ρ1 μ1 R E) E)
    (fin : ∀ ρ μ, I items.length ρ μ → chk μ ∧ Q (.nx ρ) μ) : ∀ (ρ : Rho) (μ : Mem), I 0 ρ μ → forW chk g body items ρ μ Q E := by
  have main : ∀ (n i : Nat) (ρ : Rho) (μ : Mem), i + n = items.length → I i ρ μ → forW chk g body (items.drop i) ρ μ Q E := by
    intro n
    induction n with
    | zero =>
      intro i ρ μ hi h
      have : i = items.length := by omega
      subst this
      rw [List.drop_length]
      exact fin ρ μ h
    | succ n ih =>
      intro i ρ μ hi h
      have hlt : i < items.length := by omega
      rw [List.drop_eq_getElem_cons hlt]
      refine step i items[i] ρ μ (fun o μ2 => (match o with
        | .nx ρ2 => forW chk g body (items.drop (i + 1)) ρ2
        | .ct ρ2 => forW chk g body (items.drop (i + 1)) ρ2
        | .bk ρ2 => W.ret (.nx ρ2)
        | .rt d => W.ret (.rt d)) μ2 Q E) (List.getElem?_eq_getElem hlt) h ?_ ?_
      · intro ρ' μ' h'
        exact ih (i + 1) ρ' μ' (by omega) h'
      · intro d μ' q
        exact q
  intro ρ μ h
  have := main items.length 0 ρ μ (by omega) h
  rwa [List.drop_zero] at this
/-- a comprehension that changes nothing else -/
theorem lc_w {chk : Mem → Prop} {g : D → Rho → W Rho} {tt : Rho → W Bool} {te : Rho → W D} {ρ : Rho} {μ : Mem} {p : Addr} {E : XD} (c : D → Bool) (f : D → D) (hp : μ p = none) (Q : D → Mem → Prop) :
    ∀ (items acc : List D), (hz : acc.length + items.length < sizeLine) → (hc : ∀ acc, chk (put μ p (.ml acc))) →
    (step : ∀ x ∈ items, ∀ (acc : List D) (R : Rho → Mem → Prop), (∀ ρ1, (∀ (R' : Bool → Mem → Prop), R' (c x) (put μ p (.ml acc)) → tt ρ1 (put μ p (.ml acc)) R' E) → (c x = true → ∀ (R' : D → Mem → Prop), R' (f x) (put μ p (.ml acc)) → te ρ1 (put μ p (.ml acc)) R' E) → R ρ1 (put μ p (.ml acc))) →
      g x ρ (put μ p (.ml acc)) R E) →
    (q : Q (.lst (acc ++ (items.filter c).map f)) μ) → lcW chk g tt te p ρ items (put μ p (.ml acc)) (fun _ μ' => ∃ ds, μ' p = some (.ml ds) ∧ Q (.lst ds) (del μ' p)) E
  | [], acc, hz, hc, step, q => by
    refine ⟨hc acc, acc, put_same, ?_⟩
    rw [del_put hp]
    simpa using q
  | x :: xs, acc, hz, hc, step, q => by
    refine ⟨hc acc, step x (List.mem_cons_self ..) acc _ fun ρ1 ht he => ht _ ?_⟩
    cases e : c x with
    | false =>
      rw [if_neg (by decide)]
      refine lc_w c f hp Q xs acc (by simp at hz; omega) hc (fun y hy => step y (List.mem_cons_of_mem _ hy)) ?_
      rw [List.filter_cons, e] at q
      exact q
    | true =>
      rw [if_pos rfl]
      refine he e _ ?_
      show W.bnd (W.push p (f x)) _ _ _ _
      unfold W.push
      show (match put μ p (.ml acc) p with
        | some (.ml acc) => W.req (acc.length < sizeLine) (W.setL p (acc ++ [f x]) (W.ret ()))
        | _ => W.bad) _ _ _
      rw [put_same]
      refine ⟨by simp at hz; omega, ?_⟩
      show lcW chk g tt te p ρ xs (put (put μ p (.ml acc)) p (.ml (acc ++ [f x]))) _ E
      rw [put_put]
      refine lc_w c f hp Q xs (acc ++ [f x]) (by simp at hz ⊢; omega) hc (fun y hy => step y (List.mem_cons_of_mem _ hy)) ?_
      rw [List.filter_cons, e, if_pos rfl, List.map_cons] at q
      rw [List.append_assoc]
      exact q
theorem cmul_l {i j : Int} (h : -18446744073709551616 < i) (h' : i < 18446744073709551616) : CMul i j := .inl ⟨by omega, by omega⟩
theorem cmul_r {i j : Int} (h : -18446744073709551616 < j) (h' : j < 18446744073709551616) : CMul i j := .inr ⟨by omega, by omega⟩
theorem log_lt {j : Int} {k : Nat} (hk : 0 < k) (h0 : j.natAbs < 2 ^ k) : j.natAbs.log2 < k := by
  by_cases h : j.natAbs = 0
  · rw [h]; simpa using hk
  · exact (Nat.log2_lt h).mpr h0
theorem cdiv_w {i j : Int} (h : 0 < j) (h' : j < 4611686018427387904) : CDivW i j := ⟨h, Nat.lt_trans (log_lt (k := 62) (by decide) (by omega)) (by decide)⟩
theorem cpow_w {i j : Int} (h : 0 ≤ j) (h' : j ≤ 1000) (hi : i.natAbs < 1000) : CPow i j := ⟨h, by omega, Nat.lt_trans hi (by decide)⟩

/-! ### the deck: [cells, seed, turns] -/
structure Deck (μ : Mem) (a c : Addr) (t : Int) : Prop where
  ne : c ≠ a
  at_ : ∃ seed turns : Int, μ a = some (.ml [.obj c, .int seed, .int turns]) ∧ 0 ≤ turns ∧ turns ≤ t
  cells : ∃ ns : List Int, μ c = some (.ml (ns.map .int)) ∧ ns.length ≤ 63
theorem Deck.mono {μ : Mem} {a c : Addr} {t t' : Int} (h : Deck μ a c t) (ht : t ≤ t') : Deck μ a c t' := by
  obtain ⟨n, ⟨s, u, h1, h2, h3⟩, k⟩ := h
  exact ⟨n, ⟨s, u, h1, h2, by omega⟩, k⟩
/-- all but the deck is as before -/
def Fr (a c : Addr) (μ μ' : Mem) : Prop := ∀ b mo, b ≠ a → b ≠ c → μ b = some mo → μ' b = some mo
theorem Fr.refl (a c : Addr) (μ : Mem) : Fr a c μ μ := fun _ _ _ _ h => h
theorem Fr.trans {a c : Addr} {μ μ' μ'' : Mem} (h : Fr a c μ μ') (k : Fr a c μ' μ'') : Fr a c μ μ'' := fun b mo h1 h2 h3 => k b mo h1 h2 (h b mo h1 h2 h3)
theorem Deck.new {μ : Mem} {a c p : Addr} {t : Int} {o : MO} (h : Deck μ a c t) (hp : μ p = none) : Deck (put μ p o) a c t := by
  obtain ⟨n, ⟨s, u, h1, h2, h3⟩, ns, h4, h5⟩ := h
  refine ⟨n, ⟨s, u, ?_, h2, h3⟩, ns, ?_, h5⟩
  · rw [put_ne (by intro e; subst e; rw [h1] at hp; cases hp)]; exact h1
  · rw [put_ne (by intro e; subst e; rw [h4] at hp; cases hp)]; exact h4
theorem Fr.new {a c p : Addr} {μ : Mem} {o : MO} (hp : μ p = none) : Fr a c μ (put μ p o) := fun b mo _ _ h => by
  rw [put_ne (by intro e; subst e; rw [hp] at h; cases h)]; exact h
/-- another object changes -/
theorem Deck.put {μ : Mem} {a c p : Addr} {t : Int} {o : MO} (h : Deck μ a c t) (h1 : p ≠ a) (h2 : p ≠ c) : Deck (put μ p o) a c t := by
  obtain ⟨n, ⟨s, u, k1, k2, k3⟩, ns, k4, k5⟩ := h
  refine ⟨n, ⟨s, u, ?_, k2, k3⟩, ns, ?_, k5⟩
  · rw [put_ne (Ne.symm h1)]; exact k1
  · rw [put_ne (Ne.symm h2)]; exact k4
theorem gd_ints : ∀ ns : List Int, pyL (ns.map D.int) = some (ns.map PyData.int) ∧ PyData.canLayAll0 (ns.map PyData.int) = true ∧ PyData.depthAll (ns.map PyData.int) = 0
  | [] => ⟨rfl, rfl, rfl⟩
  | n :: r => by
    obtain ⟨a, b, c⟩ := gd_ints r
    refine ⟨?_, ?_, ?_⟩
    · show pyL (.int n :: r.map D.int) = _
      unfold pyL; rw [a]; rfl
    · show (true && _) = true
      rw [b]; rfl
    · show max 0 _ = 0
      rw [c]; rfl
/-- a list of numbers against [] -/
theorem ne_nil_w {f : Bool → Bool} {c : Addr} {ns : List Int} {μ : Mem} {Q : D → Mem → Prop} {E : XD} (h : μ c = some (.ml (ns.map .int))) (q : Q (.bl (f (decide (ns = [])))) μ) : eqA f (.obj c) (.lst []) μ Q E := by
  refine eqA_of ?_
  unfold eqW
  show W.bnd (W.opt (pyM μ (.obj c))) _ μ Q E
  obtain ⟨h1, h2, h3⟩ := gd_ints ns
  have e : pyM μ (.obj c) = some (.list (ns.map .int)) := by
    unfold pyM
    simp only [h, h1]
    rfl
  rw [e]
  refine ⟨⟨?_, rfl⟩, ?_⟩
  · unfold SeqAt.shaped
    show (PyData.canLayAll0 _ && decide (PyData.depthAll _ + 1 ≤ 64)) = true
    rw [h2, h3]; rfl
  · have : PyData.eqv (.list (ns.map .int)) (toPy (.lst [])) = decide (ns = []) := by
      cases ns <;> rfl
    show Q (.bl (f (PyData.eqv (.list (ns.map .int)) (.list [])))) μ
    rw [show PyData.eqv (.list (ns.map .int)) (.list []) = decide (ns = []) from this]
    exact q
theorem last_map {ns : List Int} (h : ns ≠ []) : (ns.map D.int)[(ns.map D.int).length - 1]? = some (.int (ns.getLast h)) ∧ (ns.map D.int).dropLast = (ns.dropLast).map D.int := by
  refine ⟨?_, by simp⟩
  rw [List.length_map, List.getElem?_map, ← List.getLast?_eq_getElem?, List.getLast?_eq_some_getLast h]
  rfl

/-! ### one step of an operation, on what is known -/
def onL (o : Option MO) (f : List D → Prop) : Prop := match o with
  | some (.ml ds) => f ds
  | _ => False
theorem onL_ml (ds : List D) (f : List D → Prop) : onL (some (.ml ds)) f = f ds := (Eq.refl _).trans rfl
theorem addD_ii (i j : Int) : addD (.int i) (.int j) = W.ret (.int (i + j)) := (Eq.refl _).trans rfl
theorem addD_ss (a b : Str) : addD (.str a) (.str b) = W.req (a.length + b.length ≤ sizeLine) (W.ret (.str (a ++ b))) := (Eq.refl _).trans rfl
theorem addD_tt (a b : List D) : addD (.tup a) (.tup b) = W.req (a.length + b.length ≤ sizeLine) (W.ret (.tup (a ++ b))) := (Eq.refl _).trans rfl
theorem addD_ll (a b : List D) : addD (.lst a) (.lst b) = W.req (a.length + b.length ≤ sizeLine) (W.ret (.lst (a ++ b))) := (Eq.refl _).trans rfl
theorem addD_ol {p : Addr} {b : List D} {μ : Mem} {Q : D → Mem → Prop} {E : XD} : addD (.obj p) (.lst b) μ Q E = onL (μ p) fun a => (a.length + b.length ≤ sizeLine ∧ Q (.lst (a ++ b)) μ) := by
  show W.bnd (W.opt (lsOf (.obj p) μ)) _ μ Q E = _
  unfold lsOf onL
  dsimp only
  cases μ p with
  | none => rfl
  | some o => cases o <;> rfl
theorem subD_ii (i j : Int) : subD (.int i) (.int j) = W.ret (.int (i - j)) := (Eq.refl _).trans rfl
theorem mulAD_ii (i j : Int) : mulAD (.int i) (.int j) = W.req (CMul i j) (W.ret (.int (i * j))) := (Eq.refl _).trans rfl
theorem divD_ii (i j : Int) : divD (.int i) (.int j) = W.req (CDivW i j) (W.ret (.int (i / j))) := (Eq.refl _).trans rfl
theorem modD_ii (i j : Int) : modD (.int i) (.int j) = W.req (0 < j) (W.ret (.int (i % j))) := (Eq.refl _).trans rfl
theorem powD_ii (i j : Int) : powD (.int i) (.int j) = W.req (CPow i j) (W.ret (.int (i ^ j.toNat))) := (Eq.refl _).trans rfl
theorem negD_i (i : Int) : negD (.int i) = W.ret (.int (-i)) := (Eq.refl _).trans rfl
theorem cmp_ii (p : Int → Int → Bool) (q : List Nat → List Nat → Bool) (i j : Int) : cmpI p q (.int i) (.int j) = W.ret (.bl (p i j)) := (Eq.refl _).trans rfl
theorem cmp_ss (p : Int → Int → Bool) (q : List Nat → List Nat → Bool) (i j : Str) : cmpI p q (.str i) (.str j) = W.ret (.bl (q i.cps.toList j.cps.toList)) := (Eq.refl _).trans rfl
theorem isN_w (f : Bool → Bool) (x : D) : isND f x .non = W.ret (.bl (f (DL.isNon x))) := (Eq.refl _).trans rfl
theorem isNon_non : DL.isNon .non = true := (Eq.refl _).trans rfl
theorem isNon_int (i : Int) : DL.isNon (.int i) = false := (Eq.refl _).trans rfl
theorem isNon_str (i : Str) : DL.isNon (.str i) = false := (Eq.refl _).trans rfl
theorem isNon_tup (i : List D) : DL.isNon (.tup i) = false := (Eq.refl _).trans rfl
theorem ix_tup (ds : List D) (k : Int) (μ : Mem) (Q : D → Mem → Prop) (E : XD) : ixD (.tup ds) (.int k) μ Q E = W.opt (atI ds k) μ Q E := propext ⟨fun h => h, fun h => h⟩
theorem ix_lst (ds : List D) (k : Int) (μ : Mem) (Q : D → Mem → Prop) (E : XD) : ixD (.lst ds) (.int k) μ Q E = W.opt (atI ds k) μ Q E := propext ⟨fun h => h, fun h => h⟩
theorem ix_str (s : Str) (k : Int) (μ : Mem) (Q : D → Mem → Prop) (E : XD) : ixD (.str s) (.int k) μ Q E = (s.length ≤ sizeLine ∧ W.opt (atI s.cps.toList k) μ (fun c μ' => Q (.str ⟨#[c]⟩) μ') E) := propext ⟨fun h => h, fun h => h⟩
theorem ix_obj {a : Addr} {k : Int} {μ : Mem} {Q : D → Mem → Prop} {E : XD} : ixD (.obj a) (.int k) μ Q E = onL (μ a) fun ds => W.opt (atI ds k) μ Q E := by
  show W.bnd (W.opt (sqOf (.obj a) μ)) _ μ Q E = _
  unfold sqOf lsOf onL
  dsimp only
  cases μ a with
  | none => rfl
  | some o => cases o <;> rfl
theorem atI_0 {α : Type} (x : α) (r : List α) : atI (x :: r) 0 = some x := by
  unfold atI ixN
  rw [if_pos (by decide), if_pos (by simp only [List.length_cons]; omega)]
  rfl
theorem atI_1 {α : Type} (x y : α) (r : List α) : atI (x :: y :: r) 1 = some y := by
  unfold atI ixN
  rw [if_pos (by decide), if_pos (by simp only [List.length_cons]; omega)]
  rfl
theorem atI_2 {α : Type} (x y z : α) (r : List α) : atI (x :: y :: z :: r) 2 = some z := by
  unfold atI ixN
  rw [if_pos (by decide), if_pos (by simp only [List.length_cons]; omega)]
  rfl
theorem atI_3 {α : Type} (x y z u : α) (r : List α) : atI (x :: y :: z :: u :: r) 3 = some u := by
  unfold atI ixN
  rw [if_pos (by decide), if_pos (by simp only [List.length_cons]; omega)]
  rfl
theorem atI_nat {α : Type} (xs : List α) (k : Int) (h : 0 ≤ k) (h' : k < xs.length) : ∃ x, atI xs k = some x ∧ xs[k.toNat]? = some x ∧ x ∈ xs := by
  unfold atI ixN
  rw [if_pos h, if_pos h']
  have hk : k.toNat < xs.length := by omega
  refine ⟨xs[k.toNat], ?_, List.getElem?_eq_getElem hk, List.getElem_mem hk⟩
  show xs[k.toNat]? = _
  exact List.getElem?_eq_getElem hk
theorem len_tup (ds : List D) (μ : Mem) (Q : D → Mem → Prop) (E : XD) : lenD [.tup ds] μ Q E = Q (.int ds.length) μ := propext ⟨fun h => h, fun h => h⟩
theorem len_lst (ds : List D) (μ : Mem) (Q : D → Mem → Prop) (E : XD) : lenD [.lst ds] μ Q E = Q (.int ds.length) μ := propext ⟨fun h => h, fun h => h⟩
theorem len_str (ds : Str) (μ : Mem) (Q : D → Mem → Prop) (E : XD) : lenD [.str ds] μ Q E = (ds.length ≤ sizeLine ∧ Q (.int ds.length) μ) := propext ⟨fun h => h, fun h => h⟩
theorem len_obj {a : Addr} {μ : Mem} {Q : D → Mem → Prop} {E : XD} : lenD [.obj a] μ Q E = onL (μ a) fun ds => Q (.int ds.length) μ := by
  show W.bnd (W.opt (sqOf (.obj a) μ)) _ μ Q E = _
  unfold sqOf lsOf onL
  dsimp only
  cases μ a with
  | none => rfl
  | some o => cases o <;> rfl
theorem ty_obj {a : Addr} {μ : Mem} : tyD "list" (.obj a) μ = onL (μ a) fun _ => True := by
  unfold tyD onL
  simp only
  cases μ a with
  | none => rfl
  | some o => cases o <;> simp
theorem ty_str {s : Str} {μ : Mem} : tyD "str" (.str s) μ = True := by
  unfold tyD
  exact eq_true rfl
theorem ty_lst {s : List D} {μ : Mem} : tyD "list" (.lst s) μ = True := by
  unfold tyD
  exact eq_true rfl
theorem append_obj {a : Addr} {x : D} {μ : Mem} {Q : D → Mem → Prop} {E : XD} : appendD (.obj a) [x] μ Q E = onL (μ a) fun ds => (ds.length < sizeLine ∧ Q .non (put μ a (.ml (ds ++ [x])))) := by
  show W.bnd (W.opt (mlOf (.obj a) μ)) _ μ Q E = _
  unfold mlOf onL
  dsimp only
  cases μ a with
  | none => rfl
  | some o => cases o <;> rfl
theorem pop_obj {a : Addr} {μ : Mem} {Q : D → Mem → Prop} {E : XD} : popD (.obj a) [] μ Q E = onL (μ a) fun ds => W.opt ds[ds.length - 1]? μ (fun y _ => Q y (put μ a (.ml ds.dropLast))) E := by
  show W.bnd (W.opt (mlOf (.obj a) μ)) _ μ Q E = _
  unfold mlOf onL
  dsimp only
  cases μ a with
  | none => rfl
  | some o =>
    cases o with
    | md _ => rfl
    | ml ds =>
      show W.bnd (W.opt ds[ds.length - 1]?) _ μ Q E = W.opt ds[ds.length - 1]? μ (fun y _ => Q y (put μ a (.ml ds.dropLast))) E
      cases ds[ds.length - 1]? <;> rfl
theorem set_obj {a : Addr} {k : Int} {x : D} {μ : Mem} {Q : Unit → Mem → Prop} {E : XD} : setD (.obj a) (.int k) x μ Q E = onL (μ a) fun ds => W.opt (ixN ds.length k) μ (fun j _ => Q () (put μ a (.ml (ds.set j x)))) E := by
  show W.bnd (W.opt (mlOf (.obj a) μ)) _ μ Q E = _
  unfold mlOf onL
  dsimp only
  cases μ a with
  | none => rfl
  | some o =>
    cases o with
    | md _ => rfl
    | ml ds =>
      show W.bnd (W.opt (ixN ds.length k)) _ μ Q E = W.opt (ixN ds.length k) μ (fun j _ => Q () (put μ a (.ml (ds.set j x)))) E
      cases ixN ds.length k <;> rfl
theorem ixN_3_2 : ixN 3 2 = some 2 := by decide
theorem opt_s {α : Type} (x : α) (μ : Mem) (Q : α → Mem → Prop) (E : XD) : W.opt (some x) μ Q E = Q x μ := propext ⟨fun h => h, fun h => h⟩
theorem tuple_obj {a : Addr} {μ : Mem} {Q : D → Mem → Prop} {E : XD} : tupleD [.obj a] μ Q E = onL (μ a) fun ds => Q (.tup ds) μ := by
  show W.bnd (W.opt (sqOf (.obj a) μ)) _ μ Q E = _
  unfold sqOf lsOf onL
  dsimp only
  cases μ a with
  | none => rfl
  | some o => cases o <;> rfl
theorem tuple_lst (ds : List D) (μ : Mem) (Q : D → Mem → Prop) (E : XD) : tupleD [.lst ds] μ Q E = Q (.tup ds) μ := propext ⟨fun h => h, fun h => h⟩
theorem list_tup (ds : List D) (μ : Mem) (Q : D → Mem → Prop) (E : XD) : listD [.tup ds] μ Q E = Q (.lst ds) μ := propext ⟨fun h => h, fun h => h⟩
theorem list_lst (ds : List D) (μ : Mem) (Q : D → Mem → Prop) (E : XD) : listD [.lst ds] μ Q E = Q (.lst ds) μ := propext ⟨fun h => h, fun h => h⟩
theorem sl_str (s : Str) (lo hi : Option Int) (μ : Mem) (Q : D → Mem → Prop) (E : XD) : slD (.str s) lo hi μ Q E = (s.length ≤ sizeLine ∧ Q (.str (cutS s lo hi)) μ) := propext ⟨fun h => h, fun h => h⟩
theorem sl_tup (ds : List D) (lo hi : Option Int) (μ : Mem) (Q : D → Mem → Prop) (E : XD) : slD (.tup ds) lo hi μ Q E = Q (.tup (cutD ds lo hi)) μ := propext ⟨fun h => h, fun h => h⟩
theorem sl_lst (ds : List D) (lo hi : Option Int) (μ : Mem) (Q : D → Mem → Prop) (E : XD) : slD (.lst ds) lo hi μ Q E = Q (.lst (cutD ds lo hi)) μ := propext ⟨fun h => h, fun h => h⟩
theorem rev_tup (ds : List D) (μ : Mem) (Q : D → Mem → Prop) (E : XD) : revTD (.tup ds) μ Q E = Q (.tup ds.reverse) μ := propext ⟨fun h => h, fun h => h⟩
theorem revM_lst (ds : List D) (μ : Mem) (Q : D → Mem → Prop) (E : XD) : revMD (.lst ds) μ Q E = ∀ p, μ p = none → Q (.obj p) (put μ p (.ml ds.reverse)) := propext ⟨fun h => h, fun h => h⟩
theorem int_bl (b : Bool) : DL.intD [.bl b] = W.ret (.int (if b then 1 else 0)) := (Eq.refl _).trans rfl
theorem sum_lst (ns : List Int) (μ : Mem) (Q : D → Mem → Prop) (E : XD) : sumD [.lst (ns.map .int)] μ Q E = Q (.int ns.sum) μ := by
  show W.bnd (W.opt (intsOf (ns.map D.int))) _ μ Q E = _
  have : ∀ ns : List Int, intsOf (ns.map D.int) = some ns := fun ns => by
    induction ns with
    | nil => rfl
    | cons n r ih =>
      show (intsOf (r.map D.int)).map (n :: ·) = _
      rw [ih]; rfl
  rw [this]
  rfl
theorem it_tup (ds : List D) (ρ : Rho) (m : Rho → W D) (μ : Mem) (Q : ItD → Mem → Prop) (E : XD) (h : m ρ = W.ret (.tup ds)) : iSeq m ρ μ Q E = Q ⟨ds, fun _ => True⟩ μ := by
  unfold iSeq
  rw [h]
  rfl
theorem it_lst (ds : List D) (ρ : Rho) (m : Rho → W D) (μ : Mem) (Q : ItD → Mem → Prop) (E : XD) (h : m ρ = W.ret (.lst ds)) : iSeq m ρ μ Q E = Q ⟨ds, fun _ => True⟩ μ := by
  unfold iSeq
  rw [h]
  rfl
theorem rg_w (j : Int) (ρ : Rho) (ms : Rho → W (List D)) (μ : Mem) (Q : ItD → Mem → Prop) (E : XD) (h : ms ρ = W.ret [.int j]) : iRg1 ms ρ μ Q E = ((-(2 ^ 62) ≤ j ∧ j < 2 ^ 62) ∧ Q ⟨rangeL 0 j.toNat, fun _ => True⟩ μ) := by
  unfold iRg1
  rw [h]
  rfl

/-- [te for x in items if tt], for one name -/
theorem elc_nm {mi : Rho → W ItD} {i : Nat} {tt : Rho → W Bool} {te : Rho → W D} {vs : List Nat} {ρ : Rho} {μ : Mem} {Q : D → Mem → Prop} {E : XD} {items : List D} {chk : Mem → Prop} (c : D → Bool) (f : D → D)
    (hmi : ∀ R : ItD → Mem → Prop, R ⟨items, chk⟩ μ → mi ρ μ R E) (hz : items.length < sizeLine) (hc : ∀ p acc, μ p = none → chk (put μ p (.ml acc)))
    (ht : ∀ x ∈ items, ∀ p acc, μ p = none → ∀ R : Bool → Mem → Prop, R (c x) (put μ p (.ml acc)) → tt ((wipeD ρ vs).set i (some x)) (put μ p (.ml acc)) R E)
    (he : ∀ x ∈ items, c x = true → ∀ p acc, μ p = none → ∀ R : D → Mem → Prop, R (f x) (put μ p (.ml acc)) → te ((wipeD ρ vs).set i (some x)) (put μ p (.ml acc)) R E)
    (q : Q (.lst ((items.filter c).map f)) μ) : eLc mi (gNm i) tt te vs ρ μ Q E := by
  unfold eLc
  refine hmi _ fun p hp => ?_
  refine lc_w c f hp Q items [] (by simpa using hz) (fun acc => hc p acc hp) (fun x hx acc R hR => ?_) (by simpa using q)
  exact hR _ (fun R' => ht x hx p acc hp R') (fun e R' => he x hx e p acc hp R')
/-- .. for two names of a pair -/
theorem elc_pr {mi : Rho → W ItD} {i j : Nat} {tt : Rho → W Bool} {te : Rho → W D} {vs : List Nat} {ρ : Rho} {μ : Mem} {Q : D → Mem → Prop} {E : XD} {items : List D} {chk : Mem → Prop} (c : D → Bool) (f : D → D)
    (hmi : ∀ R : ItD → Mem → Prop, R ⟨items, chk⟩ μ → mi ρ μ R E) (hz : items.length < sizeLine) (hc : ∀ p acc, μ p = none → chk (put μ p (.ml acc)))
    (h2 : ∀ x ∈ items, ∃ a b, x = .tup [a, b])
    (ht : ∀ a b, .tup [a, b] ∈ items → ∀ p acc, μ p = none → ∀ R : Bool → Mem → Prop, R (c (.tup [a, b])) (put μ p (.ml acc)) → tt (((wipeD ρ vs).set i (some a)).set j (some b)) (put μ p (.ml acc)) R E)
    (he : ∀ a b, .tup [a, b] ∈ items → c (.tup [a, b]) = true → ∀ p acc, μ p = none → ∀ R : D → Mem → Prop, R (f (.tup [a, b])) (put μ p (.ml acc)) → te (((wipeD ρ vs).set i (some a)).set j (some b)) (put μ p (.ml acc)) R E)
    (q : Q (.lst ((items.filter c).map f)) μ) : eLc mi (gTp 2 (gsCons (gNm i) (gsCons (gNm j) gsNil))) tt te vs ρ μ Q E := by
  unfold eLc
  refine hmi _ fun p hp => ?_
  refine lc_w c f hp Q items [] (by simpa using hz) (fun acc => hc p acc hp) (fun x hx acc R hR => ?_) (by simpa using q)
  obtain ⟨a, b, rfl⟩ := h2 x hx
  exact ⟨rfl, hR _ (fun R' => ht a b hx p acc hp R') (fun e R' => he a b hx e p acc hp R')⟩
theorem cut_all {α : Type} {ds : List α} {k : Int} (h : (ds.length : Int) ≤ k) : cutD ds none (some k) = ds := by
  refine cut_whole ⟨rfl, ?_⟩
  show (if k < 0 then (k + (ds.length : Int)).toNat else min k.toNat ds.length) = ds.length
  rw [if_neg (by omega)]
  omega
/-- an item of a list -/
theorem ix_in {ds : List D} {k : Int} {μ : Mem} {Q : D → Mem → Prop} {E : XD} (h0 : 0 ≤ k) (h1 : k < ds.length) (q : ∀ d, d ∈ ds → ds[k.toNat]? = some d → Q d μ) : W.opt (atI ds k) μ Q E := by
  obtain ⟨x, e, e', m⟩ := atI_nat ds k h0 h1
  rw [e]
  exact q x m e'
end DL

/-! DLx: what each combinator asks, as an equality of propositions: printed by mkx.py -/
namespace DL
open PySem PySem.Spec PyProof.Rows L2
theorem x_bnd {μ : Mem} {E : XD} {α β : Type} {m : W α} {f : α → W β} {Q : β → Mem → Prop} : (W.bnd m f μ Q E) = (m μ (fun a μ1 => f a μ1 Q E) E) := propext ⟨fun h => h, fun h => h⟩
theorem x_ret {μ : Mem} {E : XD} {α : Type} {a : α} {Q : α → Mem → Prop} : (W.ret a μ Q E) = (Q a μ) := propext ⟨fun h => h, fun h => h⟩
theorem x_req {μ : Mem} {E : XD} {α : Type} {p : Prop} {m : W α} {Q : α → Mem → Prop} : (W.req p m μ Q E) = (p ∧ m μ Q E) := propext ⟨fun h => h, fun h => h⟩
theorem x_get {μ : Mem} {E : XD} {Q : Mem → Mem → Prop} : (W.get μ Q E) = (Q μ μ) := propext ⟨fun h => h, fun h => h⟩
theorem x_opt {μ : Mem} {E : XD} {α : Type} {a : α} {Q : α → Mem → Prop} : (W.opt (some a) μ Q E) = (Q a μ) := propext ⟨fun h => h, fun h => h⟩
theorem x_seq {μ : Mem} {E : XD} {ρ : Rho} {Q : Out → Mem → Prop} {a b : Rho → W Out} : (sSeq a b ρ μ Q E) = (a ρ μ (fun o μ1 => outSeq b o μ1 Q E) E) := propext ⟨fun h => h, fun h => h⟩
theorem x_on {μ : Mem} {E : XD} {ρ : Rho} {Q : Out → Mem → Prop} {b : Rho → W Out} : (outSeq b (.nx ρ) μ Q E) = (b ρ μ Q E) := propext ⟨fun h => h, fun h => h⟩
theorem x_or {μ : Mem} {E : XD} {Q : Out → Mem → Prop} {b : Rho → W Out} {d : D} : (outSeq b (.rt d) μ Q E) = (Q (.rt d) μ) := propext ⟨fun h => h, fun h => h⟩
theorem x_ob {μ : Mem} {E : XD} {Q : Out → Mem → Prop} {b : Rho → W Out} {r : Rho} : (outSeq b (.bk r) μ Q E) = (Q (.bk r) μ) := propext ⟨fun h => h, fun h => h⟩
theorem x_oc {μ : Mem} {E : XD} {Q : Out → Mem → Prop} {b : Rho → W Out} {r : Rho} : (outSeq b (.ct r) μ Q E) = (Q (.ct r) μ) := propext ⟨fun h => h, fun h => h⟩
theorem x_nil {μ : Mem} {E : XD} {ρ : Rho} {Q : Out → Mem → Prop} : (sNil ρ μ Q E) = (Q (.nx ρ) μ) := propext ⟨fun h => h, fun h => h⟩
theorem x_rt {μ : Mem} {E : XD} {ρ : Rho} {Q : Out → Mem → Prop} {m : Rho → W D} : (sRet m ρ μ Q E) = (m ρ μ (fun d μ1 => Q (.rt d) μ1) E) := propext ⟨fun h => h, fun h => h⟩
theorem x_rtN {μ : Mem} {E : XD} {ρ : Rho} {Q : Out → Mem → Prop} : (sRetN ρ μ Q E) = (Q (.rt .non) μ) := propext ⟨fun h => h, fun h => h⟩
theorem x_drop {μ : Mem} {E : XD} {ρ : Rho} {Q : Out → Mem → Prop} {m : Rho → W D} : (sDrop m ρ μ Q E) = (m ρ μ (fun _ μ1 => Q (.nx ρ) μ1) E) := propext ⟨fun h => h, fun h => h⟩
theorem x_break {μ : Mem} {E : XD} {ρ : Rho} {Q : Out → Mem → Prop} : (sBreak ρ μ Q E) = (Q (.bk ρ) μ) := propext ⟨fun h => h, fun h => h⟩
theorem x_cont {μ : Mem} {E : XD} {ρ : Rho} {Q : Out → Mem → Prop} : (sCont ρ μ Q E) = (Q (.ct ρ) μ) := propext ⟨fun h => h, fun h => h⟩
theorem ite_w {α : Type} {k : Bool} {a b : W α} {μ : Mem} {Q : α → Mem → Prop} {E : XD} : (if k = true then a else b) μ Q E = (if k = true then a μ Q E else b μ Q E) := by
  cases k <;> rfl
theorem x_if {μ : Mem} {E : XD} {ρ : Rho} {Q : Out → Mem → Prop} {t : Rho → W Bool} {a b : Rho → W Out} : (sIf t a b ρ μ Q E) = (t ρ μ (fun k μ1 => if k = true then a ρ μ1 Q E else b ρ μ1 Q E) E) := by
  unfold sIf W.bnd
  simp only [ite_w]
theorem x_ift {μ : Mem} {E : XD} {ρ : Rho} {Q : Out → Mem → Prop} {a b : Prop} : (if true = true then a else b) = (a) := if_pos rfl
theorem x_iff {μ : Mem} {E : XD} {ρ : Rho} {Q : Out → Mem → Prop} {a b : Prop} : (if false = true then a else b) = (b) := if_neg (by decide)
theorem x_set {μ : Mem} {E : XD} {ρ : Rho} {Q : Out → Mem → Prop} {m : Rho → W D} {i : Nat} : (sSet i m ρ μ Q E) = (m ρ μ (fun d μ1 => Q (.nx (ρ.set i (some d))) μ1) E) := propext ⟨fun h => h, fun h => h⟩
theorem x_asg {μ : Mem} {E : XD} {ρ : Rho} {Q : Out → Mem → Prop} {m : Rho → W D} {g : D → Rho → W Rho} : (sAsg m g ρ μ Q E) = (m ρ μ (fun d μ1 => g d ρ μ1 (fun r μ2 => Q (.nx r) μ2) E) E) := propext ⟨fun h => h, fun h => h⟩
theorem x_par2 {μ : Mem} {E : XD} {ρ : Rho} {Q : Out → Mem → Prop} {a b : Rho → W D} {i j : Nat} : (sPar2 i j (aCons a (aCons b aNil)) ρ μ Q E) = (a ρ μ (fun x μ1 => b ρ μ1 (fun y μ2 => Q (.nx ((ρ.set i (some x)).set j (some y))) μ2) E) E) := propext ⟨fun h => h, fun h => h⟩
theorem x_par3 {μ : Mem} {E : XD} {ρ : Rho} {Q : Out → Mem → Prop} {a b : Rho → W D} {c : Rho → W D} {i j l : Nat} : (sPar3 i j l (aCons a (aCons b (aCons c aNil))) ρ μ Q E) = (a ρ μ (fun x μ1 => b ρ μ1 (fun y μ2 => c ρ μ2 (fun z μ3 => Q (.nx (((ρ.set i (some x)).set j (some y)).set l (some z))) μ3) E) E) E) := propext ⟨fun h => h, fun h => h⟩
theorem x_for {μ : Mem} {E : XD} {ρ : Rho} {Q : Out → Mem → Prop} {mi : Rho → W ItD} {g : D → Rho → W Rho} {body : Rho → W Out} : (sFor mi g body ρ μ Q E) = (mi ρ μ (fun it μ1 => forW it.chk g body it.items ρ μ1 Q E) E) := propext ⟨fun h => h, fun h => h⟩
theorem x_v0 {μ : Mem} {E : XD} {ρ : Rho} {Q : D → Mem → Prop} {d : D} : (eVar 0 (some d :: ρ) μ Q E) = (Q d μ) := propext ⟨fun h => h, fun h => h⟩
theorem x_vS {μ : Mem} {E : XD} {ρ : Rho} {Q : D → Mem → Prop} {n : Nat} {o : Option D} : (eVar (n + 1) (o :: ρ) μ Q E) = (eVar n ρ μ Q E) := propext ⟨fun h => h, fun h => h⟩
theorem x_c {μ : Mem} {E : XD} {ρ : Rho} {Q : D → Mem → Prop} {d : D} : (eC d ρ μ Q E) = (Q d μ) := propext ⟨fun h => h, fun h => h⟩
theorem x_bin {μ : Mem} {E : XD} {ρ : Rho} {Q : D → Mem → Prop} {a b : Rho → W D} {g : D → D → W D} : (eBin g a b ρ μ Q E) = (a ρ μ (fun x μ1 => b ρ μ1 (fun y μ2 => g x y μ2 Q E) E) E) := propext ⟨fun h => h, fun h => h⟩
theorem x_un {μ : Mem} {E : XD} {ρ : Rho} {Q : D → Mem → Prop} {m : Rho → W D} {g : D → W D} : (eUn g m ρ μ Q E) = (m ρ μ (fun x μ1 => g x μ1 Q E) E) := propext ⟨fun h => h, fun h => h⟩
def onB (d : D) (f : Bool → Prop) : Prop := match d with
  | .bl b => f b
  | _ => False
theorem onB_bl {b : Bool} {f : Bool → Prop} : onB (.bl b) f = f b := propext ⟨fun h => h, fun h => h⟩
def onI (d : D) (f : Int → Prop) : Prop := match d with
  | .int b => f b
  | _ => False
theorem onI_int {b : Int} {f : Int → Prop} : onI (.int b) f = f b := propext ⟨fun h => h, fun h => h⟩
theorem x_tbin {μ : Mem} {E : XD} {ρ : Rho} {Q : Bool → Mem → Prop} {a b : Rho → W D} {g : D → D → W D} : (tBin g a b ρ μ Q E) = (a ρ μ (fun x μ1 => b ρ μ1 (fun y μ2 => g x y μ2 (fun d μ3 => onB d fun k => Q k μ3) E) E) E) := by
  unfold tBin eBin W.bnd
  dsimp only
  congr 1
  funext x μ1
  congr 1
  funext y μ2
  congr 1
  funext d μ3
  cases d <;> rfl
theorem x_tru {μ : Mem} {E : XD} {ρ : Rho} {Q : Bool → Mem → Prop} {m : Rho → W D} : (tTru m ρ μ Q E) = (m ρ μ (fun d μ1 => truD d μ1 Q E) E) := propext ⟨fun h => h, fun h => h⟩
theorem x_trb {μ : Mem} {E : XD} {Q : Bool → Mem → Prop} {b : Bool} : (truD (.bl b) μ Q E) = (Q b μ) := propext ⟨fun h => h, fun h => h⟩
theorem x_not {μ : Mem} {E : XD} {ρ : Rho} {Q : Bool → Mem → Prop} {t : Rho → W Bool} : (tNotW t ρ μ Q E) = (t ρ μ (fun k μ1 => Q (!k) μ1) E) := propext ⟨fun h => h, fun h => h⟩
theorem x_tand {μ : Mem} {E : XD} {ρ : Rho} {Q : Bool → Mem → Prop} {s t : Rho → W Bool} : (tAndW s t ρ μ Q E) = (s ρ μ (fun k μ1 => if k = true then t ρ μ1 Q E else Q false μ1) E) := by
  unfold tAndW W.bnd
  simp only [ite_w]
  rfl
theorem x_tor {μ : Mem} {E : XD} {ρ : Rho} {Q : Bool → Mem → Prop} {s t : Rho → W Bool} : (tOrW s t ρ μ Q E) = (s ρ μ (fun k μ1 => if k = true then Q true μ1 else t ρ μ1 Q E) E) := by
  unfold tOrW W.bnd
  simp only [ite_w]
  rfl
theorem x_and {μ : Mem} {E : XD} {ρ : Rho} {Q : D → Mem → Prop} {a b : Rho → W D} : (eAnd a b ρ μ Q E) = (a ρ μ (fun x μ1 => truD x μ1 (fun k μ2 => if k = true then b ρ μ2 Q E else Q x μ2) E) E) := by
  unfold eAnd W.bnd
  simp only [ite_w]
  rfl
theorem x_orE {μ : Mem} {E : XD} {ρ : Rho} {Q : D → Mem → Prop} {a b : Rho → W D} : (eOr a b ρ μ Q E) = (a ρ μ (fun x μ1 => truD x μ1 (fun k μ2 => if k = true then Q x μ2 else b ρ μ2 Q E) E) E) := by
  unfold eOr W.bnd
  simp only [ite_w]
  rfl
theorem x_notE {μ : Mem} {E : XD} {ρ : Rho} {Q : D → Mem → Prop} {a : Rho → W D} : (eNot a ρ μ Q E) = (a ρ μ (fun x μ1 => truD x μ1 (fun k μ2 => Q (.bl (!k)) μ2) E) E) := propext ⟨fun h => h, fun h => h⟩
theorem x_ifE {μ : Mem} {E : XD} {ρ : Rho} {Q : D → Mem → Prop} {a b : Rho → W D} {t : Rho → W Bool} : (eIf t a b ρ μ Q E) = (t ρ μ (fun k μ1 => if k = true then a ρ μ1 Q E else b ρ μ1 Q E) E) := by
  unfold eIf W.bnd
  simp only [ite_w]
theorem x_tup {μ : Mem} {E : XD} {ρ : Rho} {Q : D → Mem → Prop} {ms : Rho → W (List D)} : (eTup ms ρ μ Q E) = (ms ρ μ (fun ds μ1 => ds.length ≤ sizeLine ∧ Q (.tup ds) μ1) E) := propext ⟨fun h => h, fun h => h⟩
theorem x_lst {μ : Mem} {E : XD} {ρ : Rho} {Q : D → Mem → Prop} {ms : Rho → W (List D)} : (eLst ms ρ μ Q E) = (ms ρ μ (fun ds μ1 => ds.length ≤ sizeLine ∧ Q (.lst ds) μ1) E) := propext ⟨fun h => h, fun h => h⟩
theorem x_lstM {μ : Mem} {E : XD} {ρ : Rho} {Q : D → Mem → Prop} {ms : Rho → W (List D)} : (eLstM ms ρ μ Q E) = (ms ρ μ (fun ds μ1 => ds.length ≤ sizeLine ∧ ∀ p, μ1 p = none → Q (.obj p) (put μ1 p (.ml ds))) E) := propext ⟨fun h => h, fun h => h⟩
theorem x_anil {μ : Mem} {E : XD} {ρ : Rho} {Q : List D → Mem → Prop} : (aNil ρ μ Q E) = (Q [] μ) := propext ⟨fun h => h, fun h => h⟩
theorem x_acons {μ : Mem} {E : XD} {ρ : Rho} {Q : List D → Mem → Prop} {ms : Rho → W (List D)} {m : Rho → W D} : (aCons m ms ρ μ Q E) = (m ρ μ (fun x μ1 => ms ρ μ1 (fun xs μ2 => Q (x :: xs) μ2) E) E) := propext ⟨fun h => h, fun h => h⟩
theorem x_call {μ : Mem} {E : XD} {ρ : Rho} {Q : D → Mem → Prop} {ms : Rho → W (List D)} {g : List D → W D} : (eCall g ms ρ μ Q E) = (ms ρ μ (fun ds μ1 => g ds μ1 Q E) E) := propext ⟨fun h => h, fun h => h⟩
theorem x_callD {μ : Mem} {E : XD} {ρ : Rho} {Q : D → Mem → Prop} {ms : Rho → W (List D)} {n : Nat} {g : List D → W D} : (eCallD n g ms ρ μ Q E) = (ms ρ μ (fun ds μ1 => ds.length = n ∧ g ds μ1 Q E) E) := propext ⟨fun h => h, fun h => h⟩
theorem x_callK {μ : Mem} {E : XD} {ρ : Rho} {Q : D → Mem → Prop} {ms : Rho → W (List D)} {is : List Nat} {n : Nat} {g : List D → W D} : (eCallK is n g ms ρ μ Q E) = (ms ρ μ (fun ds μ1 => (pick is ds).length = n ∧ g (pick is ds) μ1 Q E) E) := propext ⟨fun h => h, fun h => h⟩
theorem x_meth {μ : Mem} {E : XD} {ρ : Rho} {Q : D → Mem → Prop} {ms : Rho → W (List D)} {m : Rho → W D} {T : String} {g : D → List D → W D} : (eMeth T g m ms ρ μ Q E) = (m ρ μ (fun o μ1 => tyD T o μ1 ∧ ms ρ μ1 (fun as μ2 => g o as μ2 Q E) E) E) := propext ⟨fun h => h, fun h => h⟩
theorem x_sl {μ : Mem} {E : XD} {ρ : Rho} {Q : D → Mem → Prop} {m : Rho → W D} {lo hi : Rho → W (Option Int)} : (eSl m lo hi ρ μ Q E) = (m ρ μ (fun x μ1 => lo ρ μ1 (fun i μ2 => hi ρ μ2 (fun j μ3 => slD x i j μ3 Q E) E) E) E) := propext ⟨fun h => h, fun h => h⟩
theorem x_oN {μ : Mem} {E : XD} {ρ : Rho} {Q : Option Int → Mem → Prop} : (oNone ρ μ Q E) = (Q none μ) := propext ⟨fun h => h, fun h => h⟩
theorem x_oS {μ : Mem} {E : XD} {ρ : Rho} {m : Rho → W D} {Q : Option Int → Mem → Prop} : (oSome m ρ μ Q E) = (m ρ μ (fun d μ1 => onI d fun i => Q (some i) μ1) E) := by
  unfold oSome W.bnd
  dsimp only
  congr 1
  funext d μ1
  cases d <;> rfl
theorem x_gn {μ : Mem} {E : XD} {ρ : Rho} {Q : Rho → Mem → Prop} {i : Nat} {d : D} : (gNm i d ρ μ Q E) = (Q (ρ.set i (some d)) μ) := propext ⟨fun h => h, fun h => h⟩
theorem x_gt {μ : Mem} {E : XD} {ρ : Rho} {Q : Rho → Mem → Prop} {n : Nat} {ds : List D} {gs : List D → Rho → W Rho} : (gTp n gs (.tup ds) ρ μ Q E) = (ds.length = n ∧ gs ds ρ μ Q E) := propext ⟨fun h => h, fun h => h⟩
theorem x_gc {μ : Mem} {E : XD} {ρ : Rho} {Q : Rho → Mem → Prop} {d : D} {ds : List D} {g : D → Rho → W Rho} {gs : List D → Rho → W Rho} : (gsCons g gs (d :: ds) ρ μ Q E) = (g d ρ μ (fun r μ1 => gs ds r μ1 Q E) E) := propext ⟨fun h => h, fun h => h⟩
theorem x_g0 {μ : Mem} {E : XD} {ρ : Rho} {Q : Rho → Mem → Prop} : (gsNil [] ρ μ Q E) = (Q ρ μ) := propext ⟨fun h => h, fun h => h⟩
theorem x_gi {μ : Mem} {E : XD} {ρ : Rho} {Q : Rho → Mem → Prop} {a b : Rho → W D} {d : D} : (gIx a b d ρ μ Q E) = (a ρ μ (fun o μ1 => b ρ μ1 (fun i μ2 => setD o i d μ2 (fun _ μ3 => Q ρ μ3) E) E) E) := propext ⟨fun h => h, fun h => h⟩
def onO (o : Out) (f : D → Prop) : Prop := match o with
  | .nx _ => f .non
  | .rt d => f d
  | _ => False
theorem onO_nx {ρ : Rho} {f : D → Prop} : onO (.nx ρ) f = f .non := propext ⟨fun h => h, fun h => h⟩
theorem onO_rt {d : D} {f : D → Prop} : onO (.rt d) f = f d := propext ⟨fun h => h, fun h => h⟩
theorem x_body {μ : Mem} {E : XD} {Q : D → Mem → Prop} {n : Nat} {b : Rho → W Out} {ds : List D} : (bodyD n b ds μ Q E) = (b (startD n ds) μ (fun o μ1 => onO o fun d => Q d μ1) E) := by
  unfold bodyD W.bnd
  dsimp only
  congr 1
  funext o μ1
  cases o <;> rfl
theorem x_yes {μ : Mem} {E : XD} {ρ : Rho} {Q : Bool → Mem → Prop} : (tsYes ρ μ Q E) = (Q true μ) := propext ⟨fun h => h, fun h => h⟩
theorem x_add {μ : Mem} {E : XD} {Q : D → Mem → Prop} {i j : Int} : (addD (.int i) (.int j) μ Q E) = (Q (.int (i + j)) μ) := propext ⟨fun h => h, fun h => h⟩
theorem x_addS {μ : Mem} {E : XD} {Q : D → Mem → Prop} {a b : Str} : (addD (.str a) (.str b) μ Q E) = (a.length + b.length ≤ sizeLine ∧ Q (.str (a ++ b)) μ) := propext ⟨fun h => h, fun h => h⟩
theorem x_addT {μ : Mem} {E : XD} {Q : D → Mem → Prop} {a b : List D} : (addD (.tup a) (.tup b) μ Q E) = (a.length + b.length ≤ sizeLine ∧ Q (.tup (a ++ b)) μ) := propext ⟨fun h => h, fun h => h⟩
theorem x_addL {μ : Mem} {E : XD} {Q : D → Mem → Prop} {a b : List D} : (addD (.lst a) (.lst b) μ Q E) = (a.length + b.length ≤ sizeLine ∧ Q (.lst (a ++ b)) μ) := propext ⟨fun h => h, fun h => h⟩
theorem x_sub {μ : Mem} {E : XD} {Q : D → Mem → Prop} {i j : Int} : (subD (.int i) (.int j) μ Q E) = (Q (.int (i - j)) μ) := propext ⟨fun h => h, fun h => h⟩
theorem x_mul {μ : Mem} {E : XD} {Q : D → Mem → Prop} {i j : Int} : (mulAD (.int i) (.int j) μ Q E) = (CMul i j ∧ Q (.int (i * j)) μ) := propext ⟨fun h => h, fun h => h⟩
theorem x_div {μ : Mem} {E : XD} {Q : D → Mem → Prop} {i j : Int} : (divD (.int i) (.int j) μ Q E) = (CDivW i j ∧ Q (.int (i / j)) μ) := propext ⟨fun h => h, fun h => h⟩
theorem x_mod {μ : Mem} {E : XD} {Q : D → Mem → Prop} {i j : Int} : (modD (.int i) (.int j) μ Q E) = (0 < j ∧ Q (.int (i % j)) μ) := propext ⟨fun h => h, fun h => h⟩
theorem x_pow {μ : Mem} {E : XD} {Q : D → Mem → Prop} {i j : Int} : (powD (.int i) (.int j) μ Q E) = (CPow i j ∧ Q (.int (i ^ j.toNat)) μ) := propext ⟨fun h => h, fun h => h⟩
theorem x_neg {μ : Mem} {E : XD} {Q : D → Mem → Prop} {i : Int} : (negD (.int i) μ Q E) = (Q (.int (-i)) μ) := propext ⟨fun h => h, fun h => h⟩
theorem x_cmp {μ : Mem} {E : XD} {Q : D → Mem → Prop} {i j : Int} {p : Int → Int → Bool} {q : List Nat → List Nat → Bool} : (cmpI p q (.int i) (.int j) μ Q E) = (Q (.bl (p i j)) μ) := propext ⟨fun h => h, fun h => h⟩
theorem x_cmpS {μ : Mem} {E : XD} {Q : D → Mem → Prop} {i j : Str} {p : Int → Int → Bool} {q : List Nat → List Nat → Bool} : (cmpI p q (.str i) (.str j) μ Q E) = (Q (.bl (q i.cps.toList j.cps.toList)) μ) := propext ⟨fun h => h, fun h => h⟩
theorem x_isN {μ : Mem} {E : XD} {Q : D → Mem → Prop} {x : D} {f : Bool → Bool} : (isND f x .non μ Q E) = (Q (.bl (f (DL.isNon x))) μ) := propext ⟨fun h => h, fun h => h⟩
theorem x_mmL {μ : Mem} {E : XD} {Q : D → Mem → Prop} {f : D → List D → D} {d : D} {r : List D} : (mmD f [.lst (d :: r)] μ Q E) = (OneSort (d :: r) ∧ Q (f d r) μ) := propext ⟨fun h => h, fun h => h⟩
theorem x_mm2 {μ : Mem} {E : XD} {Q : D → Mem → Prop} {f : D → List D → D} {x y : D} : (mmD f [x, y] μ Q E) = (OneSort [x, y] ∧ Q (f x [y]) μ) := propext ⟨fun h => h, fun h => h⟩
theorem x_eqS {μ : Mem} {E : XD} {Q : D → Mem → Prop} {f : Bool → Bool} {a b : Str} : (eqA f (.str a) (.str b) μ Q E) = (Q (.bl (f (a == b))) μ) := propext ⟨fun h => h, fun h => h⟩
theorem x_eqI {μ : Mem} {E : XD} {Q : D → Mem → Prop} {f : Bool → Bool} {i j : Int} : (eqA f (.int i) (.int j) μ Q E) = (Q (.bl (f (decide (i = j)))) μ) := propext ⟨fun h => h, fun h => h⟩
theorem x_intb {μ : Mem} {E : XD} {Q : D → Mem → Prop} {b : Bool} : (DL.intD [.bl b] μ Q E) = (Q (.int (if b then 1 else 0)) μ) := propext ⟨fun h => h, fun h => h⟩
end DL

/-! DLy: comprehensions whose parts draw; a list times a number; slices of objects -/
namespace DL
open PySem PySem.Spec PyProof.Rows L2

theorem x_mulL {μ : Mem} {E : XD} {Q : D → Mem → Prop} {xs : List D} {k : Int} : mulAD (.lst xs) (.int k) μ Q E = ((-(2 ^ 62) ≤ k ∧ k < 2 ^ 62 ∧ xs.length * k.toNat ≤ sizeLine) ∧ Q (.lst (List.replicate k.toNat xs).flatten) μ) := propext ⟨fun h => h, fun h => h⟩
theorem sl_obj {a : Addr} {lo hi : Option Int} {μ : Mem} {Q : D → Mem → Prop} {E : XD} : slD (.obj a) lo hi μ Q E = onL (μ a) fun ds => Q (.lst (cutD ds lo hi)) μ := by
  show W.bnd (W.opt (lsOf (.obj a) μ)) _ μ Q E = _
  unfold lsOf onL
  dsimp only
  cases μ a with
  | none => rfl
  | some o => cases o <;> rfl
theorem x_rg1 {m : Rho → W D} {ρ : Rho} {μ : Mem} {Q : ItD → Mem → Prop} {E : XD} : iRg1 (aCons m aNil) ρ μ Q E = m ρ μ (fun d μ1 => onI d fun j => ((-(2 ^ 62) ≤ j ∧ j < 2 ^ 62) ∧ Q ⟨rangeL 0 j.toNat, fun _ => True⟩ μ1)) E := by
  unfold iRg1 W.bnd aCons W.bnd
  dsimp only
  congr 1
  funext d μ1
  cases d <;> rfl
theorem x_lcI {mi : Rho → W ItD} {g : D → Rho → W Rho} {tt : Rho → W Bool} {te : Rho → W D} {vs : List Nat} {ρ : Rho} {μ : Mem} {Q : D → Mem → Prop} {E : XD} : eLc mi g tt te vs ρ μ Q E = mi ρ μ (fun it μ1 => eLc (fun _ => W.ret it) g tt te vs ρ μ1 Q E) E := propext ⟨fun h => h, fun h => h⟩
def onIt (d : D) (μ : Mem) (f : ItD → Prop) : Prop := match d with
  | .lst ds => f ⟨ds, fun _ => True⟩
  | .tup ds => f ⟨ds, fun _ => True⟩
  | .obj a => onL (μ a) fun ds => f ⟨ds, fun μ' => μ' a = some (.ml ds)⟩
  | _ => False
theorem onIt_lst {ds : List D} {μ : Mem} {f : ItD → Prop} : onIt (.lst ds) μ f = f ⟨ds, fun _ => True⟩ := propext ⟨fun h => h, fun h => h⟩
theorem onIt_tup {ds : List D} {μ : Mem} {f : ItD → Prop} : onIt (.tup ds) μ f = f ⟨ds, fun _ => True⟩ := propext ⟨fun h => h, fun h => h⟩
theorem onIt_obj {a : Addr} {μ : Mem} {f : ItD → Prop} : onIt (.obj a) μ f = onL (μ a) fun ds => f ⟨ds, fun μ' => μ' a = some (.ml ds)⟩ := propext ⟨fun h => h, fun h => h⟩
theorem x_iseq {m : Rho → W D} {ρ : Rho} {μ : Mem} {Q : ItD → Mem → Prop} {E : XD} : iSeq m ρ μ Q E = m ρ μ (fun d μ1 => onIt d μ1 fun it => Q it μ1) E := by
  unfold iSeq W.bnd
  dsimp only
  congr 1
  funext d μ1
  cases d with
  | obj a =>
    show W.bnd (W.opt (lsOf (.obj a) μ1)) _ μ1 Q E = onL (μ1 a) _
    unfold lsOf onL
    dsimp only
    cases μ1 a with
    | none => rfl
    | some o => cases o <;> rfl
  | _ => rfl
/-- [te for x in items], te with effects beside -/
theorem lc_eff {i : Nat} {te : Rho → W D} {ρ : Rho} {p : Addr} {E : XD} {Q : D → Mem → Prop} {items : List D} (J : Nat → List D → Mem → Prop)
    (hp : ∀ n acc μ', J n acc μ' → μ' p = some (.ml acc) ∧ acc.length < sizeLine)
    (step : ∀ n acc μ' x (R : D → Mem → Prop), items[n]? = some x → J n acc μ' → (∀ d μ'', μ'' p = some (.ml acc) → J (n + 1) (acc ++ [d]) (put μ'' p (.ml (acc ++ [d]))) → R d μ'') → te (ρ.set i (some x)) μ' R E)
    (fin : ∀ acc μ', J items.length acc μ' → Q (.lst acc) (del μ' p)) : ∀ (k n : Nat) (acc : List D) (μ' : Mem), n + k = items.length → J n acc μ' →
      lcW (fun _ => True) (gNm i) tsYes te p ρ (items.drop n) μ' (fun _ μ' => ∃ ds, μ' p = some (.ml ds) ∧ Q (.lst ds) (del μ' p)) E
  | 0, n, acc, μ', hn, h => by
    have : n = items.length := by omega
    subst this
    rw [List.drop_length]
    exact ⟨trivial, acc, (hp _ _ _ h).1, fin acc μ' h⟩
  | k + 1, n, acc, μ', hn, h => by
    have hlt : n < items.length := by omega
    obtain ⟨h1, h2⟩ := hp _ _ _ h
    rw [List.drop_eq_getElem_cons hlt]
    refine ⟨trivial, ?_⟩
    show (if true = true then W.bnd (te (ρ.set i (some items[n]))) (fun d => W.bnd (W.push p d) fun _ => lcW (fun _ => True) (gNm i) tsYes te p ρ (items.drop (n + 1))) else lcW (fun _ => True) (gNm i) tsYes te p ρ (items.drop (n + 1))) μ' _ E
    rw [if_pos rfl]
    refine step n acc μ' items[n] _ (List.getElem?_eq_getElem hlt) h fun d μ'' hm hj => ?_
    show W.bnd (W.push p d) _ μ'' _ E
    unfold W.push
    show (match μ'' p with
      | some (.ml acc) => W.req (acc.length < sizeLine) (W.setL p (acc ++ [d]) (W.ret ()))
      | _ => W.bad) μ'' _ E
    rw [hm]
    refine ⟨h2, ?_⟩
    exact lc_eff J hp step fin k (n + 1) (acc ++ [d]) (put μ'' p (.ml (acc ++ [d]))) (by omega) hj
theorem elc_eff {i : Nat} {te : Rho → W D} {vs : List Nat} {ρ : Rho} {μ : Mem} {E : XD} {Q : D → Mem → Prop} {items : List D} (J : Addr → Nat → List D → Mem → Prop)
    (h0 : ∀ p, μ p = none → J p 0 [] (put μ p (.ml [])))
    (hp : ∀ p n acc μ', J p n acc μ' → μ' p = some (.ml acc) ∧ acc.length < sizeLine)
    (step : ∀ p n acc μ' x (R : D → Mem → Prop), items[n]? = some x → J p n acc μ' → (∀ d μ'', μ'' p = some (.ml acc) → J p (n + 1) (acc ++ [d]) (put μ'' p (.ml (acc ++ [d]))) → R d μ'') → te ((wipeD ρ vs).set i (some x)) μ' R E)
    (fin : ∀ p acc μ', J p items.length acc μ' → Q (.lst acc) (del μ' p)) : eLc (fun _ => W.ret ⟨items, fun _ => True⟩) (gNm i) tsYes te vs ρ μ Q E := by
  intro p hn
  have := lc_eff (J p) (hp p) (step p) (fin p) items.length 0 [] (put μ p (.ml [])) (by omega) (h0 p hn)
  rwa [List.drop_zero] at this
theorem Deck.del {μ : Mem} {a c p : Addr} {t : Int} (h : Deck μ a c t) (h1 : p ≠ a) (h2 : p ≠ c) : Deck (del μ p) a c t := by
  obtain ⟨n, ⟨s, u, k1, k2, k3⟩, ns, k4, k5⟩ := h
  refine ⟨n, ⟨s, u, ?_, k2, k3⟩, ns, ?_, k5⟩
  · unfold DL.del; rw [if_neg (Ne.symm h1)]; exact k1
  · unfold DL.del; rw [if_neg (Ne.symm h2)]; exact k4
theorem Fr.del {a c p : Addr} {μ μ' : Mem} (h : Fr a c μ μ') (hp : μ p = none) : Fr a c μ (del μ' p) := fun b mo h1 h2 h3 => by
  unfold DL.del
  rw [if_neg (by intro e; subst e; rw [hp] at h3; cases h3)]
  exact h b mo h1 h2 h3
end DL

namespace Lk10
open PySem PySem.Spec PyProof.Rows L2 DL
/-! ### the text: printed by gen.py -/
def topS (i : Nat) : Stmt := PySem.Challenge.pw_stillfiles_k10_which_tests_spans_may_mee.main.body.getD i (.Pass ⟨0, 0, 0, 0⟩)
abbrev s__law_deck : Stmt := topS 7
abbrev NN__law_deck : List Str := ["_law_script", "_law_cells", "_law_cell"]
theorem sc__law_deck : FnScope NN__law_deck ["_law_script"] (defScope s__law_deck) := ⟨rfl, rfl, rfl, by decide +kernel, rfl, by decide +kernel, by decide +kernel⟩
theorem vi__law_deck_0 : Vis (defScope s__law_deck) "_law_script" := .inl (by decide +kernel)
theorem lo__law_deck_0 : Loc (defScope s__law_deck) "_law_script" := .inl (by decide +kernel)
theorem ll__law_deck_0 : (defScope s__law_deck).names.lookup ("_law_script" : Str) = some NameKind.local := by decide +kernel
theorem vi__law_deck_1 : Vis (defScope s__law_deck) "_law_cells" := .inl (by decide +kernel)
theorem lo__law_deck_1 : Loc (defScope s__law_deck) "_law_cells" := .inl (by decide +kernel)
theorem ll__law_deck_1 : (defScope s__law_deck).names.lookup ("_law_cells" : Str) = some NameKind.local := by decide +kernel
abbrev s__law_draw : Stmt := topS 8
abbrev NN__law_draw : List Str := ["_law_deck_here", "_law_ways", "_law_cell", "_law_number"]
theorem sc__law_draw : FnScope NN__law_draw ["_law_deck_here", "_law_ways"] (defScope s__law_draw) := ⟨rfl, rfl, rfl, by decide +kernel, rfl, by decide +kernel, by decide +kernel⟩
theorem vi__law_draw_0 : Vis (defScope s__law_draw) "_law_deck_here" := .inl (by decide +kernel)
theorem lo__law_draw_0 : Loc (defScope s__law_draw) "_law_deck_here" := .inl (by decide +kernel)
theorem ll__law_draw_0 : (defScope s__law_draw).names.lookup ("_law_deck_here" : Str) = some NameKind.local := by decide +kernel
theorem vi__law_draw_1 : Vis (defScope s__law_draw) "_law_ways" := .inl (by decide +kernel)
theorem lo__law_draw_1 : Loc (defScope s__law_draw) "_law_ways" := .inl (by decide +kernel)
theorem ll__law_draw_1 : (defScope s__law_draw).names.lookup ("_law_ways" : Str) = some NameKind.local := by decide +kernel
theorem vi__law_draw_2 : Vis (defScope s__law_draw) "_law_cell" := .inl (by decide +kernel)
theorem lo__law_draw_2 : Loc (defScope s__law_draw) "_law_cell" := .inl (by decide +kernel)
theorem ll__law_draw_2 : (defScope s__law_draw).names.lookup ("_law_cell" : Str) = some NameKind.local := by decide +kernel
theorem vi__law_draw_3 : Vis (defScope s__law_draw) "_law_number" := .inl (by decide +kernel)
theorem lo__law_draw_3 : Loc (defScope s__law_draw) "_law_number" := .inl (by decide +kernel)
theorem ll__law_draw_3 : (defScope s__law_draw).names.lookup ("_law_number" : Str) = some NameKind.local := by decide +kernel
abbrev s__law_worth : Stmt := topS 10
abbrev NN__law_worth : List Str := ["_law_deck_here", "_law_kind", "_law_letters", "_law_way", "_law_near", "_law_far", "_law_word", "_law_k"]
theorem sc__law_worth : FnScope NN__law_worth ["_law_deck_here", "_law_kind"] (defScope s__law_worth) := ⟨rfl, rfl, rfl, by decide +kernel, rfl, by decide +kernel, by decide +kernel⟩
theorem vi__law_worth_0 : Vis (defScope s__law_worth) "_law_deck_here" := .inl (by decide +kernel)
theorem lo__law_worth_0 : Loc (defScope s__law_worth) "_law_deck_here" := .inl (by decide +kernel)
theorem ll__law_worth_0 : (defScope s__law_worth).names.lookup ("_law_deck_here" : Str) = some NameKind.local := by decide +kernel
theorem vi__law_worth_1 : Vis (defScope s__law_worth) "_law_kind" := .inl (by decide +kernel)
theorem lo__law_worth_1 : Loc (defScope s__law_worth) "_law_kind" := .inl (by decide +kernel)
theorem ll__law_worth_1 : (defScope s__law_worth).names.lookup ("_law_kind" : Str) = some NameKind.local := by decide +kernel
theorem vi__law_worth_2 : Vis (defScope s__law_worth) "_law_letters" := .inr (.inl (by decide +kernel))
theorem lo__law_worth_2 : Loc (defScope s__law_worth) "_law_letters" := .inr (by decide +kernel)
theorem vi__law_worth_3 : Vis (defScope s__law_worth) "_law_way" := .inl (by decide +kernel)
theorem lo__law_worth_3 : Loc (defScope s__law_worth) "_law_way" := .inl (by decide +kernel)
theorem ll__law_worth_3 : (defScope s__law_worth).names.lookup ("_law_way" : Str) = some NameKind.local := by decide +kernel
theorem vi__law_worth_4 : Vis (defScope s__law_worth) "_law_near" := .inl (by decide +kernel)
theorem lo__law_worth_4 : Loc (defScope s__law_worth) "_law_near" := .inl (by decide +kernel)
theorem ll__law_worth_4 : (defScope s__law_worth).names.lookup ("_law_near" : Str) = some NameKind.local := by decide +kernel
theorem vi__law_worth_5 : Vis (defScope s__law_worth) "_law_far" := .inr (.inl (by decide +kernel))
theorem lo__law_worth_5 : Loc (defScope s__law_worth) "_law_far" := .inr (by decide +kernel)
theorem vi__law_worth_6 : Vis (defScope s__law_worth) "_law_word" := .inl (by decide +kernel)
theorem lo__law_worth_6 : Loc (defScope s__law_worth) "_law_word" := .inl (by decide +kernel)
theorem ll__law_worth_6 : (defScope s__law_worth).names.lookup ("_law_word" : Str) = some NameKind.local := by decide +kernel
abbrev s__law_pick : Stmt := topS 9
abbrev NN__law_pick : List Str := ["_law_deck_here", "_law_some"]
theorem sc__law_pick : FnScope NN__law_pick ["_law_deck_here", "_law_some"] (defScope s__law_pick) := ⟨rfl, rfl, rfl, by decide +kernel, rfl, by decide +kernel, by decide +kernel⟩
theorem vi__law_pick_0 : Vis (defScope s__law_pick) "_law_deck_here" := .inl (by decide +kernel)
theorem lo__law_pick_0 : Loc (defScope s__law_pick) "_law_deck_here" := .inl (by decide +kernel)
theorem ll__law_pick_0 : (defScope s__law_pick).names.lookup ("_law_deck_here" : Str) = some NameKind.local := by decide +kernel
theorem vi__law_pick_1 : Vis (defScope s__law_pick) "_law_some" := .inl (by decide +kernel)
theorem lo__law_pick_1 : Loc (defScope s__law_pick) "_law_some" := .inl (by decide +kernel)
theorem ll__law_pick_1 : (defScope s__law_pick).names.lookup ("_law_some" : Str) = some NameKind.local := by decide +kernel
abbrev s__law_worths : Stmt := topS 11
abbrev NN__law_worths : List Str := ["_law_deck_here", "_law_sort", "_law_many", "_law_blank", "_law_kinds", "_law_found", "_law_k"]
theorem sc__law_worths : FnScope NN__law_worths ["_law_deck_here", "_law_sort"] (defScope s__law_worths) := ⟨rfl, rfl, rfl, by decide +kernel, rfl, by decide +kernel, by decide +kernel⟩
theorem vi__law_worths_0 : Vis (defScope s__law_worths) "_law_deck_here" := .inr (.inl (by decide +kernel))
theorem lo__law_worths_0 : Loc (defScope s__law_worths) "_law_deck_here" := .inr (by decide +kernel)
theorem vi__law_worths_1 : Vis (defScope s__law_worths) "_law_sort" := .inl (by decide +kernel)
theorem lo__law_worths_1 : Loc (defScope s__law_worths) "_law_sort" := .inl (by decide +kernel)
theorem ll__law_worths_1 : (defScope s__law_worths).names.lookup ("_law_sort" : Str) = some NameKind.local := by decide +kernel
theorem vi__law_worths_2 : Vis (defScope s__law_worths) "_law_many" := .inl (by decide +kernel)
theorem lo__law_worths_2 : Loc (defScope s__law_worths) "_law_many" := .inl (by decide +kernel)
theorem ll__law_worths_2 : (defScope s__law_worths).names.lookup ("_law_many" : Str) = some NameKind.local := by decide +kernel
theorem vi__law_worths_3 : Vis (defScope s__law_worths) "_law_blank" := .inl (by decide +kernel)
theorem lo__law_worths_3 : Loc (defScope s__law_worths) "_law_blank" := .inl (by decide +kernel)
theorem ll__law_worths_3 : (defScope s__law_worths).names.lookup ("_law_blank" : Str) = some NameKind.local := by decide +kernel
theorem vi__law_worths_4 : Vis (defScope s__law_worths) "_law_kinds" := .inr (.inl (by decide +kernel))
theorem lo__law_worths_4 : Loc (defScope s__law_worths) "_law_kinds" := .inr (by decide +kernel)
theorem vi__law_worths_5 : Vis (defScope s__law_worths) "_law_found" := .inl (by decide +kernel)
theorem lo__law_worths_5 : Loc (defScope s__law_worths) "_law_found" := .inl (by decide +kernel)
theorem ll__law_worths_5 : (defScope s__law_worths).names.lookup ("_law_found" : Str) = some NameKind.local := by decide +kernel
abbrev s_span_of : Stmt := topS 4
abbrev NN_span_of : List Str := ["number", "worths", "some", "worth"]
theorem sc_span_of : FnScope NN_span_of ["number", "worths"] (defScope s_span_of) := ⟨rfl, rfl, rfl, by decide +kernel, rfl, by decide +kernel, by decide +kernel⟩
theorem vi_span_of_0 : Vis (defScope s_span_of) "number" := .inl (by decide +kernel)
theorem lo_span_of_0 : Loc (defScope s_span_of) "number" := .inl (by decide +kernel)
theorem ll_span_of_0 : (defScope s_span_of).names.lookup ("number" : Str) = some NameKind.local := by decide +kernel
theorem vi_span_of_1 : Vis (defScope s_span_of) "worths" := .inl (by decide +kernel)
theorem lo_span_of_1 : Loc (defScope s_span_of) "worths" := .inl (by decide +kernel)
theorem ll_span_of_1 : (defScope s_span_of).names.lookup ("worths" : Str) = some NameKind.local := by decide +kernel
theorem vi_span_of_2 : Vis (defScope s_span_of) "some" := .inl (by decide +kernel)
theorem lo_span_of_2 : Loc (defScope s_span_of) "some" := .inl (by decide +kernel)
theorem ll_span_of_2 : (defScope s_span_of).names.lookup ("some" : Str) = some NameKind.local := by decide +kernel
abbrev s__law_beside : Stmt := topS 12
abbrev NN__law_beside : List Str := ["_law_worth_here"]
theorem sc__law_beside : FnScope NN__law_beside ["_law_worth_here"] (defScope s__law_beside) := ⟨rfl, rfl, rfl, by decide +kernel, rfl, by decide +kernel, by decide +kernel⟩
theorem vi__law_beside_0 : Vis (defScope s__law_beside) "_law_worth_here" := .inl (by decide +kernel)
theorem lo__law_beside_0 : Loc (defScope s__law_beside) "_law_worth_here" := .inl (by decide +kernel)
theorem ll__law_beside_0 : (defScope s__law_beside).names.lookup ("_law_worth_here" : Str) = some NameKind.local := by decide +kernel
abbrev s__law_tests : Stmt := topS 13
abbrev NN__law_tests : List Str := ["_law_deck_here", "_law_number", "_law_worths_here", "_law_some", "_law_k", "_law_found", "_law_worth_here", "_law_word"]
theorem sc__law_tests : FnScope NN__law_tests ["_law_deck_here", "_law_number", "_law_worths_here"] (defScope s__law_tests) := ⟨rfl, rfl, rfl, by decide +kernel, rfl, by decide +kernel, by decide +kernel⟩
theorem vi__law_tests_0 : Vis (defScope s__law_tests) "_law_deck_here" := .inl (by decide +kernel)
theorem lo__law_tests_0 : Loc (defScope s__law_tests) "_law_deck_here" := .inl (by decide +kernel)
theorem ll__law_tests_0 : (defScope s__law_tests).names.lookup ("_law_deck_here" : Str) = some NameKind.local := by decide +kernel
theorem vi__law_tests_1 : Vis (defScope s__law_tests) "_law_number" := .inr (.inl (by decide +kernel))
theorem lo__law_tests_1 : Loc (defScope s__law_tests) "_law_number" := .inr (by decide +kernel)
theorem vi__law_tests_2 : Vis (defScope s__law_tests) "_law_worths_here" := .inl (by decide +kernel)
theorem lo__law_tests_2 : Loc (defScope s__law_tests) "_law_worths_here" := .inl (by decide +kernel)
theorem ll__law_tests_2 : (defScope s__law_tests).names.lookup ("_law_worths_here" : Str) = some NameKind.local := by decide +kernel
theorem vi__law_tests_3 : Vis (defScope s__law_tests) "_law_some" := .inl (by decide +kernel)
theorem lo__law_tests_3 : Loc (defScope s__law_tests) "_law_some" := .inl (by decide +kernel)
theorem ll__law_tests_3 : (defScope s__law_tests).names.lookup ("_law_some" : Str) = some NameKind.local := by decide +kernel
theorem vi__law_tests_4 : Vis (defScope s__law_tests) "_law_k" := .inl (by decide +kernel)
theorem lo__law_tests_4 : Loc (defScope s__law_tests) "_law_k" := .inl (by decide +kernel)
theorem ll__law_tests_4 : (defScope s__law_tests).names.lookup ("_law_k" : Str) = some NameKind.local := by decide +kernel
theorem vi__law_tests_5 : Vis (defScope s__law_tests) "_law_found" := .inl (by decide +kernel)
theorem lo__law_tests_5 : Loc (defScope s__law_tests) "_law_found" := .inl (by decide +kernel)
theorem ll__law_tests_5 : (defScope s__law_tests).names.lookup ("_law_found" : Str) = some NameKind.local := by decide +kernel
theorem vi__law_tests_6 : Vis (defScope s__law_tests) "_law_worth_here" := .inr (.inl (by decide +kernel))
theorem lo__law_tests_6 : Loc (defScope s__law_tests) "_law_worth_here" := .inr (by decide +kernel)
abbrev s__law_span : Stmt := topS 15
abbrev NN__law_span : List Str := ["_law_deck_here", "_law_sort", "_law_way", "_law_blanks", "_law_kind", "_law_some", "_law_worth_here"]
theorem sc__law_span : FnScope NN__law_span ["_law_deck_here", "_law_sort"] (defScope s__law_span) := ⟨rfl, rfl, rfl, by decide +kernel, rfl, by decide +kernel, by decide +kernel⟩
theorem vi__law_span_0 : Vis (defScope s__law_span) "_law_deck_here" := .inl (by decide +kernel)
theorem lo__law_span_0 : Loc (defScope s__law_span) "_law_deck_here" := .inl (by decide +kernel)
theorem ll__law_span_0 : (defScope s__law_span).names.lookup ("_law_deck_here" : Str) = some NameKind.local := by decide +kernel
theorem vi__law_span_1 : Vis (defScope s__law_span) "_law_sort" := .inl (by decide +kernel)
theorem lo__law_span_1 : Loc (defScope s__law_span) "_law_sort" := .inl (by decide +kernel)
theorem ll__law_span_1 : (defScope s__law_span).names.lookup ("_law_sort" : Str) = some NameKind.local := by decide +kernel
theorem vi__law_span_2 : Vis (defScope s__law_span) "_law_way" := .inl (by decide +kernel)
theorem lo__law_span_2 : Loc (defScope s__law_span) "_law_way" := .inl (by decide +kernel)
theorem ll__law_span_2 : (defScope s__law_span).names.lookup ("_law_way" : Str) = some NameKind.local := by decide +kernel
theorem vi__law_span_3 : Vis (defScope s__law_span) "_law_blanks" := .inl (by decide +kernel)
theorem lo__law_span_3 : Loc (defScope s__law_span) "_law_blanks" := .inl (by decide +kernel)
theorem ll__law_span_3 : (defScope s__law_span).names.lookup ("_law_blanks" : Str) = some NameKind.local := by decide +kernel
theorem vi__law_span_4 : Vis (defScope s__law_span) "_law_kind" := .inl (by decide +kernel)
theorem lo__law_span_4 : Loc (defScope s__law_span) "_law_kind" := .inl (by decide +kernel)
theorem ll__law_span_4 : (defScope s__law_span).names.lookup ("_law_kind" : Str) = some NameKind.local := by decide +kernel
theorem vi__law_span_5 : Vis (defScope s__law_span) "_law_some" := .inl (by decide +kernel)
theorem lo__law_span_5 : Loc (defScope s__law_span) "_law_some" := .inl (by decide +kernel)
theorem ll__law_span_5 : (defScope s__law_span).names.lookup ("_law_some" : Str) = some NameKind.local := by decide +kernel
abbrev s_are_like : Stmt := topS 1
abbrev NN_are_like : List Str := ["one", "other"]
theorem sc_are_like : FnScope NN_are_like ["one", "other"] (defScope s_are_like) := ⟨rfl, rfl, rfl, by decide +kernel, rfl, by decide +kernel, by decide +kernel⟩
theorem vi_are_like_0 : Vis (defScope s_are_like) "one" := .inl (by decide +kernel)
theorem lo_are_like_0 : Loc (defScope s_are_like) "one" := .inl (by decide +kernel)
theorem ll_are_like_0 : (defScope s_are_like).names.lookup ("one" : Str) = some NameKind.local := by decide +kernel
theorem vi_are_like_1 : Vis (defScope s_are_like) "other" := .inl (by decide +kernel)
theorem lo_are_like_1 : Loc (defScope s_are_like) "other" := .inl (by decide +kernel)
theorem ll_are_like_1 : (defScope s_are_like).names.lookup ("other" : Str) = some NameKind.local := by decide +kernel
abbrev s_may_meet : Stmt := topS 5
abbrev NN_may_meet : List Str := ["span", "test", "number", "least", "greatest", "blanks", "column", "word", "due"]
theorem sc_may_meet : FnScope NN_may_meet ["span", "test"] (defScope s_may_meet) := ⟨rfl, rfl, rfl, by decide +kernel, rfl, by decide +kernel, by decide +kernel⟩
theorem vi_may_meet_0 : Vis (defScope s_may_meet) "span" := .inl (by decide +kernel)
theorem lo_may_meet_0 : Loc (defScope s_may_meet) "span" := .inl (by decide +kernel)
theorem ll_may_meet_0 : (defScope s_may_meet).names.lookup ("span" : Str) = some NameKind.local := by decide +kernel
theorem vi_may_meet_1 : Vis (defScope s_may_meet) "test" := .inl (by decide +kernel)
theorem lo_may_meet_1 : Loc (defScope s_may_meet) "test" := .inl (by decide +kernel)
theorem ll_may_meet_1 : (defScope s_may_meet).names.lookup ("test" : Str) = some NameKind.local := by decide +kernel
theorem vi_may_meet_2 : Vis (defScope s_may_meet) "number" := .inl (by decide +kernel)
theorem lo_may_meet_2 : Loc (defScope s_may_meet) "number" := .inl (by decide +kernel)
theorem ll_may_meet_2 : (defScope s_may_meet).names.lookup ("number" : Str) = some NameKind.local := by decide +kernel
theorem vi_may_meet_3 : Vis (defScope s_may_meet) "least" := .inl (by decide +kernel)
theorem lo_may_meet_3 : Loc (defScope s_may_meet) "least" := .inl (by decide +kernel)
theorem ll_may_meet_3 : (defScope s_may_meet).names.lookup ("least" : Str) = some NameKind.local := by decide +kernel
theorem vi_may_meet_4 : Vis (defScope s_may_meet) "greatest" := .inl (by decide +kernel)
theorem lo_may_meet_4 : Loc (defScope s_may_meet) "greatest" := .inl (by decide +kernel)
theorem ll_may_meet_4 : (defScope s_may_meet).names.lookup ("greatest" : Str) = some NameKind.local := by decide +kernel
theorem vi_may_meet_5 : Vis (defScope s_may_meet) "blanks" := .inl (by decide +kernel)
theorem lo_may_meet_5 : Loc (defScope s_may_meet) "blanks" := .inl (by decide +kernel)
theorem ll_may_meet_5 : (defScope s_may_meet).names.lookup ("blanks" : Str) = some NameKind.local := by decide +kernel
theorem vi_may_meet_6 : Vis (defScope s_may_meet) "column" := .inl (by decide +kernel)
theorem lo_may_meet_6 : Loc (defScope s_may_meet) "column" := .inl (by decide +kernel)
theorem ll_may_meet_6 : (defScope s_may_meet).names.lookup ("column" : Str) = some NameKind.local := by decide +kernel
theorem vi_may_meet_7 : Vis (defScope s_may_meet) "word" := .inl (by decide +kernel)
theorem lo_may_meet_7 : Loc (defScope s_may_meet) "word" := .inl (by decide +kernel)
theorem ll_may_meet_7 : (defScope s_may_meet).names.lookup ("word" : Str) = some NameKind.local := by decide +kernel
theorem vi_may_meet_8 : Vis (defScope s_may_meet) "due" := .inl (by decide +kernel)
theorem lo_may_meet_8 : Loc (defScope s_may_meet) "due" := .inl (by decide +kernel)
theorem ll_may_meet_8 : (defScope s_may_meet).names.lookup ("due" : Str) = some NameKind.local := by decide +kernel
abbrev s_meets : Stmt := topS 2
abbrev NN_meets : List Str := ["test", "worth", "column", "word", "due"]
theorem sc_meets : FnScope NN_meets ["test", "worth"] (defScope s_meets) := ⟨rfl, rfl, rfl, by decide +kernel, rfl, by decide +kernel, by decide +kernel⟩
theorem vi_meets_0 : Vis (defScope s_meets) "test" := .inl (by decide +kernel)
theorem lo_meets_0 : Loc (defScope s_meets) "test" := .inl (by decide +kernel)
theorem ll_meets_0 : (defScope s_meets).names.lookup ("test" : Str) = some NameKind.local := by decide +kernel
theorem vi_meets_1 : Vis (defScope s_meets) "worth" := .inl (by decide +kernel)
theorem lo_meets_1 : Loc (defScope s_meets) "worth" := .inl (by decide +kernel)
theorem ll_meets_1 : (defScope s_meets).names.lookup ("worth" : Str) = some NameKind.local := by decide +kernel
theorem vi_meets_2 : Vis (defScope s_meets) "column" := .inl (by decide +kernel)
theorem lo_meets_2 : Loc (defScope s_meets) "column" := .inl (by decide +kernel)
theorem ll_meets_2 : (defScope s_meets).names.lookup ("column" : Str) = some NameKind.local := by decide +kernel
theorem vi_meets_3 : Vis (defScope s_meets) "word" := .inl (by decide +kernel)
theorem lo_meets_3 : Loc (defScope s_meets) "word" := .inl (by decide +kernel)
theorem ll_meets_3 : (defScope s_meets).names.lookup ("word" : Str) = some NameKind.local := by decide +kernel
theorem vi_meets_4 : Vis (defScope s_meets) "due" := .inl (by decide +kernel)
theorem lo_meets_4 : Loc (defScope s_meets) "due" := .inl (by decide +kernel)
theorem ll_meets_4 : (defScope s_meets).names.lookup ("due" : Str) = some NameKind.local := by decide +kernel
abbrev s__law_sound : Stmt := topS 17
abbrev NN__law_sound : List Str := ["_law_stretch", "_law_worths_here", "_law_tests_here", "_law_trial", "_law_here", "_law_worth_here"]
theorem sc__law_sound : FnScope NN__law_sound ["_law_stretch", "_law_worths_here", "_law_tests_here"] (defScope s__law_sound) := ⟨rfl, rfl, rfl, by decide +kernel, rfl, by decide +kernel, by decide +kernel⟩
theorem vi__law_sound_0 : Vis (defScope s__law_sound) "_law_stretch" := .inl (by decide +kernel)
theorem lo__law_sound_0 : Loc (defScope s__law_sound) "_law_stretch" := .inl (by decide +kernel)
theorem ll__law_sound_0 : (defScope s__law_sound).names.lookup ("_law_stretch" : Str) = some NameKind.local := by decide +kernel
theorem vi__law_sound_1 : Vis (defScope s__law_sound) "_law_worths_here" := .inl (by decide +kernel)
theorem lo__law_sound_1 : Loc (defScope s__law_sound) "_law_worths_here" := .inl (by decide +kernel)
theorem ll__law_sound_1 : (defScope s__law_sound).names.lookup ("_law_worths_here" : Str) = some NameKind.local := by decide +kernel
theorem vi__law_sound_2 : Vis (defScope s__law_sound) "_law_tests_here" := .inl (by decide +kernel)
theorem lo__law_sound_2 : Loc (defScope s__law_sound) "_law_tests_here" := .inl (by decide +kernel)
theorem ll__law_sound_2 : (defScope s__law_sound).names.lookup ("_law_tests_here" : Str) = some NameKind.local := by decide +kernel
theorem vi__law_sound_3 : Vis (defScope s__law_sound) "_law_trial" := .inr (.inl (by decide +kernel))
theorem lo__law_sound_3 : Loc (defScope s__law_sound) "_law_trial" := .inr (by decide +kernel)
theorem vi__law_sound_4 : Vis (defScope s__law_sound) "_law_here" := .inl (by decide +kernel)
theorem lo__law_sound_4 : Loc (defScope s__law_sound) "_law_here" := .inl (by decide +kernel)
theorem ll__law_sound_4 : (defScope s__law_sound).names.lookup ("_law_here" : Str) = some NameKind.local := by decide +kernel
abbrev s__law_may : Stmt := topS 14
abbrev NN__law_may : List Str := ["_law_stretch", "_law_word", "_law_due", "_law_least", "_law_greatest", "_law_blanks"]
theorem sc__law_may : FnScope NN__law_may ["_law_stretch", "_law_word", "_law_due"] (defScope s__law_may) := ⟨rfl, rfl, rfl, by decide +kernel, rfl, by decide +kernel, by decide +kernel⟩
theorem vi__law_may_0 : Vis (defScope s__law_may) "_law_stretch" := .inl (by decide +kernel)
theorem lo__law_may_0 : Loc (defScope s__law_may) "_law_stretch" := .inl (by decide +kernel)
theorem ll__law_may_0 : (defScope s__law_may).names.lookup ("_law_stretch" : Str) = some NameKind.local := by decide +kernel
theorem vi__law_may_1 : Vis (defScope s__law_may) "_law_word" := .inl (by decide +kernel)
theorem lo__law_may_1 : Loc (defScope s__law_may) "_law_word" := .inl (by decide +kernel)
theorem ll__law_may_1 : (defScope s__law_may).names.lookup ("_law_word" : Str) = some NameKind.local := by decide +kernel
theorem vi__law_may_2 : Vis (defScope s__law_may) "_law_due" := .inl (by decide +kernel)
theorem lo__law_may_2 : Loc (defScope s__law_may) "_law_due" := .inl (by decide +kernel)
theorem ll__law_may_2 : (defScope s__law_may).names.lookup ("_law_due" : Str) = some NameKind.local := by decide +kernel
theorem vi__law_may_3 : Vis (defScope s__law_may) "_law_least" := .inl (by decide +kernel)
theorem lo__law_may_3 : Loc (defScope s__law_may) "_law_least" := .inl (by decide +kernel)
theorem ll__law_may_3 : (defScope s__law_may).names.lookup ("_law_least" : Str) = some NameKind.local := by decide +kernel
theorem vi__law_may_4 : Vis (defScope s__law_may) "_law_greatest" := .inl (by decide +kernel)
theorem lo__law_may_4 : Loc (defScope s__law_may) "_law_greatest" := .inl (by decide +kernel)
theorem ll__law_may_4 : (defScope s__law_may).names.lookup ("_law_greatest" : Str) = some NameKind.local := by decide +kernel
theorem vi__law_may_5 : Vis (defScope s__law_may) "_law_blanks" := .inl (by decide +kernel)
theorem lo__law_may_5 : Loc (defScope s__law_may) "_law_blanks" := .inl (by decide +kernel)
theorem ll__law_may_5 : (defScope s__law_may).names.lookup ("_law_blanks" : Str) = some NameKind.local := by decide +kernel
abbrev s__law_right : Stmt := topS 16
abbrev NN__law_right : List Str := ["_law_stretch", "_law_tests_here", "_law_trial", "_law_kept", "_law_due", "_law_named"]
theorem sc__law_right : FnScope NN__law_right ["_law_stretch", "_law_tests_here"] (defScope s__law_right) := ⟨rfl, rfl, rfl, by decide +kernel, rfl, by decide +kernel, by decide +kernel⟩
theorem vi__law_right_0 : Vis (defScope s__law_right) "_law_stretch" := .inl (by decide +kernel)
theorem lo__law_right_0 : Loc (defScope s__law_right) "_law_stretch" := .inl (by decide +kernel)
theorem ll__law_right_0 : (defScope s__law_right).names.lookup ("_law_stretch" : Str) = some NameKind.local := by decide +kernel
theorem vi__law_right_1 : Vis (defScope s__law_right) "_law_tests_here" := .inl (by decide +kernel)
theorem lo__law_right_1 : Loc (defScope s__law_right) "_law_tests_here" := .inl (by decide +kernel)
theorem ll__law_right_1 : (defScope s__law_right).names.lookup ("_law_tests_here" : Str) = some NameKind.local := by decide +kernel
theorem vi__law_right_2 : Vis (defScope s__law_right) "_law_trial" := .inl (by decide +kernel)
theorem lo__law_right_2 : Loc (defScope s__law_right) "_law_trial" := .inl (by decide +kernel)
theorem ll__law_right_2 : (defScope s__law_right).names.lookup ("_law_trial" : Str) = some NameKind.local := by decide +kernel
theorem vi__law_right_3 : Vis (defScope s__law_right) "_law_kept" := .inl (by decide +kernel)
theorem lo__law_right_3 : Loc (defScope s__law_right) "_law_kept" := .inl (by decide +kernel)
theorem ll__law_right_3 : (defScope s__law_right).names.lookup ("_law_kept" : Str) = some NameKind.local := by decide +kernel
theorem vi__law_right_4 : Vis (defScope s__law_right) "_law_due" := .inl (by decide +kernel)
theorem lo__law_right_4 : Loc (defScope s__law_right) "_law_due" := .inl (by decide +kernel)
theorem ll__law_right_4 : (defScope s__law_right).names.lookup ("_law_due" : Str) = some NameKind.local := by decide +kernel
theorem vi__law_right_5 : Vis (defScope s__law_right) "_law_named" := .inl (by decide +kernel)
theorem lo__law_right_5 : Loc (defScope s__law_right) "_law_named" := .inl (by decide +kernel)
theorem ll__law_right_5 : (defScope s__law_right).names.lookup ("_law_named" : Str) = some NameKind.local := by decide +kernel
abbrev s_law : Stmt := topS 18
abbrev NN_law : List Str := ["_law_script", "_law_deck_here", "_law_some", "_law_turn", "_law_sort", "_law_worths_here", "_law_stretch", "_law_tests_here", "_law_made"]
theorem sc_law : FnScope NN_law ["_law_script"] (defScope s_law) := ⟨rfl, rfl, rfl, by decide +kernel, rfl, by decide +kernel, by decide +kernel⟩
theorem vi_law_0 : Vis (defScope s_law) "_law_script" := .inl (by decide +kernel)
theorem lo_law_0 : Loc (defScope s_law) "_law_script" := .inl (by decide +kernel)
theorem ll_law_0 : (defScope s_law).names.lookup ("_law_script" : Str) = some NameKind.local := by decide +kernel
theorem vi_law_1 : Vis (defScope s_law) "_law_deck_here" := .inl (by decide +kernel)
theorem lo_law_1 : Loc (defScope s_law) "_law_deck_here" := .inl (by decide +kernel)
theorem ll_law_1 : (defScope s_law).names.lookup ("_law_deck_here" : Str) = some NameKind.local := by decide +kernel
theorem vi_law_2 : Vis (defScope s_law) "_law_some" := .inl (by decide +kernel)
theorem lo_law_2 : Loc (defScope s_law) "_law_some" := .inl (by decide +kernel)
theorem ll_law_2 : (defScope s_law).names.lookup ("_law_some" : Str) = some NameKind.local := by decide +kernel
theorem vi_law_3 : Vis (defScope s_law) "_law_turn" := .inl (by decide +kernel)
theorem lo_law_3 : Loc (defScope s_law) "_law_turn" := .inl (by decide +kernel)
theorem ll_law_3 : (defScope s_law).names.lookup ("_law_turn" : Str) = some NameKind.local := by decide +kernel
theorem vi_law_4 : Vis (defScope s_law) "_law_sort" := .inl (by decide +kernel)
theorem lo_law_4 : Loc (defScope s_law) "_law_sort" := .inl (by decide +kernel)
theorem ll_law_4 : (defScope s_law).names.lookup ("_law_sort" : Str) = some NameKind.local := by decide +kernel
theorem vi_law_5 : Vis (defScope s_law) "_law_worths_here" := .inl (by decide +kernel)
theorem lo_law_5 : Loc (defScope s_law) "_law_worths_here" := .inl (by decide +kernel)
theorem ll_law_5 : (defScope s_law).names.lookup ("_law_worths_here" : Str) = some NameKind.local := by decide +kernel
theorem vi_law_6 : Vis (defScope s_law) "_law_stretch" := .inl (by decide +kernel)
theorem lo_law_6 : Loc (defScope s_law) "_law_stretch" := .inl (by decide +kernel)
theorem ll_law_6 : (defScope s_law).names.lookup ("_law_stretch" : Str) = some NameKind.local := by decide +kernel
theorem vi_law_7 : Vis (defScope s_law) "_law_tests_here" := .inl (by decide +kernel)
theorem lo_law_7 : Loc (defScope s_law) "_law_tests_here" := .inl (by decide +kernel)
theorem ll_law_7 : (defScope s_law).names.lookup ("_law_tests_here" : Str) = some NameKind.local := by decide +kernel
theorem vi_law_8 : Vis (defScope s_law) "_law_made" := .inl (by decide +kernel)
theorem lo_law_8 : Loc (defScope s_law) "_law_made" := .inl (by decide +kernel)
theorem ll_law_8 : (defScope s_law).names.lookup ("_law_made" : Str) = some NameKind.local := by decide +kernel
theorem nd_0 : (("_law_script" : Str) == ("__debug__" : Str)) = false := by decide +kernel
theorem nc_0 : (("_law_script" : Str) == ("__classdict__" : Str)) = false := by decide +kernel
theorem nd_1 : (("_law_cells" : Str) == ("__debug__" : Str)) = false := by decide +kernel
theorem nc_1 : (("_law_cells" : Str) == ("__classdict__" : Str)) = false := by decide +kernel
theorem nd_2 : (("_law_cell" : Str) == ("__debug__" : Str)) = false := by decide +kernel
theorem nc_2 : (("_law_cell" : Str) == ("__classdict__" : Str)) = false := by decide +kernel
theorem nd_3 : (("_law_deck_here" : Str) == ("__debug__" : Str)) = false := by decide +kernel
theorem nc_3 : (("_law_deck_here" : Str) == ("__classdict__" : Str)) = false := by decide +kernel
theorem nd_4 : (("_law_ways" : Str) == ("__debug__" : Str)) = false := by decide +kernel
theorem nc_4 : (("_law_ways" : Str) == ("__classdict__" : Str)) = false := by decide +kernel
theorem nd_5 : (("_law_number" : Str) == ("__debug__" : Str)) = false := by decide +kernel
theorem nc_5 : (("_law_number" : Str) == ("__classdict__" : Str)) = false := by decide +kernel
theorem nd_6 : (("_law_draw" : Str) == ("__debug__" : Str)) = false := by decide +kernel
theorem nc_6 : (("_law_draw" : Str) == ("__classdict__" : Str)) = false := by decide +kernel
theorem nd_7 : (("_law_near" : Str) == ("__debug__" : Str)) = false := by decide +kernel
theorem nc_7 : (("_law_near" : Str) == ("__classdict__" : Str)) = false := by decide +kernel
theorem nd_8 : (("_law_letters" : Str) == ("__debug__" : Str)) = false := by decide +kernel
theorem nc_8 : (("_law_letters" : Str) == ("__classdict__" : Str)) = false := by decide +kernel
theorem nd_9 : (("_law_far" : Str) == ("__debug__" : Str)) = false := by decide +kernel
theorem nc_9 : (("_law_far" : Str) == ("__classdict__" : Str)) = false := by decide +kernel
theorem nd_10 : (("_law_k" : Str) == ("__debug__" : Str)) = false := by decide +kernel
theorem nc_10 : (("_law_k" : Str) == ("__classdict__" : Str)) = false := by decide +kernel
theorem nd_11 : (("_law_kind" : Str) == ("__debug__" : Str)) = false := by decide +kernel
theorem nc_11 : (("_law_kind" : Str) == ("__classdict__" : Str)) = false := by decide +kernel
theorem nd_12 : (("_law_way" : Str) == ("__debug__" : Str)) = false := by decide +kernel
theorem nc_12 : (("_law_way" : Str) == ("__classdict__" : Str)) = false := by decide +kernel
theorem nd_13 : (("_law_word" : Str) == ("__debug__" : Str)) = false := by decide +kernel
theorem nc_13 : (("_law_word" : Str) == ("__classdict__" : Str)) = false := by decide +kernel
theorem nd_14 : (("_law_some" : Str) == ("__debug__" : Str)) = false := by decide +kernel
theorem nc_14 : (("_law_some" : Str) == ("__classdict__" : Str)) = false := by decide +kernel
theorem nd_15 : (("_law_sort" : Str) == ("__debug__" : Str)) = false := by decide +kernel
theorem nc_15 : (("_law_sort" : Str) == ("__classdict__" : Str)) = false := by decide +kernel
theorem nd_16 : (("_law_many" : Str) == ("__debug__" : Str)) = false := by decide +kernel
theorem nc_16 : (("_law_many" : Str) == ("__classdict__" : Str)) = false := by decide +kernel
theorem nd_17 : (("_law_worth" : Str) == ("__debug__" : Str)) = false := by decide +kernel
theorem nc_17 : (("_law_worth" : Str) == ("__classdict__" : Str)) = false := by decide +kernel
theorem nd_18 : (("_law_pick" : Str) == ("__debug__" : Str)) = false := by decide +kernel
theorem nc_18 : (("_law_pick" : Str) == ("__classdict__" : Str)) = false := by decide +kernel
theorem nd_19 : (("_law_kinds" : Str) == ("__debug__" : Str)) = false := by decide +kernel
theorem nc_19 : (("_law_kinds" : Str) == ("__classdict__" : Str)) = false := by decide +kernel
theorem nd_20 : (("_law_found" : Str) == ("__debug__" : Str)) = false := by decide +kernel
theorem nc_20 : (("_law_found" : Str) == ("__classdict__" : Str)) = false := by decide +kernel
theorem nd_21 : (("_law_blank" : Str) == ("__debug__" : Str)) = false := by decide +kernel
theorem nc_21 : (("_law_blank" : Str) == ("__classdict__" : Str)) = false := by decide +kernel
theorem nd_22 : (("worths" : Str) == ("__debug__" : Str)) = false := by decide +kernel
theorem nc_22 : (("worths" : Str) == ("__classdict__" : Str)) = false := by decide +kernel
theorem nd_23 : (("worth" : Str) == ("__debug__" : Str)) = false := by decide +kernel
theorem nc_23 : (("worth" : Str) == ("__classdict__" : Str)) = false := by decide +kernel
theorem nd_24 : (("some" : Str) == ("__debug__" : Str)) = false := by decide +kernel
theorem nc_24 : (("some" : Str) == ("__classdict__" : Str)) = false := by decide +kernel
theorem nd_25 : (("number" : Str) == ("__debug__" : Str)) = false := by decide +kernel
theorem nc_25 : (("number" : Str) == ("__classdict__" : Str)) = false := by decide +kernel
theorem nd_26 : (("_law_worth_here" : Str) == ("__debug__" : Str)) = false := by decide +kernel
theorem nc_26 : (("_law_worth_here" : Str) == ("__classdict__" : Str)) = false := by decide +kernel
theorem nd_27 : (("_law_worths_here" : Str) == ("__debug__" : Str)) = false := by decide +kernel
theorem nc_27 : (("_law_worths_here" : Str) == ("__classdict__" : Str)) = false := by decide +kernel
theorem nd_28 : (("_law_beside" : Str) == ("__debug__" : Str)) = false := by decide +kernel
theorem nc_28 : (("_law_beside" : Str) == ("__classdict__" : Str)) = false := by decide +kernel
theorem nd_29 : (("_law_blanks" : Str) == ("__debug__" : Str)) = false := by decide +kernel
theorem nc_29 : (("_law_blanks" : Str) == ("__classdict__" : Str)) = false := by decide +kernel
theorem nd_30 : (("one" : Str) == ("__debug__" : Str)) = false := by decide +kernel
theorem nc_30 : (("one" : Str) == ("__classdict__" : Str)) = false := by decide +kernel
theorem nd_31 : (("other" : Str) == ("__debug__" : Str)) = false := by decide +kernel
theorem nc_31 : (("other" : Str) == ("__classdict__" : Str)) = false := by decide +kernel
theorem nd_32 : (("span" : Str) == ("__debug__" : Str)) = false := by decide +kernel
theorem nc_32 : (("span" : Str) == ("__classdict__" : Str)) = false := by decide +kernel
theorem nd_33 : (("test" : Str) == ("__debug__" : Str)) = false := by decide +kernel
theorem nc_33 : (("test" : Str) == ("__classdict__" : Str)) = false := by decide +kernel
theorem nd_34 : (("due" : Str) == ("__debug__" : Str)) = false := by decide +kernel
theorem nc_34 : (("due" : Str) == ("__classdict__" : Str)) = false := by decide +kernel
theorem nd_35 : (("word" : Str) == ("__debug__" : Str)) = false := by decide +kernel
theorem nc_35 : (("word" : Str) == ("__classdict__" : Str)) = false := by decide +kernel
theorem nd_36 : (("blanks" : Str) == ("__debug__" : Str)) = false := by decide +kernel
theorem nc_36 : (("blanks" : Str) == ("__classdict__" : Str)) = false := by decide +kernel
theorem nd_37 : (("are_like" : Str) == ("__debug__" : Str)) = false := by decide +kernel
theorem nc_37 : (("are_like" : Str) == ("__classdict__" : Str)) = false := by decide +kernel
theorem nd_38 : (("least" : Str) == ("__debug__" : Str)) = false := by decide +kernel
theorem nc_38 : (("least" : Str) == ("__classdict__" : Str)) = false := by decide +kernel
theorem nd_39 : (("greatest" : Str) == ("__debug__" : Str)) = false := by decide +kernel
theorem nc_39 : (("greatest" : Str) == ("__classdict__" : Str)) = false := by decide +kernel
theorem nd_40 : (("_law_tests_here" : Str) == ("__debug__" : Str)) = false := by decide +kernel
theorem nc_40 : (("_law_tests_here" : Str) == ("__classdict__" : Str)) = false := by decide +kernel
theorem nd_41 : (("meets" : Str) == ("__debug__" : Str)) = false := by decide +kernel
theorem nc_41 : (("meets" : Str) == ("__classdict__" : Str)) = false := by decide +kernel
theorem nd_42 : (("_law_trial" : Str) == ("__debug__" : Str)) = false := by decide +kernel
theorem nc_42 : (("_law_trial" : Str) == ("__classdict__" : Str)) = false := by decide +kernel
theorem nd_43 : (("_law_here" : Str) == ("__debug__" : Str)) = false := by decide +kernel
theorem nc_43 : (("_law_here" : Str) == ("__classdict__" : Str)) = false := by decide +kernel
theorem nd_44 : (("may_meet" : Str) == ("__debug__" : Str)) = false := by decide +kernel
theorem nc_44 : (("may_meet" : Str) == ("__classdict__" : Str)) = false := by decide +kernel
theorem nd_45 : (("_law_stretch" : Str) == ("__debug__" : Str)) = false := by decide +kernel
theorem nc_45 : (("_law_stretch" : Str) == ("__classdict__" : Str)) = false := by decide +kernel
theorem nd_46 : (("_law_due" : Str) == ("__debug__" : Str)) = false := by decide +kernel
theorem nc_46 : (("_law_due" : Str) == ("__classdict__" : Str)) = false := by decide +kernel
theorem nd_47 : (("_law_least" : Str) == ("__debug__" : Str)) = false := by decide +kernel
theorem nc_47 : (("_law_least" : Str) == ("__classdict__" : Str)) = false := by decide +kernel
theorem nd_48 : (("_law_greatest" : Str) == ("__debug__" : Str)) = false := by decide +kernel
theorem nc_48 : (("_law_greatest" : Str) == ("__classdict__" : Str)) = false := by decide +kernel
theorem nd_49 : (("_law_may" : Str) == ("__debug__" : Str)) = false := by decide +kernel
theorem nc_49 : (("_law_may" : Str) == ("__classdict__" : Str)) = false := by decide +kernel
theorem nd_50 : (("_law_named" : Str) == ("__debug__" : Str)) = false := by decide +kernel
theorem nc_50 : (("_law_named" : Str) == ("__classdict__" : Str)) = false := by decide +kernel
theorem nd_51 : (("_law_kept" : Str) == ("__debug__" : Str)) = false := by decide +kernel
theorem nc_51 : (("_law_kept" : Str) == ("__classdict__" : Str)) = false := by decide +kernel
theorem nd_52 : (("_law_deck" : Str) == ("__debug__" : Str)) = false := by decide +kernel
theorem nc_52 : (("_law_deck" : Str) == ("__classdict__" : Str)) = false := by decide +kernel
theorem nd_53 : (("_law_worths" : Str) == ("__debug__" : Str)) = false := by decide +kernel
theorem nc_53 : (("_law_worths" : Str) == ("__classdict__" : Str)) = false := by decide +kernel
theorem nd_54 : (("span_of" : Str) == ("__debug__" : Str)) = false := by decide +kernel
theorem nc_54 : (("span_of" : Str) == ("__classdict__" : Str)) = false := by decide +kernel
theorem nd_55 : (("_law_tests" : Str) == ("__debug__" : Str)) = false := by decide +kernel
theorem nc_55 : (("_law_tests" : Str) == ("__classdict__" : Str)) = false := by decide +kernel
theorem nd_56 : (("_law_sound" : Str) == ("__debug__" : Str)) = false := by decide +kernel
theorem nc_56 : (("_law_sound" : Str) == ("__classdict__" : Str)) = false := by decide +kernel
theorem nd_57 : (("_law_span" : Str) == ("__debug__" : Str)) = false := by decide +kernel
theorem nc_57 : (("_law_span" : Str) == ("__classdict__" : Str)) = false := by decide +kernel
theorem nd_58 : (("_law_made" : Str) == ("__debug__" : Str)) = false := by decide +kernel
theorem nc_58 : (("_law_made" : Str) == ("__classdict__" : Str)) = false := by decide +kernel
theorem nd_59 : (("_law_right" : Str) == ("__debug__" : Str)) = false := by decide +kernel
theorem nc_59 : (("_law_right" : Str) == ("__classdict__" : Str)) = false := by decide +kernel
end Lk10

namespace Lk10
open PySem PySem.Spec PyProof.Rows L2 DL
/-! ### the mirrors: printed by gen.py -/
def b__law_deck : Rho → W Out :=
    (sSeq (sSet 1 (eCall listD (aCons (eSl (eVar 0) oNone (oSome (eC (.int 63)))) aNil)))
    (sRet (eLstM (aCons (eUn revMD (eVar 1)) (aCons (eBin addD (eCall sumD (aCons (eLc (iSeq (eVar 1)) (gNm 2) tsYes (eBin modD (eVar 2) (eC (.int 1000033))) [2]) aNil)) (eBin mulAD (eC (.int 8191)) (eCall lenD (aCons (eVar 1) aNil)))) (aCons (eC (.int 0)) aNil))))))
def m__law_deck : List D → W D := bodyD 3 b__law_deck
def b__law_draw : Rho → W Out :=
    (sSeq (sAsg (eBin addD (eBin ixD (eVar 0) (eC (.int 2))) (eC (.int 1))) (gIx (eVar 0) (eC (.int 2))))
    (sSeq (sSet 2 (eBin ixD (eVar 0) (eC (.int 1))))
    (sSeq (sIf (tBin neD (eBin ixD (eVar 0) (eC (.int 0))) (eLst aNil)) (sSeq (sSet 2 (eMeth "list" popD (eBin ixD (eVar 0) (eC (.int 0))) aNil))
    (sIf (tBin geD (eVar 2) (eBin powD (eC (.int 10)) (eC (.int 18)))) (sSeq (sDrop (eMeth "list" appendD (eBin ixD (eVar 0) (eC (.int 0))) (aCons (eBin divD (eVar 2) (eVar 1)) aNil)))
    (sRet (eBin modD (eVar 2) (eVar 1)))) sNil)) sNil)
    (sSeq (sSet 3 (eBin modD (eBin mulAD (eBin addD (eBin addD (eBin modD (eVar 2) (eC (.int 2147483629))) (eBin mulAD (eBin mulAD (eC (.int 86243)) (eBin ixD (eVar 0) (eC (.int 2)))) (eBin ixD (eVar 0) (eC (.int 2))))) (eC (.int 5))) (eC (.int 48271))) (eC (.int 2147483647))))
    (sSeq (sSet 3 (eBin modD (eBin addD (eBin addD (eBin mulAD (eVar 3) (eVar 3)) (eBin mulAD (eC (.int 69621)) (eBin ixD (eVar 0) (eC (.int 2))))) (eC (.int 29))) (eC (.int 2147483587))))
    (sRet (eBin modD (eBin divD (eBin modD (eBin mulAD (eVar 3) (eBin addD (eBin divD (eVar 3) (eC (.int 9))) (eC (.int 40692)))) (eC (.int 2147483563))) (eC (.int 64))) (eVar 1))))))))
def m__law_draw : List D → W D := bodyD 4 b__law_draw
def b__law_worth : Rho → W Out :=
    (sSeq (sSet 2 (eC (.str (PySem.Str.ofString "abcdefghijklmnopqrstuvwxyz"))))
    (sSeq (sAsg (eTup (aCons (eCallD 2 m__law_draw (aCons (eVar 0) (aCons (eC (.int 7)) aNil))) (aCons (eCallD 2 m__law_draw (aCons (eVar 0) (aCons (eC (.int 3)) aNil))) (aCons (eCallD 2 m__law_draw (aCons (eVar 0) (aCons (eC (.int 199)) aNil))) aNil)))) (gTp 3 (gsCons (gNm 3) (gsCons (gNm 4) (gsCons (gNm 5) gsNil)))))
    (sSeq (sSet 6 (eMeth "str" joinD (eC (.str (PySem.Str.ofString ""))) (aCons (eLc (iRg1 (aCons (eBin addD (eC (.int 1)) (eBin mulAD (eVar 4) (eC (.int 3)))) aNil)) (gNm 7) tsYes (eBin ixD (eVar 2) (eBin modD (eBin addD (eVar 5) (eBin mulAD (eC (.int 3)) (eVar 7))) (eC (.int 26)))) [7]) aNil)))
    (sSeq (sIf (tBin eqD (eVar 1) (eC (.str (PySem.Str.ofString "small")))) (sRet (eBin ixD (eLst (aCons (eC .non) (aCons (eC (.int 0)) (aCons (eBin addD (eC (.int 1)) (eVar 4)) (aCons (eBin subD (eUn negD (eC (.int 1))) (eVar 4)) (aCons (eBin subD (eC (.int 99)) (eVar 4)) (aCons (eBin subD (eVar 4) (eC (.int 99))) (aCons (eBin subD (eVar 5) (eC (.int 99))) aNil)))))))) (eVar 3))) sNil)
    (sSeq (sIf (tBin eqD (eVar 1) (eC (.str (PySem.Str.ofString "whole")))) (sRet (eBin ixD (eLst (aCons (eC .non) (aCons (eC (.int 0)) (aCons (eVar 5) (aCons (eBin subD (eUn negD (eC (.int 10))) (eVar 4)) (aCons (eBin subD (eBin powD (eC (.int 10)) (eC (.int 12))) (eVar 4)) (aCons (eBin subD (eVar 4) (eBin powD (eC (.int 10)) (eC (.int 12)))) (aCons (eBin mulAD (eBin subD (eVar 5) (eC (.int 99))) (eBin ixD (eLst (aCons (eC (.int 1)) (aCons (eC (.int 1000)) (aCons (eBin powD (eC (.int 10)) (eC (.int 6))) aNil)))) (eVar 4))) aNil)))))))) (eVar 3))) sNil)
    (sSeq (sIf (tBin eqD (eVar 1) (eC (.str (PySem.Str.ofString "sign")))) (sRet (eBin ixD (eLst (aCons (eC .non) (aCons (eC (.str (PySem.Str.ofString "a"))) (aCons (eC (.str (PySem.Str.ofString "z"))) (aCons (eC (.str (PySem.Str.ofString "b"))) (aCons (eBin ixD (eVar 2) (eBin modD (eVar 5) (eC (.int 26)))) (aCons (eBin ixD (eVar 2) (eVar 4)) (aCons (eBin ixD (eVar 2) (eBin subD (eC (.int 25)) (eVar 4))) aNil)))))))) (eVar 3))) sNil)
    (sRet (eBin ixD (eLst (aCons (eC .non) (aCons (eC (.str (PySem.Str.ofString ""))) (aCons (eC (.str (PySem.Str.ofString "a"))) (aCons (eC (.str (PySem.Str.ofString "ab"))) (aCons (eVar 6) (aCons (eSl (eVar 6) oNone (oSome (eVar 4))) (aCons (eBin addD (eC (.str (PySem.Str.ofString "zzzzzzz"))) (eBin ixD (eVar 2) (eBin modD (eVar 5) (eC (.int 26))))) aNil)))))))) (eVar 3)))))))))
def m__law_worth : List D → W D := bodyD 8 b__law_worth
def b__law_pick : Rho → W Out :=
    (sRet (eBin ixD (eVar 1) (eCallD 2 m__law_draw (aCons (eVar 0) (aCons (eCall lenD (aCons (eVar 1) aNil)) aNil)))))
def m__law_pick : List D → W D := bodyD 2 b__law_pick
def b__law_worths : Rho → W Out :=
    (sSeq (sPar2 2 3 (aCons (eCallD 2 m__law_draw (aCons (eVar 0) (aCons (eC (.int 6)) aNil))) (aCons (eCallD 2 m__law_draw (aCons (eVar 0) (aCons (eC (.int 4)) aNil))) aNil)))
    (sSeq (sSet 4 (eBin ixD (eLst (aCons (eLst (aCons (eC (.str (PySem.Str.ofString "small"))) (aCons (eC (.str (PySem.Str.ofString "whole"))) aNil))) (aCons (eLst (aCons (eC (.str (PySem.Str.ofString "sign"))) (aCons (eC (.str (PySem.Str.ofString "word"))) aNil))) aNil))) (eVar 1)))
    (sSeq (sSet 5 (eLc (iRg1 (aCons (eVar 2) aNil)) (gNm 6) tsYes (eCallD 2 m__law_worth (aCons (eVar 0) (aCons (eCallD 2 m__law_pick (aCons (eVar 0) (aCons (eVar 4) aNil))) aNil))) [6]))
    (sRet (eCall tupleD (aCons (eBin addD (eVar 5) (eBin mulAD (eLst (aCons (eC .non) aNil)) (eBin ixD (eLst (aCons (eC (.int 0)) (aCons (eC (.int 0)) (aCons (eC (.int 1)) (aCons (eC (.int 2)) aNil))))) (eVar 3)))) aNil))))))
def m__law_worths : List D → W D := bodyD 7 b__law_worths
def b_span_of : Rho → W Out :=
    (sSeq (sSet 2 (eLc (iSeq (eVar 1)) (gNm 3) (tBin (isND not) (eVar 3) (eC .non)) (eVar 3) [3]))
    (sSeq (sIf (tBin eqD (eVar 2) (eLst aNil)) (sRet (eTup (aCons (eVar 0) (aCons (eC .non) (aCons (eC .non) (aCons (eCall lenD (aCons (eVar 1) aNil)) aNil)))))) sNil)
    (sRet (eTup (aCons (eVar 0) (aCons (eCall minD (aCons (eVar 2) aNil)) (aCons (eCall maxD (aCons (eVar 2) aNil)) (aCons (eBin subD (eCall lenD (aCons (eVar 1) aNil)) (eCall lenD (aCons (eVar 2) aNil))) aNil))))))))
def m_span_of : List D → W D := bodyD 4 b_span_of
def b__law_beside : Rho → W Out :=
    (sSeq (sIf (tBin (isND id) (eVar 0) (eC .non)) (sRet (eLst (aCons (eC .non) (aCons (eC (.int 0)) (aCons (eC (.str (PySem.Str.ofString ""))) aNil))))) sNil)
    (sSeq (sIf (tTru (eCall isiD (aCons (eVar 0) (aCons (eC (.ty "str")) aNil)))) (sRet (eLst (aCons (eVar 0) (aCons (eSl (eVar 0) oNone (oSome (eUn negD (eC (.int 1))))) (aCons (eSl (eBin addD (eVar 0) (eC (.str (PySem.Str.ofString "a")))) oNone (oSome (eC (.int 8)))) (aCons (eSl (eBin addD (eSl (eVar 0) oNone (oSome (eUn negD (eC (.int 1))))) (eC (.str (PySem.Str.ofString "z")))) oNone (oSome (eC (.int 8)))) aNil)))))) sNil)
    (sRet (eLst (aCons (eVar 0) (aCons (eCall maxD (aCons (eBin subD (eVar 0) (eC (.int 1))) (aCons (eBin subD (eC (.int 0)) (eBin powD (eC (.int 10)) (eC (.int 12)))) aNil))) (aCons (eCall minD (aCons (eBin addD (eVar 0) (eC (.int 1))) (aCons (eBin powD (eC (.int 10)) (eC (.int 12))) aNil))) (aCons (eBin subD (eC (.int 0)) (eVar 0)) aNil))))))))
def m__law_beside : List D → W D := bodyD 1 b__law_beside
def b__law_tests : Rho → W Out :=
    (sSeq (sSet 3 (eLst (aCons (eC (.int 0)) (aCons (eC (.str (PySem.Str.ofString ""))) (aCons (eC .non) (aCons (eCallD 2 m__law_worth (aCons (eVar 0) (aCons (eCallD 2 m__law_pick (aCons (eVar 0) (aCons (eLst (aCons (eC (.str (PySem.Str.ofString "small"))) (aCons (eC (.str (PySem.Str.ofString "word"))) aNil))) aNil))) aNil))) aNil))))))
    (sSeq (sFor (iRg1 (aCons (eBin mulAD (eC (.int 2)) (eCall intD (aCons (eBin neD (eVar 2) (eTup aNil)) aNil))) aNil)) (gNm 4) (sSet 3 (eBin addD (eVar 3) (eCallD 1 m__law_beside (aCons (eBin ixD (eVar 2) (eCallD 2 m__law_draw (aCons (eVar 0) (aCons (eCall lenD (aCons (eVar 2) aNil)) aNil)))) aNil)))))
    (sSeq (sSet 5 (eLst aNil))
    (sSeq (sFor (iSeq (eVar 3)) (gNm 6) (sSet 5 (eBin addD (eVar 5) (eLc (iSeq (eTup (aCons (eC (.str (PySem.Str.ofString "is"))) (aCons (eC (.str (PySem.Str.ofString "below"))) (aCons (eC (.str (PySem.Str.ofString "from"))) aNil))))) (gNm 7) tsYes (eTup (aCons (eVar 1) (aCons (eVar 7) (aCons (eVar 6) aNil)))) [7]))))
    (sRet (eVar 5))))))
def m__law_tests : List D → W D := bodyD 8 b__law_tests
def b__law_span : Rho → W Out :=
    (sSeq (sPar2 2 3 (aCons (eCallD 2 m__law_draw (aCons (eVar 0) (aCons (eC (.int 4)) aNil))) (aCons (eBin ixD (eLst (aCons (eC (.int 0)) (aCons (eC (.int 0)) (aCons (eC (.int 1)) (aCons (eC (.int 12)) aNil))))) (eCallD 2 m__law_draw (aCons (eVar 0) (aCons (eC (.int 4)) aNil)))) aNil)))
    (sSeq (sSet 4 (eBin ixD (eBin ixD (eLst (aCons (eLst (aCons (eC (.str (PySem.Str.ofString "small"))) (aCons (eC (.str (PySem.Str.ofString "whole"))) aNil))) (aCons (eLst (aCons (eC (.str (PySem.Str.ofString "sign"))) (aCons (eC (.str (PySem.Str.ofString "word"))) aNil))) aNil))) (eVar 1)) (eCallD 2 m__law_draw (aCons (eVar 0) (aCons (eC (.int 2)) aNil)))))
    (sSeq (sSet 5 (eLc (iSeq (eLst (aCons (eCallD 2 m__law_worth (aCons (eVar 0) (aCons (eVar 4) aNil))) (aCons (eCallD 2 m__law_worth (aCons (eVar 0) (aCons (eVar 4) aNil))) aNil)))) (gNm 6) (tBin (isND not) (eVar 6) (eC .non)) (eVar 6) [6]))
    (sSeq (sIf (tOrW (tBin eqD (eVar 5) (eLst aNil)) (tBin eqD (eVar 2) (eC (.int 0)))) (sRet (eTup (aCons (eBin addD (eC (.int 1)) (eCallD 2 m__law_draw (aCons (eVar 0) (aCons (eC (.int 99)) aNil)))) (aCons (eC .non) (aCons (eC .non) (aCons (eVar 3) aNil)))))) sNil)
    (sRet (eTup (aCons (eBin addD (eC (.int 1)) (eCallD 2 m__law_draw (aCons (eVar 0) (aCons (eC (.int 99)) aNil)))) (aCons (eCall minD (aCons (eVar 5) aNil)) (aCons (eBin ixD (eLst (aCons (eCall maxD (aCons (eVar 5) aNil)) (aCons (eCall minD (aCons (eVar 5) aNil)) aNil))) (eCall intD (aCons (eBin eqD (eVar 2) (eC (.int 1))) aNil))) (aCons (eVar 3) aNil))))))))))
def m__law_span : List D → W D := bodyD 7 b__law_span
def b_are_like : Rho → W Out :=
    (sSeq (sIf (tOrW (tBin (isND id) (eVar 0) (eC .non)) (tBin (isND id) (eVar 1) (eC .non))) (sRet (eC (.bl false))) sNil)
    (sRet (eBin eqD (eCall isiD (aCons (eVar 0) (aCons (eC (.ty "str")) aNil))) (eCall isiD (aCons (eVar 1) (aCons (eC (.ty "str")) aNil))))))
def m_are_like : List D → W D := bodyD 2 b_are_like
def b_may_meet : Rho → W Out :=
    (sSeq (sAsg (eVar 0) (gTp 4 (gsCons (gNm 2) (gsCons (gNm 3) (gsCons (gNm 4) (gsCons (gNm 5) gsNil))))))
    (sSeq (sAsg (eVar 1) (gTp 3 (gsCons (gNm 6) (gsCons (gNm 7) (gsCons (gNm 8) gsNil)))))
    (sSeq (sIf (tBin (isND id) (eVar 8) (eC .non)) (sRet (eAnd (eBin eqD (eVar 7) (eC (.str (PySem.Str.ofString "is")))) (eBin gtD (eVar 5) (eC (.int 0))))) sNil)
    (sSeq (sIf (tNotW (tTru (eCallD 2 m_are_like (aCons (eVar 3) (aCons (eVar 8) aNil))))) (sRet (eC (.bl false))) sNil)
    (sSeq (sIf (tBin eqD (eVar 7) (eC (.str (PySem.Str.ofString "is")))) (sRet (eChain leD leD (eVar 3) (eVar 8) (eVar 4))) sNil)
    (sRet (eIf (tBin eqD (eVar 7) (eC (.str (PySem.Str.ofString "below")))) (eBin ltD (eVar 3) (eVar 8)) (eBin geD (eVar 4) (eVar 8)))))))))
def m_may_meet : List D → W D := bodyD 9 b_may_meet
def b_meets : Rho → W Out :=
    (sSeq (sAsg (eVar 0) (gTp 3 (gsCons (gNm 2) (gsCons (gNm 3) (gsCons (gNm 4) gsNil)))))
    (sSeq (sIf (tBin eqD (eVar 3) (eC (.str (PySem.Str.ofString "is")))) (sRet (eBin eqD (eVar 1) (eVar 4))) sNil)
    (sSeq (sIf (tNotW (tTru (eCallD 2 m_are_like (aCons (eVar 1) (aCons (eVar 4) aNil))))) (sRet (eC (.bl false))) sNil)
    (sRet (eIf (tBin eqD (eVar 3) (eC (.str (PySem.Str.ofString "below")))) (eBin ltD (eVar 1) (eVar 4)) (eBin geD (eVar 1) (eVar 4)))))))
def m_meets : List D → W D := bodyD 5 b_meets
def b__law_sound : Rho → W Out :=
    (sSeq (sFor (iSeq (eVar 2)) (gNm 3) (sSeq (sSet 4 (eBin neD (eLc (iSeq (eVar 1)) (gNm 5) (tTru (eCallD 2 m_meets (aCons (eVar 3) (aCons (eVar 5) aNil)))) (eVar 5) [5]) (eLst aNil)))
    (sSeq (sIf (tAndW (tTru (eVar 4)) (tNotW (tTru (eCallD 2 m_may_meet (aCons (eVar 0) (aCons (eVar 3) aNil)))))) (sRet (eC (.bl false))) sNil)
    (sIf (tAndW (tTru (eCallD 2 m_may_meet (aCons (eVar 0) (aCons (eVar 3) aNil)))) (tAndW (tNotW (tTru (eVar 4))) (tOrW (tBin neD (eBin ixD (eVar 3) (eC (.int 1))) (eC (.str (PySem.Str.ofString "is")))) (tBin eqD (eBin ixD (eVar 0) (eC (.int 1))) (eBin ixD (eVar 0) (eC (.int 2))))))) (sRet (eC (.bl false))) sNil))))
    (sRet (eC (.bl true))))
def m__law_sound : List D → W D := bodyD 6 b__law_sound
def b__law_may : Rho → W Out :=
    (sSeq (sAsg (eSl (eVar 0) (oSome (eC (.int 1))) oNone) (gTp 3 (gsCons (gNm 3) (gsCons (gNm 4) (gsCons (gNm 5) gsNil)))))
    (sSeq (sIf (tAndW (tBin eqD (eVar 1) (eC (.str (PySem.Str.ofString "is")))) (tBin (isND id) (eVar 2) (eC .non))) (sRet (eBin gtD (eVar 5) (eC (.int 0)))) sNil)
    (sSeq (sIf (tOrW (tBin (isND id) (eVar 3) (eC .non)) (tOrW (tBin (isND id) (eVar 2) (eC .non)) (tBin neD (eCall isiD (aCons (eVar 3) (aCons (eC (.ty "str")) aNil))) (eCall isiD (aCons (eVar 2) (aCons (eC (.ty "str")) aNil)))))) (sRet (eC (.bl false))) sNil)
    (sSeq (sIf (tBin eqD (eVar 1) (eC (.str (PySem.Str.ofString "below")))) (sRet (eBin ltD (eVar 3) (eVar 2))) sNil)
    (sRet (eAnd (eNot (eBin ltD (eVar 4) (eVar 2))) (eOr (eBin eqD (eVar 1) (eC (.str (PySem.Str.ofString "from")))) (eNot (eBin ltD (eVar 2) (eVar 3))))))))))
def m__law_may : List D → W D := bodyD 6 b__law_may
def b__law_right : Rho → W Out :=
    (sSeq (sFor (iSeq (eVar 1)) (gNm 2) (sSeq (sPar2 3 4 (aCons (eCall reprD (aCons (eTup (aCons (eVar 0) (aCons (eVar 2) aNil))) aNil)) (aCons (eCall reprD (aCons (eCallD 3 m__law_may (aCons (eVar 0) (aCons (eBin ixD (eVar 2) (eC (.int 1))) (aCons (eBin ixD (eVar 2) (eC (.int 2))) aNil)))) aNil)) aNil)))
    (sSeq (sSet 5 (eTup (aCons (eC (.str (PySem.Str.ofString "some"))) (aCons (eBin ixD (eVar 2) (eC (.int 1))) (aCons (eBin ixD (eVar 2) (eC (.int 2))) aNil)))))
    (sSeq (sIf (tOrW (tBin neD (eCall reprD (aCons (eCallD 2 m_may_meet (aCons (eVar 0) (aCons (eVar 2) aNil))) aNil)) (eVar 4)) (tBin neD (eCall reprD (aCons (eCallK [1, 0] 2 m_may_meet (aCons (eVar 5) (aCons (eVar 0) aNil))) aNil)) (eVar 4))) (sRet (eC (.bl false))) sNil)
    (sIf (tBin neD (eCall reprD (aCons (eTup (aCons (eVar 0) (aCons (eVar 2) aNil))) aNil)) (eVar 3)) (sRet (eC (.bl false))) sNil)))))
    (sRet (eC (.bl true))))
def m__law_right : List D → W D := bodyD 6 b__law_right
def b_law : Rho → W Out :=
    (sSeq (sSet 1 (eCallD 1 m__law_deck (aCons (eVar 0) aNil)))
    (sSeq (sSet 2 (eLstM aNil))
    (sSeq (sFor (iRg1 (aCons (eC (.int 4)) aNil)) (gNm 3) (sSeq (sSet 4 (eCallD 2 m__law_draw (aCons (eVar 1) (aCons (eC (.int 2)) aNil))))
    (sSeq (sSet 5 (eCallD 2 m__law_worths (aCons (eVar 1) (aCons (eVar 4) aNil))))
    (sSeq (sSet 6 (eCallD 2 m_span_of (aCons (eBin addD (eC (.int 1)) (eCallD 2 m__law_draw (aCons (eVar 1) (aCons (eC (.int 99)) aNil)))) (aCons (eVar 5) aNil))))
    (sSeq (sSet 7 (eCallD 3 m__law_tests (aCons (eVar 1) (aCons (eBin ixD (eVar 6) (eC (.int 0))) (aCons (eVar 5) aNil)))))
    (sSeq (sDrop (eMeth "list" appendD (eVar 2) (aCons (eTup (aCons (eVar 6) (aCons (eVar 7) aNil))) aNil)))
    (sSeq (sIf (tNotW (tTru (eCallD 3 m__law_sound (aCons (eVar 6) (aCons (eVar 5) (aCons (eVar 7) aNil)))))) (sRet (eC (.bl false))) sNil)
    (sSeq (sSet 8 (eCallD 2 m__law_span (aCons (eVar 1) (aCons (eVar 4) aNil))))
    (sDrop (eMeth "list" appendD (eVar 2) (aCons (eTup (aCons (eVar 8) (aCons (eCallD 3 m__law_tests (aCons (eVar 1) (aCons (eBin ixD (eVar 8) (eC (.int 0))) (aCons (eSl (eVar 8) (oSome (eC (.int 1))) (oSome (eC (.int 3)))) aNil)))) aNil))) aNil)))))))))))
    (sRet (eBin eqD (eLc (iSeq (eBin addD (eVar 2) (eSl (eVar 2) oNone (oSome (eC (.int 2)))))) (gTp 2 (gsCons (gNm 6) (gsCons (gNm 7) gsNil))) (tNotW (tTru (eCallD 2 m__law_right (aCons (eVar 6) (aCons (eVar 7) aNil))))) (eVar 6) [6, 7]) (eLst aNil))))))
def m_law : List D → W D := bodyD 9 b_law
end Lk10

namespace Lk10
open PySem PySem.Spec PyProof.Rows L2 DL
/-! ### the derivations: printed by gen.py -/
structure Facts (K : PySem.W.Frag) (mg : Str → Option Value) (a__law_deck a__law_draw a__law_worth a__law_pick a__law_worths a_span_of a__law_beside a__law_tests a__law_span a_are_like a_may_meet a_meets a__law_sound a__law_may a__law_right a_law : Addr) (d__law_deck d__law_draw d__law_worth d__law_pick d__law_worths d_span_of d__law_beside d__law_tests d__law_span d_are_like d_may_meet d_meets d__law_sound d__law_may d__law_right d_law : FuncData) : Prop where
  F__law_deck : Fun K "_law_deck" "_law_deck" s__law_deck a__law_deck d__law_deck
  g__law_deck : mg "_law_deck" = some (.ref a__law_deck)
  F__law_draw : Fun K "_law_draw" "_law_draw" s__law_draw a__law_draw d__law_draw
  g__law_draw : mg "_law_draw" = some (.ref a__law_draw)
  F__law_worth : Fun K "_law_worth" "_law_worth" s__law_worth a__law_worth d__law_worth
  g__law_worth : mg "_law_worth" = some (.ref a__law_worth)
  F__law_pick : Fun K "_law_pick" "_law_pick" s__law_pick a__law_pick d__law_pick
  g__law_pick : mg "_law_pick" = some (.ref a__law_pick)
  F__law_worths : Fun K "_law_worths" "_law_worths" s__law_worths a__law_worths d__law_worths
  g__law_worths : mg "_law_worths" = some (.ref a__law_worths)
  F_span_of : Fun K "span_of" "span_of" s_span_of a_span_of d_span_of
  g_span_of : mg "span_of" = some (.ref a_span_of)
  F__law_beside : Fun K "_law_beside" "_law_beside" s__law_beside a__law_beside d__law_beside
  g__law_beside : mg "_law_beside" = some (.ref a__law_beside)
  F__law_tests : Fun K "_law_tests" "_law_tests" s__law_tests a__law_tests d__law_tests
  g__law_tests : mg "_law_tests" = some (.ref a__law_tests)
  F__law_span : Fun K "_law_span" "_law_span" s__law_span a__law_span d__law_span
  g__law_span : mg "_law_span" = some (.ref a__law_span)
  F_are_like : Fun K "are_like" "are_like" s_are_like a_are_like d_are_like
  g_are_like : mg "are_like" = some (.ref a_are_like)
  F_may_meet : Fun K "may_meet" "may_meet" s_may_meet a_may_meet d_may_meet
  g_may_meet : mg "may_meet" = some (.ref a_may_meet)
  F_meets : Fun K "meets" "meets" s_meets a_meets d_meets
  g_meets : mg "meets" = some (.ref a_meets)
  F__law_sound : Fun K "_law_sound" "_law_sound" s__law_sound a__law_sound d__law_sound
  g__law_sound : mg "_law_sound" = some (.ref a__law_sound)
  F__law_may : Fun K "_law_may" "_law_may" s__law_may a__law_may d__law_may
  g__law_may : mg "_law_may" = some (.ref a__law_may)
  F__law_right : Fun K "_law_right" "_law_right" s__law_right a__law_right d__law_right
  g__law_right : mg "_law_right" = some (.ref a__law_right)
  F_law : Fun K "law" "law" s_law a_law d_law
  g_law : mg "law" = some (.ref a_law)
  n_int : mg "int" = none
  n_isinstance : mg "isinstance" = none
  n_len : mg "len" = none
  n_list : mg "list" = none
  n_max : mg "max" = none
  n_min : mg "min" = none
  n_range : mg "range" = none
  n_repr : mg "repr" = none
  n_str : mg "str" = none
  n_sum : mg "sum" = none
  n_tuple : mg "tuple" = none
section
variable {P : Program} {w : World} {K : PySem.W.Frag} {mg : Str → Option Value} {base : Heap} {a__law_deck a__law_draw a__law_worth a__law_pick a__law_worths a_span_of a__law_beside a__law_tests a__law_span a_are_like a_may_meet a_meets a__law_sound a__law_may a__law_right a_law : Addr} {d__law_deck d__law_draw d__law_worth d__law_pick d__law_worths d_span_of d__law_beside d__law_tests d__law_span d_are_like d_may_meet d_meets d__law_sound d__law_may d__law_right d_law : FuncData}
theorem kp__law_deck (T : Facts K mg a__law_deck a__law_draw a__law_worth a__law_pick a__law_worths a_span_of a__law_beside a__law_tests a__law_span a_are_like a_may_meet a_meets a__law_sound a__law_may a__law_right a_law d__law_deck d__law_draw d__law_worth d__law_pick d__law_worths d_span_of d__law_beside d__law_tests d__law_span d_are_like d_may_meet d_meets d__law_sound d__law_may d__law_right d_law) : KBinds K d__law_deck ["_law_script"] [] (fun us _ => us) (fun vs _ => vs) := Fun.kpos T.F__law_deck fun _ _ _ _ _ _ us hl => match us, hl with | [_], _ => rfl
theorem ok__law_deck (T : Facts K mg a__law_deck a__law_draw a__law_worth a__law_pick a__law_worths a_span_of a__law_beside a__law_tests a__law_span a_are_like a_may_meet a_meets a__law_sound a__law_may a__law_right a_law d__law_deck d__law_draw d__law_worth d__law_pick d__law_worths d_span_of d__law_beside d__law_tests d__law_span d_are_like d_may_meet d_meets d__law_sound d__law_may d__law_right d_law) : FnG P w K mg base CX0 1 a__law_deck d__law_deck ["_law_script"] (spD K 1 m__law_deck) :=
  fnd_of (N := NN__law_deck) (ps := ["_law_script"]) (m := b__law_deck) T.F__law_deck sc__law_deck fun cdv A outer s H E hg hr =>
    (dss_cons (ds_set (i := 1) sc__law_deck.nd rfl lo__law_deck_1 (.inl rfl) (de_callTy call_list_of cd_list (by rfl) T.n_list bt_list (by decide) (by decide) (da_cons (de_slice (de_var (i := 0) rfl vi__law_deck_0 nd_0 nc_0) do_none (do_some de_int)) da_nil (by rfl)) (by rfl) (by rfl)) (by rfl))
    (dss_one (ds_ret (de_lstM (da_cons (de_revM (de_var (i := 1) rfl vi__law_deck_1 nd_1 nc_1)) (da_cons (de_op op_addA opd_add (de_callB (cr_sum rfl) cd_sum (by rfl) T.n_sum bt_sum (by decide) (by decide) (da_cons (de_lc (ts := [2]) (own := [("_law_cell", 2)]) rfl sc__law_deck.nd (di_seq (de_var (i := 1) rfl vi__law_deck_1 nd_1 nc_1)) (blkOk_by (own := [("_law_cell", 2)]) (N := NN__law_deck) (sc := defScope s__law_deck) (by decide +kernel)) (by decide) (fun _ _ _ _ _ => (dg_name (i := 2) sc__law_deck.nd rfl (.inl rfl) (.inr rfl))) (fun _ _ _ _ _ => dts_nil) (fun _ _ _ _ _ => (de_op op_mod opd_mod (de_varB (i := 2) rfl (.inl (by decide +kernel)) nd_2 nc_2) de_int)) (by intro _; rfl)) da_nil (by rfl)) (by rfl) (by rfl)) (de_op op_mulA opd_mulA de_int (de_callB call_len cd_len (by rfl) T.n_len bt_len (by decide) (by decide) (da_cons (de_var (i := 1) rfl vi__law_deck_1 nd_1 nc_1) da_nil (by rfl)) (by rfl) (by rfl)))) (da_cons de_int da_nil (by rfl)) (by rfl)) (by rfl))))))
theorem kp__law_draw (T : Facts K mg a__law_deck a__law_draw a__law_worth a__law_pick a__law_worths a_span_of a__law_beside a__law_tests a__law_span a_are_like a_may_meet a_meets a__law_sound a__law_may a__law_right a_law d__law_deck d__law_draw d__law_worth d__law_pick d__law_worths d_span_of d__law_beside d__law_tests d__law_span d_are_like d_may_meet d_meets d__law_sound d__law_may d__law_right d_law) : KBinds K d__law_draw ["_law_deck_here", "_law_ways"] [] (fun us _ => us) (fun vs _ => vs) := Fun.kpos T.F__law_draw fun _ _ _ _ _ _ us hl => match us, hl with | [_, _], _ => rfl
theorem ok__law_draw (T : Facts K mg a__law_deck a__law_draw a__law_worth a__law_pick a__law_worths a_span_of a__law_beside a__law_tests a__law_span a_are_like a_may_meet a_meets a__law_sound a__law_may a__law_right a_law d__law_deck d__law_draw d__law_worth d__law_pick d__law_worths d_span_of d__law_beside d__law_tests d__law_span d_are_like d_may_meet d_meets d__law_sound d__law_may d__law_right d_law) : FnG P w K mg base CX0 1 a__law_draw d__law_draw ["_law_deck_here", "_law_ways"] (spD K 2 m__law_draw) :=
  fnd_of (N := NN__law_draw) (ps := ["_law_deck_here", "_law_ways"]) (m := b__law_draw) T.F__law_draw sc__law_draw fun cdv A outer s H E hg hr =>
    (dss_cons (ds_asg (de_op op_addA opd_add (de_ix ix_seq opd_ix (de_var (i := 0) rfl vi__law_draw_0 nd_3 nc_3) de_int (fun _ _ => rfl)) de_int) (dg_ix (de_var (i := 0) rfl vi__law_draw_0 nd_3 nc_3) de_int (by intro _; rfl)) (by rfl) (by rfl) (by rfl))
    (dss_cons (ds_set (i := 2) sc__law_draw.nd rfl lo__law_draw_2 (.inl rfl) (de_ix ix_seq opd_ix (de_var (i := 0) rfl vi__law_draw_0 nd_3 nc_3) de_int (fun _ _ => rfl)) (by rfl))
    (dss_cons (ds_if (dt_cmp (op_neA hr.units) opd_ne (de_ix ix_seq opd_ix (de_var (i := 0) rfl vi__law_draw_0 nd_3 nc_3) de_int (fun _ _ => rfl)) (de_lst da_nil) (nomark _)) (dss_cons (ds_set (i := 2) sc__law_draw.nd rfl lo__law_draw_2 (.inl rfl) (de_bm0 PySem.F.plainAttrs_list PySem.F.slot_list_pop PySem.F.type_list_pop mt_pop md_pop (de_ix ix_seq opd_ix (de_var (i := 0) rfl vi__law_draw_0 nd_3 nc_3) de_int (fun _ _ => rfl)) (by rfl) (by rfl)) (by rfl))
    (dss_one (ds_if (dt_cmp op_geA opd_cmp (de_var (i := 2) rfl vi__law_draw_2 nd_2 nc_2) (de_op op_pow opd_pow de_int de_int) (nomark _)) (dss_cons (ds_expr (de_bm PySem.F.plainAttrs_list PySem.F.slot_list_append PySem.F.type_list_append mt_append md_append (de_ix ix_seq opd_ix (de_var (i := 0) rfl vi__law_draw_0 nd_3 nc_3) de_int (fun _ _ => rfl)) (da_cons (de_op op_fdivW opd_div (de_var (i := 2) rfl vi__law_draw_2 nd_2 nc_2) (de_var (i := 1) rfl vi__law_draw_1 nd_4 nc_4)) da_nil (by rfl)) (by rfl) (by rfl) (by rfl) (by rfl) (by rfl)) (by rfl))
    (dss_one (ds_ret (de_op op_mod opd_mod (de_var (i := 2) rfl vi__law_draw_2 nd_2 nc_2) (de_var (i := 1) rfl vi__law_draw_1 nd_4 nc_4))))) dss_nil))) dss_nil)
    (dss_cons (ds_set (i := 3) sc__law_draw.nd rfl lo__law_draw_3 (.inl rfl) (de_op op_mod opd_mod (de_op op_mulA opd_mulA (de_op op_addA opd_add (de_op op_addA opd_add (de_op op_mod opd_mod (de_var (i := 2) rfl vi__law_draw_2 nd_2 nc_2) de_int) (de_op op_mulA opd_mulA (de_op op_mulA opd_mulA de_int (de_ix ix_seq opd_ix (de_var (i := 0) rfl vi__law_draw_0 nd_3 nc_3) de_int (fun _ _ => rfl))) (de_ix ix_seq opd_ix (de_var (i := 0) rfl vi__law_draw_0 nd_3 nc_3) de_int (fun _ _ => rfl)))) de_int) de_int) de_int) (by rfl))
    (dss_cons (ds_set (i := 3) sc__law_draw.nd rfl lo__law_draw_3 (.inl rfl) (de_op op_mod opd_mod (de_op op_addA opd_add (de_op op_addA opd_add (de_op op_mulA opd_mulA (de_var (i := 3) rfl vi__law_draw_3 nd_5 nc_5) (de_var (i := 3) rfl vi__law_draw_3 nd_5 nc_5)) (de_op op_mulA opd_mulA de_int (de_ix ix_seq opd_ix (de_var (i := 0) rfl vi__law_draw_0 nd_3 nc_3) de_int (fun _ _ => rfl)))) de_int) de_int) (by rfl))
    (dss_one (ds_ret (de_op op_mod opd_mod (de_op op_fdivW opd_div (de_op op_mod opd_mod (de_op op_mulA opd_mulA (de_var (i := 3) rfl vi__law_draw_3 nd_5 nc_5) (de_op op_addA opd_add (de_op op_fdivW opd_div (de_var (i := 3) rfl vi__law_draw_3 nd_5 nc_5) de_int) de_int)) de_int) de_int) (de_var (i := 1) rfl vi__law_draw_1 nd_4 nc_4)))))))))
theorem kp__law_worth (T : Facts K mg a__law_deck a__law_draw a__law_worth a__law_pick a__law_worths a_span_of a__law_beside a__law_tests a__law_span a_are_like a_may_meet a_meets a__law_sound a__law_may a__law_right a_law d__law_deck d__law_draw d__law_worth d__law_pick d__law_worths d_span_of d__law_beside d__law_tests d__law_span d_are_like d_may_meet d_meets d__law_sound d__law_may d__law_right d_law) : KBinds K d__law_worth ["_law_deck_here", "_law_kind"] [] (fun us _ => us) (fun vs _ => vs) := Fun.kpos T.F__law_worth fun _ _ _ _ _ _ us hl => match us, hl with | [_, _], _ => rfl
theorem ok__law_worth (T : Facts K mg a__law_deck a__law_draw a__law_worth a__law_pick a__law_worths a_span_of a__law_beside a__law_tests a__law_span a_are_like a_may_meet a_meets a__law_sound a__law_may a__law_right a_law d__law_deck d__law_draw d__law_worth d__law_pick d__law_worths d_span_of d__law_beside d__law_tests d__law_span d_are_like d_may_meet d_meets d__law_sound d__law_may d__law_right d_law) : FnG P w K mg base CX0 2 a__law_worth d__law_worth ["_law_deck_here", "_law_kind"] (spD K 2 m__law_worth) :=
  fnd_of (N := NN__law_worth) (ps := ["_law_deck_here", "_law_kind"]) (m := b__law_worth) T.F__law_worth sc__law_worth fun cdv A outer s H E hg hr =>
    (dss_cons (ds_set (i := 2) sc__law_worth.nd rfl lo__law_worth_2 (.inl rfl) de_str (by rfl))
    (dss_cons (ds_asg (de_tup (da_cons (de_call (ok__law_draw T) hg (hr.mono (by decide)) (by rfl) T.g__law_draw T.F__law_draw.kp (kp__law_draw T) nd_6 (da_cons (de_var (i := 0) rfl vi__law_worth_0 nd_3 nc_3) (da_cons de_int da_nil (by rfl)) (by rfl)) (by rfl) (by rfl)) (da_cons (de_call (ok__law_draw T) hg (hr.mono (by decide)) (by rfl) T.g__law_draw T.F__law_draw.kp (kp__law_draw T) nd_6 (da_cons (de_var (i := 0) rfl vi__law_worth_0 nd_3 nc_3) (da_cons de_int da_nil (by rfl)) (by rfl)) (by rfl) (by rfl)) (da_cons (de_call (ok__law_draw T) hg (hr.mono (by decide)) (by rfl) T.g__law_draw T.F__law_draw.kp (kp__law_draw T) nd_6 (da_cons (de_var (i := 0) rfl vi__law_worth_0 nd_3 nc_3) (da_cons de_int da_nil (by rfl)) (by rfl)) (by rfl) (by rfl)) da_nil (by rfl)) (by rfl)) (by rfl))) (dg_tup (ts := [3, 4, 5]) rfl (dgs_cons (ts := [3]) (us := [4, 5]) (dg_name (i := 3) sc__law_worth.nd rfl lo__law_worth_3 (.inl rfl)) (dgs_cons (ts := [4]) (us := [5]) (dg_name (i := 4) sc__law_worth.nd rfl lo__law_worth_4 (.inl rfl)) (dgs_cons (ts := [5]) (us := []) (dg_name (i := 5) sc__law_worth.nd rfl lo__law_worth_5 (.inl rfl)) dgs_nil (by rfl)) (by rfl)) (by rfl)) (by rfl) (by rfl)) (by rfl) (by rfl) (by rfl))
    (dss_cons (ds_set (i := 6) sc__law_worth.nd rfl lo__law_worth_6 (.inl rfl) (de_bm PySem.F.plainAttrs_str PySem.F.slot_str_join PySem.F.type_str_join mt_join md_join de_str (da_cons (de_lc (ts := [7]) (own := [("_law_k", 7)]) rfl sc__law_worth.nd (di_range1 (by rfl) T.n_range (da_cons (de_op op_addA opd_add de_int (de_op op_mulA opd_mulA (de_var (i := 4) rfl vi__law_worth_4 nd_7 nc_7) de_int)) da_nil (by rfl)) (by rfl)) (blkOk_by (own := [("_law_k", 7)]) (N := NN__law_worth) (sc := defScope s__law_worth) (by decide +kernel)) (by decide) (fun _ _ _ _ _ => (dg_name (i := 7) sc__law_worth.nd rfl (.inl rfl) (.inr rfl))) (fun _ _ _ _ _ => dts_nil) (fun _ _ _ _ _ => (de_ix ix_seq opd_ix (de_varB (i := 2) rfl (.inr (by decide +kernel)) nd_8 nc_8) (de_op op_mod opd_mod (de_op op_addA opd_add (de_varB (i := 5) rfl (.inr (by decide +kernel)) nd_9 nc_9) (de_op op_mulA opd_mulA de_int (de_varB (i := 7) rfl (.inl (by decide +kernel)) nd_10 nc_10))) de_int) (fun _ _ => rfl))) (by intro _; rfl)) da_nil (by rfl)) (by rfl) (by rfl) (by rfl) (by rfl) (by rfl)) (by rfl))
    (dss_cons (ds_if (dt_cmp (op_eqA hr.units) opd_eq (de_var (i := 1) rfl vi__law_worth_1 nd_11 nc_11) de_str (nomark _)) (dss_one (ds_ret (de_ix ix_seq opd_ix (de_lst (da_cons de_non (da_cons de_int (da_cons (de_op op_addA opd_add de_int (de_var (i := 4) rfl vi__law_worth_4 nd_7 nc_7)) (da_cons (de_op op_sub opd_sub (de_neg de_int) (de_var (i := 4) rfl vi__law_worth_4 nd_7 nc_7)) (da_cons (de_op op_sub opd_sub de_int (de_var (i := 4) rfl vi__law_worth_4 nd_7 nc_7)) (da_cons (de_op op_sub opd_sub (de_var (i := 4) rfl vi__law_worth_4 nd_7 nc_7) de_int) (da_cons (de_op op_sub opd_sub (de_var (i := 5) rfl vi__law_worth_5 nd_9 nc_9) de_int) da_nil (by rfl)) (by rfl)) (by rfl)) (by rfl)) (by rfl)) (by rfl)) (by rfl))) (de_var (i := 3) rfl vi__law_worth_3 nd_12 nc_12) (fun _ _ => rfl)))) dss_nil)
    (dss_cons (ds_if (dt_cmp (op_eqA hr.units) opd_eq (de_var (i := 1) rfl vi__law_worth_1 nd_11 nc_11) de_str (nomark _)) (dss_one (ds_ret (de_ix ix_seq opd_ix (de_lst (da_cons de_non (da_cons de_int (da_cons (de_var (i := 5) rfl vi__law_worth_5 nd_9 nc_9) (da_cons (de_op op_sub opd_sub (de_neg de_int) (de_var (i := 4) rfl vi__law_worth_4 nd_7 nc_7)) (da_cons (de_op op_sub opd_sub (de_op op_pow opd_pow de_int de_int) (de_var (i := 4) rfl vi__law_worth_4 nd_7 nc_7)) (da_cons (de_op op_sub opd_sub (de_var (i := 4) rfl vi__law_worth_4 nd_7 nc_7) (de_op op_pow opd_pow de_int de_int)) (da_cons (de_op op_mulA opd_mulA (de_op op_sub opd_sub (de_var (i := 5) rfl vi__law_worth_5 nd_9 nc_9) de_int) (de_ix ix_seq opd_ix (de_lst (da_cons de_int (da_cons de_int (da_cons (de_op op_pow opd_pow de_int de_int) da_nil (by rfl)) (by rfl)) (by rfl))) (de_var (i := 4) rfl vi__law_worth_4 nd_7 nc_7) (fun _ _ => rfl))) da_nil (by rfl)) (by rfl)) (by rfl)) (by rfl)) (by rfl)) (by rfl)) (by rfl))) (de_var (i := 3) rfl vi__law_worth_3 nd_12 nc_12) (fun _ _ => rfl)))) dss_nil)
    (dss_cons (ds_if (dt_cmp (op_eqA hr.units) opd_eq (de_var (i := 1) rfl vi__law_worth_1 nd_11 nc_11) de_str (nomark _)) (dss_one (ds_ret (de_ix ix_seq opd_ix (de_lst (da_cons de_non (da_cons de_str (da_cons de_str (da_cons de_str (da_cons (de_ix ix_seq opd_ix (de_var (i := 2) rfl vi__law_worth_2 nd_8 nc_8) (de_op op_mod opd_mod (de_var (i := 5) rfl vi__law_worth_5 nd_9 nc_9) de_int) (fun _ _ => rfl)) (da_cons (de_ix ix_seq opd_ix (de_var (i := 2) rfl vi__law_worth_2 nd_8 nc_8) (de_var (i := 4) rfl vi__law_worth_4 nd_7 nc_7) (fun _ _ => rfl)) (da_cons (de_ix ix_seq opd_ix (de_var (i := 2) rfl vi__law_worth_2 nd_8 nc_8) (de_op op_sub opd_sub de_int (de_var (i := 4) rfl vi__law_worth_4 nd_7 nc_7)) (fun _ _ => rfl)) da_nil (by rfl)) (by rfl)) (by rfl)) (by rfl)) (by rfl)) (by rfl)) (by rfl))) (de_var (i := 3) rfl vi__law_worth_3 nd_12 nc_12) (fun _ _ => rfl)))) dss_nil)
    (dss_one (ds_ret (de_ix ix_seq opd_ix (de_lst (da_cons de_non (da_cons de_str (da_cons de_str (da_cons de_str (da_cons (de_var (i := 6) rfl vi__law_worth_6 nd_13 nc_13) (da_cons (de_slice (de_var (i := 6) rfl vi__law_worth_6 nd_13 nc_13) do_none (do_some (de_var (i := 4) rfl vi__law_worth_4 nd_7 nc_7))) (da_cons (de_op op_addA opd_add de_str (de_ix ix_seq opd_ix (de_var (i := 2) rfl vi__law_worth_2 nd_8 nc_8) (de_op op_mod opd_mod (de_var (i := 5) rfl vi__law_worth_5 nd_9 nc_9) de_int) (fun _ _ => rfl))) da_nil (by rfl)) (by rfl)) (by rfl)) (by rfl)) (by rfl)) (by rfl)) (by rfl))) (de_var (i := 3) rfl vi__law_worth_3 nd_12 nc_12) (fun _ _ => rfl))))))))))
theorem kp__law_pick (T : Facts K mg a__law_deck a__law_draw a__law_worth a__law_pick a__law_worths a_span_of a__law_beside a__law_tests a__law_span a_are_like a_may_meet a_meets a__law_sound a__law_may a__law_right a_law d__law_deck d__law_draw d__law_worth d__law_pick d__law_worths d_span_of d__law_beside d__law_tests d__law_span d_are_like d_may_meet d_meets d__law_sound d__law_may d__law_right d_law) : KBinds K d__law_pick ["_law_deck_here", "_law_some"] [] (fun us _ => us) (fun vs _ => vs) := Fun.kpos T.F__law_pick fun _ _ _ _ _ _ us hl => match us, hl with | [_, _], _ => rfl
theorem ok__law_pick (T : Facts K mg a__law_deck a__law_draw a__law_worth a__law_pick a__law_worths a_span_of a__law_beside a__law_tests a__law_span a_are_like a_may_meet a_meets a__law_sound a__law_may a__law_right a_law d__law_deck d__law_draw d__law_worth d__law_pick d__law_worths d_span_of d__law_beside d__law_tests d__law_span d_are_like d_may_meet d_meets d__law_sound d__law_may d__law_right d_law) : FnG P w K mg base CX0 2 a__law_pick d__law_pick ["_law_deck_here", "_law_some"] (spD K 2 m__law_pick) :=
  fnd_of (N := NN__law_pick) (ps := ["_law_deck_here", "_law_some"]) (m := b__law_pick) T.F__law_pick sc__law_pick fun cdv A outer s H E hg hr =>
    (dss_one (ds_ret (de_ix ix_seq opd_ix (de_var (i := 1) rfl vi__law_pick_1 nd_14 nc_14) (de_call (ok__law_draw T) hg (hr.mono (by decide)) (by rfl) T.g__law_draw T.F__law_draw.kp (kp__law_draw T) nd_6 (da_cons (de_var (i := 0) rfl vi__law_pick_0 nd_3 nc_3) (da_cons (de_callB call_len cd_len (by rfl) T.n_len bt_len (by decide) (by decide) (da_cons (de_var (i := 1) rfl vi__law_pick_1 nd_14 nc_14) da_nil (by rfl)) (by rfl) (by rfl)) da_nil (by rfl)) (by rfl)) (by rfl) (by rfl)) (fun _ _ => rfl))))
theorem kp__law_worths (T : Facts K mg a__law_deck a__law_draw a__law_worth a__law_pick a__law_worths a_span_of a__law_beside a__law_tests a__law_span a_are_like a_may_meet a_meets a__law_sound a__law_may a__law_right a_law d__law_deck d__law_draw d__law_worth d__law_pick d__law_worths d_span_of d__law_beside d__law_tests d__law_span d_are_like d_may_meet d_meets d__law_sound d__law_may d__law_right d_law) : KBinds K d__law_worths ["_law_deck_here", "_law_sort"] [] (fun us _ => us) (fun vs _ => vs) := Fun.kpos T.F__law_worths fun _ _ _ _ _ _ us hl => match us, hl with | [_, _], _ => rfl
theorem ok__law_worths (T : Facts K mg a__law_deck a__law_draw a__law_worth a__law_pick a__law_worths a_span_of a__law_beside a__law_tests a__law_span a_are_like a_may_meet a_meets a__law_sound a__law_may a__law_right a_law d__law_deck d__law_draw d__law_worth d__law_pick d__law_worths d_span_of d__law_beside d__law_tests d__law_span d_are_like d_may_meet d_meets d__law_sound d__law_may d__law_right d_law) : FnG P w K mg base CX0 3 a__law_worths d__law_worths ["_law_deck_here", "_law_sort"] (spD K 2 m__law_worths) :=
  fnd_of (N := NN__law_worths) (ps := ["_law_deck_here", "_law_sort"]) (m := b__law_worths) T.F__law_worths sc__law_worths fun cdv A outer s H E hg hr =>
    (dss_cons (ds_par2 rfl sc__law_worths.nd (i := 2) (j := 3) rfl rfl (by decide) ll__law_worths_2 ll__law_worths_3 (da_cons (de_call (ok__law_draw T) hg (hr.mono (by decide)) (by rfl) T.g__law_draw T.F__law_draw.kp (kp__law_draw T) nd_6 (da_cons (de_var (i := 0) rfl vi__law_worths_0 nd_3 nc_3) (da_cons de_int da_nil (by rfl)) (by rfl)) (by rfl) (by rfl)) (da_cons (de_call (ok__law_draw T) hg (hr.mono (by decide)) (by rfl) T.g__law_draw T.F__law_draw.kp (kp__law_draw T) nd_6 (da_cons (de_var (i := 0) rfl vi__law_worths_0 nd_3 nc_3) (da_cons de_int da_nil (by rfl)) (by rfl)) (by rfl) (by rfl)) da_nil (by rfl)) (by rfl)) (by rfl) (by rfl))
    (dss_cons (ds_set (i := 4) sc__law_worths.nd rfl lo__law_worths_4 (.inl rfl) (de_ix ix_seq opd_ix (de_lst (da_cons (de_lst (da_cons de_str (da_cons de_str da_nil (by rfl)) (by rfl))) (da_cons (de_lst (da_cons de_str (da_cons de_str da_nil (by rfl)) (by rfl))) da_nil (by rfl)) (by rfl))) (de_var (i := 1) rfl vi__law_worths_1 nd_15 nc_15) (fun _ _ => rfl)) (by rfl))
    (dss_cons (ds_setLc (i := 5) (ts := [6]) (own := [("_law_k", 6)]) rfl sc__law_worths.nd rfl (ll__law_worths_5) (sw_true rfl ll__law_worths_5 rfl (by decide +kernel)) (di_range1 (by rfl) T.n_range (da_cons (de_var (i := 2) rfl vi__law_worths_2 nd_16 nc_16) da_nil (by rfl)) (by rfl)) (blkOk_by (own := [("_law_k", 6)]) (N := NN__law_worths) (sc := defScope s__law_worths) (by decide +kernel)) (by decide) (fun _ _ _ _ _ => (dg_name (i := 6) sc__law_worths.nd rfl (.inl rfl) (.inr rfl))) (fun _ _ _ _ _ => dts_nil) (fun _ _ _ _ _ => (de_call (ok__law_worth T) hg (hr.mono (by decide)) (by rfl) T.g__law_worth T.F__law_worth.kp (kp__law_worth T) nd_17 (da_cons (de_varB (i := 0) rfl (.inr (by decide +kernel)) nd_3 nc_3) (da_cons (de_call (ok__law_pick T) hg (hr.mono (by decide)) (by rfl) T.g__law_pick T.F__law_pick.kp (kp__law_pick T) nd_18 (da_cons (de_varB (i := 0) rfl (.inr (by decide +kernel)) nd_3 nc_3) (da_cons (de_varB (i := 4) rfl (.inr (by decide +kernel)) nd_19 nc_19) da_nil (by rfl)) (by rfl)) (by rfl) (by rfl)) da_nil (by rfl)) (by rfl)) (by rfl) (by rfl))) (by intro _; rfl))
    (dss_one (ds_ret (de_callTy call_tuple_of cd_tuple (by rfl) T.n_tuple bt_tuple (by decide) (by decide) (da_cons (de_op op_addA opd_add (de_var (i := 5) rfl vi__law_worths_5 nd_20 nc_20) (de_op op_mulA opd_mulA (de_lst (da_cons de_non da_nil (by rfl))) (de_ix ix_seq opd_ix (de_lst (da_cons de_int (da_cons de_int (da_cons de_int (da_cons de_int da_nil (by rfl)) (by rfl)) (by rfl)) (by rfl))) (de_var (i := 3) rfl vi__law_worths_3 nd_21 nc_21) (fun _ _ => rfl)))) da_nil (by rfl)) (by rfl) (by rfl)))))))
theorem kp_span_of (T : Facts K mg a__law_deck a__law_draw a__law_worth a__law_pick a__law_worths a_span_of a__law_beside a__law_tests a__law_span a_are_like a_may_meet a_meets a__law_sound a__law_may a__law_right a_law d__law_deck d__law_draw d__law_worth d__law_pick d__law_worths d_span_of d__law_beside d__law_tests d__law_span d_are_like d_may_meet d_meets d__law_sound d__law_may d__law_right d_law) : KBinds K d_span_of ["number", "worths"] [] (fun us _ => us) (fun vs _ => vs) := Fun.kpos T.F_span_of fun _ _ _ _ _ _ us hl => match us, hl with | [_, _], _ => rfl
theorem ok_span_of (T : Facts K mg a__law_deck a__law_draw a__law_worth a__law_pick a__law_worths a_span_of a__law_beside a__law_tests a__law_span a_are_like a_may_meet a_meets a__law_sound a__law_may a__law_right a_law d__law_deck d__law_draw d__law_worth d__law_pick d__law_worths d_span_of d__law_beside d__law_tests d__law_span d_are_like d_may_meet d_meets d__law_sound d__law_may d__law_right d_law) : FnG P w K mg base CX0 1 a_span_of d_span_of ["number", "worths"] (spD K 2 m_span_of) :=
  fnd_of (N := NN_span_of) (ps := ["number", "worths"]) (m := b_span_of) T.F_span_of sc_span_of fun cdv A outer s H E hg hr =>
    (dss_cons (ds_setLc (i := 2) (ts := [3]) (own := [("worth", 3)]) rfl sc_span_of.nd rfl (ll_span_of_2) (sw_true rfl ll_span_of_2 rfl (by decide +kernel)) (di_seq (de_var (i := 1) rfl vi_span_of_1 nd_22 nc_22)) (blkOk_by (own := [("worth", 3)]) (N := NN_span_of) (sc := defScope s_span_of) (by decide +kernel)) (by decide) (fun _ _ _ _ _ => (dg_name (i := 3) sc_span_of.nd rfl (.inl rfl) (.inr rfl))) (fun _ _ _ _ _ => (dts_one (dt_cmp op_notN opd_notN (de_varB (i := 3) rfl (.inl (by decide +kernel)) nd_23 nc_23) de_non (nomark _)))) (fun _ _ _ _ _ => (de_varB (i := 3) rfl (.inl (by decide +kernel)) nd_23 nc_23)) (by intro _; rfl))
    (dss_cons (ds_if (dt_cmp (op_eqA hr.units) opd_eq (de_var (i := 2) rfl vi_span_of_2 nd_24 nc_24) (de_lst da_nil) (nomark _)) (dss_one (ds_ret (de_tup (da_cons (de_var (i := 0) rfl vi_span_of_0 nd_25 nc_25) (da_cons de_non (da_cons de_non (da_cons (de_callB call_len cd_len (by rfl) T.n_len bt_len (by decide) (by decide) (da_cons (de_var (i := 1) rfl vi_span_of_1 nd_22 nc_22) da_nil (by rfl)) (by rfl) (by rfl)) da_nil (by rfl)) (by rfl)) (by rfl)) (by rfl))))) dss_nil)
    (dss_one (ds_ret (de_tup (da_cons (de_var (i := 0) rfl vi_span_of_0 nd_25 nc_25) (da_cons (de_callB (call_minA rfl hr.units) cd_min (by rfl) T.n_min bt_min (by decide) (by decide) (da_cons (de_var (i := 2) rfl vi_span_of_2 nd_24 nc_24) da_nil (by rfl)) (by rfl) (by rfl)) (da_cons (de_callB (call_maxA rfl hr.units) cd_max (by rfl) T.n_max bt_max (by decide) (by decide) (da_cons (de_var (i := 2) rfl vi_span_of_2 nd_24 nc_24) da_nil (by rfl)) (by rfl) (by rfl)) (da_cons (de_op op_sub opd_sub (de_callB call_len cd_len (by rfl) T.n_len bt_len (by decide) (by decide) (da_cons (de_var (i := 1) rfl vi_span_of_1 nd_22 nc_22) da_nil (by rfl)) (by rfl) (by rfl)) (de_callB call_len cd_len (by rfl) T.n_len bt_len (by decide) (by decide) (da_cons (de_var (i := 2) rfl vi_span_of_2 nd_24 nc_24) da_nil (by rfl)) (by rfl) (by rfl))) da_nil (by rfl)) (by rfl)) (by rfl)) (by rfl)))))))
theorem kp__law_beside (T : Facts K mg a__law_deck a__law_draw a__law_worth a__law_pick a__law_worths a_span_of a__law_beside a__law_tests a__law_span a_are_like a_may_meet a_meets a__law_sound a__law_may a__law_right a_law d__law_deck d__law_draw d__law_worth d__law_pick d__law_worths d_span_of d__law_beside d__law_tests d__law_span d_are_like d_may_meet d_meets d__law_sound d__law_may d__law_right d_law) : KBinds K d__law_beside ["_law_worth_here"] [] (fun us _ => us) (fun vs _ => vs) := Fun.kpos T.F__law_beside fun _ _ _ _ _ _ us hl => match us, hl with | [_], _ => rfl
theorem ok__law_beside (T : Facts K mg a__law_deck a__law_draw a__law_worth a__law_pick a__law_worths a_span_of a__law_beside a__law_tests a__law_span a_are_like a_may_meet a_meets a__law_sound a__law_may a__law_right a_law d__law_deck d__law_draw d__law_worth d__law_pick d__law_worths d_span_of d__law_beside d__law_tests d__law_span d_are_like d_may_meet d_meets d__law_sound d__law_may d__law_right d_law) : FnG P w K mg base CX0 1 a__law_beside d__law_beside ["_law_worth_here"] (spD K 1 m__law_beside) :=
  fnd_of (N := NN__law_beside) (ps := ["_law_worth_here"]) (m := b__law_beside) T.F__law_beside sc__law_beside fun cdv A outer s H E hg hr =>
    (dss_cons (ds_if (dt_cmp op_isN opd_isN (de_var (i := 0) rfl vi__law_beside_0 nd_26 nc_26) de_non (nomark _)) (dss_one (ds_ret (de_lst (da_cons de_non (da_cons de_int (da_cons de_str da_nil (by rfl)) (by rfl)) (by rfl))))) dss_nil)
    (dss_cons (ds_if (dt_truth (de_callB call_isi cd_isi (by rfl) T.n_isinstance bt_isinstance (by decide) (by decide) (da_cons (de_var (i := 0) rfl vi__law_beside_0 nd_26 nc_26) (da_cons (de_ty (by rfl) T.n_str bt_str (by decide) (by decide)) da_nil (by rfl)) (by rfl)) (by rfl) (by rfl)) (by intro _; rfl)) (dss_one (ds_ret (de_lst (da_cons (de_var (i := 0) rfl vi__law_beside_0 nd_26 nc_26) (da_cons (de_slice (de_var (i := 0) rfl vi__law_beside_0 nd_26 nc_26) do_none (do_some (de_neg de_int))) (da_cons (de_slice (de_op op_addA opd_add (de_var (i := 0) rfl vi__law_beside_0 nd_26 nc_26) de_str) do_none (do_some de_int)) (da_cons (de_slice (de_op op_addA opd_add (de_slice (de_var (i := 0) rfl vi__law_beside_0 nd_26 nc_26) do_none (do_some (de_neg de_int))) de_str) do_none (do_some de_int)) da_nil (by rfl)) (by rfl)) (by rfl)) (by rfl))))) dss_nil)
    (dss_one (ds_ret (de_lst (da_cons (de_var (i := 0) rfl vi__law_beside_0 nd_26 nc_26) (da_cons (de_callB (call_maxA rfl hr.units) cd_max (by rfl) T.n_max bt_max (by decide) (by decide) (da_cons (de_op op_sub opd_sub (de_var (i := 0) rfl vi__law_beside_0 nd_26 nc_26) de_int) (da_cons (de_op op_sub opd_sub de_int (de_op op_pow opd_pow de_int de_int)) da_nil (by rfl)) (by rfl)) (by rfl) (by rfl)) (da_cons (de_callB (call_minA rfl hr.units) cd_min (by rfl) T.n_min bt_min (by decide) (by decide) (da_cons (de_op op_addA opd_add (de_var (i := 0) rfl vi__law_beside_0 nd_26 nc_26) de_int) (da_cons (de_op op_pow opd_pow de_int de_int) da_nil (by rfl)) (by rfl)) (by rfl) (by rfl)) (da_cons (de_op op_sub opd_sub de_int (de_var (i := 0) rfl vi__law_beside_0 nd_26 nc_26)) da_nil (by rfl)) (by rfl)) (by rfl)) (by rfl)))))))
theorem kp__law_tests (T : Facts K mg a__law_deck a__law_draw a__law_worth a__law_pick a__law_worths a_span_of a__law_beside a__law_tests a__law_span a_are_like a_may_meet a_meets a__law_sound a__law_may a__law_right a_law d__law_deck d__law_draw d__law_worth d__law_pick d__law_worths d_span_of d__law_beside d__law_tests d__law_span d_are_like d_may_meet d_meets d__law_sound d__law_may d__law_right d_law) : KBinds K d__law_tests ["_law_deck_here", "_law_number", "_law_worths_here"] [] (fun us _ => us) (fun vs _ => vs) := Fun.kpos T.F__law_tests fun _ _ _ _ _ _ us hl => match us, hl with | [_, _, _], _ => rfl
theorem ok__law_tests (T : Facts K mg a__law_deck a__law_draw a__law_worth a__law_pick a__law_worths a_span_of a__law_beside a__law_tests a__law_span a_are_like a_may_meet a_meets a__law_sound a__law_may a__law_right a_law d__law_deck d__law_draw d__law_worth d__law_pick d__law_worths d_span_of d__law_beside d__law_tests d__law_span d_are_like d_may_meet d_meets d__law_sound d__law_may d__law_right d_law) : FnG P w K mg base CX0 3 a__law_tests d__law_tests ["_law_deck_here", "_law_number", "_law_worths_here"] (spD K 3 m__law_tests) :=
  fnd_of (N := NN__law_tests) (ps := ["_law_deck_here", "_law_number", "_law_worths_here"]) (m := b__law_tests) T.F__law_tests sc__law_tests fun cdv A outer s H E hg hr =>
    (dss_cons (ds_set (i := 3) sc__law_tests.nd rfl lo__law_tests_3 (.inl rfl) (de_lst (da_cons de_int (da_cons de_str (da_cons de_non (da_cons (de_call (ok__law_worth T) hg (hr.mono (by decide)) (by rfl) T.g__law_worth T.F__law_worth.kp (kp__law_worth T) nd_17 (da_cons (de_var (i := 0) rfl vi__law_tests_0 nd_3 nc_3) (da_cons (de_call (ok__law_pick T) hg (hr.mono (by decide)) (by rfl) T.g__law_pick T.F__law_pick.kp (kp__law_pick T) nd_18 (da_cons (de_var (i := 0) rfl vi__law_tests_0 nd_3 nc_3) (da_cons (de_lst (da_cons de_str (da_cons de_str da_nil (by rfl)) (by rfl))) da_nil (by rfl)) (by rfl)) (by rfl) (by rfl)) da_nil (by rfl)) (by rfl)) (by rfl) (by rfl)) da_nil (by rfl)) (by rfl)) (by rfl)) (by rfl))) (by rfl))
    (dss_cons (ds_for PassesOwn.never rfl (di_range1 (by rfl) T.n_range (da_cons (de_op op_mulA opd_mulA de_int (de_callTy call_int1 cd_int (by rfl) T.n_int bt_int (by decide) (by decide) (da_cons (de_cmp (op_neA hr.units) opd_ne (de_var (i := 2) rfl vi__law_tests_2 nd_27 nc_27) (de_tup da_nil) (nomark _)) da_nil (by rfl)) (by rfl) (by rfl))) da_nil (by rfl)) (by rfl)) (dg_name (i := 4) sc__law_tests.nd rfl lo__law_tests_4 (.inl rfl)) (dss_one (ds_set (i := 3) sc__law_tests.nd rfl lo__law_tests_3 (.inl rfl) (de_op op_addA opd_add (de_var (i := 3) rfl vi__law_tests_3 nd_14 nc_14) (de_call (ok__law_beside T) hg (hr.mono (by decide)) (by rfl) T.g__law_beside T.F__law_beside.kp (kp__law_beside T) nd_28 (da_cons (de_ix ix_seq opd_ix (de_var (i := 2) rfl vi__law_tests_2 nd_27 nc_27) (de_call (ok__law_draw T) hg (hr.mono (by decide)) (by rfl) T.g__law_draw T.F__law_draw.kp (kp__law_draw T) nd_6 (da_cons (de_var (i := 0) rfl vi__law_tests_0 nd_3 nc_3) (da_cons (de_callB call_len cd_len (by rfl) T.n_len bt_len (by decide) (by decide) (da_cons (de_var (i := 2) rfl vi__law_tests_2 nd_27 nc_27) da_nil (by rfl)) (by rfl) (by rfl)) da_nil (by rfl)) (by rfl)) (by rfl) (by rfl)) (fun _ _ => rfl)) da_nil (by rfl)) (by rfl) (by rfl))) (by rfl))) (by intro _; rfl))
    (dss_cons (ds_set (i := 5) sc__law_tests.nd rfl lo__law_tests_5 (.inl rfl) (de_lst da_nil) (by rfl))
    (dss_cons (ds_for PassesOwn.never rfl (di_seq (de_var (i := 3) rfl vi__law_tests_3 nd_14 nc_14)) (dg_name (i := 6) sc__law_tests.nd rfl lo__law_tests_6 (.inl rfl)) (dss_one (ds_set (i := 5) sc__law_tests.nd rfl lo__law_tests_5 (.inl rfl) (de_op op_addA opd_add (de_var (i := 5) rfl vi__law_tests_5 nd_20 nc_20) (de_lc (ts := [7]) (own := [("_law_word", 7)]) rfl sc__law_tests.nd (di_seq (de_tup (da_cons de_str (da_cons de_str (da_cons de_str da_nil (by rfl)) (by rfl)) (by rfl)))) (blkOk_by (own := [("_law_word", 7)]) (N := NN__law_tests) (sc := defScope s__law_tests) (by decide +kernel)) (by decide) (fun _ _ _ _ _ => (dg_name (i := 7) sc__law_tests.nd rfl (.inl rfl) (.inr rfl))) (fun _ _ _ _ _ => dts_nil) (fun _ _ _ _ _ => (de_tup (da_cons (de_varB (i := 1) rfl (.inr (by decide +kernel)) nd_5 nc_5) (da_cons (de_varB (i := 7) rfl (.inl (by decide +kernel)) nd_13 nc_13) (da_cons (de_varB (i := 6) rfl (.inr (by decide +kernel)) nd_26 nc_26) da_nil (by rfl)) (by rfl)) (by rfl)))) (by intro _; rfl))) (by rfl))) (by intro _; rfl))
    (dss_one (ds_ret (de_var (i := 5) rfl vi__law_tests_5 nd_20 nc_20)))))))
theorem kp__law_span (T : Facts K mg a__law_deck a__law_draw a__law_worth a__law_pick a__law_worths a_span_of a__law_beside a__law_tests a__law_span a_are_like a_may_meet a_meets a__law_sound a__law_may a__law_right a_law d__law_deck d__law_draw d__law_worth d__law_pick d__law_worths d_span_of d__law_beside d__law_tests d__law_span d_are_like d_may_meet d_meets d__law_sound d__law_may d__law_right d_law) : KBinds K d__law_span ["_law_deck_here", "_law_sort"] [] (fun us _ => us) (fun vs _ => vs) := Fun.kpos T.F__law_span fun _ _ _ _ _ _ us hl => match us, hl with | [_, _], _ => rfl
theorem ok__law_span (T : Facts K mg a__law_deck a__law_draw a__law_worth a__law_pick a__law_worths a_span_of a__law_beside a__law_tests a__law_span a_are_like a_may_meet a_meets a__law_sound a__law_may a__law_right a_law d__law_deck d__law_draw d__law_worth d__law_pick d__law_worths d_span_of d__law_beside d__law_tests d__law_span d_are_like d_may_meet d_meets d__law_sound d__law_may d__law_right d_law) : FnG P w K mg base CX0 3 a__law_span d__law_span ["_law_deck_here", "_law_sort"] (spD K 2 m__law_span) :=
  fnd_of (N := NN__law_span) (ps := ["_law_deck_here", "_law_sort"]) (m := b__law_span) T.F__law_span sc__law_span fun cdv A outer s H E hg hr =>
    (dss_cons (ds_par2 rfl sc__law_span.nd (i := 2) (j := 3) rfl rfl (by decide) ll__law_span_2 ll__law_span_3 (da_cons (de_call (ok__law_draw T) hg (hr.mono (by decide)) (by rfl) T.g__law_draw T.F__law_draw.kp (kp__law_draw T) nd_6 (da_cons (de_var (i := 0) rfl vi__law_span_0 nd_3 nc_3) (da_cons de_int da_nil (by rfl)) (by rfl)) (by rfl) (by rfl)) (da_cons (de_ix ix_seq opd_ix (de_lst (da_cons de_int (da_cons de_int (da_cons de_int (da_cons de_int da_nil (by rfl)) (by rfl)) (by rfl)) (by rfl))) (de_call (ok__law_draw T) hg (hr.mono (by decide)) (by rfl) T.g__law_draw T.F__law_draw.kp (kp__law_draw T) nd_6 (da_cons (de_var (i := 0) rfl vi__law_span_0 nd_3 nc_3) (da_cons de_int da_nil (by rfl)) (by rfl)) (by rfl) (by rfl)) (fun _ _ => rfl)) da_nil (by rfl)) (by rfl)) (by rfl) (by rfl))
    (dss_cons (ds_set (i := 4) sc__law_span.nd rfl lo__law_span_4 (.inl rfl) (de_ix ix_seq opd_ix (de_ix ix_seq opd_ix (de_lst (da_cons (de_lst (da_cons de_str (da_cons de_str da_nil (by rfl)) (by rfl))) (da_cons (de_lst (da_cons de_str (da_cons de_str da_nil (by rfl)) (by rfl))) da_nil (by rfl)) (by rfl))) (de_var (i := 1) rfl vi__law_span_1 nd_15 nc_15) (fun _ _ => rfl)) (de_call (ok__law_draw T) hg (hr.mono (by decide)) (by rfl) T.g__law_draw T.F__law_draw.kp (kp__law_draw T) nd_6 (da_cons (de_var (i := 0) rfl vi__law_span_0 nd_3 nc_3) (da_cons de_int da_nil (by rfl)) (by rfl)) (by rfl) (by rfl)) (fun _ _ => rfl)) (by rfl))
    (dss_cons (ds_setLc (i := 5) (ts := [6]) (own := [("_law_worth_here", 6)]) rfl sc__law_span.nd rfl (ll__law_span_5) (sw_true rfl ll__law_span_5 rfl (by decide +kernel)) (di_seq (de_lst (da_cons (de_call (ok__law_worth T) hg (hr.mono (by decide)) (by rfl) T.g__law_worth T.F__law_worth.kp (kp__law_worth T) nd_17 (da_cons (de_var (i := 0) rfl vi__law_span_0 nd_3 nc_3) (da_cons (de_var (i := 4) rfl vi__law_span_4 nd_11 nc_11) da_nil (by rfl)) (by rfl)) (by rfl) (by rfl)) (da_cons (de_call (ok__law_worth T) hg (hr.mono (by decide)) (by rfl) T.g__law_worth T.F__law_worth.kp (kp__law_worth T) nd_17 (da_cons (de_var (i := 0) rfl vi__law_span_0 nd_3 nc_3) (da_cons (de_var (i := 4) rfl vi__law_span_4 nd_11 nc_11) da_nil (by rfl)) (by rfl)) (by rfl) (by rfl)) da_nil (by rfl)) (by rfl)))) (blkOk_by (own := [("_law_worth_here", 6)]) (N := NN__law_span) (sc := defScope s__law_span) (by decide +kernel)) (by decide) (fun _ _ _ _ _ => (dg_name (i := 6) sc__law_span.nd rfl (.inl rfl) (.inr rfl))) (fun _ _ _ _ _ => (dts_one (dt_cmp op_notN opd_notN (de_varB (i := 6) rfl (.inl (by decide +kernel)) nd_26 nc_26) de_non (nomark _)))) (fun _ _ _ _ _ => (de_varB (i := 6) rfl (.inl (by decide +kernel)) nd_26 nc_26)) (by intro _; rfl))
    (dss_cons (ds_if (dw_or (dt_cmp (op_eqA hr.units) opd_eq (de_var (i := 5) rfl vi__law_span_5 nd_14 nc_14) (de_lst da_nil) (nomark _)) (dw_or1 (dt_cmp (op_eqA hr.units) opd_eq (de_var (i := 2) rfl vi__law_span_2 nd_12 nc_12) de_int (nomark _)))).pt (dss_one (ds_ret (de_tup (da_cons (de_op op_addA opd_add de_int (de_call (ok__law_draw T) hg (hr.mono (by decide)) (by rfl) T.g__law_draw T.F__law_draw.kp (kp__law_draw T) nd_6 (da_cons (de_var (i := 0) rfl vi__law_span_0 nd_3 nc_3) (da_cons de_int da_nil (by rfl)) (by rfl)) (by rfl) (by rfl))) (da_cons de_non (da_cons de_non (da_cons (de_var (i := 3) rfl vi__law_span_3 nd_29 nc_29) da_nil (by rfl)) (by rfl)) (by rfl)) (by rfl))))) dss_nil)
    (dss_one (ds_ret (de_tup (da_cons (de_op op_addA opd_add de_int (de_call (ok__law_draw T) hg (hr.mono (by decide)) (by rfl) T.g__law_draw T.F__law_draw.kp (kp__law_draw T) nd_6 (da_cons (de_var (i := 0) rfl vi__law_span_0 nd_3 nc_3) (da_cons de_int da_nil (by rfl)) (by rfl)) (by rfl) (by rfl))) (da_cons (de_callB (call_minA rfl hr.units) cd_min (by rfl) T.n_min bt_min (by decide) (by decide) (da_cons (de_var (i := 5) rfl vi__law_span_5 nd_14 nc_14) da_nil (by rfl)) (by rfl) (by rfl)) (da_cons (de_ix ix_seq opd_ix (de_lst (da_cons (de_callB (call_maxA rfl hr.units) cd_max (by rfl) T.n_max bt_max (by decide) (by decide) (da_cons (de_var (i := 5) rfl vi__law_span_5 nd_14 nc_14) da_nil (by rfl)) (by rfl) (by rfl)) (da_cons (de_callB (call_minA rfl hr.units) cd_min (by rfl) T.n_min bt_min (by decide) (by decide) (da_cons (de_var (i := 5) rfl vi__law_span_5 nd_14 nc_14) da_nil (by rfl)) (by rfl) (by rfl)) da_nil (by rfl)) (by rfl))) (de_callTy call_int1 cd_int (by rfl) T.n_int bt_int (by decide) (by decide) (da_cons (de_cmp (op_eqA hr.units) opd_eq (de_var (i := 2) rfl vi__law_span_2 nd_12 nc_12) de_int (nomark _)) da_nil (by rfl)) (by rfl) (by rfl)) (fun _ _ => rfl)) (da_cons (de_var (i := 3) rfl vi__law_span_3 nd_29 nc_29) da_nil (by rfl)) (by rfl)) (by rfl)) (by rfl)))))))))
theorem kp_are_like (T : Facts K mg a__law_deck a__law_draw a__law_worth a__law_pick a__law_worths a_span_of a__law_beside a__law_tests a__law_span a_are_like a_may_meet a_meets a__law_sound a__law_may a__law_right a_law d__law_deck d__law_draw d__law_worth d__law_pick d__law_worths d_span_of d__law_beside d__law_tests d__law_span d_are_like d_may_meet d_meets d__law_sound d__law_may d__law_right d_law) : KBinds K d_are_like ["one", "other"] [] (fun us _ => us) (fun vs _ => vs) := Fun.kpos T.F_are_like fun _ _ _ _ _ _ us hl => match us, hl with | [_, _], _ => rfl
theorem ok_are_like (T : Facts K mg a__law_deck a__law_draw a__law_worth a__law_pick a__law_worths a_span_of a__law_beside a__law_tests a__law_span a_are_like a_may_meet a_meets a__law_sound a__law_may a__law_right a_law d__law_deck d__law_draw d__law_worth d__law_pick d__law_worths d_span_of d__law_beside d__law_tests d__law_span d_are_like d_may_meet d_meets d__law_sound d__law_may d__law_right d_law) : FnG P w K mg base CX0 1 a_are_like d_are_like ["one", "other"] (spD K 2 m_are_like) :=
  fnd_of (N := NN_are_like) (ps := ["one", "other"]) (m := b_are_like) T.F_are_like sc_are_like fun cdv A outer s H E hg hr =>
    (dss_cons (ds_if (dw_or (dt_cmp op_isN opd_isN (de_var (i := 0) rfl vi_are_like_0 nd_30 nc_30) de_non (nomark _)) (dw_or1 (dt_cmp op_isN opd_isN (de_var (i := 1) rfl vi_are_like_1 nd_31 nc_31) de_non (nomark _)))).pt (dss_one (ds_ret de_bl)) dss_nil)
    (dss_one (ds_ret (de_cmp (op_eqA hr.units) opd_eq (de_callB call_isi cd_isi (by rfl) T.n_isinstance bt_isinstance (by decide) (by decide) (da_cons (de_var (i := 0) rfl vi_are_like_0 nd_30 nc_30) (da_cons (de_ty (by rfl) T.n_str bt_str (by decide) (by decide)) da_nil (by rfl)) (by rfl)) (by rfl) (by rfl)) (de_callB call_isi cd_isi (by rfl) T.n_isinstance bt_isinstance (by decide) (by decide) (da_cons (de_var (i := 1) rfl vi_are_like_1 nd_31 nc_31) (da_cons (de_ty (by rfl) T.n_str bt_str (by decide) (by decide)) da_nil (by rfl)) (by rfl)) (by rfl) (by rfl)) (nomark _)))))
theorem kp_may_meet (T : Facts K mg a__law_deck a__law_draw a__law_worth a__law_pick a__law_worths a_span_of a__law_beside a__law_tests a__law_span a_are_like a_may_meet a_meets a__law_sound a__law_may a__law_right a_law d__law_deck d__law_draw d__law_worth d__law_pick d__law_worths d_span_of d__law_beside d__law_tests d__law_span d_are_like d_may_meet d_meets d__law_sound d__law_may d__law_right d_law) : KBinds K d_may_meet ["span", "test"] [] (fun us _ => us) (fun vs _ => vs) := Fun.kpos T.F_may_meet fun _ _ _ _ _ _ us hl => match us, hl with | [_, _], _ => rfl
theorem kw_may_meet_1_0 (T : Facts K mg a__law_deck a__law_draw a__law_worth a__law_pick a__law_worths a_span_of a__law_beside a__law_tests a__law_span a_are_like a_may_meet a_meets a__law_sound a__law_may a__law_right a_law d__law_deck d__law_draw d__law_worth d__law_pick d__law_worths d_span_of d__law_beside d__law_tests d__law_span d_are_like d_may_meet d_meets d__law_sound d__law_may d__law_right d_law) : KBinds K d_may_meet ["span", "test"] ["test", "span"] (gKw [1, 0]) (gKw [1, 0]) := Fun.kkw ["test", "span"] [1, 0] T.F_may_meet (by decide) fun _ _ _ _ _ _ ws hl => match ws, hl with | _ :: _ :: _, _ => rfl | [], h => absurd h (by simp [pick]) | [_], h => absurd h (by simp [pick])
theorem ok_may_meet (T : Facts K mg a__law_deck a__law_draw a__law_worth a__law_pick a__law_worths a_span_of a__law_beside a__law_tests a__law_span a_are_like a_may_meet a_meets a__law_sound a__law_may a__law_right a_law d__law_deck d__law_draw d__law_worth d__law_pick d__law_worths d_span_of d__law_beside d__law_tests d__law_span d_are_like d_may_meet d_meets d__law_sound d__law_may d__law_right d_law) : FnG P w K mg base CX0 2 a_may_meet d_may_meet ["span", "test"] (spD K 2 m_may_meet) :=
  fnd_of (N := NN_may_meet) (ps := ["span", "test"]) (m := b_may_meet) T.F_may_meet sc_may_meet fun cdv A outer s H E hg hr =>
    (dss_cons (ds_asg (de_var (i := 0) rfl vi_may_meet_0 nd_32 nc_32) (dg_tup (ts := [2, 3, 4, 5]) rfl (dgs_cons (ts := [2]) (us := [3, 4, 5]) (dg_name (i := 2) sc_may_meet.nd rfl lo_may_meet_2 (.inl rfl)) (dgs_cons (ts := [3]) (us := [4, 5]) (dg_name (i := 3) sc_may_meet.nd rfl lo_may_meet_3 (.inl rfl)) (dgs_cons (ts := [4]) (us := [5]) (dg_name (i := 4) sc_may_meet.nd rfl lo_may_meet_4 (.inl rfl)) (dgs_cons (ts := [5]) (us := []) (dg_name (i := 5) sc_may_meet.nd rfl lo_may_meet_5 (.inl rfl)) dgs_nil (by rfl)) (by rfl)) (by rfl)) (by rfl)) (by rfl) (by rfl)) (by rfl) (by rfl) (by rfl))
    (dss_cons (ds_asg (de_var (i := 1) rfl vi_may_meet_1 nd_33 nc_33) (dg_tup (ts := [6, 7, 8]) rfl (dgs_cons (ts := [6]) (us := [7, 8]) (dg_name (i := 6) sc_may_meet.nd rfl lo_may_meet_6 (.inl rfl)) (dgs_cons (ts := [7]) (us := [8]) (dg_name (i := 7) sc_may_meet.nd rfl lo_may_meet_7 (.inl rfl)) (dgs_cons (ts := [8]) (us := []) (dg_name (i := 8) sc_may_meet.nd rfl lo_may_meet_8 (.inl rfl)) dgs_nil (by rfl)) (by rfl)) (by rfl)) (by rfl) (by rfl)) (by rfl) (by rfl) (by rfl))
    (dss_cons (ds_if (dt_cmp op_isN opd_isN (de_var (i := 8) rfl vi_may_meet_8 nd_34 nc_34) de_non (nomark _)) (dss_one (ds_ret (de_and (de_cmp (op_eqA hr.units) opd_eq (de_var (i := 7) rfl vi_may_meet_7 nd_35 nc_35) de_str (nomark _)) (de_one (de_cmp op_gtA opd_cmp (de_var (i := 5) rfl vi_may_meet_5 nd_36 nc_36) de_int (nomark _)))))) dss_nil)
    (dss_cons (ds_if (dt_not (dt_truth (de_call (ok_are_like T) hg (hr.mono (by decide)) (by rfl) T.g_are_like T.F_are_like.kp (kp_are_like T) nd_37 (da_cons (de_var (i := 3) rfl vi_may_meet_3 nd_38 nc_38) (da_cons (de_var (i := 8) rfl vi_may_meet_8 nd_34 nc_34) da_nil (by rfl)) (by rfl)) (by rfl) (by rfl)) (by intro _; rfl))) (dss_one (ds_ret de_bl)) dss_nil)
    (dss_cons (ds_if (dt_cmp (op_eqA hr.units) opd_eq (de_var (i := 7) rfl vi_may_meet_7 nd_35 nc_35) de_str (nomark _)) (dss_one (ds_ret (de_chain op_leA opd_cmp op_leA opd_cmp (de_var (i := 3) rfl vi_may_meet_3 nd_38 nc_38) (de_var (i := 8) rfl vi_may_meet_8 nd_34 nc_34) (de_var (i := 4) rfl vi_may_meet_4 nd_39 nc_39) (by with_unfolding_all rfl)))) dss_nil)
    (dss_one (ds_ret (de_if (dt_cmp (op_eqA hr.units) opd_eq (de_var (i := 7) rfl vi_may_meet_7 nd_35 nc_35) de_str (nomark _)) (de_cmp op_ltA opd_cmp (de_var (i := 3) rfl vi_may_meet_3 nd_38 nc_38) (de_var (i := 8) rfl vi_may_meet_8 nd_34 nc_34) (nomark _)) (de_cmp op_geA opd_cmp (de_var (i := 4) rfl vi_may_meet_4 nd_39 nc_39) (de_var (i := 8) rfl vi_may_meet_8 nd_34 nc_34) (nomark _))))))))))
theorem kp_meets (T : Facts K mg a__law_deck a__law_draw a__law_worth a__law_pick a__law_worths a_span_of a__law_beside a__law_tests a__law_span a_are_like a_may_meet a_meets a__law_sound a__law_may a__law_right a_law d__law_deck d__law_draw d__law_worth d__law_pick d__law_worths d_span_of d__law_beside d__law_tests d__law_span d_are_like d_may_meet d_meets d__law_sound d__law_may d__law_right d_law) : KBinds K d_meets ["test", "worth"] [] (fun us _ => us) (fun vs _ => vs) := Fun.kpos T.F_meets fun _ _ _ _ _ _ us hl => match us, hl with | [_, _], _ => rfl
theorem ok_meets (T : Facts K mg a__law_deck a__law_draw a__law_worth a__law_pick a__law_worths a_span_of a__law_beside a__law_tests a__law_span a_are_like a_may_meet a_meets a__law_sound a__law_may a__law_right a_law d__law_deck d__law_draw d__law_worth d__law_pick d__law_worths d_span_of d__law_beside d__law_tests d__law_span d_are_like d_may_meet d_meets d__law_sound d__law_may d__law_right d_law) : FnG P w K mg base CX0 2 a_meets d_meets ["test", "worth"] (spD K 2 m_meets) :=
  fnd_of (N := NN_meets) (ps := ["test", "worth"]) (m := b_meets) T.F_meets sc_meets fun cdv A outer s H E hg hr =>
    (dss_cons (ds_asg (de_var (i := 0) rfl vi_meets_0 nd_33 nc_33) (dg_tup (ts := [2, 3, 4]) rfl (dgs_cons (ts := [2]) (us := [3, 4]) (dg_name (i := 2) sc_meets.nd rfl lo_meets_2 (.inl rfl)) (dgs_cons (ts := [3]) (us := [4]) (dg_name (i := 3) sc_meets.nd rfl lo_meets_3 (.inl rfl)) (dgs_cons (ts := [4]) (us := []) (dg_name (i := 4) sc_meets.nd rfl lo_meets_4 (.inl rfl)) dgs_nil (by rfl)) (by rfl)) (by rfl)) (by rfl) (by rfl)) (by rfl) (by rfl) (by rfl))
    (dss_cons (ds_if (dt_cmp (op_eqA hr.units) opd_eq (de_var (i := 3) rfl vi_meets_3 nd_35 nc_35) de_str (nomark _)) (dss_one (ds_ret (de_cmp (op_eqA hr.units) opd_eq (de_var (i := 1) rfl vi_meets_1 nd_23 nc_23) (de_var (i := 4) rfl vi_meets_4 nd_34 nc_34) (nomark _)))) dss_nil)
    (dss_cons (ds_if (dt_not (dt_truth (de_call (ok_are_like T) hg (hr.mono (by decide)) (by rfl) T.g_are_like T.F_are_like.kp (kp_are_like T) nd_37 (da_cons (de_var (i := 1) rfl vi_meets_1 nd_23 nc_23) (da_cons (de_var (i := 4) rfl vi_meets_4 nd_34 nc_34) da_nil (by rfl)) (by rfl)) (by rfl) (by rfl)) (by intro _; rfl))) (dss_one (ds_ret de_bl)) dss_nil)
    (dss_one (ds_ret (de_if (dt_cmp (op_eqA hr.units) opd_eq (de_var (i := 3) rfl vi_meets_3 nd_35 nc_35) de_str (nomark _)) (de_cmp op_ltA opd_cmp (de_var (i := 1) rfl vi_meets_1 nd_23 nc_23) (de_var (i := 4) rfl vi_meets_4 nd_34 nc_34) (nomark _)) (de_cmp op_geA opd_cmp (de_var (i := 1) rfl vi_meets_1 nd_23 nc_23) (de_var (i := 4) rfl vi_meets_4 nd_34 nc_34) (nomark _))))))))
theorem kp__law_sound (T : Facts K mg a__law_deck a__law_draw a__law_worth a__law_pick a__law_worths a_span_of a__law_beside a__law_tests a__law_span a_are_like a_may_meet a_meets a__law_sound a__law_may a__law_right a_law d__law_deck d__law_draw d__law_worth d__law_pick d__law_worths d_span_of d__law_beside d__law_tests d__law_span d_are_like d_may_meet d_meets d__law_sound d__law_may d__law_right d_law) : KBinds K d__law_sound ["_law_stretch", "_law_worths_here", "_law_tests_here"] [] (fun us _ => us) (fun vs _ => vs) := Fun.kpos T.F__law_sound fun _ _ _ _ _ _ us hl => match us, hl with | [_, _, _], _ => rfl
theorem ok__law_sound (T : Facts K mg a__law_deck a__law_draw a__law_worth a__law_pick a__law_worths a_span_of a__law_beside a__law_tests a__law_span a_are_like a_may_meet a_meets a__law_sound a__law_may a__law_right a_law d__law_deck d__law_draw d__law_worth d__law_pick d__law_worths d_span_of d__law_beside d__law_tests d__law_span d_are_like d_may_meet d_meets d__law_sound d__law_may d__law_right d_law) : FnG P w K mg base CX0 3 a__law_sound d__law_sound ["_law_stretch", "_law_worths_here", "_law_tests_here"] (spD K 3 m__law_sound) :=
  fnd_of (N := NN__law_sound) (ps := ["_law_stretch", "_law_worths_here", "_law_tests_here"]) (m := b__law_sound) T.F__law_sound sc__law_sound fun cdv A outer s H E hg hr =>
    (dss_cons (ds_for PassesOwn.never rfl (di_seq (de_var (i := 2) rfl vi__law_sound_2 nd_40 nc_40)) (dg_name (i := 3) sc__law_sound.nd rfl lo__law_sound_3 (.inl rfl)) (dss_cons (ds_set (i := 4) sc__law_sound.nd rfl lo__law_sound_4 (.inl rfl) (de_cmp (op_neA hr.units) opd_ne (de_lc (ts := [5]) (own := [("_law_worth_here", 5)]) rfl sc__law_sound.nd (di_seq (de_var (i := 1) rfl vi__law_sound_1 nd_27 nc_27)) (blkOk_by (own := [("_law_worth_here", 5)]) (N := NN__law_sound) (sc := defScope s__law_sound) (by decide +kernel)) (by decide) (fun _ _ _ _ _ => (dg_name (i := 5) sc__law_sound.nd rfl (.inl rfl) (.inr rfl))) (fun _ _ _ _ _ => (dts_one (dt_truth (de_call (ok_meets T) hg (hr.mono (by decide)) (by rfl) T.g_meets T.F_meets.kp (kp_meets T) nd_41 (da_cons (de_varB (i := 3) rfl (.inr (by decide +kernel)) nd_42 nc_42) (da_cons (de_varB (i := 5) rfl (.inl (by decide +kernel)) nd_26 nc_26) da_nil (by rfl)) (by rfl)) (by rfl) (by rfl)) (by intro _; rfl)))) (fun _ _ _ _ _ => (de_varB (i := 5) rfl (.inl (by decide +kernel)) nd_26 nc_26)) (by intro _; rfl)) (de_lst da_nil) (nomark _)) (by rfl))
    (dss_cons (ds_if (dw_and (dt_truth (de_var (i := 4) rfl vi__law_sound_4 nd_43 nc_43) (by intro _; rfl)) (dw_and1 (dt_not (dt_truth (de_call (ok_may_meet T) hg (hr.mono (by decide)) (by rfl) T.g_may_meet T.F_may_meet.kp (kp_may_meet T) nd_44 (da_cons (de_var (i := 0) rfl vi__law_sound_0 nd_45 nc_45) (da_cons (de_var (i := 3) rfl vi__law_sound_3 nd_42 nc_42) da_nil (by rfl)) (by rfl)) (by rfl) (by rfl)) (by intro _; rfl))))).pt (dss_one (ds_ret de_bl)) dss_nil)
    (dss_one (ds_if (dw_and (dt_truth (de_call (ok_may_meet T) hg (hr.mono (by decide)) (by rfl) T.g_may_meet T.F_may_meet.kp (kp_may_meet T) nd_44 (da_cons (de_var (i := 0) rfl vi__law_sound_0 nd_45 nc_45) (da_cons (de_var (i := 3) rfl vi__law_sound_3 nd_42 nc_42) da_nil (by rfl)) (by rfl)) (by rfl) (by rfl)) (by intro _; rfl)) (dw_and (dt_not (dt_truth (de_var (i := 4) rfl vi__law_sound_4 nd_43 nc_43) (by intro _; rfl))) (dw_and1 (dw_or (dt_cmp (op_neA hr.units) opd_ne (de_ix ix_seq opd_ix (de_var (i := 3) rfl vi__law_sound_3 nd_42 nc_42) de_int (fun _ _ => rfl)) de_str (nomark _)) (dw_or1 (dt_cmp (op_eqA hr.units) opd_eq (de_ix ix_seq opd_ix (de_var (i := 0) rfl vi__law_sound_0 nd_45 nc_45) de_int (fun _ _ => rfl)) (de_ix ix_seq opd_ix (de_var (i := 0) rfl vi__law_sound_0 nd_45 nc_45) de_int (fun _ _ => rfl)) (nomark _)))).pt))).pt (dss_one (ds_ret de_bl)) dss_nil)))) (by intro _; rfl))
    (dss_one (ds_ret de_bl)))
theorem kp__law_may (T : Facts K mg a__law_deck a__law_draw a__law_worth a__law_pick a__law_worths a_span_of a__law_beside a__law_tests a__law_span a_are_like a_may_meet a_meets a__law_sound a__law_may a__law_right a_law d__law_deck d__law_draw d__law_worth d__law_pick d__law_worths d_span_of d__law_beside d__law_tests d__law_span d_are_like d_may_meet d_meets d__law_sound d__law_may d__law_right d_law) : KBinds K d__law_may ["_law_stretch", "_law_word", "_law_due"] [] (fun us _ => us) (fun vs _ => vs) := Fun.kpos T.F__law_may fun _ _ _ _ _ _ us hl => match us, hl with | [_, _, _], _ => rfl
theorem ok__law_may (T : Facts K mg a__law_deck a__law_draw a__law_worth a__law_pick a__law_worths a_span_of a__law_beside a__law_tests a__law_span a_are_like a_may_meet a_meets a__law_sound a__law_may a__law_right a_law d__law_deck d__law_draw d__law_worth d__law_pick d__law_worths d_span_of d__law_beside d__law_tests d__law_span d_are_like d_may_meet d_meets d__law_sound d__law_may d__law_right d_law) : FnG P w K mg base CX0 1 a__law_may d__law_may ["_law_stretch", "_law_word", "_law_due"] (spD K 3 m__law_may) :=
  fnd_of (N := NN__law_may) (ps := ["_law_stretch", "_law_word", "_law_due"]) (m := b__law_may) T.F__law_may sc__law_may fun cdv A outer s H E hg hr =>
    (dss_cons (ds_asg (de_slice (de_var (i := 0) rfl vi__law_may_0 nd_45 nc_45) (do_some de_int) do_none) (dg_tup (ts := [3, 4, 5]) rfl (dgs_cons (ts := [3]) (us := [4, 5]) (dg_name (i := 3) sc__law_may.nd rfl lo__law_may_3 (.inl rfl)) (dgs_cons (ts := [4]) (us := [5]) (dg_name (i := 4) sc__law_may.nd rfl lo__law_may_4 (.inl rfl)) (dgs_cons (ts := [5]) (us := []) (dg_name (i := 5) sc__law_may.nd rfl lo__law_may_5 (.inl rfl)) dgs_nil (by rfl)) (by rfl)) (by rfl)) (by rfl) (by rfl)) (by rfl) (by rfl) (by rfl))
    (dss_cons (ds_if (dw_and (dt_cmp (op_eqA hr.units) opd_eq (de_var (i := 1) rfl vi__law_may_1 nd_13 nc_13) de_str (nomark _)) (dw_and1 (dt_cmp op_isN opd_isN (de_var (i := 2) rfl vi__law_may_2 nd_46 nc_46) de_non (nomark _)))).pt (dss_one (ds_ret (de_cmp op_gtA opd_cmp (de_var (i := 5) rfl vi__law_may_5 nd_29 nc_29) de_int (nomark _)))) dss_nil)
    (dss_cons (ds_if (dw_or (dt_cmp op_isN opd_isN (de_var (i := 3) rfl vi__law_may_3 nd_47 nc_47) de_non (nomark _)) (dw_or (dt_cmp op_isN opd_isN (de_var (i := 2) rfl vi__law_may_2 nd_46 nc_46) de_non (nomark _)) (dw_or1 (dt_cmp (op_neA hr.units) opd_ne (de_callB call_isi cd_isi (by rfl) T.n_isinstance bt_isinstance (by decide) (by decide) (da_cons (de_var (i := 3) rfl vi__law_may_3 nd_47 nc_47) (da_cons (de_ty (by rfl) T.n_str bt_str (by decide) (by decide)) da_nil (by rfl)) (by rfl)) (by rfl) (by rfl)) (de_callB call_isi cd_isi (by rfl) T.n_isinstance bt_isinstance (by decide) (by decide) (da_cons (de_var (i := 2) rfl vi__law_may_2 nd_46 nc_46) (da_cons (de_ty (by rfl) T.n_str bt_str (by decide) (by decide)) da_nil (by rfl)) (by rfl)) (by rfl) (by rfl)) (nomark _))))).pt (dss_one (ds_ret de_bl)) dss_nil)
    (dss_cons (ds_if (dt_cmp (op_eqA hr.units) opd_eq (de_var (i := 1) rfl vi__law_may_1 nd_13 nc_13) de_str (nomark _)) (dss_one (ds_ret (de_cmp op_ltA opd_cmp (de_var (i := 3) rfl vi__law_may_3 nd_47 nc_47) (de_var (i := 2) rfl vi__law_may_2 nd_46 nc_46) (nomark _)))) dss_nil)
    (dss_one (ds_ret (de_and (de_not (de_cmp op_ltA opd_cmp (de_var (i := 4) rfl vi__law_may_4 nd_48 nc_48) (de_var (i := 2) rfl vi__law_may_2 nd_46 nc_46) (nomark _))) (de_one (de_or (de_cmp (op_eqA hr.units) opd_eq (de_var (i := 1) rfl vi__law_may_1 nd_13 nc_13) de_str (nomark _)) (de_one (de_not (de_cmp op_ltA opd_cmp (de_var (i := 2) rfl vi__law_may_2 nd_46 nc_46) (de_var (i := 3) rfl vi__law_may_3 nd_47 nc_47) (nomark _)))))))))))))
theorem kp__law_right (T : Facts K mg a__law_deck a__law_draw a__law_worth a__law_pick a__law_worths a_span_of a__law_beside a__law_tests a__law_span a_are_like a_may_meet a_meets a__law_sound a__law_may a__law_right a_law d__law_deck d__law_draw d__law_worth d__law_pick d__law_worths d_span_of d__law_beside d__law_tests d__law_span d_are_like d_may_meet d_meets d__law_sound d__law_may d__law_right d_law) : KBinds K d__law_right ["_law_stretch", "_law_tests_here"] [] (fun us _ => us) (fun vs _ => vs) := Fun.kpos T.F__law_right fun _ _ _ _ _ _ us hl => match us, hl with | [_, _], _ => rfl
theorem ok__law_right (T : Facts K mg a__law_deck a__law_draw a__law_worth a__law_pick a__law_worths a_span_of a__law_beside a__law_tests a__law_span a_are_like a_may_meet a_meets a__law_sound a__law_may a__law_right a_law d__law_deck d__law_draw d__law_worth d__law_pick d__law_worths d_span_of d__law_beside d__law_tests d__law_span d_are_like d_may_meet d_meets d__law_sound d__law_may d__law_right d_law) : FnG P w K mg base CX0 3 a__law_right d__law_right ["_law_stretch", "_law_tests_here"] (spD K 2 m__law_right) :=
  fnd_of (N := NN__law_right) (ps := ["_law_stretch", "_law_tests_here"]) (m := b__law_right) T.F__law_right sc__law_right fun cdv A outer s H E hg hr =>
    (dss_cons (ds_for PassesOwn.never rfl (di_seq (de_var (i := 1) rfl vi__law_right_1 nd_40 nc_40)) (dg_name (i := 2) sc__law_right.nd rfl lo__law_right_2 (.inl rfl)) (dss_cons (ds_par2 rfl sc__law_right.nd (i := 3) (j := 4) rfl rfl (by decide) ll__law_right_3 ll__law_right_4 (da_cons (de_callB (call_repr hg hr.units) cd_repr (by rfl) T.n_repr bt_repr (by decide) (by decide) (da_cons (de_tup (da_cons (de_var (i := 0) rfl vi__law_right_0 nd_45 nc_45) (da_cons (de_var (i := 2) rfl vi__law_right_2 nd_42 nc_42) da_nil (by rfl)) (by rfl))) da_nil (by rfl)) (by rfl) (by rfl)) (da_cons (de_callB (call_repr hg hr.units) cd_repr (by rfl) T.n_repr bt_repr (by decide) (by decide) (da_cons (de_call (ok__law_may T) hg (hr.mono (by decide)) (by rfl) T.g__law_may T.F__law_may.kp (kp__law_may T) nd_49 (da_cons (de_var (i := 0) rfl vi__law_right_0 nd_45 nc_45) (da_cons (de_ix ix_seq opd_ix (de_var (i := 2) rfl vi__law_right_2 nd_42 nc_42) de_int (fun _ _ => rfl)) (da_cons (de_ix ix_seq opd_ix (de_var (i := 2) rfl vi__law_right_2 nd_42 nc_42) de_int (fun _ _ => rfl)) da_nil (by rfl)) (by rfl)) (by rfl)) (by rfl) (by rfl)) da_nil (by rfl)) (by rfl) (by rfl)) da_nil (by rfl)) (by rfl)) (by rfl) (by rfl))
    (dss_cons (ds_set (i := 5) sc__law_right.nd rfl lo__law_right_5 (.inl rfl) (de_tup (da_cons de_str (da_cons (de_ix ix_seq opd_ix (de_var (i := 2) rfl vi__law_right_2 nd_42 nc_42) de_int (fun _ _ => rfl)) (da_cons (de_ix ix_seq opd_ix (de_var (i := 2) rfl vi__law_right_2 nd_42 nc_42) de_int (fun _ _ => rfl)) da_nil (by rfl)) (by rfl)) (by rfl))) (by rfl))
    (dss_cons (ds_if (dw_or (dt_cmp (op_neA hr.units) opd_ne (de_callB (call_repr hg hr.units) cd_repr (by rfl) T.n_repr bt_repr (by decide) (by decide) (da_cons (de_call (ok_may_meet T) hg (hr.mono (by decide)) (by rfl) T.g_may_meet T.F_may_meet.kp (kp_may_meet T) nd_44 (da_cons (de_var (i := 0) rfl vi__law_right_0 nd_45 nc_45) (da_cons (de_var (i := 2) rfl vi__law_right_2 nd_42 nc_42) da_nil (by rfl)) (by rfl)) (by rfl) (by rfl)) da_nil (by rfl)) (by rfl) (by rfl)) (de_var (i := 4) rfl vi__law_right_4 nd_46 nc_46) (nomark _)) (dw_or1 (dt_cmp (op_neA hr.units) opd_ne (de_callB (call_repr hg hr.units) cd_repr (by rfl) T.n_repr bt_repr (by decide) (by decide) (da_cons (de_callK (is := [1, 0]) (ok_may_meet T) hg (hr.mono (by decide)) (by rfl) T.g_may_meet T.F_may_meet.kp (kw_may_meet_1_0 T) nd_44 (dk_cons (de_var (i := 5) rfl vi__law_right_5 nd_50 nc_50) (dk_cons (de_var (i := 0) rfl vi__law_right_0 nd_45 nc_45) dk_nil)) (by rfl) (by rfl) (by rfl)) da_nil (by rfl)) (by rfl) (by rfl)) (de_var (i := 4) rfl vi__law_right_4 nd_46 nc_46) (nomark _)))).pt (dss_one (ds_ret de_bl)) dss_nil)
    (dss_one (ds_if (dt_cmp (op_neA hr.units) opd_ne (de_callB (call_repr hg hr.units) cd_repr (by rfl) T.n_repr bt_repr (by decide) (by decide) (da_cons (de_tup (da_cons (de_var (i := 0) rfl vi__law_right_0 nd_45 nc_45) (da_cons (de_var (i := 2) rfl vi__law_right_2 nd_42 nc_42) da_nil (by rfl)) (by rfl))) da_nil (by rfl)) (by rfl) (by rfl)) (de_var (i := 3) rfl vi__law_right_3 nd_51 nc_51) (nomark _)) (dss_one (ds_ret de_bl)) dss_nil))))) (by intro _; rfl))
    (dss_one (ds_ret de_bl)))
theorem kp_law (T : Facts K mg a__law_deck a__law_draw a__law_worth a__law_pick a__law_worths a_span_of a__law_beside a__law_tests a__law_span a_are_like a_may_meet a_meets a__law_sound a__law_may a__law_right a_law d__law_deck d__law_draw d__law_worth d__law_pick d__law_worths d_span_of d__law_beside d__law_tests d__law_span d_are_like d_may_meet d_meets d__law_sound d__law_may d__law_right d_law) : KBinds K d_law ["_law_script"] [] (fun us _ => us) (fun vs _ => vs) := Fun.kpos T.F_law fun _ _ _ _ _ _ us hl => match us, hl with | [_], _ => rfl
theorem ok_law (T : Facts K mg a__law_deck a__law_draw a__law_worth a__law_pick a__law_worths a_span_of a__law_beside a__law_tests a__law_span a_are_like a_may_meet a_meets a__law_sound a__law_may a__law_right a_law d__law_deck d__law_draw d__law_worth d__law_pick d__law_worths d_span_of d__law_beside d__law_tests d__law_span d_are_like d_may_meet d_meets d__law_sound d__law_may d__law_right d_law) : FnG P w K mg base CX0 4 a_law d_law ["_law_script"] (spD K 1 m_law) :=
  fnd_of (N := NN_law) (ps := ["_law_script"]) (m := b_law) T.F_law sc_law fun cdv A outer s H E hg hr =>
    (dss_cons (ds_set (i := 1) sc_law.nd rfl lo_law_1 (.inl rfl) (de_call (ok__law_deck T) hg (hr.mono (by decide)) (by rfl) T.g__law_deck T.F__law_deck.kp (kp__law_deck T) nd_52 (da_cons (de_var (i := 0) rfl vi_law_0 nd_0 nc_0) da_nil (by rfl)) (by rfl) (by rfl)) (by rfl))
    (dss_cons (ds_set (i := 2) sc_law.nd rfl lo_law_2 (.inl rfl) (de_lstM da_nil) (by rfl))
    (dss_cons (ds_for PassesOwn.never rfl (di_range1 (by rfl) T.n_range (da_cons de_int da_nil (by rfl)) (by rfl)) (dg_name (i := 3) sc_law.nd rfl lo_law_3 (.inl rfl)) (dss_cons (ds_set (i := 4) sc_law.nd rfl lo_law_4 (.inl rfl) (de_call (ok__law_draw T) hg (hr.mono (by decide)) (by rfl) T.g__law_draw T.F__law_draw.kp (kp__law_draw T) nd_6 (da_cons (de_var (i := 1) rfl vi_law_1 nd_3 nc_3) (da_cons de_int da_nil (by rfl)) (by rfl)) (by rfl) (by rfl)) (by rfl))
    (dss_cons (ds_set (i := 5) sc_law.nd rfl lo_law_5 (.inl rfl) (de_call (ok__law_worths T) hg (hr.mono (by decide)) (by rfl) T.g__law_worths T.F__law_worths.kp (kp__law_worths T) nd_53 (da_cons (de_var (i := 1) rfl vi_law_1 nd_3 nc_3) (da_cons (de_var (i := 4) rfl vi_law_4 nd_15 nc_15) da_nil (by rfl)) (by rfl)) (by rfl) (by rfl)) (by rfl))
    (dss_cons (ds_set (i := 6) sc_law.nd rfl lo_law_6 (.inl rfl) (de_call (ok_span_of T) hg (hr.mono (by decide)) (by rfl) T.g_span_of T.F_span_of.kp (kp_span_of T) nd_54 (da_cons (de_op op_addA opd_add de_int (de_call (ok__law_draw T) hg (hr.mono (by decide)) (by rfl) T.g__law_draw T.F__law_draw.kp (kp__law_draw T) nd_6 (da_cons (de_var (i := 1) rfl vi_law_1 nd_3 nc_3) (da_cons de_int da_nil (by rfl)) (by rfl)) (by rfl) (by rfl))) (da_cons (de_var (i := 5) rfl vi_law_5 nd_27 nc_27) da_nil (by rfl)) (by rfl)) (by rfl) (by rfl)) (by rfl))
    (dss_cons (ds_set (i := 7) sc_law.nd rfl lo_law_7 (.inl rfl) (de_call (ok__law_tests T) hg (hr.mono (by decide)) (by rfl) T.g__law_tests T.F__law_tests.kp (kp__law_tests T) nd_55 (da_cons (de_var (i := 1) rfl vi_law_1 nd_3 nc_3) (da_cons (de_ix ix_seq opd_ix (de_var (i := 6) rfl vi_law_6 nd_45 nc_45) de_int (fun _ _ => rfl)) (da_cons (de_var (i := 5) rfl vi_law_5 nd_27 nc_27) da_nil (by rfl)) (by rfl)) (by rfl)) (by rfl) (by rfl)) (by rfl))
    (dss_cons (ds_expr (de_bm PySem.F.plainAttrs_list PySem.F.slot_list_append PySem.F.type_list_append mt_append md_append (de_var (i := 2) rfl vi_law_2 nd_14 nc_14) (da_cons (de_tup (da_cons (de_var (i := 6) rfl vi_law_6 nd_45 nc_45) (da_cons (de_var (i := 7) rfl vi_law_7 nd_40 nc_40) da_nil (by rfl)) (by rfl))) da_nil (by rfl)) (by rfl) (by rfl) (by rfl) (by rfl) (by rfl)) (by rfl))
    (dss_cons (ds_if (dt_not (dt_truth (de_call (ok__law_sound T) hg (hr.mono (by decide)) (by rfl) T.g__law_sound T.F__law_sound.kp (kp__law_sound T) nd_56 (da_cons (de_var (i := 6) rfl vi_law_6 nd_45 nc_45) (da_cons (de_var (i := 5) rfl vi_law_5 nd_27 nc_27) (da_cons (de_var (i := 7) rfl vi_law_7 nd_40 nc_40) da_nil (by rfl)) (by rfl)) (by rfl)) (by rfl) (by rfl)) (by intro _; rfl))) (dss_one (ds_ret de_bl)) dss_nil)
    (dss_cons (ds_set (i := 8) sc_law.nd rfl lo_law_8 (.inl rfl) (de_call (ok__law_span T) hg (hr.mono (by decide)) (by rfl) T.g__law_span T.F__law_span.kp (kp__law_span T) nd_57 (da_cons (de_var (i := 1) rfl vi_law_1 nd_3 nc_3) (da_cons (de_var (i := 4) rfl vi_law_4 nd_15 nc_15) da_nil (by rfl)) (by rfl)) (by rfl) (by rfl)) (by rfl))
    (dss_one (ds_expr (de_bm PySem.F.plainAttrs_list PySem.F.slot_list_append PySem.F.type_list_append mt_append md_append (de_var (i := 2) rfl vi_law_2 nd_14 nc_14) (da_cons (de_tup (da_cons (de_var (i := 8) rfl vi_law_8 nd_58 nc_58) (da_cons (de_call (ok__law_tests T) hg (hr.mono (by decide)) (by rfl) T.g__law_tests T.F__law_tests.kp (kp__law_tests T) nd_55 (da_cons (de_var (i := 1) rfl vi_law_1 nd_3 nc_3) (da_cons (de_ix ix_seq opd_ix (de_var (i := 8) rfl vi_law_8 nd_58 nc_58) de_int (fun _ _ => rfl)) (da_cons (de_slice (de_var (i := 8) rfl vi_law_8 nd_58 nc_58) (do_some de_int) (do_some de_int)) da_nil (by rfl)) (by rfl)) (by rfl)) (by rfl) (by rfl)) da_nil (by rfl)) (by rfl))) da_nil (by rfl)) (by rfl) (by rfl) (by rfl) (by rfl) (by rfl)) (by rfl)))))))))) (by intro _; rfl))
    (dss_one (ds_ret (de_cmp (op_eqA hr.units) opd_eq (de_lc (ts := [6, 7]) (own := [("_law_stretch", 6), ("_law_tests_here", 7)]) rfl sc_law.nd (di_seq (de_op op_addA opd_add (de_var (i := 2) rfl vi_law_2 nd_14 nc_14) (de_slice (de_var (i := 2) rfl vi_law_2 nd_14 nc_14) do_none (do_some de_int)))) (blkOk_by (own := [("_law_stretch", 6), ("_law_tests_here", 7)]) (N := NN_law) (sc := defScope s_law) (by decide +kernel)) (by decide) (fun _ _ _ _ _ => (dg_tup (ts := [6, 7]) rfl (dgs_cons (ts := [6]) (us := [7]) (dg_name (i := 6) sc_law.nd rfl (.inl rfl) (.inr rfl)) (dgs_cons (ts := [7]) (us := []) (dg_name (i := 7) sc_law.nd rfl (.inl rfl) (.inr rfl)) dgs_nil (by rfl)) (by rfl)) (by rfl) (by rfl))) (fun _ _ _ _ _ => (dts_one (dt_not (dt_truth (de_call (ok__law_right T) hg (hr.mono (by decide)) (by rfl) T.g__law_right T.F__law_right.kp (kp__law_right T) nd_59 (da_cons (de_varB (i := 6) rfl (.inl (by decide +kernel)) nd_45 nc_45) (da_cons (de_varB (i := 7) rfl (.inl (by decide +kernel)) nd_40 nc_40) da_nil (by rfl)) (by rfl)) (by rfl) (by rfl)) (by intro _; rfl))))) (fun _ _ _ _ _ => (de_varB (i := 6) rfl (.inl (by decide +kernel)) nd_45 nc_45)) (by intro _; rfl)) (de_lst da_nil) (nomark _)))))))
end
/-! ### what the top has written: printed by gen.py -/
theorem all_mk {l : PySem.W.OpenLaw} {w : World} {K : PySem.W.Frag} {h : Heap} {mg : Str → Option Value} {fa a__law_deck a__law_draw a__law_worth a__law_pick a__law_worths a_span_of a__law_beside a__law_tests a__law_span a_are_like a_may_meet a_meets a__law_sound a__law_may a__law_right a_law : Addr} (X : K.In h) (G : h.Ns mainGlobals mg) (hfa : mg "law" = some (.ref fa))
    {od0 an0 : Option Addr} {sl0 : Array (Option Value)} {oc0 kV0 dc0 pm0 cd0 ct0 : Value}
    {od1 an1 : Option Addr} {sl1 : Array (Option Value)} {oc1 kV1 dc1 pm1 cd1 ct1 : Value}
    {od2 an2 : Option Addr} {sl2 : Array (Option Value)} {oc2 kV2 dc2 pm2 cd2 ct2 : Value}
    {od3 an3 : Option Addr} {sl3 : Array (Option Value)} {oc3 kV3 dc3 pm3 cd3 ct3 : Value}
    {od4 an4 : Option Addr} {sl4 : Array (Option Value)} {oc4 kV4 dc4 pm4 cd4 ct4 : Value}
    {od5 an5 : Option Addr} {sl5 : Array (Option Value)} {oc5 kV5 dc5 pm5 cd5 ct5 : Value}
    {od6 an6 : Option Addr} {sl6 : Array (Option Value)} {oc6 kV6 dc6 pm6 cd6 ct6 : Value}
    {od7 an7 : Option Addr} {sl7 : Array (Option Value)} {oc7 kV7 dc7 pm7 cd7 ct7 : Value}
    {od8 an8 : Option Addr} {sl8 : Array (Option Value)} {oc8 kV8 dc8 pm8 cd8 ct8 : Value}
    {od9 an9 : Option Addr} {sl9 : Array (Option Value)} {oc9 kV9 dc9 pm9 cd9 ct9 : Value}
    {od10 an10 : Option Addr} {sl10 : Array (Option Value)} {oc10 kV10 dc10 pm10 cd10 ct10 : Value}
    {od11 an11 : Option Addr} {sl11 : Array (Option Value)} {oc11 kV11 dc11 pm11 cd11 ct11 : Value}
    {od12 an12 : Option Addr} {sl12 : Array (Option Value)} {oc12 kV12 dc12 pm12 cd12 ct12 : Value}
    {od13 an13 : Option Addr} {sl13 : Array (Option Value)} {oc13 kV13 dc13 pm13 cd13 ct13 : Value}
    {od14 an14 : Option Addr} {sl14 : Array (Option Value)} {oc14 kV14 dc14 pm14 cd14 ct14 : Value}
    {od15 an15 : Option Addr} {sl15 : Array (Option Value)} {oc15 kV15 dc15 pm15 cd15 ct15 : Value}
    (a0 : PySem.W.nsIn K mainGlobals "_law_deck" = some (some (.ref a__law_deck))) (l0 : K.lookup a__law_deck = some ⟨oc0, od0, .func (PySem.W.fnOf "_law_deck" "_law_deck" (defArgs s__law_deck) (defBody s__law_deck) (defScope s__law_deck) .none kV0 dc0 pm0 an0 cd0 ct0), sl0⟩) (c0 : PySem.W.codeIn K cd0 "_law_deck" = true) (k0 : PySem.W.keepIn K (.ref a__law_deck) = true)
    (a1 : PySem.W.nsIn K mainGlobals "_law_draw" = some (some (.ref a__law_draw))) (l1 : K.lookup a__law_draw = some ⟨oc1, od1, .func (PySem.W.fnOf "_law_draw" "_law_draw" (defArgs s__law_draw) (defBody s__law_draw) (defScope s__law_draw) .none kV1 dc1 pm1 an1 cd1 ct1), sl1⟩) (c1 : PySem.W.codeIn K cd1 "_law_draw" = true) (k1 : PySem.W.keepIn K (.ref a__law_draw) = true)
    (a2 : PySem.W.nsIn K mainGlobals "_law_worth" = some (some (.ref a__law_worth))) (l2 : K.lookup a__law_worth = some ⟨oc2, od2, .func (PySem.W.fnOf "_law_worth" "_law_worth" (defArgs s__law_worth) (defBody s__law_worth) (defScope s__law_worth) .none kV2 dc2 pm2 an2 cd2 ct2), sl2⟩) (c2 : PySem.W.codeIn K cd2 "_law_worth" = true) (k2 : PySem.W.keepIn K (.ref a__law_worth) = true)
    (a3 : PySem.W.nsIn K mainGlobals "_law_pick" = some (some (.ref a__law_pick))) (l3 : K.lookup a__law_pick = some ⟨oc3, od3, .func (PySem.W.fnOf "_law_pick" "_law_pick" (defArgs s__law_pick) (defBody s__law_pick) (defScope s__law_pick) .none kV3 dc3 pm3 an3 cd3 ct3), sl3⟩) (c3 : PySem.W.codeIn K cd3 "_law_pick" = true) (k3 : PySem.W.keepIn K (.ref a__law_pick) = true)
    (a4 : PySem.W.nsIn K mainGlobals "_law_worths" = some (some (.ref a__law_worths))) (l4 : K.lookup a__law_worths = some ⟨oc4, od4, .func (PySem.W.fnOf "_law_worths" "_law_worths" (defArgs s__law_worths) (defBody s__law_worths) (defScope s__law_worths) .none kV4 dc4 pm4 an4 cd4 ct4), sl4⟩) (c4 : PySem.W.codeIn K cd4 "_law_worths" = true) (k4 : PySem.W.keepIn K (.ref a__law_worths) = true)
    (a5 : PySem.W.nsIn K mainGlobals "span_of" = some (some (.ref a_span_of))) (l5 : K.lookup a_span_of = some ⟨oc5, od5, .func (PySem.W.fnOf "span_of" "span_of" (defArgs s_span_of) (defBody s_span_of) (defScope s_span_of) .none kV5 dc5 pm5 an5 cd5 ct5), sl5⟩) (c5 : PySem.W.codeIn K cd5 "span_of" = true) (k5 : PySem.W.keepIn K (.ref a_span_of) = true)
    (a6 : PySem.W.nsIn K mainGlobals "_law_beside" = some (some (.ref a__law_beside))) (l6 : K.lookup a__law_beside = some ⟨oc6, od6, .func (PySem.W.fnOf "_law_beside" "_law_beside" (defArgs s__law_beside) (defBody s__law_beside) (defScope s__law_beside) .none kV6 dc6 pm6 an6 cd6 ct6), sl6⟩) (c6 : PySem.W.codeIn K cd6 "_law_beside" = true) (k6 : PySem.W.keepIn K (.ref a__law_beside) = true)
    (a7 : PySem.W.nsIn K mainGlobals "_law_tests" = some (some (.ref a__law_tests))) (l7 : K.lookup a__law_tests = some ⟨oc7, od7, .func (PySem.W.fnOf "_law_tests" "_law_tests" (defArgs s__law_tests) (defBody s__law_tests) (defScope s__law_tests) .none kV7 dc7 pm7 an7 cd7 ct7), sl7⟩) (c7 : PySem.W.codeIn K cd7 "_law_tests" = true) (k7 : PySem.W.keepIn K (.ref a__law_tests) = true)
    (a8 : PySem.W.nsIn K mainGlobals "_law_span" = some (some (.ref a__law_span))) (l8 : K.lookup a__law_span = some ⟨oc8, od8, .func (PySem.W.fnOf "_law_span" "_law_span" (defArgs s__law_span) (defBody s__law_span) (defScope s__law_span) .none kV8 dc8 pm8 an8 cd8 ct8), sl8⟩) (c8 : PySem.W.codeIn K cd8 "_law_span" = true) (k8 : PySem.W.keepIn K (.ref a__law_span) = true)
    (a9 : PySem.W.nsIn K mainGlobals "are_like" = some (some (.ref a_are_like))) (l9 : K.lookup a_are_like = some ⟨oc9, od9, .func (PySem.W.fnOf "are_like" "are_like" (defArgs s_are_like) (defBody s_are_like) (defScope s_are_like) .none kV9 dc9 pm9 an9 cd9 ct9), sl9⟩) (c9 : PySem.W.codeIn K cd9 "are_like" = true) (k9 : PySem.W.keepIn K (.ref a_are_like) = true)
    (a10 : PySem.W.nsIn K mainGlobals "may_meet" = some (some (.ref a_may_meet))) (l10 : K.lookup a_may_meet = some ⟨oc10, od10, .func (PySem.W.fnOf "may_meet" "may_meet" (defArgs s_may_meet) (defBody s_may_meet) (defScope s_may_meet) .none kV10 dc10 pm10 an10 cd10 ct10), sl10⟩) (c10 : PySem.W.codeIn K cd10 "may_meet" = true) (k10 : PySem.W.keepIn K (.ref a_may_meet) = true)
    (a11 : PySem.W.nsIn K mainGlobals "meets" = some (some (.ref a_meets))) (l11 : K.lookup a_meets = some ⟨oc11, od11, .func (PySem.W.fnOf "meets" "meets" (defArgs s_meets) (defBody s_meets) (defScope s_meets) .none kV11 dc11 pm11 an11 cd11 ct11), sl11⟩) (c11 : PySem.W.codeIn K cd11 "meets" = true) (k11 : PySem.W.keepIn K (.ref a_meets) = true)
    (a12 : PySem.W.nsIn K mainGlobals "_law_sound" = some (some (.ref a__law_sound))) (l12 : K.lookup a__law_sound = some ⟨oc12, od12, .func (PySem.W.fnOf "_law_sound" "_law_sound" (defArgs s__law_sound) (defBody s__law_sound) (defScope s__law_sound) .none kV12 dc12 pm12 an12 cd12 ct12), sl12⟩) (c12 : PySem.W.codeIn K cd12 "_law_sound" = true) (k12 : PySem.W.keepIn K (.ref a__law_sound) = true)
    (a13 : PySem.W.nsIn K mainGlobals "_law_may" = some (some (.ref a__law_may))) (l13 : K.lookup a__law_may = some ⟨oc13, od13, .func (PySem.W.fnOf "_law_may" "_law_may" (defArgs s__law_may) (defBody s__law_may) (defScope s__law_may) .none kV13 dc13 pm13 an13 cd13 ct13), sl13⟩) (c13 : PySem.W.codeIn K cd13 "_law_may" = true) (k13 : PySem.W.keepIn K (.ref a__law_may) = true)
    (a14 : PySem.W.nsIn K mainGlobals "_law_right" = some (some (.ref a__law_right))) (l14 : K.lookup a__law_right = some ⟨oc14, od14, .func (PySem.W.fnOf "_law_right" "_law_right" (defArgs s__law_right) (defBody s__law_right) (defScope s__law_right) .none kV14 dc14 pm14 an14 cd14 ct14), sl14⟩) (c14 : PySem.W.codeIn K cd14 "_law_right" = true) (k14 : PySem.W.keepIn K (.ref a__law_right) = true)
    (a15 : PySem.W.nsIn K mainGlobals "law" = some (some (.ref a_law))) (l15 : K.lookup a_law = some ⟨oc15, od15, .func (PySem.W.fnOf "law" "law" (defArgs s_law) (defBody s_law) (defScope s_law) .none kV15 dc15 pm15 an15 cd15 ct15), sl15⟩) (c15 : PySem.W.codeIn K cd15 "law" = true) (k15 : PySem.W.keepIn K (.ref a_law) = true)
    (z0 : PySem.W.nsIn K mainGlobals "int" = some none)
    (z1 : PySem.W.nsIn K mainGlobals "isinstance" = some none)
    (z2 : PySem.W.nsIn K mainGlobals "len" = some none)
    (z3 : PySem.W.nsIn K mainGlobals "list" = some none)
    (z4 : PySem.W.nsIn K mainGlobals "max" = some none)
    (z5 : PySem.W.nsIn K mainGlobals "min" = some none)
    (z6 : PySem.W.nsIn K mainGlobals "range" = some none)
    (z7 : PySem.W.nsIn K mainGlobals "repr" = some none)
    (z8 : PySem.W.nsIn K mainGlobals "str" = some none)
    (z9 : PySem.W.nsIn K mainGlobals "sum" = some none)
    (z10 : PySem.W.nsIn K mainGlobals "tuple" = some none)
    : ∃ fd : FuncData, (∀ (s : Shared) (v : Value), BindsTo s fd ⟨[v], []⟩ [("_law_script", v)]) ∧ ∀ base : Heap, K.In base → base.Ns mainGlobals mg → FnG l.prog w K mg base CX0 4 fa fd ["_law_script"] (spD K 1 m_law) := by
  have e := hfa.symm.trans (PySem.W.mg_of X G a15)
  cases e
  have T : Facts K mg a__law_deck a__law_draw a__law_worth a__law_pick a__law_worths a_span_of a__law_beside a__law_tests a__law_span a_are_like a_may_meet a_meets a__law_sound a__law_may a__law_right fa (PySem.W.fnOf "_law_deck" "_law_deck" (defArgs s__law_deck) (defBody s__law_deck) (defScope s__law_deck) .none kV0 dc0 pm0 an0 cd0 ct0) (PySem.W.fnOf "_law_draw" "_law_draw" (defArgs s__law_draw) (defBody s__law_draw) (defScope s__law_draw) .none kV1 dc1 pm1 an1 cd1 ct1) (PySem.W.fnOf "_law_worth" "_law_worth" (defArgs s__law_worth) (defBody s__law_worth) (defScope s__law_worth) .none kV2 dc2 pm2 an2 cd2 ct2) (PySem.W.fnOf "_law_pick" "_law_pick" (defArgs s__law_pick) (defBody s__law_pick) (defScope s__law_pick) .none kV3 dc3 pm3 an3 cd3 ct3) (PySem.W.fnOf "_law_worths" "_law_worths" (defArgs s__law_worths) (defBody s__law_worths) (defScope s__law_worths) .none kV4 dc4 pm4 an4 cd4 ct4) (PySem.W.fnOf "span_of" "span_of" (defArgs s_span_of) (defBody s_span_of) (defScope s_span_of) .none kV5 dc5 pm5 an5 cd5 ct5) (PySem.W.fnOf "_law_beside" "_law_beside" (defArgs s__law_beside) (defBody s__law_beside) (defScope s__law_beside) .none kV6 dc6 pm6 an6 cd6 ct6) (PySem.W.fnOf "_law_tests" "_law_tests" (defArgs s__law_tests) (defBody s__law_tests) (defScope s__law_tests) .none kV7 dc7 pm7 an7 cd7 ct7) (PySem.W.fnOf "_law_span" "_law_span" (defArgs s__law_span) (defBody s__law_span) (defScope s__law_span) .none kV8 dc8 pm8 an8 cd8 ct8) (PySem.W.fnOf "are_like" "are_like" (defArgs s_are_like) (defBody s_are_like) (defScope s_are_like) .none kV9 dc9 pm9 an9 cd9 ct9) (PySem.W.fnOf "may_meet" "may_meet" (defArgs s_may_meet) (defBody s_may_meet) (defScope s_may_meet) .none kV10 dc10 pm10 an10 cd10 ct10) (PySem.W.fnOf "meets" "meets" (defArgs s_meets) (defBody s_meets) (defScope s_meets) .none kV11 dc11 pm11 an11 cd11 ct11) (PySem.W.fnOf "_law_sound" "_law_sound" (defArgs s__law_sound) (defBody s__law_sound) (defScope s__law_sound) .none kV12 dc12 pm12 an12 cd12 ct12) (PySem.W.fnOf "_law_may" "_law_may" (defArgs s__law_may) (defBody s__law_may) (defScope s__law_may) .none kV13 dc13 pm13 an13 cd13 ct13) (PySem.W.fnOf "_law_right" "_law_right" (defArgs s__law_right) (defBody s__law_right) (defScope s__law_right) .none kV14 dc14 pm14 an14 cd14 ct14) (PySem.W.fnOf "law" "law" (defArgs s_law) (defBody s_law) (defScope s_law) .none kV15 dc15 pm15 an15 cd15 ct15) := ⟨fun_mk (st := s__law_deck) l0 c0 k0, PySem.W.mg_of X G a0, fun_mk (st := s__law_draw) l1 c1 k1, PySem.W.mg_of X G a1, fun_mk (st := s__law_worth) l2 c2 k2, PySem.W.mg_of X G a2, fun_mk (st := s__law_pick) l3 c3 k3, PySem.W.mg_of X G a3, fun_mk (st := s__law_worths) l4 c4 k4, PySem.W.mg_of X G a4, fun_mk (st := s_span_of) l5 c5 k5, PySem.W.mg_of X G a5, fun_mk (st := s__law_beside) l6 c6 k6, PySem.W.mg_of X G a6, fun_mk (st := s__law_tests) l7 c7 k7, PySem.W.mg_of X G a7, fun_mk (st := s__law_span) l8 c8 k8, PySem.W.mg_of X G a8, fun_mk (st := s_are_like) l9 c9 k9, PySem.W.mg_of X G a9, fun_mk (st := s_may_meet) l10 c10 k10, PySem.W.mg_of X G a10, fun_mk (st := s_meets) l11 c11 k11, PySem.W.mg_of X G a11, fun_mk (st := s__law_sound) l12 c12 k12, PySem.W.mg_of X G a12, fun_mk (st := s__law_may) l13 c13 k13, PySem.W.mg_of X G a13, fun_mk (st := s__law_right) l14 c14 k14, PySem.W.mg_of X G a14, fun_mk (st := s_law) l15 c15 k15, PySem.W.mg_of X G a15, PySem.W.mg_none_of X G z0, PySem.W.mg_none_of X G z1, PySem.W.mg_none_of X G z2, PySem.W.mg_none_of X G z3, PySem.W.mg_none_of X G z4, PySem.W.mg_none_of X G z5, PySem.W.mg_none_of X G z6, PySem.W.mg_none_of X G z7, PySem.W.mg_none_of X G z8, PySem.W.mg_none_of X G z9, PySem.W.mg_none_of X G z10⟩
  exact ⟨_, fun s v => .of_eq rfl, fun base _ _ => ok_law T⟩
end Lk10

namespace Lk10
open PySem PySem.Spec PyProof.Rows L2 DL

theorem draw_w {μ : Mem} {a c : Addr} {t w : Int} {Q : D → Mem → Prop} {E : XD} (h : Deck μ a c t) (w0 : 0 < w) (w1 : w < 1000000) (ht : t < 1000000000000)
    (q : ∀ k μ', 0 ≤ k → k < w → Deck μ' a c (t + 1) → DL.Fr a c μ μ' → Q (.int k) μ') : m__law_draw [.obj a, .int w] μ Q E := by
  obtain ⟨ne, ⟨seed, u, ha, hu0, hu1⟩, ns, hc, hl⟩ := h
  have hac : a ≠ c := Ne.symm ne
  have lo : ∀ x : Int, -18446744073709551616 < x % 2147483647 := fun x => by have := Int.emod_nonneg x (show (2147483647 : Int) ≠ 0 by decide); omega
  have hi : ∀ x : Int, x % 2147483647 < 18446744073709551616 := fun x => by have := Int.emod_lt_of_pos x (show (0 : Int) < 2147483647 by decide); omega
  have lo' : ∀ x : Int, -18446744073709551616 < x % 2147483587 := fun x => by have := Int.emod_nonneg x (show (2147483587 : Int) ≠ 0 by decide); omega
  have hi' : ∀ x : Int, x % 2147483587 < 18446744073709551616 := fun x => by have := Int.emod_lt_of_pos x (show (0 : Int) < 2147483587 by decide); omega
  simp only [m__law_draw, b__law_draw, DL.x_bnd, DL.x_ret, DL.x_req, DL.x_get, DL.x_opt, DL.x_seq, DL.x_on, DL.x_or, DL.x_ob, DL.x_oc, DL.x_nil, DL.x_rt, DL.x_rtN, DL.x_drop, DL.x_break, DL.x_cont, DL.x_if, DL.x_ift, DL.x_iff, DL.x_set, DL.x_asg, DL.x_par2, DL.x_par3, DL.x_for, DL.x_v0, DL.x_vS, DL.x_c, DL.x_bin, DL.x_un, DL.x_tbin, DL.x_tru, DL.x_trb, DL.x_not, DL.x_tand, DL.x_tor, DL.x_and, DL.x_orE, DL.x_notE, DL.x_ifE, DL.x_tup, DL.x_lst, DL.x_lstM, DL.x_anil, DL.x_acons, DL.x_call, DL.x_callD, DL.x_callK, DL.x_meth, DL.x_sl, DL.x_oN, DL.x_oS, DL.x_gn, DL.x_gt, DL.x_gc, DL.x_g0, DL.x_gi, DL.x_body, DL.x_yes, DL.x_add, DL.x_addS, DL.x_addT, DL.x_addL, DL.x_sub, DL.x_mul, DL.x_div, DL.x_mod, DL.x_pow, DL.x_neg, DL.x_cmp, DL.x_cmpS, DL.x_isN, DL.x_mmL, DL.x_mm2, DL.x_eqS, DL.x_eqI, DL.x_intb, DL.onB_bl, DL.onI_int, DL.onO_nx, DL.onO_rt, DL.onL_ml, DL.addD_ol, DL.isNon_non, DL.isNon_int, DL.isNon_str, DL.isNon_tup, DL.ix_tup, DL.ix_lst, DL.ix_str, DL.ix_obj, DL.atI_0, DL.atI_1, DL.atI_2, DL.atI_3, DL.len_tup, DL.len_lst, DL.len_str, DL.len_obj, DL.ty_obj, DL.ty_str, DL.ty_lst, DL.append_obj, DL.pop_obj, DL.set_obj, DL.ixN_3_2, DL.tuple_obj, DL.tuple_lst, DL.list_tup, DL.list_lst, DL.sl_str, DL.sl_tup, DL.sl_lst, DL.rev_tup, DL.revM_lst, DL.sum_lst, DL.put_same, DL.startD, DL.pick, List.map_cons, List.map_nil, List.replicate, List.cons_append, List.nil_append, List.append_nil, List.length_cons, List.length_nil, List.getElem?_cons_zero, List.getElem?_cons_succ, List.set_cons_zero, List.set_cons_succ, List.filterMap_cons, List.filterMap_nil, Nat.zero_add, Nat.add_zero, Nat.reduceAdd, Nat.reduceSub, true_and, and_true, id_eq, ha, put_ne ne, put_ne hac, hc]
  refine ⟨by decide, ne_nil_w (ns := ns) (by rw [put_ne ne]; exact hc) ?_⟩
  by_cases hn : ns = []
  · simp only [hn, decide_true, Bool.not_true, Bool.false_eq_true, if_false, DL.x_bnd, DL.x_ret, DL.x_req, DL.x_get, DL.x_opt, DL.x_seq, DL.x_on, DL.x_or, DL.x_ob, DL.x_oc, DL.x_nil, DL.x_rt, DL.x_rtN, DL.x_drop, DL.x_break, DL.x_cont, DL.x_if, DL.x_ift, DL.x_iff, DL.x_set, DL.x_asg, DL.x_par2, DL.x_par3, DL.x_for, DL.x_v0, DL.x_vS, DL.x_c, DL.x_bin, DL.x_un, DL.x_tbin, DL.x_tru, DL.x_trb, DL.x_not, DL.x_tand, DL.x_tor, DL.x_and, DL.x_orE, DL.x_notE, DL.x_ifE, DL.x_tup, DL.x_lst, DL.x_lstM, DL.x_anil, DL.x_acons, DL.x_call, DL.x_callD, DL.x_callK, DL.x_meth, DL.x_sl, DL.x_oN, DL.x_oS, DL.x_gn, DL.x_gt, DL.x_gc, DL.x_g0, DL.x_gi, DL.x_body, DL.x_yes, DL.x_add, DL.x_addS, DL.x_addT, DL.x_addL, DL.x_sub, DL.x_mul, DL.x_div, DL.x_mod, DL.x_pow, DL.x_neg, DL.x_cmp, DL.x_cmpS, DL.x_isN, DL.x_mmL, DL.x_mm2, DL.x_eqS, DL.x_eqI, DL.x_intb, DL.onB_bl, DL.onI_int, DL.onO_nx, DL.onO_rt, DL.onL_ml, DL.addD_ol, DL.isNon_non, DL.isNon_int, DL.isNon_str, DL.isNon_tup, DL.ix_tup, DL.ix_lst, DL.ix_str, DL.ix_obj, DL.atI_0, DL.atI_1, DL.atI_2, DL.atI_3, DL.len_tup, DL.len_lst, DL.len_str, DL.len_obj, DL.ty_obj, DL.ty_str, DL.ty_lst, DL.append_obj, DL.pop_obj, DL.set_obj, DL.ixN_3_2, DL.tuple_obj, DL.tuple_lst, DL.list_tup, DL.list_lst, DL.sl_str, DL.sl_tup, DL.sl_lst, DL.rev_tup, DL.revM_lst, DL.sum_lst, DL.put_same, DL.startD, DL.pick, List.map_cons, List.map_nil, List.replicate, List.cons_append, List.nil_append, List.append_nil, List.length_cons, List.length_nil, List.getElem?_cons_zero, List.getElem?_cons_succ, List.set_cons_zero, List.set_cons_succ, List.filterMap_cons, List.filterMap_nil, Nat.zero_add, Nat.add_zero, Nat.reduceAdd, Nat.reduceSub, true_and, and_true, id_eq, put_ne hac, ha]
    refine ⟨by decide, cmul_l (by decide) (by decide), cmul_r (by omega) (by omega), cmul_r (by decide) (by decide), by decide, cmul_l (lo _) (hi _), cmul_l (by decide) (by decide), by decide, cdiv_w (by decide) (by decide), cmul_l (lo' _) (hi' _), by decide, cdiv_w (by decide) (by decide), w0, q _ _ (Int.emod_nonneg _ (by omega)) (Int.emod_lt_of_pos _ w0) ?_ ?_⟩
    · exact ⟨ne, ⟨seed, u + 1, put_same, by omega, by omega⟩, ns, by rw [put_ne ne]; exact hc, hl⟩
    · intro b mo h1 h2 h3
      rw [put_ne h1]; exact h3
  · obtain ⟨e1, e2⟩ := last_map hn
    have dl : ns.dropLast.length ≤ 62 := by rw [List.length_dropLast]; omega
    simp only [hn, decide_false, Bool.not_false, if_true, DL.x_bnd, DL.x_ret, DL.x_req, DL.x_get, DL.x_opt, DL.x_seq, DL.x_on, DL.x_or, DL.x_ob, DL.x_oc, DL.x_nil, DL.x_rt, DL.x_rtN, DL.x_drop, DL.x_break, DL.x_cont, DL.x_if, DL.x_ift, DL.x_iff, DL.x_set, DL.x_asg, DL.x_par2, DL.x_par3, DL.x_for, DL.x_v0, DL.x_vS, DL.x_c, DL.x_bin, DL.x_un, DL.x_tbin, DL.x_tru, DL.x_trb, DL.x_not, DL.x_tand, DL.x_tor, DL.x_and, DL.x_orE, DL.x_notE, DL.x_ifE, DL.x_tup, DL.x_lst, DL.x_lstM, DL.x_anil, DL.x_acons, DL.x_call, DL.x_callD, DL.x_callK, DL.x_meth, DL.x_sl, DL.x_oN, DL.x_oS, DL.x_gn, DL.x_gt, DL.x_gc, DL.x_g0, DL.x_gi, DL.x_body, DL.x_yes, DL.x_add, DL.x_addS, DL.x_addT, DL.x_addL, DL.x_sub, DL.x_mul, DL.x_div, DL.x_mod, DL.x_pow, DL.x_neg, DL.x_cmp, DL.x_cmpS, DL.x_isN, DL.x_mmL, DL.x_mm2, DL.x_eqS, DL.x_eqI, DL.x_intb, DL.onB_bl, DL.onI_int, DL.onO_nx, DL.onO_rt, DL.onL_ml, DL.addD_ol, DL.isNon_non, DL.isNon_int, DL.isNon_str, DL.isNon_tup, DL.ix_tup, DL.ix_lst, DL.ix_str, DL.ix_obj, DL.atI_0, DL.atI_1, DL.atI_2, DL.atI_3, DL.len_tup, DL.len_lst, DL.len_str, DL.len_obj, DL.ty_obj, DL.ty_str, DL.ty_lst, DL.append_obj, DL.pop_obj, DL.set_obj, DL.ixN_3_2, DL.tuple_obj, DL.tuple_lst, DL.list_tup, DL.list_lst, DL.sl_str, DL.sl_tup, DL.sl_lst, DL.rev_tup, DL.revM_lst, DL.sum_lst, DL.put_same, DL.startD, DL.pick, List.map_cons, List.map_nil, List.replicate, List.cons_append, List.nil_append, List.append_nil, List.length_cons, List.length_nil, List.getElem?_cons_zero, List.getElem?_cons_succ, List.set_cons_zero, List.set_cons_succ, List.filterMap_cons, List.filterMap_nil, Nat.zero_add, Nat.add_zero, Nat.reduceAdd, Nat.reduceSub, true_and, and_true, id_eq, put_ne ne, put_ne hac, ha, hc, e1, e2]
    refine ⟨cpow_w (by decide) (by decide) (by decide), ?_⟩
    by_cases hb : (10 : Int) ^ Int.toNat 18 ≤ ns.getLast hn
    · simp only [hb, decide_true, if_true, DL.x_bnd, DL.x_ret, DL.x_req, DL.x_get, DL.x_opt, DL.x_seq, DL.x_on, DL.x_or, DL.x_ob, DL.x_oc, DL.x_nil, DL.x_rt, DL.x_rtN, DL.x_drop, DL.x_break, DL.x_cont, DL.x_if, DL.x_ift, DL.x_iff, DL.x_set, DL.x_asg, DL.x_par2, DL.x_par3, DL.x_for, DL.x_v0, DL.x_vS, DL.x_c, DL.x_bin, DL.x_un, DL.x_tbin, DL.x_tru, DL.x_trb, DL.x_not, DL.x_tand, DL.x_tor, DL.x_and, DL.x_orE, DL.x_notE, DL.x_ifE, DL.x_tup, DL.x_lst, DL.x_lstM, DL.x_anil, DL.x_acons, DL.x_call, DL.x_callD, DL.x_callK, DL.x_meth, DL.x_sl, DL.x_oN, DL.x_oS, DL.x_gn, DL.x_gt, DL.x_gc, DL.x_g0, DL.x_gi, DL.x_body, DL.x_yes, DL.x_add, DL.x_addS, DL.x_addT, DL.x_addL, DL.x_sub, DL.x_mul, DL.x_div, DL.x_mod, DL.x_pow, DL.x_neg, DL.x_cmp, DL.x_cmpS, DL.x_isN, DL.x_mmL, DL.x_mm2, DL.x_eqS, DL.x_eqI, DL.x_intb, DL.onB_bl, DL.onI_int, DL.onO_nx, DL.onO_rt, DL.onL_ml, DL.addD_ol, DL.isNon_non, DL.isNon_int, DL.isNon_str, DL.isNon_tup, DL.ix_tup, DL.ix_lst, DL.ix_str, DL.ix_obj, DL.atI_0, DL.atI_1, DL.atI_2, DL.atI_3, DL.len_tup, DL.len_lst, DL.len_str, DL.len_obj, DL.ty_obj, DL.ty_str, DL.ty_lst, DL.append_obj, DL.pop_obj, DL.set_obj, DL.ixN_3_2, DL.tuple_obj, DL.tuple_lst, DL.list_tup, DL.list_lst, DL.sl_str, DL.sl_tup, DL.sl_lst, DL.rev_tup, DL.revM_lst, DL.sum_lst, DL.put_same, DL.startD, DL.pick, List.map_cons, List.map_nil, List.replicate, List.cons_append, List.nil_append, List.append_nil, List.length_cons, List.length_nil, List.getElem?_cons_zero, List.getElem?_cons_succ, List.set_cons_zero, List.set_cons_succ, List.filterMap_cons, List.filterMap_nil, Nat.zero_add, Nat.add_zero, Nat.reduceAdd, Nat.reduceSub, true_and, and_true, id_eq, put_ne ne, put_ne hac]
      refine ⟨cdiv_w w0 (by omega), by rw [List.length_map]; exact Nat.lt_of_le_of_lt dl (by decide), w0, q _ _ (Int.emod_nonneg _ (by omega)) (Int.emod_lt_of_pos _ w0) ?_ ?_⟩
      · refine ⟨ne, ⟨seed, u + 1, by rw [put_ne hac, put_ne hac, put_same], by omega, by omega⟩, ns.dropLast ++ [ns.getLast hn / w], by rw [put_same, List.map_append]; rfl, by rw [List.length_append]; simp only [List.length_cons, List.length_nil]; omega⟩
      · intro b mo h1 h2 h3
        rw [put_ne h2, put_ne h2, put_ne h1]; exact h3
    · simp only [hb, decide_false, Bool.false_eq_true, if_false, DL.x_bnd, DL.x_ret, DL.x_req, DL.x_get, DL.x_opt, DL.x_seq, DL.x_on, DL.x_or, DL.x_ob, DL.x_oc, DL.x_nil, DL.x_rt, DL.x_rtN, DL.x_drop, DL.x_break, DL.x_cont, DL.x_if, DL.x_ift, DL.x_iff, DL.x_set, DL.x_asg, DL.x_par2, DL.x_par3, DL.x_for, DL.x_v0, DL.x_vS, DL.x_c, DL.x_bin, DL.x_un, DL.x_tbin, DL.x_tru, DL.x_trb, DL.x_not, DL.x_tand, DL.x_tor, DL.x_and, DL.x_orE, DL.x_notE, DL.x_ifE, DL.x_tup, DL.x_lst, DL.x_lstM, DL.x_anil, DL.x_acons, DL.x_call, DL.x_callD, DL.x_callK, DL.x_meth, DL.x_sl, DL.x_oN, DL.x_oS, DL.x_gn, DL.x_gt, DL.x_gc, DL.x_g0, DL.x_gi, DL.x_body, DL.x_yes, DL.x_add, DL.x_addS, DL.x_addT, DL.x_addL, DL.x_sub, DL.x_mul, DL.x_div, DL.x_mod, DL.x_pow, DL.x_neg, DL.x_cmp, DL.x_cmpS, DL.x_isN, DL.x_mmL, DL.x_mm2, DL.x_eqS, DL.x_eqI, DL.x_intb, DL.onB_bl, DL.onI_int, DL.onO_nx, DL.onO_rt, DL.onL_ml, DL.addD_ol, DL.isNon_non, DL.isNon_int, DL.isNon_str, DL.isNon_tup, DL.ix_tup, DL.ix_lst, DL.ix_str, DL.ix_obj, DL.atI_0, DL.atI_1, DL.atI_2, DL.atI_3, DL.len_tup, DL.len_lst, DL.len_str, DL.len_obj, DL.ty_obj, DL.ty_str, DL.ty_lst, DL.append_obj, DL.pop_obj, DL.set_obj, DL.ixN_3_2, DL.tuple_obj, DL.tuple_lst, DL.list_tup, DL.list_lst, DL.sl_str, DL.sl_tup, DL.sl_lst, DL.rev_tup, DL.revM_lst, DL.sum_lst, DL.put_same, DL.startD, DL.pick, List.map_cons, List.map_nil, List.replicate, List.cons_append, List.nil_append, List.append_nil, List.length_cons, List.length_nil, List.getElem?_cons_zero, List.getElem?_cons_succ, List.set_cons_zero, List.set_cons_succ, List.filterMap_cons, List.filterMap_nil, Nat.zero_add, Nat.add_zero, Nat.reduceAdd, Nat.reduceSub, true_and, and_true, id_eq, put_ne ne, put_ne hac]
      refine ⟨by decide, cmul_l (by decide) (by decide), cmul_r (by omega) (by omega), cmul_r (by decide) (by decide), by decide, cmul_l (lo _) (hi _), cmul_l (by decide) (by decide), by decide, cdiv_w (by decide) (by decide), cmul_l (lo' _) (hi' _), by decide, cdiv_w (by decide) (by decide), w0, q _ _ (Int.emod_nonneg _ (by omega)) (Int.emod_lt_of_pos _ w0) ?_ ?_⟩
      · exact ⟨ne, ⟨seed, u + 1, by rw [put_ne hac, put_same], by omega, by omega⟩, ns.dropLast, put_same, by omega⟩
      · intro b mo h1 h2 h3
        rw [put_ne h2, put_ne h1]; exact h3
end Lk10

namespace Lk10
open PySem PySem.Spec PyProof.Rows L2 DL
theorem deck_w {ns : List Int} {μ : Mem} {Q : D → Mem → Prop} {E : XD} (hl : ns.length ≤ 63) (hμ : ∀ b, μ b = none)
    (q : ∀ a c μ', Deck μ' a c 0 → Q (.obj a) μ') : m__law_deck [.lst (ns.map .int)] μ Q E := by
  simp only [m__law_deck, b__law_deck, DL.x_bnd, DL.x_ret, DL.x_req, DL.x_get, DL.x_opt, DL.x_seq, DL.x_on, DL.x_or, DL.x_ob, DL.x_oc, DL.x_nil, DL.x_rt, DL.x_rtN, DL.x_drop, DL.x_break, DL.x_cont, DL.x_if, DL.x_ift, DL.x_iff, DL.x_set, DL.x_asg, DL.x_par2, DL.x_par3, DL.x_for, DL.x_v0, DL.x_vS, DL.x_c, DL.x_bin, DL.x_un, DL.x_tbin, DL.x_tru, DL.x_trb, DL.x_not, DL.x_tand, DL.x_tor, DL.x_and, DL.x_orE, DL.x_notE, DL.x_ifE, DL.x_tup, DL.x_lst, DL.x_lstM, DL.x_anil, DL.x_acons, DL.x_call, DL.x_callD, DL.x_callK, DL.x_meth, DL.x_sl, DL.x_oN, DL.x_oS, DL.x_gn, DL.x_gt, DL.x_gc, DL.x_g0, DL.x_gi, DL.x_body, DL.x_yes, DL.x_add, DL.x_addS, DL.x_addT, DL.x_addL, DL.x_sub, DL.x_mul, DL.x_div, DL.x_mod, DL.x_pow, DL.x_neg, DL.x_cmp, DL.x_cmpS, DL.x_isN, DL.x_mmL, DL.x_mm2, DL.x_eqS, DL.x_eqI, DL.x_intb, DL.onB_bl, DL.onI_int, DL.onO_nx, DL.onO_rt, DL.onL_ml, DL.addD_ol, DL.isNon_non, DL.isNon_int, DL.isNon_str, DL.isNon_tup, DL.ix_tup, DL.ix_lst, DL.ix_str, DL.ix_obj, DL.atI_0, DL.atI_1, DL.atI_2, DL.atI_3, DL.len_tup, DL.len_lst, DL.len_str, DL.len_obj, DL.ty_obj, DL.ty_str, DL.ty_lst, DL.append_obj, DL.pop_obj, DL.set_obj, DL.ixN_3_2, DL.tuple_obj, DL.tuple_lst, DL.list_tup, DL.list_lst, DL.sl_str, DL.sl_tup, DL.sl_lst, DL.rev_tup, DL.revM_lst, DL.sum_lst, DL.put_same, DL.startD, DL.pick, List.map_cons, List.map_nil, List.replicate, List.cons_append, List.nil_append, List.append_nil, List.length_cons, List.length_nil, List.getElem?_cons_zero, List.getElem?_cons_succ, List.set_cons_zero, List.set_cons_succ, List.filterMap_cons, List.filterMap_nil, Nat.zero_add, Nat.add_zero, Nat.reduceAdd, Nat.reduceSub, true_and, and_true, id_eq]
  rw [cut_all (by rw [List.length_map]; omega)]
  intro c _
  refine elc_nm (items := ns.map .int) (chk := fun _ => True) (fun _ => true) (fun d => match d with | .int i => .int (i % 1000033) | d => d) (fun R h => h) (by rw [List.length_map]; exact Nat.lt_of_le_of_lt hl (by decide)) (fun _ _ _ => trivial) (fun x hx p acc hp R h => h) (fun x hx _ p acc hp R h => ?_) ?_
  · obtain ⟨n, _, rfl⟩ := List.mem_map.mp hx
    simp only [DL.x_bnd, DL.x_ret, DL.x_req, DL.x_get, DL.x_opt, DL.x_seq, DL.x_on, DL.x_or, DL.x_ob, DL.x_oc, DL.x_nil, DL.x_rt, DL.x_rtN, DL.x_drop, DL.x_break, DL.x_cont, DL.x_if, DL.x_ift, DL.x_iff, DL.x_set, DL.x_asg, DL.x_par2, DL.x_par3, DL.x_for, DL.x_v0, DL.x_vS, DL.x_c, DL.x_bin, DL.x_un, DL.x_tbin, DL.x_tru, DL.x_trb, DL.x_not, DL.x_tand, DL.x_tor, DL.x_and, DL.x_orE, DL.x_notE, DL.x_ifE, DL.x_tup, DL.x_lst, DL.x_lstM, DL.x_anil, DL.x_acons, DL.x_call, DL.x_callD, DL.x_callK, DL.x_meth, DL.x_sl, DL.x_oN, DL.x_oS, DL.x_gn, DL.x_gt, DL.x_gc, DL.x_g0, DL.x_gi, DL.x_body, DL.x_yes, DL.x_add, DL.x_addS, DL.x_addT, DL.x_addL, DL.x_sub, DL.x_mul, DL.x_div, DL.x_mod, DL.x_pow, DL.x_neg, DL.x_cmp, DL.x_cmpS, DL.x_isN, DL.x_mmL, DL.x_mm2, DL.x_eqS, DL.x_eqI, DL.x_intb, DL.onB_bl, DL.onI_int, DL.onO_nx, DL.onO_rt, DL.onL_ml, DL.addD_ol, DL.isNon_non, DL.isNon_int, DL.isNon_str, DL.isNon_tup, DL.ix_tup, DL.ix_lst, DL.ix_str, DL.ix_obj, DL.atI_0, DL.atI_1, DL.atI_2, DL.atI_3, DL.len_tup, DL.len_lst, DL.len_str, DL.len_obj, DL.ty_obj, DL.ty_str, DL.ty_lst, DL.append_obj, DL.pop_obj, DL.set_obj, DL.ixN_3_2, DL.tuple_obj, DL.tuple_lst, DL.list_tup, DL.list_lst, DL.sl_str, DL.sl_tup, DL.sl_lst, DL.rev_tup, DL.revM_lst, DL.sum_lst, DL.put_same, DL.startD, DL.pick, List.map_cons, List.map_nil, List.replicate, List.cons_append, List.nil_append, List.append_nil, List.length_cons, List.length_nil, List.getElem?_cons_zero, List.getElem?_cons_succ, List.set_cons_zero, List.set_cons_succ, List.filterMap_cons, List.filterMap_nil, Nat.zero_add, Nat.add_zero, Nat.reduceAdd, Nat.reduceSub, true_and, and_true, id_eq, wipeD]
    exact ⟨by decide, h⟩
  · have e : ((ns.map D.int).filter fun _ => true).map (fun d => match d with | .int i => D.int (i % 1000033) | d => d) = (ns.map (· % 1000033)).map .int := by
      rw [List.filter_eq_self.mpr (fun _ _ => rfl), List.map_map, List.map_map]
      rfl
    rw [e]
    simp only [DL.x_bnd, DL.x_ret, DL.x_req, DL.x_get, DL.x_opt, DL.x_seq, DL.x_on, DL.x_or, DL.x_ob, DL.x_oc, DL.x_nil, DL.x_rt, DL.x_rtN, DL.x_drop, DL.x_break, DL.x_cont, DL.x_if, DL.x_ift, DL.x_iff, DL.x_set, DL.x_asg, DL.x_par2, DL.x_par3, DL.x_for, DL.x_v0, DL.x_vS, DL.x_c, DL.x_bin, DL.x_un, DL.x_tbin, DL.x_tru, DL.x_trb, DL.x_not, DL.x_tand, DL.x_tor, DL.x_and, DL.x_orE, DL.x_notE, DL.x_ifE, DL.x_tup, DL.x_lst, DL.x_lstM, DL.x_anil, DL.x_acons, DL.x_call, DL.x_callD, DL.x_callK, DL.x_meth, DL.x_sl, DL.x_oN, DL.x_oS, DL.x_gn, DL.x_gt, DL.x_gc, DL.x_g0, DL.x_gi, DL.x_body, DL.x_yes, DL.x_add, DL.x_addS, DL.x_addT, DL.x_addL, DL.x_sub, DL.x_mul, DL.x_div, DL.x_mod, DL.x_pow, DL.x_neg, DL.x_cmp, DL.x_cmpS, DL.x_isN, DL.x_mmL, DL.x_mm2, DL.x_eqS, DL.x_eqI, DL.x_intb, DL.onB_bl, DL.onI_int, DL.onO_nx, DL.onO_rt, DL.onL_ml, DL.addD_ol, DL.isNon_non, DL.isNon_int, DL.isNon_str, DL.isNon_tup, DL.ix_tup, DL.ix_lst, DL.ix_str, DL.ix_obj, DL.atI_0, DL.atI_1, DL.atI_2, DL.atI_3, DL.len_tup, DL.len_lst, DL.len_str, DL.len_obj, DL.ty_obj, DL.ty_str, DL.ty_lst, DL.append_obj, DL.pop_obj, DL.set_obj, DL.ixN_3_2, DL.tuple_obj, DL.tuple_lst, DL.list_tup, DL.list_lst, DL.sl_str, DL.sl_tup, DL.sl_lst, DL.rev_tup, DL.revM_lst, DL.sum_lst, DL.put_same, DL.startD, DL.pick, List.map_cons, List.map_nil, List.replicate, List.cons_append, List.nil_append, List.append_nil, List.length_cons, List.length_nil, List.getElem?_cons_zero, List.getElem?_cons_succ, List.set_cons_zero, List.set_cons_succ, List.filterMap_cons, List.filterMap_nil, Nat.zero_add, Nat.add_zero, Nat.reduceAdd, Nat.reduceSub, true_and, and_true, id_eq, List.length_map]
    refine ⟨cmul_l (by decide) (by decide), by decide, fun a ha => q a c _ ?_⟩
    obtain ⟨hca, _⟩ := put_none ha
    refine ⟨Ne.symm hca, ⟨_, 0, put_same, by decide, by decide⟩, ns.reverse, ?_, by rw [List.length_reverse]; exact hl⟩
    rw [put_ne (Ne.symm hca), put_same, List.map_reverse]
/-! ### least, greatest -/
theorem lt_irr (x : D) : ltS x x = false := by
  cases x <;> first | rfl | (exact decide_eq_false (Int.lt_irrefl _)) | (exact decide_eq_false (List.lt_irrefl _))
theorem lt_tr {x y z : D} (h : ltS x y = true) (k : ltS y z = true) : ltS x z = true := by
  cases x <;> cases y <;> cases z <;> first | (cases h; done) | (cases k; done) | (exact decide_eq_true (Int.lt_trans (of_decide_eq_true h) (of_decide_eq_true k))) | (exact decide_eq_true (List.lt_trans (of_decide_eq_true h) (of_decide_eq_true k)))
theorem lt_eq {x y : D} (s : OneSort [x, y]) (h : ltS x y = false) (k : ltS y x = false) : x = y := by
  rcases s with ⟨ns, e⟩ | ⟨ns, e⟩
  · match ns, e with
    | [i, j], e =>
      cases e
      have h := of_decide_eq_false h
      have k := of_decide_eq_false k
      rw [show i = j by omega]
  · match ns, e with
    | [i, j], e =>
      cases e
      have h := of_decide_eq_false h
      have k := of_decide_eq_false k
      have : i.cps.toList = j.cps.toList := List.le_antisymm (List.not_lt.mp k) (List.not_lt.mp h)
      have e : i = j := by
        cases i; cases j
        simp only [Str.mk.injEq]
        exact Array.toList_inj.mp this
      rw [e]

/-- the first that none is ahead of -/
def gL (lt : D → D → Bool) (x : D) (xs : List D) : D := xs.foldl (fun a y => if lt y a then y else a) x
theorem min_g (x : D) (xs : List D) : minL x xs = gL ltS x xs := rfl
theorem max_g (x : D) (xs : List D) : maxL x xs = gL (fun a b => ltS b a) x xs := rfl
section
variable {lt : D → D → Bool} (irr : ∀ x, lt x x = false) (tr : ∀ {x y z}, lt x y = true → lt y z = true → lt x z = true)
include irr tr
theorem g_is : ∀ (xs : List D) (x : D), gL lt x xs ∈ x :: xs ∧ (gL lt x xs = x ∨ lt (gL lt x xs) x = true) ∧ ∀ y ∈ xs, lt y (gL lt x xs) = false
  | [], x => ⟨List.mem_cons_self .., .inl rfl, fun y hy => by cases hy⟩
  | z :: r, x => by
    have e : gL lt x (z :: r) = gL lt (if lt z x then z else x) r := rfl
    rw [e]
    obtain ⟨h1, h2, h3⟩ := g_is r (if lt z x then z else x)
    by_cases q : lt z x = true
    · rw [if_pos q] at h1 h2 h3 ⊢
      refine ⟨List.mem_cons_of_mem _ h1, ?_, fun y hy => ?_⟩
      · rcases h2 with h | h
        · rw [h]; exact .inr q
        · exact .inr (tr h q)
      · rcases List.mem_cons.mp hy with rfl | hy
        · rcases h2 with h | h
          · rw [h]; exact irr _
          · cases k : lt y (gL lt y r) with
            | false => rfl
            | true => have := tr k h; rw [irr] at this; cases this
        · exact h3 y hy
    · rw [if_neg q] at h1 h2 h3 ⊢
      refine ⟨?_, h2, fun y hy => ?_⟩
      · rcases List.mem_cons.mp h1 with h | h
        · rw [h]; exact List.mem_cons_self ..
        · exact List.mem_cons_of_mem _ (List.mem_cons_of_mem _ h)
      · rcases List.mem_cons.mp hy with rfl | hy
        · rcases h2 with h | h
          · rw [h]; exact Bool.eq_false_iff.mpr q
          · cases k : lt y (gL lt x r) with
            | false => rfl
            | true => exact absurd (tr k h) q
        · exact h3 y hy
theorem g_all (xs : List D) (x : D) : ∀ y ∈ x :: xs, lt y (gL lt x xs) = false := fun y hy => by
  obtain ⟨h1, h2, h3⟩ := g_is irr tr xs x
  rcases List.mem_cons.mp hy with rfl | hy
  · rcases h2 with h | h
    · rw [h]; exact irr _
    · cases k : lt y (gL lt y xs) with
      | false => rfl
      | true => have := tr k h; rw [irr] at this; cases this
  · exact h3 y hy
theorem g_eq {x y : D} {xs ys : List D} (an : ∀ a ∈ x :: xs, ∀ b ∈ x :: xs, lt a b = false → lt b a = false → a = b) (h : ∀ z, z ∈ x :: xs ↔ z ∈ y :: ys) : gL lt x xs = gL lt y ys := by
  have m1 := (g_is irr tr xs x).1
  have m2 := (g_is irr tr ys y).1
  exact an _ m1 _ ((h _).mpr m2) (g_all irr tr ys y _ ((h _).mp m1)) (g_all irr tr xs x _ ((h _).mpr m2))
end
def ltR (a b : D) : Bool := ltS b a
theorem ltR_tr {x y z : D} (h : ltR x y = true) (k : ltR y z = true) : ltR x z = true := lt_tr k h
theorem min_eq {x y : D} {xs ys : List D} (s : OneSort (x :: xs)) (h : ∀ z, z ∈ x :: xs ↔ z ∈ y :: ys) : minL x xs = minL y ys := g_eq lt_irr lt_tr (fun a ha b hb => lt_eq (sort_sub s a ha b hb)) h
theorem max_eq {x y : D} {xs ys : List D} (s : OneSort (x :: xs)) (h : ∀ z, z ∈ x :: xs ↔ z ∈ y :: ys) : maxL x xs = maxL y ys := g_eq (lt := ltR) lt_irr ltR_tr (fun a ha b hb h k => lt_eq (sort_sub s a ha b hb) k h) h
theorem min_mem (x : D) (xs : List D) : minL x xs ∈ x :: xs := (g_is lt_irr lt_tr xs x).1
theorem max_mem (x : D) (xs : List D) : maxL x xs ∈ x :: xs := (g_is (lt := ltR) lt_irr ltR_tr xs x).1
theorem min_le {x y : D} {xs : List D} (h : y ∈ x :: xs) : ltS y (minL x xs) = false := g_all lt_irr lt_tr xs x y h
theorem max_le {x y : D} {xs : List D} (h : y ∈ x :: xs) : ltS (maxL x xs) y = false := g_all (lt := ltR) lt_irr ltR_tr xs x y h
theorem min_snoc (x y : D) (xs : List D) : minL x (xs ++ [y]) = if ltS y (minL x xs) then y else minL x xs := by
  unfold minL; rw [List.foldl_append]; rfl
theorem max_snoc (x y : D) (xs : List D) : maxL x (xs ++ [y]) = if ltS (maxL x xs) y then y else maxL x xs := by
  unfold maxL; rw [List.foldl_append]; rfl
/-- the least of two lists -/
theorem min_two {x y : D} {xs ys : List D} (s : OneSort (x :: (xs ++ y :: ys))) : minL (minL x xs) [minL y ys] = minL x (xs ++ y :: ys) := by
  have e : minL (minL x xs) [minL y ys] = gL ltS (minL x xs) [minL y ys] := rfl
  have m := (g_is lt_irr lt_tr [minL y ys] (minL x xs)).1
  have al := g_all lt_irr lt_tr [minL y ys] (minL x xs)
  rw [← e] at m al
  have a1 := min_mem x xs
  have a2 := min_mem y ys
  have mm : minL (minL x xs) [minL y ys] ∈ x :: (xs ++ y :: ys) := by
    rcases List.mem_cons.mp m with h | h
    · rw [h]
      rcases List.mem_cons.mp a1 with h | h
      · rw [h]; exact List.mem_cons_self ..
      · exact List.mem_cons_of_mem _ (List.mem_append_left _ h)
    · rw [List.mem_singleton.mp h]
      exact List.mem_cons_of_mem _ (List.mem_append_right _ a2)
  refine lt_eq (sort_sub s _ mm _ (min_mem _ _)) (min_le mm) ?_
  have sub := sort_sub s
  have key : ∀ z ∈ x :: (xs ++ y :: ys), ltS z (minL (minL x xs) [minL y ys]) = false := fun z hz => by
    have go : ∀ w, w ∈ x :: (xs ++ y :: ys) → ltS z w = false → ltS w (minL (minL x xs) [minL y ys]) = false → ltS z (minL (minL x xs) [minL y ys]) = false := fun w hw h1 h2 => by
      cases k : ltS z (minL (minL x xs) [minL y ys]) with
      | false => rfl
      | true =>
        cases k2 : ltS (minL (minL x xs) [minL y ys]) w with
        | true => rw [lt_tr k k2] at h1; cases h1
        | false =>
          have := lt_eq (sub _ hw _ mm) h2 k2
          rw [← this, h1] at k; cases k
    have in1 : minL x xs ∈ x :: (xs ++ y :: ys) := by
      rcases List.mem_cons.mp a1 with h | h
      · rw [h]; exact List.mem_cons_self ..
      · exact List.mem_cons_of_mem _ (List.mem_append_left _ h)
    have in2 : minL y ys ∈ x :: (xs ++ y :: ys) := List.mem_cons_of_mem _ (List.mem_append_right _ a2)
    have c1 : z ∈ x :: xs ∨ z ∈ y :: ys := by
      rcases List.mem_cons.mp hz with h | h
      · exact .inl (by rw [h]; exact List.mem_cons_self ..)
      · rcases List.mem_append.mp h with h | h
        · exact .inl (List.mem_cons_of_mem _ h)
        · exact .inr h
    rcases c1 with h | h
    · exact go _ in1 (min_le h) (al _ (List.mem_cons_self ..))
    · exact go _ in2 (min_le h) (al _ (by simp))
  exact key _ (min_mem _ _)
theorem max_two {x y : D} {xs ys : List D} (s : OneSort (x :: (xs ++ y :: ys))) : maxL (maxL x xs) [maxL y ys] = maxL x (xs ++ y :: ys) := by
  have al : ∀ z ∈ [maxL x xs, maxL y ys], ltS (maxL (maxL x xs) [maxL y ys]) z = false := fun z hz => max_le hz
  have m := max_mem (maxL x xs) [maxL y ys]
  have a1 := max_mem x xs
  have a2 := max_mem y ys
  have in1 : maxL x xs ∈ x :: (xs ++ y :: ys) := by
    rcases List.mem_cons.mp a1 with h | h
    · rw [h]; exact List.mem_cons_self ..
    · exact List.mem_cons_of_mem _ (List.mem_append_left _ h)
  have in2 : maxL y ys ∈ x :: (xs ++ y :: ys) := List.mem_cons_of_mem _ (List.mem_append_right _ a2)
  have mm : maxL (maxL x xs) [maxL y ys] ∈ x :: (xs ++ y :: ys) := by
    rcases List.mem_cons.mp m with h | h
    · rw [h]; exact in1
    · rw [List.mem_singleton.mp h]; exact in2
  have sub := sort_sub s
  refine lt_eq (sort_sub s _ mm _ (max_mem _ _)) ?_ (max_le mm)
  have key : ∀ z ∈ x :: (xs ++ y :: ys), ltS (maxL (maxL x xs) [maxL y ys]) z = false := fun z hz => by
    have go : ∀ w, w ∈ x :: (xs ++ y :: ys) → ltS w z = false → ltS (maxL (maxL x xs) [maxL y ys]) w = false → ltS (maxL (maxL x xs) [maxL y ys]) z = false := fun w hw h1 h2 => by
      cases k : ltS (maxL (maxL x xs) [maxL y ys]) z with
      | false => rfl
      | true =>
        cases k2 : ltS w (maxL (maxL x xs) [maxL y ys]) with
        | true => rw [lt_tr k2 k] at h1; cases h1
        | false =>
          have := lt_eq (sub _ hw _ mm) k2 h2
          rw [← this, h1] at k; cases k
    have c1 : z ∈ x :: xs ∨ z ∈ y :: ys := by
      rcases List.mem_cons.mp hz with h | h
      · exact .inl (by rw [h]; exact List.mem_cons_self ..)
      · rcases List.mem_append.mp h with h | h
        · exact .inl (List.mem_cons_of_mem _ h)
        · exact .inr h
    rcases c1 with h | h
    · exact go _ in1 (max_le h) (al _ (by simp))
    · exact go _ in2 (max_le h) (al _ (by simp))
  exact key _ (max_mem _ _)
end Lk10

namespace Lk10
open PySem PySem.Spec PyProof.Rows L2 DL

def someOf (ds : List D) : List D := ds.filter fun d => !DL.isNon d
def loD (ds : List D) : D := match someOf ds with
  | [] => .non
  | d :: r => minL d r
def hiD (ds : List D) : D := match someOf ds with
  | [] => .non
  | d :: r => maxL d r
def blD (ds : List D) : Int := (ds.length : Int) - (someOf ds).length
def spanD (n : D) (ds : List D) : D := .tup [n, loD ds, hiD ds, .int (blD ds)]
/-- worths of one kind, that can be shown -/
structure Wo (ds : List D) : Prop where
  one : OneSort (someOf ds)
  good : gdL ds = true
  len : ds.length ≤ 12
  size : dszL ds ≤ 100000
  flat : dptL ds = 0
theorem gdL_filter (c : D → Bool) : ∀ {ds : List D}, gdL ds = true → gdL (ds.filter c) = true
  | [], _ => rfl
  | d :: r, h => by
    have h' : gd d = true ∧ gdL r = true := Bool.and_eq_true_iff.mp h
    rw [List.filter_cons]
    split
    · exact Bool.and_eq_true_iff.mpr ⟨h'.1, gdL_filter c h'.2⟩
    · exact gdL_filter c h'.2
theorem dptL_filter (c : D → Bool) : ∀ {ds : List D}, dptL (ds.filter c) ≤ dptL ds
  | [] => Nat.le_refl _
  | d :: r => by
    rw [List.filter_cons]
    have := dptL_filter c (ds := r)
    split
    · show max _ _ ≤ max _ _
      omega
    · show _ ≤ max _ _
      omega
theorem nil_eqv (ds : List D) : PyData.eqv (.list (toPyL ds)) (.list []) = decide (ds = []) := by
  cases ds <;> rfl
theorem eq_nil_w {f : Bool → Bool} {ds : List D} {μ : Mem} {Q : D → Mem → Prop} {E : XD} (h : gdL ds = true) (h' : dptL ds ≤ 50) (q : Q (.bl (f (decide (ds = [])))) μ) : eqA f (.lst ds) (.lst []) μ Q E := by
  refine eq_w (x := .lst ds) (y := .lst []) h rfl (by show dptL ds + 1 ≤ 60; omega) (by decide) ?_
  have e : PyData.eqv (toPy (.lst ds)) (toPy (.lst [])) = decide (ds = []) := nil_eqv ds
  rw [e]
  exact q
theorem span_of_w {n : D} {ds : List D} {μ : Mem} {Q : D → Mem → Prop} {E : XD} (h : Wo ds) (q : Q (spanD n ds) μ) : m_span_of [n, .tup ds] μ Q E := by
  simp only [m_span_of, b_span_of, DL.x_bnd, DL.x_ret, DL.x_req, DL.x_get, DL.x_opt, DL.x_seq, DL.x_on, DL.x_or, DL.x_ob, DL.x_oc, DL.x_nil, DL.x_rt, DL.x_rtN, DL.x_drop, DL.x_break, DL.x_cont, DL.x_if, DL.x_ift, DL.x_iff, DL.x_set, DL.x_asg, DL.x_par2, DL.x_par3, DL.x_for, DL.x_v0, DL.x_vS, DL.x_c, DL.x_bin, DL.x_un, DL.x_tbin, DL.x_tru, DL.x_trb, DL.x_not, DL.x_tand, DL.x_tor, DL.x_and, DL.x_orE, DL.x_notE, DL.x_ifE, DL.x_tup, DL.x_lst, DL.x_lstM, DL.x_anil, DL.x_acons, DL.x_call, DL.x_callD, DL.x_callK, DL.x_meth, DL.x_sl, DL.x_oN, DL.x_oS, DL.x_gn, DL.x_gt, DL.x_gc, DL.x_g0, DL.x_gi, DL.x_body, DL.x_yes, DL.x_add, DL.x_addS, DL.x_addT, DL.x_addL, DL.x_sub, DL.x_mul, DL.x_div, DL.x_mod, DL.x_pow, DL.x_neg, DL.x_cmp, DL.x_cmpS, DL.x_isN, DL.x_mmL, DL.x_mm2, DL.x_eqS, DL.x_eqI, DL.x_intb, DL.onB_bl, DL.onI_int, DL.onO_nx, DL.onO_rt, DL.onL_ml, DL.addD_ol, DL.isNon_non, DL.isNon_int, DL.isNon_str, DL.isNon_tup, DL.ix_tup, DL.ix_lst, DL.ix_str, DL.ix_obj, DL.atI_0, DL.atI_1, DL.atI_2, DL.atI_3, DL.len_tup, DL.len_lst, DL.len_str, DL.len_obj, DL.ty_obj, DL.ty_str, DL.ty_lst, DL.append_obj, DL.pop_obj, DL.set_obj, DL.ixN_3_2, DL.tuple_obj, DL.tuple_lst, DL.list_tup, DL.list_lst, DL.sl_str, DL.sl_tup, DL.sl_lst, DL.rev_tup, DL.revM_lst, DL.sum_lst, DL.put_same, DL.startD, DL.pick, List.map_cons, List.map_nil, List.replicate, List.cons_append, List.nil_append, List.append_nil, List.length_cons, List.length_nil, List.getElem?_cons_zero, List.getElem?_cons_succ, List.set_cons_zero, List.set_cons_succ, List.filterMap_cons, List.filterMap_nil, Nat.zero_add, Nat.add_zero, Nat.reduceAdd, Nat.reduceSub, true_and, and_true, id_eq]
  refine elc_nm (items := ds) (chk := fun _ => True) (fun d => !DL.isNon d) id (fun R h => h) (Nat.lt_of_le_of_lt h.len (by decide)) (fun _ _ _ => trivial) (fun x hx p acc hp R h => ?_) (fun x hx _ p acc hp R h => ?_) ?_
  · simp only [DL.x_bnd, DL.x_ret, DL.x_req, DL.x_get, DL.x_opt, DL.x_seq, DL.x_on, DL.x_or, DL.x_ob, DL.x_oc, DL.x_nil, DL.x_rt, DL.x_rtN, DL.x_drop, DL.x_break, DL.x_cont, DL.x_if, DL.x_ift, DL.x_iff, DL.x_set, DL.x_asg, DL.x_par2, DL.x_par3, DL.x_for, DL.x_v0, DL.x_vS, DL.x_c, DL.x_bin, DL.x_un, DL.x_tbin, DL.x_tru, DL.x_trb, DL.x_not, DL.x_tand, DL.x_tor, DL.x_and, DL.x_orE, DL.x_notE, DL.x_ifE, DL.x_tup, DL.x_lst, DL.x_lstM, DL.x_anil, DL.x_acons, DL.x_call, DL.x_callD, DL.x_callK, DL.x_meth, DL.x_sl, DL.x_oN, DL.x_oS, DL.x_gn, DL.x_gt, DL.x_gc, DL.x_g0, DL.x_gi, DL.x_body, DL.x_yes, DL.x_add, DL.x_addS, DL.x_addT, DL.x_addL, DL.x_sub, DL.x_mul, DL.x_div, DL.x_mod, DL.x_pow, DL.x_neg, DL.x_cmp, DL.x_cmpS, DL.x_isN, DL.x_mmL, DL.x_mm2, DL.x_eqS, DL.x_eqI, DL.x_intb, DL.onB_bl, DL.onI_int, DL.onO_nx, DL.onO_rt, DL.onL_ml, DL.addD_ol, DL.isNon_non, DL.isNon_int, DL.isNon_str, DL.isNon_tup, DL.ix_tup, DL.ix_lst, DL.ix_str, DL.ix_obj, DL.atI_0, DL.atI_1, DL.atI_2, DL.atI_3, DL.len_tup, DL.len_lst, DL.len_str, DL.len_obj, DL.ty_obj, DL.ty_str, DL.ty_lst, DL.append_obj, DL.pop_obj, DL.set_obj, DL.ixN_3_2, DL.tuple_obj, DL.tuple_lst, DL.list_tup, DL.list_lst, DL.sl_str, DL.sl_tup, DL.sl_lst, DL.rev_tup, DL.revM_lst, DL.sum_lst, DL.put_same, DL.startD, DL.pick, List.map_cons, List.map_nil, List.replicate, List.cons_append, List.nil_append, List.append_nil, List.length_cons, List.length_nil, List.getElem?_cons_zero, List.getElem?_cons_succ, List.set_cons_zero, List.set_cons_succ, List.filterMap_cons, List.filterMap_nil, Nat.zero_add, Nat.add_zero, Nat.reduceAdd, Nat.reduceSub, true_and, and_true, id_eq, wipeD]
    exact h
  · simp only [DL.x_bnd, DL.x_ret, DL.x_req, DL.x_get, DL.x_opt, DL.x_seq, DL.x_on, DL.x_or, DL.x_ob, DL.x_oc, DL.x_nil, DL.x_rt, DL.x_rtN, DL.x_drop, DL.x_break, DL.x_cont, DL.x_if, DL.x_ift, DL.x_iff, DL.x_set, DL.x_asg, DL.x_par2, DL.x_par3, DL.x_for, DL.x_v0, DL.x_vS, DL.x_c, DL.x_bin, DL.x_un, DL.x_tbin, DL.x_tru, DL.x_trb, DL.x_not, DL.x_tand, DL.x_tor, DL.x_and, DL.x_orE, DL.x_notE, DL.x_ifE, DL.x_tup, DL.x_lst, DL.x_lstM, DL.x_anil, DL.x_acons, DL.x_call, DL.x_callD, DL.x_callK, DL.x_meth, DL.x_sl, DL.x_oN, DL.x_oS, DL.x_gn, DL.x_gt, DL.x_gc, DL.x_g0, DL.x_gi, DL.x_body, DL.x_yes, DL.x_add, DL.x_addS, DL.x_addT, DL.x_addL, DL.x_sub, DL.x_mul, DL.x_div, DL.x_mod, DL.x_pow, DL.x_neg, DL.x_cmp, DL.x_cmpS, DL.x_isN, DL.x_mmL, DL.x_mm2, DL.x_eqS, DL.x_eqI, DL.x_intb, DL.onB_bl, DL.onI_int, DL.onO_nx, DL.onO_rt, DL.onL_ml, DL.addD_ol, DL.isNon_non, DL.isNon_int, DL.isNon_str, DL.isNon_tup, DL.ix_tup, DL.ix_lst, DL.ix_str, DL.ix_obj, DL.atI_0, DL.atI_1, DL.atI_2, DL.atI_3, DL.len_tup, DL.len_lst, DL.len_str, DL.len_obj, DL.ty_obj, DL.ty_str, DL.ty_lst, DL.append_obj, DL.pop_obj, DL.set_obj, DL.ixN_3_2, DL.tuple_obj, DL.tuple_lst, DL.list_tup, DL.list_lst, DL.sl_str, DL.sl_tup, DL.sl_lst, DL.rev_tup, DL.revM_lst, DL.sum_lst, DL.put_same, DL.startD, DL.pick, List.map_cons, List.map_nil, List.replicate, List.cons_append, List.nil_append, List.append_nil, List.length_cons, List.length_nil, List.getElem?_cons_zero, List.getElem?_cons_succ, List.set_cons_zero, List.set_cons_succ, List.filterMap_cons, List.filterMap_nil, Nat.zero_add, Nat.add_zero, Nat.reduceAdd, Nat.reduceSub, true_and, and_true, id_eq, wipeD]
    exact h
  · rw [List.map_id]
    have hg := gdL_filter (fun d => !DL.isNon d) h.good
    have hd := dptL_filter (fun d => !DL.isNon d) (ds := ds)
    have h1 := h.one
    simp only [DL.x_bnd, DL.x_ret, DL.x_req, DL.x_get, DL.x_opt, DL.x_seq, DL.x_on, DL.x_or, DL.x_ob, DL.x_oc, DL.x_nil, DL.x_rt, DL.x_rtN, DL.x_drop, DL.x_break, DL.x_cont, DL.x_if, DL.x_ift, DL.x_iff, DL.x_set, DL.x_asg, DL.x_par2, DL.x_par3, DL.x_for, DL.x_v0, DL.x_vS, DL.x_c, DL.x_bin, DL.x_un, DL.x_tbin, DL.x_tru, DL.x_trb, DL.x_not, DL.x_tand, DL.x_tor, DL.x_and, DL.x_orE, DL.x_notE, DL.x_ifE, DL.x_tup, DL.x_lst, DL.x_lstM, DL.x_anil, DL.x_acons, DL.x_call, DL.x_callD, DL.x_callK, DL.x_meth, DL.x_sl, DL.x_oN, DL.x_oS, DL.x_gn, DL.x_gt, DL.x_gc, DL.x_g0, DL.x_gi, DL.x_body, DL.x_yes, DL.x_add, DL.x_addS, DL.x_addT, DL.x_addL, DL.x_sub, DL.x_mul, DL.x_div, DL.x_mod, DL.x_pow, DL.x_neg, DL.x_cmp, DL.x_cmpS, DL.x_isN, DL.x_mmL, DL.x_mm2, DL.x_eqS, DL.x_eqI, DL.x_intb, DL.onB_bl, DL.onI_int, DL.onO_nx, DL.onO_rt, DL.onL_ml, DL.addD_ol, DL.isNon_non, DL.isNon_int, DL.isNon_str, DL.isNon_tup, DL.ix_tup, DL.ix_lst, DL.ix_str, DL.ix_obj, DL.atI_0, DL.atI_1, DL.atI_2, DL.atI_3, DL.len_tup, DL.len_lst, DL.len_str, DL.len_obj, DL.ty_obj, DL.ty_str, DL.ty_lst, DL.append_obj, DL.pop_obj, DL.set_obj, DL.ixN_3_2, DL.tuple_obj, DL.tuple_lst, DL.list_tup, DL.list_lst, DL.sl_str, DL.sl_tup, DL.sl_lst, DL.rev_tup, DL.revM_lst, DL.sum_lst, DL.put_same, DL.startD, DL.pick, List.map_cons, List.map_nil, List.replicate, List.cons_append, List.nil_append, List.append_nil, List.length_cons, List.length_nil, List.getElem?_cons_zero, List.getElem?_cons_succ, List.set_cons_zero, List.set_cons_succ, List.filterMap_cons, List.filterMap_nil, Nat.zero_add, Nat.add_zero, Nat.reduceAdd, Nat.reduceSub, true_and, and_true, id_eq]
    refine ⟨by decide, eq_nil_w hg (by rw [h.flat] at hd; omega) ?_⟩
    unfold spanD loD hiD blD at q
    unfold someOf at q h1
    cases e : ds.filter (fun d => !DL.isNon d) with
    | nil =>
      rw [e] at q
      simp only [decide_true, DL.x_bnd, DL.x_ret, DL.x_req, DL.x_get, DL.x_opt, DL.x_seq, DL.x_on, DL.x_or, DL.x_ob, DL.x_oc, DL.x_nil, DL.x_rt, DL.x_rtN, DL.x_drop, DL.x_break, DL.x_cont, DL.x_if, DL.x_ift, DL.x_iff, DL.x_set, DL.x_asg, DL.x_par2, DL.x_par3, DL.x_for, DL.x_v0, DL.x_vS, DL.x_c, DL.x_bin, DL.x_un, DL.x_tbin, DL.x_tru, DL.x_trb, DL.x_not, DL.x_tand, DL.x_tor, DL.x_and, DL.x_orE, DL.x_notE, DL.x_ifE, DL.x_tup, DL.x_lst, DL.x_lstM, DL.x_anil, DL.x_acons, DL.x_call, DL.x_callD, DL.x_callK, DL.x_meth, DL.x_sl, DL.x_oN, DL.x_oS, DL.x_gn, DL.x_gt, DL.x_gc, DL.x_g0, DL.x_gi, DL.x_body, DL.x_yes, DL.x_add, DL.x_addS, DL.x_addT, DL.x_addL, DL.x_sub, DL.x_mul, DL.x_div, DL.x_mod, DL.x_pow, DL.x_neg, DL.x_cmp, DL.x_cmpS, DL.x_isN, DL.x_mmL, DL.x_mm2, DL.x_eqS, DL.x_eqI, DL.x_intb, DL.onB_bl, DL.onI_int, DL.onO_nx, DL.onO_rt, DL.onL_ml, DL.addD_ol, DL.isNon_non, DL.isNon_int, DL.isNon_str, DL.isNon_tup, DL.ix_tup, DL.ix_lst, DL.ix_str, DL.ix_obj, DL.atI_0, DL.atI_1, DL.atI_2, DL.atI_3, DL.len_tup, DL.len_lst, DL.len_str, DL.len_obj, DL.ty_obj, DL.ty_str, DL.ty_lst, DL.append_obj, DL.pop_obj, DL.set_obj, DL.ixN_3_2, DL.tuple_obj, DL.tuple_lst, DL.list_tup, DL.list_lst, DL.sl_str, DL.sl_tup, DL.sl_lst, DL.rev_tup, DL.revM_lst, DL.sum_lst, DL.put_same, DL.startD, DL.pick, List.map_cons, List.map_nil, List.replicate, List.cons_append, List.nil_append, List.append_nil, List.length_cons, List.length_nil, List.getElem?_cons_zero, List.getElem?_cons_succ, List.set_cons_zero, List.set_cons_succ, List.filterMap_cons, List.filterMap_nil, Nat.zero_add, Nat.add_zero, Nat.reduceAdd, Nat.reduceSub, true_and, and_true, id_eq]
      refine ⟨by decide, ?_⟩
      simpa using q
    | cons d r =>
      rw [e] at q h1
      have ne : ¬ (d :: r = []) := fun x => nomatch x
      simp only [decide_eq_false ne, DL.x_bnd, DL.x_ret, DL.x_req, DL.x_get, DL.x_opt, DL.x_seq, DL.x_on, DL.x_or, DL.x_ob, DL.x_oc, DL.x_nil, DL.x_rt, DL.x_rtN, DL.x_drop, DL.x_break, DL.x_cont, DL.x_if, DL.x_ift, DL.x_iff, DL.x_set, DL.x_asg, DL.x_par2, DL.x_par3, DL.x_for, DL.x_v0, DL.x_vS, DL.x_c, DL.x_bin, DL.x_un, DL.x_tbin, DL.x_tru, DL.x_trb, DL.x_not, DL.x_tand, DL.x_tor, DL.x_and, DL.x_orE, DL.x_notE, DL.x_ifE, DL.x_tup, DL.x_lst, DL.x_lstM, DL.x_anil, DL.x_acons, DL.x_call, DL.x_callD, DL.x_callK, DL.x_meth, DL.x_sl, DL.x_oN, DL.x_oS, DL.x_gn, DL.x_gt, DL.x_gc, DL.x_g0, DL.x_gi, DL.x_body, DL.x_yes, DL.x_add, DL.x_addS, DL.x_addT, DL.x_addL, DL.x_sub, DL.x_mul, DL.x_div, DL.x_mod, DL.x_pow, DL.x_neg, DL.x_cmp, DL.x_cmpS, DL.x_isN, DL.x_mmL, DL.x_mm2, DL.x_eqS, DL.x_eqI, DL.x_intb, DL.onB_bl, DL.onI_int, DL.onO_nx, DL.onO_rt, DL.onL_ml, DL.addD_ol, DL.isNon_non, DL.isNon_int, DL.isNon_str, DL.isNon_tup, DL.ix_tup, DL.ix_lst, DL.ix_str, DL.ix_obj, DL.atI_0, DL.atI_1, DL.atI_2, DL.atI_3, DL.len_tup, DL.len_lst, DL.len_str, DL.len_obj, DL.ty_obj, DL.ty_str, DL.ty_lst, DL.append_obj, DL.pop_obj, DL.set_obj, DL.ixN_3_2, DL.tuple_obj, DL.tuple_lst, DL.list_tup, DL.list_lst, DL.sl_str, DL.sl_tup, DL.sl_lst, DL.rev_tup, DL.revM_lst, DL.sum_lst, DL.put_same, DL.startD, DL.pick, List.map_cons, List.map_nil, List.replicate, List.cons_append, List.nil_append, List.append_nil, List.length_cons, List.length_nil, List.getElem?_cons_zero, List.getElem?_cons_succ, List.set_cons_zero, List.set_cons_succ, List.filterMap_cons, List.filterMap_nil, Nat.zero_add, Nat.add_zero, Nat.reduceAdd, Nat.reduceSub, true_and, and_true, id_eq]
      refine ⟨h1, h1, by decide, ?_⟩
      simpa using q

theorem ltD_w {x y : D} {μ : Mem} {Q : D → Mem → Prop} {E : XD} (h : OneSort [x, y]) (q : Q (.bl (ltS x y)) μ) : ltD x y μ Q E := by
  rcases h with ⟨ns, e⟩ | ⟨ns, e⟩
  · match ns, e with
    | [i, j], e => cases e; exact q
  · match ns, e with
    | [i, j], e => cases e; exact q
theorem some_snoc (ds : List D) (x : D) : someOf (ds ++ [x]) = if DL.isNon x = true then someOf ds else someOf ds ++ [x] := by
  unfold someOf
  rw [List.filter_append, List.filter_cons, List.filter_nil]
  cases DL.isNon x <;> simp
theorem sort_pre {a b : List D} (h : OneSort (a ++ b)) : OneSort a := by
  rcases h with ⟨ns, e⟩ | ⟨ns, e⟩
  · exact .inl ⟨ns.take a.length, by rw [List.map_take, ← e, List.take_left]⟩
  · exact .inr ⟨ns.take a.length, by rw [List.map_take, ← e, List.take_left]⟩
theorem sort_suf {a b : List D} (h : OneSort (a ++ b)) : OneSort b := by
  rcases h with ⟨ns, e⟩ | ⟨ns, e⟩
  · exact .inl ⟨ns.drop a.length, by rw [List.map_drop, ← e, List.drop_left]⟩
  · exact .inr ⟨ns.drop a.length, by rw [List.map_drop, ← e, List.drop_left]⟩
theorem some_app (a b : List D) : someOf (a ++ b) = someOf a ++ someOf b := List.filter_append ..
theorem isNon_of {d : D} (h : DL.isNon d = true) : d = .non := by
  cases d <;> first | rfl | cases h
theorem some_not {d : D} {ds : List D} (h : d ∈ someOf ds) : DL.isNon d = false := by
  have := (List.mem_filter.mp h).2
  cases e : DL.isNon d with
  | false => rfl
  | true => rw [e] at this; cases this
theorem lo_non (ds : List D) : DL.isNon (loD ds) = decide (someOf ds = []) := by
  unfold loD
  cases e : someOf ds with
  | nil => rfl
  | cons d r =>
    have : minL d r ∈ someOf ds := by rw [e]; exact min_mem d r
    rw [decide_eq_false (fun x => nomatch x)]
    exact some_not this
end Lk10

namespace Lk10
open PySem PySem.Spec PyProof.Rows L2 DL

/-! ### texts -/
def SmallS (s : Str) : Prop := s.length ≤ 8 ∧ PyData.canLay0 (.str s) = true
theorem ok_of {s : Str} (h : ∀ c ∈ s.cps.toList, c < 1114112) : PyData.canLay0 (.str s) = true := by
  show PyData.strOk s = true
  unfold PyData.strOk
  rw [Array.all_eq_true_iff_forall_mem]
  exact fun c hc => decide_eq_true (h c (Array.mem_toList_iff.mpr hc))
theorem of_ok {s : Str} (h : PyData.canLay0 (.str s) = true) : ∀ c ∈ s.cps.toList, c < 1114112 := by
  have h : PyData.strOk s = true := h
  unfold PyData.strOk at h
  rw [Array.all_eq_true_iff_forall_mem] at h
  exact fun c hc => of_decide_eq_true (h c (Array.mem_toList_iff.mp hc))
theorem small_mk {cs : List Nat} (hl : cs.length ≤ 8) (h : ∀ c ∈ cs, c < 1114112) : SmallS ⟨cs.toArray⟩ := ⟨by show cs.toArray.size ≤ 8; rw [List.size_toArray]; exact hl, ok_of (by simpa using h)⟩
theorem small_cut {s : Str} {lo hi : Option Int} (h : SmallS s) : SmallS (cutS s lo hi) :=
  ⟨Nat.le_trans (cutS_length s lo hi) h.1, ok_of fun c hc => of_ok h.2 c (by
    unfold cutS at hc
    simp only at hc
    exact List.mem_of_mem_drop (List.mem_of_mem_take hc))⟩
end Lk10

namespace Lk10
open PySem PySem.Spec PyProof.Rows L2 DL

theorem pick_w {μ : Mem} {a c : Addr} {t : Int} {ds : List D} {Q : D → Mem → Prop} {E : XD} (h : Deck μ a c t) (h0 : 0 < ds.length) (h1 : ds.length < 1000000) (ht : t < 1000000000000)
    (q : ∀ d μ', d ∈ ds → Deck μ' a c (t + 1) → DL.Fr a c μ μ' → Q d μ') : m__law_pick [.obj a, .lst ds] μ Q E := by
  simp only [m__law_pick, b__law_pick, DL.x_bnd, DL.x_ret, DL.x_req, DL.x_get, DL.x_opt, DL.x_seq, DL.x_on, DL.x_or, DL.x_ob, DL.x_oc, DL.x_nil, DL.x_rt, DL.x_rtN, DL.x_drop, DL.x_break, DL.x_cont, DL.x_if, DL.x_ift, DL.x_iff, DL.x_set, DL.x_asg, DL.x_par2, DL.x_par3, DL.x_for, DL.x_v0, DL.x_vS, DL.x_c, DL.x_bin, DL.x_un, DL.x_tbin, DL.x_tru, DL.x_trb, DL.x_not, DL.x_tand, DL.x_tor, DL.x_and, DL.x_orE, DL.x_notE, DL.x_ifE, DL.x_tup, DL.x_lst, DL.x_lstM, DL.x_anil, DL.x_acons, DL.x_call, DL.x_callD, DL.x_callK, DL.x_meth, DL.x_sl, DL.x_oN, DL.x_oS, DL.x_gn, DL.x_gt, DL.x_gc, DL.x_g0, DL.x_gi, DL.x_body, DL.x_yes, DL.x_add, DL.x_addS, DL.x_addT, DL.x_addL, DL.x_sub, DL.x_mul, DL.x_div, DL.x_mod, DL.x_pow, DL.x_neg, DL.x_cmp, DL.x_cmpS, DL.x_isN, DL.x_mmL, DL.x_mm2, DL.x_eqS, DL.x_eqI, DL.x_intb, DL.onB_bl, DL.onI_int, DL.onO_nx, DL.onO_rt, DL.onL_ml, DL.addD_ol, DL.isNon_non, DL.isNon_int, DL.isNon_str, DL.isNon_tup, DL.ix_tup, DL.ix_lst, DL.ix_str, DL.ix_obj, DL.atI_0, DL.atI_1, DL.atI_2, DL.atI_3, DL.len_tup, DL.len_lst, DL.len_str, DL.len_obj, DL.ty_obj, DL.ty_str, DL.ty_lst, DL.append_obj, DL.pop_obj, DL.set_obj, DL.ixN_3_2, DL.tuple_obj, DL.tuple_lst, DL.list_tup, DL.list_lst, DL.sl_str, DL.sl_tup, DL.sl_lst, DL.rev_tup, DL.revM_lst, DL.sum_lst, DL.put_same, DL.startD, DL.pick, List.map_cons, List.map_nil, List.replicate, List.cons_append, List.nil_append, List.append_nil, List.length_cons, List.length_nil, List.getElem?_cons_zero, List.getElem?_cons_succ, List.set_cons_zero, List.set_cons_succ, List.filterMap_cons, List.filterMap_nil, Nat.zero_add, Nat.add_zero, Nat.reduceAdd, Nat.reduceSub, true_and, and_true, id_eq]
  refine draw_w h (by omega) (by omega) ht fun k μ' k0 k1 hd hf => ?_
  simp only [DL.x_bnd, DL.x_ret, DL.x_req, DL.x_get, DL.x_opt, DL.x_seq, DL.x_on, DL.x_or, DL.x_ob, DL.x_oc, DL.x_nil, DL.x_rt, DL.x_rtN, DL.x_drop, DL.x_break, DL.x_cont, DL.x_if, DL.x_ift, DL.x_iff, DL.x_set, DL.x_asg, DL.x_par2, DL.x_par3, DL.x_for, DL.x_v0, DL.x_vS, DL.x_c, DL.x_bin, DL.x_un, DL.x_tbin, DL.x_tru, DL.x_trb, DL.x_not, DL.x_tand, DL.x_tor, DL.x_and, DL.x_orE, DL.x_notE, DL.x_ifE, DL.x_tup, DL.x_lst, DL.x_lstM, DL.x_anil, DL.x_acons, DL.x_call, DL.x_callD, DL.x_callK, DL.x_meth, DL.x_sl, DL.x_oN, DL.x_oS, DL.x_gn, DL.x_gt, DL.x_gc, DL.x_g0, DL.x_gi, DL.x_body, DL.x_yes, DL.x_add, DL.x_addS, DL.x_addT, DL.x_addL, DL.x_sub, DL.x_mul, DL.x_div, DL.x_mod, DL.x_pow, DL.x_neg, DL.x_cmp, DL.x_cmpS, DL.x_isN, DL.x_mmL, DL.x_mm2, DL.x_eqS, DL.x_eqI, DL.x_intb, DL.onB_bl, DL.onI_int, DL.onO_nx, DL.onO_rt, DL.onL_ml, DL.addD_ol, DL.isNon_non, DL.isNon_int, DL.isNon_str, DL.isNon_tup, DL.ix_tup, DL.ix_lst, DL.ix_str, DL.ix_obj, DL.atI_0, DL.atI_1, DL.atI_2, DL.atI_3, DL.len_tup, DL.len_lst, DL.len_str, DL.len_obj, DL.ty_obj, DL.ty_str, DL.ty_lst, DL.append_obj, DL.pop_obj, DL.set_obj, DL.ixN_3_2, DL.tuple_obj, DL.tuple_lst, DL.list_tup, DL.list_lst, DL.sl_str, DL.sl_tup, DL.sl_lst, DL.rev_tup, DL.revM_lst, DL.sum_lst, DL.put_same, DL.startD, DL.pick, List.map_cons, List.map_nil, List.replicate, List.cons_append, List.nil_append, List.append_nil, List.length_cons, List.length_nil, List.getElem?_cons_zero, List.getElem?_cons_succ, List.set_cons_zero, List.set_cons_succ, List.filterMap_cons, List.filterMap_nil, Nat.zero_add, Nat.add_zero, Nat.reduceAdd, Nat.reduceSub, true_and, and_true, id_eq]
  exact ix_in k0 k1 fun d hd' _ => q d μ' hd' hd hf
abbrev LT : Str := PySem.Str.ofString "abcdefghijklmnopqrstuvwxyz"
theorem lt_len : LT.length ≤ sizeLine := by decide +kernel
theorem lt_len' : LT.cps.toList.length = 26 := by decide +kernel
theorem lt_ok : ∀ c ∈ LT.cps.toList, c < 1114112 := by decide +kernel
def chr (i : Int) : Nat := (LT.cps.toList[i.toNat]?).getD 0
theorem chr_at {i : Int} (h0 : 0 ≤ i) (h1 : i < 26) : atI LT.cps.toList i = some (chr i) ∧ chr i < 1114112 := by
  have hl := lt_len'
  obtain ⟨x, e, e', m⟩ := atI_nat LT.cps.toList i h0 (by rw [hl]; exact h1)
  unfold chr
  rw [e, e']
  exact ⟨rfl, lt_ok x m⟩
theorem joinL_one : ∀ cs : List Nat, TL.joinL [] (cs.map fun c => [c]) = cs
  | [] => rfl
  | [c] => rfl
  | c :: d :: r => by
    have := joinL_one (d :: r)
    show [c] ++ ([] ++ TL.joinL [] ((d :: r).map fun c => [c])) = _
    rw [this]
    rfl
theorem strsOf_map : ∀ ys : List Str, strsOf (ys.map D.str) = some ys
  | [] => rfl
  | y :: r => by
    show (strsOf (r.map D.str)).map (y :: ·) = _
    rw [strsOf_map r]
    rfl
theorem join_chars {cs : List Nat} {μ : Mem} {Q : D → Mem → Prop} {E : XD} (hl : cs.length ≤ 1000) (q : Q (.str ⟨cs.toArray⟩) μ) : joinD (.str (PySem.Str.ofString "")) [.lst (cs.map fun c => .str ⟨#[c]⟩)] μ Q E := by
  have e : (cs.map fun c => D.str ⟨#[c]⟩) = (cs.map fun c => (⟨#[c]⟩ : Str)).map .str := by rw [List.map_map]; rfl
  rw [e]
  show W.bnd (W.opt (strsOf ((cs.map fun c => (⟨#[c]⟩ : Str)).map D.str))) _ μ Q E
  rw [strsOf_map]
  have z : ((cs.map fun c => (⟨#[c]⟩ : Str)).map (·.length)).sum = cs.length := by
    clear e q hl
    induction cs with
    | nil => rfl
    | cons c r ih =>
      rw [List.map_cons, List.map_cons, List.sum_cons, ih, List.length_cons]
      show 1 + r.length = r.length + 1
      omega
  have e0 : PySem.Str.ofString "" = SX.S [] := by decide +kernel
  refine ⟨?_, ?_⟩
  · rw [z, e0, List.length_map]
    show cs.length + cs.length * 0 ≤ 16777216
    omega
  · have j : Txt.join (PySem.Str.ofString "") (cs.map fun c => (⟨#[c]⟩ : Str)) = ⟨cs.toArray⟩ := by
      rw [e0]
      have e1 : (cs.map fun c => (⟨#[c]⟩ : Str)) = (cs.map fun c => [c]).map SX.S := by rw [List.map_map]; rfl
      rw [e1, SX.join_S, joinL_one]
    show Q (.str (Txt.join (PySem.Str.ofString "") (cs.map fun c => (⟨#[c]⟩ : Str)))) μ
    rw [j]
    exact q
theorem range_in {n : Nat} {x : D} (h : x ∈ rangeL 0 n) : ∃ k : Nat, k < n ∧ x = .int k := by
  unfold rangeL at h
  obtain ⟨k, hk, rfl⟩ := List.mem_map.mp h
  exact ⟨k, List.mem_range.mp hk, by rw [Int.zero_add]⟩
/-- a worth of numbers | of texts -/
def OkW (s : Bool) (d : D) : Prop := d = .non ∨ (s = true ∧ ∃ i : Int, d = .int i ∧ i.natAbs < 10000000000000) ∨ (s = false ∧ ∃ x : Str, d = .str x ∧ SmallS x)
theorem eqs_t {x y : Str} {μ : Mem} {Q : D → Mem → Prop} {E : XD} (hx : PyData.canLay0 (.str x) = true) (e : x = y) (q : Q (.bl true) μ) : eqA id (.str x) (.str y) μ Q E := by
  subst e
  refine eq_w (x := .str x) (y := .str x) hx hx (show (0 : Nat) ≤ 60 by decide) (show (0 : Nat) ≤ 60 by decide) ?_
  have : PyData.eqv (toPy (.str x)) (toPy (.str x)) = true := by
    show (x == x) = true
    exact beq_self_eq_true x
  rw [this]
  exact q
theorem eqs_f {x y : Str} {μ : Mem} {Q : D → Mem → Prop} {E : XD} (hx : PyData.canLay0 (.str x) = true) (hy : PyData.canLay0 (.str y) = true) (e : (x == y) = false) (q : Q (.bl false) μ) : eqA id (.str x) (.str y) μ Q E := by
  refine eq_w (x := .str x) (y := .str y) hx hy (show (0 : Nat) ≤ 60 by decide) (show (0 : Nat) ≤ 60 by decide) ?_
  have : PyData.eqv (toPy (.str x)) (toPy (.str y)) = false := e
  rw [this]
  exact q
theorem chr_w {i : Int} {μ : Mem} {Q : Nat → Mem → Prop} {E : XD} (h0 : 0 ≤ i) (h1 : i < 26) (q : ∀ c, c < 1114112 → Q c μ) : W.opt (atI LT.cps.toList i) μ Q E := by
  rw [(chr_at h0 h1).1]
  exact q _ (chr_at h0 h1).2
theorem small_1 {c : Nat} (h : c < 1114112) : SmallS ⟨#[c]⟩ := small_mk (cs := [c]) (show (1 : Nat) ≤ 8 by decide) (by simpa using h)
theorem okI {i : Int} (h : i.natAbs < 10000000000000) : OkW true (.int i) := .inr (.inl ⟨rfl, i, rfl, h⟩)
theorem okS {x : Str} (h : SmallS x) : OkW false (.str x) := .inr (.inr ⟨rfl, x, rfl, h⟩)
theorem s11 : (PySem.Str.ofString "small" == PySem.Str.ofString "small") = true := by decide +kernel
theorem s21 : (PySem.Str.ofString "whole" == PySem.Str.ofString "small") = false := by decide +kernel
theorem s22 : (PySem.Str.ofString "whole" == PySem.Str.ofString "whole") = true := by decide +kernel
theorem s31 : (PySem.Str.ofString "sign" == PySem.Str.ofString "small") = false := by decide +kernel
theorem s32 : (PySem.Str.ofString "sign" == PySem.Str.ofString "whole") = false := by decide +kernel
theorem s33 : (PySem.Str.ofString "sign" == PySem.Str.ofString "sign") = true := by decide +kernel
theorem s41 : (PySem.Str.ofString "word" == PySem.Str.ofString "small") = false := by decide +kernel
theorem s42 : (PySem.Str.ofString "word" == PySem.Str.ofString "whole") = false := by decide +kernel
theorem s43 : (PySem.Str.ofString "word" == PySem.Str.ofString "sign") = false := by decide +kernel
theorem worth_w {μ : Mem} {a c : Addr} {t : Int} {s : Bool} {k : Str} {Q : D → Mem → Prop} {E : XD} (h : Deck μ a c t) (ht : t < 100000000000)
    (hk : (s = true ∧ (k = "small" ∨ k = "whole")) ∨ (s = false ∧ (k = "sign" ∨ k = "word")))
    (q : ∀ d μ', OkW s d → Deck μ' a c (t + 3) → DL.Fr a c μ μ' → Q d μ') : m__law_worth [.obj a, .str k] μ Q E := by
  simp only [m__law_worth, b__law_worth, DL.x_bnd, DL.x_ret, DL.x_req, DL.x_get, DL.x_opt, DL.x_seq, DL.x_on, DL.x_or, DL.x_ob, DL.x_oc, DL.x_nil, DL.x_rt, DL.x_rtN, DL.x_drop, DL.x_break, DL.x_cont, DL.x_if, DL.x_ift, DL.x_iff, DL.x_set, DL.x_asg, DL.x_par2, DL.x_par3, DL.x_for, DL.x_v0, DL.x_vS, DL.x_c, DL.x_bin, DL.x_un, DL.x_tbin, DL.x_tru, DL.x_trb, DL.x_not, DL.x_tand, DL.x_tor, DL.x_and, DL.x_orE, DL.x_notE, DL.x_ifE, DL.x_tup, DL.x_lst, DL.x_lstM, DL.x_anil, DL.x_acons, DL.x_call, DL.x_callD, DL.x_callK, DL.x_meth, DL.x_sl, DL.x_oN, DL.x_oS, DL.x_gn, DL.x_gt, DL.x_gc, DL.x_g0, DL.x_gi, DL.x_body, DL.x_yes, DL.x_add, DL.x_addS, DL.x_addT, DL.x_addL, DL.x_sub, DL.x_mul, DL.x_div, DL.x_mod, DL.x_pow, DL.x_neg, DL.x_cmp, DL.x_cmpS, DL.x_isN, DL.x_mmL, DL.x_mm2, DL.x_eqS, DL.x_eqI, DL.x_intb, DL.onB_bl, DL.onI_int, DL.onO_nx, DL.onO_rt, DL.onL_ml, DL.addD_ol, DL.isNon_non, DL.isNon_int, DL.isNon_str, DL.isNon_tup, DL.ix_tup, DL.ix_lst, DL.ix_str, DL.ix_obj, DL.atI_0, DL.atI_1, DL.atI_2, DL.atI_3, DL.len_tup, DL.len_lst, DL.len_str, DL.len_obj, DL.ty_obj, DL.ty_str, DL.ty_lst, DL.append_obj, DL.pop_obj, DL.set_obj, DL.ixN_3_2, DL.tuple_obj, DL.tuple_lst, DL.list_tup, DL.list_lst, DL.sl_str, DL.sl_tup, DL.sl_lst, DL.rev_tup, DL.revM_lst, DL.sum_lst, DL.put_same, DL.startD, DL.pick, List.map_cons, List.map_nil, List.replicate, List.cons_append, List.nil_append, List.append_nil, List.length_cons, List.length_nil, List.getElem?_cons_zero, List.getElem?_cons_succ, List.set_cons_zero, List.set_cons_succ, List.filterMap_cons, List.filterMap_nil, Nat.zero_add, Nat.add_zero, Nat.reduceAdd, Nat.reduceSub, true_and, and_true, id_eq]
  refine draw_w h (by decide) (by decide) (by omega) fun way μ1 a0 a1 hd1 hf1 => ?_
  refine draw_w hd1 (by decide) (by decide) (by omega) fun near μ2 b0 b1 hd2 hf2 => ?_
  refine draw_w hd2 (by decide) (by decide) (by omega) fun far μ3 c0 c1 hd3 hf3 => ?_
  have q : ∀ d, OkW s d → Q d μ3 := fun d hd => q d μ3 hd (hd3.mono (by omega)) ((hf1.trans hf2).trans hf3)
  clear hd1 hd2 hd3 hf1 hf2 hf3 h
  simp only [DL.x_bnd, DL.x_ret, DL.x_req, DL.x_get, DL.x_opt, DL.x_seq, DL.x_on, DL.x_or, DL.x_ob, DL.x_oc, DL.x_nil, DL.x_rt, DL.x_rtN, DL.x_drop, DL.x_break, DL.x_cont, DL.x_if, DL.x_ift, DL.x_iff, DL.x_set, DL.x_asg, DL.x_par2, DL.x_par3, DL.x_for, DL.x_v0, DL.x_vS, DL.x_c, DL.x_bin, DL.x_un, DL.x_tbin, DL.x_tru, DL.x_trb, DL.x_not, DL.x_tand, DL.x_tor, DL.x_and, DL.x_orE, DL.x_notE, DL.x_ifE, DL.x_tup, DL.x_lst, DL.x_lstM, DL.x_anil, DL.x_acons, DL.x_call, DL.x_callD, DL.x_callK, DL.x_meth, DL.x_sl, DL.x_oN, DL.x_oS, DL.x_gn, DL.x_gt, DL.x_gc, DL.x_g0, DL.x_gi, DL.x_body, DL.x_yes, DL.x_add, DL.x_addS, DL.x_addT, DL.x_addL, DL.x_sub, DL.x_mul, DL.x_div, DL.x_mod, DL.x_pow, DL.x_neg, DL.x_cmp, DL.x_cmpS, DL.x_isN, DL.x_mmL, DL.x_mm2, DL.x_eqS, DL.x_eqI, DL.x_intb, DL.onB_bl, DL.onI_int, DL.onO_nx, DL.onO_rt, DL.onL_ml, DL.addD_ol, DL.isNon_non, DL.isNon_int, DL.isNon_str, DL.isNon_tup, DL.ix_tup, DL.ix_lst, DL.ix_str, DL.ix_obj, DL.atI_0, DL.atI_1, DL.atI_2, DL.atI_3, DL.len_tup, DL.len_lst, DL.len_str, DL.len_obj, DL.ty_obj, DL.ty_str, DL.ty_lst, DL.append_obj, DL.pop_obj, DL.set_obj, DL.ixN_3_2, DL.tuple_obj, DL.tuple_lst, DL.list_tup, DL.list_lst, DL.sl_str, DL.sl_tup, DL.sl_lst, DL.rev_tup, DL.revM_lst, DL.sum_lst, DL.put_same, DL.startD, DL.pick, List.map_cons, List.map_nil, List.replicate, List.cons_append, List.nil_append, List.append_nil, List.length_cons, List.length_nil, List.getElem?_cons_zero, List.getElem?_cons_succ, List.set_cons_zero, List.set_cons_succ, List.filterMap_cons, List.filterMap_nil, Nat.zero_add, Nat.add_zero, Nat.reduceAdd, Nat.reduceSub, true_and, and_true, id_eq]
  have hm : 0 ≤ far % 26 ∧ far % 26 < 26 := ⟨Int.emod_nonneg _ (by decide), Int.emod_lt_of_pos _ (by decide)⟩
  refine ⟨by decide, ?_⟩
  refine elc_nm (items := rangeL 0 (1 + near * 3).toNat) (chk := fun _ => True) (fun _ => true) (fun d => match d with | .int k => .str ⟨#[chr ((far + 3 * k) % 26)]⟩ | d => d) (fun R h => ⟨cmul_r (by decide) (by decide), ⟨⟨by omega, by omega⟩, h⟩⟩)
    (by unfold rangeL; rw [List.length_map, List.length_range]; exact Nat.lt_of_le_of_lt (show (1 + near * 3).toNat ≤ 10 by omega) (by decide)) (fun _ _ _ => trivial) (fun x hx p acc hp R h => h) (fun x hx _ p acc hp R h => ?_) ?_
  · obtain ⟨k, hk, rfl⟩ := range_in hx
    simp only [DL.x_bnd, DL.x_ret, DL.x_req, DL.x_get, DL.x_opt, DL.x_seq, DL.x_on, DL.x_or, DL.x_ob, DL.x_oc, DL.x_nil, DL.x_rt, DL.x_rtN, DL.x_drop, DL.x_break, DL.x_cont, DL.x_if, DL.x_ift, DL.x_iff, DL.x_set, DL.x_asg, DL.x_par2, DL.x_par3, DL.x_for, DL.x_v0, DL.x_vS, DL.x_c, DL.x_bin, DL.x_un, DL.x_tbin, DL.x_tru, DL.x_trb, DL.x_not, DL.x_tand, DL.x_tor, DL.x_and, DL.x_orE, DL.x_notE, DL.x_ifE, DL.x_tup, DL.x_lst, DL.x_lstM, DL.x_anil, DL.x_acons, DL.x_call, DL.x_callD, DL.x_callK, DL.x_meth, DL.x_sl, DL.x_oN, DL.x_oS, DL.x_gn, DL.x_gt, DL.x_gc, DL.x_g0, DL.x_gi, DL.x_body, DL.x_yes, DL.x_add, DL.x_addS, DL.x_addT, DL.x_addL, DL.x_sub, DL.x_mul, DL.x_div, DL.x_mod, DL.x_pow, DL.x_neg, DL.x_cmp, DL.x_cmpS, DL.x_isN, DL.x_mmL, DL.x_mm2, DL.x_eqS, DL.x_eqI, DL.x_intb, DL.onB_bl, DL.onI_int, DL.onO_nx, DL.onO_rt, DL.onL_ml, DL.addD_ol, DL.isNon_non, DL.isNon_int, DL.isNon_str, DL.isNon_tup, DL.ix_tup, DL.ix_lst, DL.ix_str, DL.ix_obj, DL.atI_0, DL.atI_1, DL.atI_2, DL.atI_3, DL.len_tup, DL.len_lst, DL.len_str, DL.len_obj, DL.ty_obj, DL.ty_str, DL.ty_lst, DL.append_obj, DL.pop_obj, DL.set_obj, DL.ixN_3_2, DL.tuple_obj, DL.tuple_lst, DL.list_tup, DL.list_lst, DL.sl_str, DL.sl_tup, DL.sl_lst, DL.rev_tup, DL.revM_lst, DL.sum_lst, DL.put_same, DL.startD, DL.pick, List.map_cons, List.map_nil, List.replicate, List.cons_append, List.nil_append, List.append_nil, List.length_cons, List.length_nil, List.getElem?_cons_zero, List.getElem?_cons_succ, List.set_cons_zero, List.set_cons_succ, List.filterMap_cons, List.filterMap_nil, Nat.zero_add, Nat.add_zero, Nat.reduceAdd, Nat.reduceSub, true_and, and_true, id_eq, wipeD]
    refine ⟨cmul_l (by decide) (by decide), by decide, lt_len, ?_⟩
    rw [(chr_at (Int.emod_nonneg _ (by decide)) (Int.emod_lt_of_pos _ (by decide))).1]
    exact h
  · have e : ((rangeL 0 (1 + near * 3).toNat).filter fun _ => true).map (fun d => match d with | .int k => D.str ⟨#[chr ((far + 3 * k) % 26)]⟩ | d => d) = ((List.range (1 + near * 3).toNat).map fun (k : Nat) => chr ((far + 3 * (0 + (k : Int))) % 26)).map fun c => .str ⟨#[c]⟩ := by
      rw [List.filter_eq_self.mpr (fun _ _ => rfl)]
      unfold rangeL
      rw [List.map_map, List.map_map]
      rfl
    rw [e]
    have hl : ((List.range (1 + near * 3).toNat).map fun (k : Nat) => chr ((far + 3 * (0 + (k : Int))) % 26)).length ≤ 8 := by
      rw [List.length_map, List.length_range]
      omega
    have hw : SmallS ⟨((List.range (1 + near * 3).toNat).map fun (k : Nat) => chr ((far + 3 * (0 + (k : Int))) % 26)).toArray⟩ := small_mk hl fun c hc => by
      obtain ⟨k, _, rfl⟩ := List.mem_map.mp hc
      exact (chr_at (Int.emod_nonneg _ (by decide)) (Int.emod_lt_of_pos _ (by decide))).2
    refine join_chars (Nat.le_trans hl (by decide)) ?_
    generalize (⟨((List.range (1 + near * 3).toNat).map fun (k : Nat) => chr ((far + 3 * (0 + (k : Int))) % 26)).toArray⟩ : Str) = word at hw
    have qn : Q .non μ3 := q _ (.inl rfl)
    have ix : ∀ ds : List D, ds.length = 7 → (∀ d ∈ ds, OkW s d) → W.opt (atI ds way) μ3 (fun d μ1 => Q d μ1) E := fun ds h7 h => ix_in a0 (by rw [h7]; exact a1) fun d hd _ => q d (h d hd)
    rcases hk with ⟨rfl, rfl | rfl⟩ | ⟨rfl, rfl | rfl⟩
    · simp only [s11, DL.x_bnd, DL.x_ret, DL.x_req, DL.x_get, DL.x_opt, DL.x_seq, DL.x_on, DL.x_or, DL.x_ob, DL.x_oc, DL.x_nil, DL.x_rt, DL.x_rtN, DL.x_drop, DL.x_break, DL.x_cont, DL.x_if, DL.x_ift, DL.x_iff, DL.x_set, DL.x_asg, DL.x_par2, DL.x_par3, DL.x_for, DL.x_v0, DL.x_vS, DL.x_c, DL.x_bin, DL.x_un, DL.x_tbin, DL.x_tru, DL.x_trb, DL.x_not, DL.x_tand, DL.x_tor, DL.x_and, DL.x_orE, DL.x_notE, DL.x_ifE, DL.x_tup, DL.x_lst, DL.x_lstM, DL.x_anil, DL.x_acons, DL.x_call, DL.x_callD, DL.x_callK, DL.x_meth, DL.x_sl, DL.x_oN, DL.x_oS, DL.x_gn, DL.x_gt, DL.x_gc, DL.x_g0, DL.x_gi, DL.x_body, DL.x_yes, DL.x_add, DL.x_addS, DL.x_addT, DL.x_addL, DL.x_sub, DL.x_mul, DL.x_div, DL.x_mod, DL.x_pow, DL.x_neg, DL.x_cmp, DL.x_cmpS, DL.x_isN, DL.x_mmL, DL.x_mm2, DL.x_eqS, DL.x_eqI, DL.x_intb, DL.onB_bl, DL.onI_int, DL.onO_nx, DL.onO_rt, DL.onL_ml, DL.addD_ol, DL.isNon_non, DL.isNon_int, DL.isNon_str, DL.isNon_tup, DL.ix_tup, DL.ix_lst, DL.ix_str, DL.ix_obj, DL.atI_0, DL.atI_1, DL.atI_2, DL.atI_3, DL.len_tup, DL.len_lst, DL.len_str, DL.len_obj, DL.ty_obj, DL.ty_str, DL.ty_lst, DL.append_obj, DL.pop_obj, DL.set_obj, DL.ixN_3_2, DL.tuple_obj, DL.tuple_lst, DL.list_tup, DL.list_lst, DL.sl_str, DL.sl_tup, DL.sl_lst, DL.rev_tup, DL.revM_lst, DL.sum_lst, DL.put_same, DL.startD, DL.pick, List.map_cons, List.map_nil, List.replicate, List.cons_append, List.nil_append, List.append_nil, List.length_cons, List.length_nil, List.getElem?_cons_zero, List.getElem?_cons_succ, List.set_cons_zero, List.set_cons_succ, List.filterMap_cons, List.filterMap_nil, Nat.zero_add, Nat.add_zero, Nat.reduceAdd, Nat.reduceSub, true_and, and_true, id_eq]
      refine ⟨by decide, ix _ rfl ?_⟩
      simp only [List.forall_mem_cons, List.forall_mem_nil]
      exact ⟨.inl rfl, okI (by omega), okI (by omega), okI (by omega), okI (by omega), okI (by omega), okI (by omega), fun _ h => nomatch h⟩
    · simp only [s21, s22, DL.x_bnd, DL.x_ret, DL.x_req, DL.x_get, DL.x_opt, DL.x_seq, DL.x_on, DL.x_or, DL.x_ob, DL.x_oc, DL.x_nil, DL.x_rt, DL.x_rtN, DL.x_drop, DL.x_break, DL.x_cont, DL.x_if, DL.x_ift, DL.x_iff, DL.x_set, DL.x_asg, DL.x_par2, DL.x_par3, DL.x_for, DL.x_v0, DL.x_vS, DL.x_c, DL.x_bin, DL.x_un, DL.x_tbin, DL.x_tru, DL.x_trb, DL.x_not, DL.x_tand, DL.x_tor, DL.x_and, DL.x_orE, DL.x_notE, DL.x_ifE, DL.x_tup, DL.x_lst, DL.x_lstM, DL.x_anil, DL.x_acons, DL.x_call, DL.x_callD, DL.x_callK, DL.x_meth, DL.x_sl, DL.x_oN, DL.x_oS, DL.x_gn, DL.x_gt, DL.x_gc, DL.x_g0, DL.x_gi, DL.x_body, DL.x_yes, DL.x_add, DL.x_addS, DL.x_addT, DL.x_addL, DL.x_sub, DL.x_mul, DL.x_div, DL.x_mod, DL.x_pow, DL.x_neg, DL.x_cmp, DL.x_cmpS, DL.x_isN, DL.x_mmL, DL.x_mm2, DL.x_eqS, DL.x_eqI, DL.x_intb, DL.onB_bl, DL.onI_int, DL.onO_nx, DL.onO_rt, DL.onL_ml, DL.addD_ol, DL.isNon_non, DL.isNon_int, DL.isNon_str, DL.isNon_tup, DL.ix_tup, DL.ix_lst, DL.ix_str, DL.ix_obj, DL.atI_0, DL.atI_1, DL.atI_2, DL.atI_3, DL.len_tup, DL.len_lst, DL.len_str, DL.len_obj, DL.ty_obj, DL.ty_str, DL.ty_lst, DL.append_obj, DL.pop_obj, DL.set_obj, DL.ixN_3_2, DL.tuple_obj, DL.tuple_lst, DL.list_tup, DL.list_lst, DL.sl_str, DL.sl_tup, DL.sl_lst, DL.rev_tup, DL.revM_lst, DL.sum_lst, DL.put_same, DL.startD, DL.pick, List.map_cons, List.map_nil, List.replicate, List.cons_append, List.nil_append, List.append_nil, List.length_cons, List.length_nil, List.getElem?_cons_zero, List.getElem?_cons_succ, List.set_cons_zero, List.set_cons_succ, List.filterMap_cons, List.filterMap_nil, Nat.zero_add, Nat.add_zero, Nat.reduceAdd, Nat.reduceSub, true_and, and_true, id_eq]
      refine ⟨cpow_w (by decide) (by decide) (by decide), cpow_w (by decide) (by decide) (by decide), cpow_w (by decide) (by decide) (by decide), by decide, ?_⟩
      refine ix_in b0 (show near < 3 from b1) fun y hy _ => ?_
      have p12 : (10 : Int) ^ Int.toNat 12 = 1000000000000 := by decide
      have p6 : (10 : Int) ^ Int.toNat 6 = 1000000 := by decide
      rw [p6] at hy
      rw [p12]
      have : ∃ j : Int, y = .int j ∧ 0 ≤ j ∧ j ≤ 1000000 ∧ (j = 1 ∨ j = 1000 ∨ j = 1000000) := by
        simp only [List.mem_cons, List.not_mem_nil, or_false] at hy
        rcases hy with rfl | rfl | rfl
        · exact ⟨1, rfl, by decide, by decide, .inl rfl⟩
        · exact ⟨1000, rfl, by decide, by decide, .inr (.inl rfl)⟩
        · exact ⟨1000000, rfl, by decide, by decide, .inr (.inr rfl)⟩
      obtain ⟨j, rfl, j0, j1, jj⟩ := this
      simp only [DL.x_bnd, DL.x_ret, DL.x_req, DL.x_get, DL.x_opt, DL.x_seq, DL.x_on, DL.x_or, DL.x_ob, DL.x_oc, DL.x_nil, DL.x_rt, DL.x_rtN, DL.x_drop, DL.x_break, DL.x_cont, DL.x_if, DL.x_ift, DL.x_iff, DL.x_set, DL.x_asg, DL.x_par2, DL.x_par3, DL.x_for, DL.x_v0, DL.x_vS, DL.x_c, DL.x_bin, DL.x_un, DL.x_tbin, DL.x_tru, DL.x_trb, DL.x_not, DL.x_tand, DL.x_tor, DL.x_and, DL.x_orE, DL.x_notE, DL.x_ifE, DL.x_tup, DL.x_lst, DL.x_lstM, DL.x_anil, DL.x_acons, DL.x_call, DL.x_callD, DL.x_callK, DL.x_meth, DL.x_sl, DL.x_oN, DL.x_oS, DL.x_gn, DL.x_gt, DL.x_gc, DL.x_g0, DL.x_gi, DL.x_body, DL.x_yes, DL.x_add, DL.x_addS, DL.x_addT, DL.x_addL, DL.x_sub, DL.x_mul, DL.x_div, DL.x_mod, DL.x_pow, DL.x_neg, DL.x_cmp, DL.x_cmpS, DL.x_isN, DL.x_mmL, DL.x_mm2, DL.x_eqS, DL.x_eqI, DL.x_intb, DL.onB_bl, DL.onI_int, DL.onO_nx, DL.onO_rt, DL.onL_ml, DL.addD_ol, DL.isNon_non, DL.isNon_int, DL.isNon_str, DL.isNon_tup, DL.ix_tup, DL.ix_lst, DL.ix_str, DL.ix_obj, DL.atI_0, DL.atI_1, DL.atI_2, DL.atI_3, DL.len_tup, DL.len_lst, DL.len_str, DL.len_obj, DL.ty_obj, DL.ty_str, DL.ty_lst, DL.append_obj, DL.pop_obj, DL.set_obj, DL.ixN_3_2, DL.tuple_obj, DL.tuple_lst, DL.list_tup, DL.list_lst, DL.sl_str, DL.sl_tup, DL.sl_lst, DL.rev_tup, DL.revM_lst, DL.sum_lst, DL.put_same, DL.startD, DL.pick, List.map_cons, List.map_nil, List.replicate, List.cons_append, List.nil_append, List.append_nil, List.length_cons, List.length_nil, List.getElem?_cons_zero, List.getElem?_cons_succ, List.set_cons_zero, List.set_cons_succ, List.filterMap_cons, List.filterMap_nil, Nat.zero_add, Nat.add_zero, Nat.reduceAdd, Nat.reduceSub, true_and, and_true, id_eq]
      refine ⟨cmul_l (by omega) (by omega), by decide, ix _ rfl ?_⟩
      simp only [List.forall_mem_cons, List.forall_mem_nil]
      refine ⟨.inl rfl, okI (by omega), okI (by omega), okI (by omega), okI (by omega), okI (by omega), okI ?_, fun _ h => nomatch h⟩
      rcases jj with rfl | rfl | rfl <;> omega
    · simp only [s31, s32, s33, DL.x_bnd, DL.x_ret, DL.x_req, DL.x_get, DL.x_opt, DL.x_seq, DL.x_on, DL.x_or, DL.x_ob, DL.x_oc, DL.x_nil, DL.x_rt, DL.x_rtN, DL.x_drop, DL.x_break, DL.x_cont, DL.x_if, DL.x_ift, DL.x_iff, DL.x_set, DL.x_asg, DL.x_par2, DL.x_par3, DL.x_for, DL.x_v0, DL.x_vS, DL.x_c, DL.x_bin, DL.x_un, DL.x_tbin, DL.x_tru, DL.x_trb, DL.x_not, DL.x_tand, DL.x_tor, DL.x_and, DL.x_orE, DL.x_notE, DL.x_ifE, DL.x_tup, DL.x_lst, DL.x_lstM, DL.x_anil, DL.x_acons, DL.x_call, DL.x_callD, DL.x_callK, DL.x_meth, DL.x_sl, DL.x_oN, DL.x_oS, DL.x_gn, DL.x_gt, DL.x_gc, DL.x_g0, DL.x_gi, DL.x_body, DL.x_yes, DL.x_add, DL.x_addS, DL.x_addT, DL.x_addL, DL.x_sub, DL.x_mul, DL.x_div, DL.x_mod, DL.x_pow, DL.x_neg, DL.x_cmp, DL.x_cmpS, DL.x_isN, DL.x_mmL, DL.x_mm2, DL.x_eqS, DL.x_eqI, DL.x_intb, DL.onB_bl, DL.onI_int, DL.onO_nx, DL.onO_rt, DL.onL_ml, DL.addD_ol, DL.isNon_non, DL.isNon_int, DL.isNon_str, DL.isNon_tup, DL.ix_tup, DL.ix_lst, DL.ix_str, DL.ix_obj, DL.atI_0, DL.atI_1, DL.atI_2, DL.atI_3, DL.len_tup, DL.len_lst, DL.len_str, DL.len_obj, DL.ty_obj, DL.ty_str, DL.ty_lst, DL.append_obj, DL.pop_obj, DL.set_obj, DL.ixN_3_2, DL.tuple_obj, DL.tuple_lst, DL.list_tup, DL.list_lst, DL.sl_str, DL.sl_tup, DL.sl_lst, DL.rev_tup, DL.revM_lst, DL.sum_lst, DL.put_same, DL.startD, DL.pick, List.map_cons, List.map_nil, List.replicate, List.cons_append, List.nil_append, List.append_nil, List.length_cons, List.length_nil, List.getElem?_cons_zero, List.getElem?_cons_succ, List.set_cons_zero, List.set_cons_succ, List.filterMap_cons, List.filterMap_nil, Nat.zero_add, Nat.add_zero, Nat.reduceAdd, Nat.reduceSub, true_and, and_true, id_eq]
      refine ⟨by decide, lt_len, chr_w hm.1 hm.2 fun x hx => ⟨lt_len, chr_w b0 (by omega) fun y hy => ⟨lt_len, chr_w (by omega) (by omega) fun z hz => ⟨by decide, ix _ rfl ?_⟩⟩⟩⟩
      simp only [List.forall_mem_cons, List.forall_mem_nil]
      exact ⟨.inl rfl, okS ⟨by decide +kernel, by decide +kernel⟩, okS ⟨by decide +kernel, by decide +kernel⟩, okS ⟨by decide +kernel, by decide +kernel⟩, okS (small_1 hx), okS (small_1 hy), okS (small_1 hz), fun _ h => nomatch h⟩
    · simp only [s41, s42, s43, DL.x_bnd, DL.x_ret, DL.x_req, DL.x_get, DL.x_opt, DL.x_seq, DL.x_on, DL.x_or, DL.x_ob, DL.x_oc, DL.x_nil, DL.x_rt, DL.x_rtN, DL.x_drop, DL.x_break, DL.x_cont, DL.x_if, DL.x_ift, DL.x_iff, DL.x_set, DL.x_asg, DL.x_par2, DL.x_par3, DL.x_for, DL.x_v0, DL.x_vS, DL.x_c, DL.x_bin, DL.x_un, DL.x_tbin, DL.x_tru, DL.x_trb, DL.x_not, DL.x_tand, DL.x_tor, DL.x_and, DL.x_orE, DL.x_notE, DL.x_ifE, DL.x_tup, DL.x_lst, DL.x_lstM, DL.x_anil, DL.x_acons, DL.x_call, DL.x_callD, DL.x_callK, DL.x_meth, DL.x_sl, DL.x_oN, DL.x_oS, DL.x_gn, DL.x_gt, DL.x_gc, DL.x_g0, DL.x_gi, DL.x_body, DL.x_yes, DL.x_add, DL.x_addS, DL.x_addT, DL.x_addL, DL.x_sub, DL.x_mul, DL.x_div, DL.x_mod, DL.x_pow, DL.x_neg, DL.x_cmp, DL.x_cmpS, DL.x_isN, DL.x_mmL, DL.x_mm2, DL.x_eqS, DL.x_eqI, DL.x_intb, DL.onB_bl, DL.onI_int, DL.onO_nx, DL.onO_rt, DL.onL_ml, DL.addD_ol, DL.isNon_non, DL.isNon_int, DL.isNon_str, DL.isNon_tup, DL.ix_tup, DL.ix_lst, DL.ix_str, DL.ix_obj, DL.atI_0, DL.atI_1, DL.atI_2, DL.atI_3, DL.len_tup, DL.len_lst, DL.len_str, DL.len_obj, DL.ty_obj, DL.ty_str, DL.ty_lst, DL.append_obj, DL.pop_obj, DL.set_obj, DL.ixN_3_2, DL.tuple_obj, DL.tuple_lst, DL.list_tup, DL.list_lst, DL.sl_str, DL.sl_tup, DL.sl_lst, DL.rev_tup, DL.revM_lst, DL.sum_lst, DL.put_same, DL.startD, DL.pick, List.map_cons, List.map_nil, List.replicate, List.cons_append, List.nil_append, List.append_nil, List.length_cons, List.length_nil, List.getElem?_cons_zero, List.getElem?_cons_succ, List.set_cons_zero, List.set_cons_succ, List.filterMap_cons, List.filterMap_nil, Nat.zero_add, Nat.add_zero, Nat.reduceAdd, Nat.reduceSub, true_and, and_true, id_eq]
      refine ⟨Nat.le_trans hw.1 (by decide), by decide, lt_len, chr_w hm.1 hm.2 fun x hx => ?_⟩
      have hz : SmallS (PySem.Str.ofString "zzzzzzz" ++ ⟨#[x]⟩) := by
        have e : PySem.Str.ofString "zzzzzzz" ++ ⟨#[x]⟩ = SX.S ([122, 122, 122, 122, 122, 122, 122] ++ [x]) := by
          rw [← SX.S_cat]
          rfl
        rw [e]
        refine small_mk (show (8 : Nat) ≤ 8 by decide) ?_
        simp only [List.mem_append, List.mem_cons, List.not_mem_nil, or_false]
        intro c hc
        omega
      refine ⟨Nat.le_trans (show _ ≤ 8 from (by rw [show (⟨#[x]⟩ : Str).length = 1 from rfl]; decide +kernel)) (by decide), by decide, ix _ rfl ?_⟩
      simp only [List.forall_mem_cons, List.forall_mem_nil]
      exact ⟨.inl rfl, okS ⟨by decide +kernel, by decide +kernel⟩, okS ⟨by decide +kernel, by decide +kernel⟩, okS ⟨by decide +kernel, by decide +kernel⟩, okS hw, okS (small_cut hw), okS hz, fun _ h => nomatch h⟩
end Lk10

namespace Lk10
open PySem PySem.Spec PyProof.Rows L2 DL

theorem seq_w {A B : Rho → W Out} {ρ : Rho} {μ : Mem} {Q : Out → Mem → Prop} {E : XD} (P : Rho → Mem → Prop) (h : ∀ R : Out → Mem → Prop, (∀ ρ' μ', P ρ' μ' → R (.nx ρ') μ') → A ρ μ R E) (k : ∀ ρ' μ', P ρ' μ' → B ρ' μ' Q E) : sSeq A B ρ μ Q E :=
  h _ fun ρ' μ' p => k ρ' μ' p
theorem eqi_w {f : Bool → Bool} {i j : Int} {μ : Mem} {Q : D → Mem → Prop} {E : XD} (hi : i.natAbs < 4611686018427387904) (hj : j.natAbs < 4611686018427387904) (q : Q (.bl (f (decide (i = j)))) μ) : eqA f (.int i) (.int j) μ Q E := by
  refine eq_w (x := .int i) (y := .int j) (decide_eq_true (Nat.lt_trans (log_lt (k := 62) (by decide) (by omega)) (by decide))) (decide_eq_true (Nat.lt_trans (log_lt (k := 62) (by decide) (by omega)) (by decide))) (show (0 : Nat) ≤ 60 by decide) (show (0 : Nat) ≤ 60 by decide) ?_
  have : PyData.eqv (toPy (.int i)) (toPy (.int j)) = decide (i = j) := by
    show (i == j) = decide (i = j)
    exact Bool.eq_iff_iff.mpr (by simp)
  rw [this]
  exact q
theorem ix_any {ds : List D} {k : Int} {μ : Mem} {Q : D → Mem → Prop} {E : XD} (h0 : -(ds.length : Int) ≤ k) (h1 : k < ds.length) (q : ∀ d, d ∈ ds → Q d μ) : W.opt (atI ds k) μ Q E := by
  by_cases hk : 0 ≤ k
  · exact ix_in hk h1 fun d hd _ => q d hd
  · have e : atI ds k = ds[(k + ds.length).toNat]? := by
      unfold atI ixN
      rw [if_neg hk, if_pos h0]
      rfl
    have hl : (k + ds.length).toNat < ds.length := by omega
    rw [e, List.getElem?_eq_getElem hl]
    exact q _ (List.getElem_mem hl)
theorem Fr.put {a c p : Addr} {μ μ' : Mem} {o : MO} (h : DL.Fr a c μ μ') (hp : μ p = none) : DL.Fr a c μ (put μ' p o) := fun b mo h1 h2 h3 => by
  rw [put_ne (by intro e; subst e; rw [hp] at h3; cases h3)]
  exact h b mo h1 h2 h3
theorem fresh {a c p : Addr} {t : Int} {μ μ' : Mem} (hd : Deck μ' a c t) (hf : DL.Fr a c μ μ') (hp : μ' p = none) : p ≠ a ∧ p ≠ c ∧ μ p = none := by
  obtain ⟨_, ⟨_, _, ha, _⟩, _, hc, _⟩ := hd
  have h1 : p ≠ a := by intro e; subst e; rw [ha] at hp; cases hp
  have h2 : p ≠ c := by intro e; subst e; rw [hc] at hp; cases hp
  refine ⟨h1, h2, ?_⟩
  cases e : μ p with
  | none => rfl
  | some mo => rw [hf p mo h1 h2 e] at hp; cases hp
end Lk10

namespace Lk10
open PySem PySem.Spec PyProof.Rows L2 DL

/-- None, a number, a text, that can be shown in few signs -/
structure Sc (d : D) : Prop where
  kind : d = .non ∨ (∃ i, d = .int i) ∨ ∃ x, d = .str x
  good : gd d = true
  size : dsz d ≤ 2000
theorem Sc.flat {d : D} (h : Sc d) : dpt d = 0 := by
  rcases h.kind with rfl | ⟨i, rfl⟩ | ⟨x, rfl⟩ <;> rfl
def isS : D → Bool
  | .str _ => true
  | _ => false
def eqS : D → D → Bool
  | .non, .non => true
  | .int i, .int j => decide (i = j)
  | .str a, .str b => a == b
  | _, _ => false
def likeD (x y : D) : Bool := !DL.isNon x && !DL.isNon y && (isS x == isS y)
abbrev wIs : Str := PySem.Str.ofString "is"
abbrev wBelow : Str := PySem.Str.ofString "below"
abbrev wFrom : Str := PySem.Str.ofString "from"
def mayD (lo hi : D) (bl : Int) (w : Str) (due : D) : Bool :=
  if DL.isNon due = true then (if (w == wIs) = true then decide (0 < bl) else false)
  else if likeD lo due = true then (if (w == wIs) = true then (if ltS due lo = true then false else !ltS hi due) else if (w == wBelow) = true then ltS lo due else !ltS hi due)
  else false
def meetD (w : Str) (due x : D) : Bool :=
  if (w == wIs) = true then eqS x due else if likeD x due = true then (if (w == wBelow) = true then ltS x due else !ltS x due) else false
theorem like_sort {x y : D} (hx : Sc x) (hy : Sc y) (h : likeD x y = true) : OneSort [x, y] := by
  rcases hx.kind with rfl | ⟨i, rfl⟩ | ⟨a, rfl⟩ <;> rcases hy.kind with rfl | ⟨j, rfl⟩ | ⟨b, rfl⟩ <;> first | (cases h; done) | exact .inl ⟨[i, j], rfl⟩ | exact .inr ⟨[a, b], rfl⟩
theorem sort_like {x y : D} (h : OneSort [x, y]) : likeD x y = true := by
  rcases h with ⟨ns, e⟩ | ⟨ns, e⟩
  · match ns, e with
    | [i, j], e => cases e; rfl
  · match ns, e with
    | [i, j], e => cases e; rfl
theorem eqS_iff {x y : D} (h : eqS x y = true) : x = y := by
  cases x <;> cases y <;> first | rfl | (cases h; done) | (rw [of_decide_eq_true h]) | (rw [eq_of_beq h])
theorem eqS_self {x : D} (h : Sc x) : eqS x x = true := by
  rcases h.kind with rfl | ⟨i, rfl⟩ | ⟨a, rfl⟩
  · rfl
  · exact decide_eq_true rfl
  · exact beq_self_eq_true a
theorem isi_x {x : D} {t n : String} {b : Bool} {μ : Mem} {Q : D → Mem → Prop} {E : XD} (h : tyM μ x = some t) (k : kitB t n = some b) (q : Q (.bl b) μ) : isiD [x, .ty n] μ Q E := by
  show W.bnd (W.opt (tyM μ x)) _ μ Q E
  rw [h]
  show W.bnd (W.opt (kitB t n)) _ μ Q E
  rw [k]
  exact q
theorem isi_w {x : D} {μ : Mem} {Q : D → Mem → Prop} {E : XD} (hx : Sc x) (q : Q (.bl (isS x)) μ) : isiD [x, .ty "str"] μ Q E := by
  have k1 : kitB "NoneType" "str" = some false := by decide +kernel
  have k2 : kitB "int" "str" = some false := by decide +kernel
  have k3 : kitB "str" "str" = some true := by decide +kernel
  rcases hx.kind with rfl | ⟨i, rfl⟩ | ⟨a, rfl⟩
  · exact isi_x rfl k1 q
  · exact isi_x rfl k2 q
  · exact isi_x rfl k3 q
theorem eqb_w {f : Bool → Bool} {a b : Bool} {μ : Mem} {Q : D → Mem → Prop} {E : XD} (q : Q (.bl (f (a == b))) μ) : eqA f (.bl a) (.bl b) μ Q E :=
  eq_w (x := .bl a) (y := .bl b) rfl rfl (show (0 : Nat) ≤ 60 by decide) (show (0 : Nat) ≤ 60 by decide) q
theorem eqsc_w {f : Bool → Bool} {x y : D} {μ : Mem} {Q : D → Mem → Prop} {E : XD} (hx : Sc x) (hy : Sc y) (q : Q (.bl (f (eqS x y))) μ) : eqA f x y μ Q E := by
  refine eq_w hx.good hy.good (by rw [hx.flat]; decide) (by rw [hy.flat]; decide) ?_
  have : PyData.eqv (toPy x) (toPy y) = eqS x y := by
    rcases hx.kind with rfl | ⟨i, rfl⟩ | ⟨a, rfl⟩ <;> rcases hy.kind with rfl | ⟨j, rfl⟩ | ⟨b, rfl⟩ <;> first | rfl | (exact Bool.eq_iff_iff.mpr (by simp [toPy, PyData.eqv, eqS]))
  rw [this]
  exact q
theorem leD_w {x y : D} {μ : Mem} {Q : D → Mem → Prop} {E : XD} (h : OneSort [x, y]) (q : Q (.bl (!ltS y x)) μ) : leD x y μ Q E := by
  rcases h with ⟨ns, e⟩ | ⟨ns, e⟩
  · match ns, e with
    | [i, j], e =>
      cases e
      have : (!ltS (.int j) (.int i)) = decide (i ≤ j) := by
        show (!decide (j < i)) = _
        rw [Bool.eq_iff_iff]
        simp
      rw [this] at q
      exact q
  · match ns, e with
    | [i, j], e => cases e; exact q
theorem geD_w {x y : D} {μ : Mem} {Q : D → Mem → Prop} {E : XD} (h : OneSort [x, y]) (q : Q (.bl (!ltS x y)) μ) : geD x y μ Q E := by
  rcases h with ⟨ns, e⟩ | ⟨ns, e⟩
  · match ns, e with
    | [i, j], e =>
      cases e
      have : (!ltS (.int i) (.int j)) = decide (j ≤ i) := by
        show (!decide (i < j)) = _
        rw [Bool.eq_iff_iff]
        simp
      rw [this] at q
      exact q
  · match ns, e with
    | [i, j], e => cases e; exact q
theorem are_like_w {x y : D} {μ : Mem} {Q : D → Mem → Prop} {E : XD} (hx : Sc x) (hy : Sc y) (q : Q (.bl (likeD x y)) μ) : m_are_like [x, y] μ Q E := by
  unfold likeD at q
  simp only [m_are_like, b_are_like, DL.x_bnd, DL.x_ret, DL.x_req, DL.x_get, DL.x_opt, DL.x_seq, DL.x_on, DL.x_or, DL.x_ob, DL.x_oc, DL.x_nil, DL.x_rt, DL.x_rtN, DL.x_drop, DL.x_break, DL.x_cont, DL.x_if, DL.x_ift, DL.x_iff, DL.x_set, DL.x_asg, DL.x_par2, DL.x_par3, DL.x_for, DL.x_v0, DL.x_vS, DL.x_c, DL.x_bin, DL.x_un, DL.x_tbin, DL.x_tru, DL.x_trb, DL.x_not, DL.x_tand, DL.x_tor, DL.x_and, DL.x_orE, DL.x_notE, DL.x_ifE, DL.x_tup, DL.x_lst, DL.x_lstM, DL.x_anil, DL.x_acons, DL.x_call, DL.x_callD, DL.x_callK, DL.x_meth, DL.x_sl, DL.x_oN, DL.x_oS, DL.x_gn, DL.x_gt, DL.x_gc, DL.x_g0, DL.x_gi, DL.x_body, DL.x_yes, DL.x_add, DL.x_addS, DL.x_addT, DL.x_addL, DL.x_sub, DL.x_mul, DL.x_div, DL.x_mod, DL.x_pow, DL.x_neg, DL.x_cmp, DL.x_cmpS, DL.x_isN, DL.x_mmL, DL.x_mm2, DL.x_eqS, DL.x_eqI, DL.x_intb, DL.onB_bl, DL.onI_int, DL.onO_nx, DL.onO_rt, DL.onL_ml, DL.addD_ol, DL.isNon_non, DL.isNon_int, DL.isNon_str, DL.isNon_tup, DL.ix_tup, DL.ix_lst, DL.ix_str, DL.ix_obj, DL.atI_0, DL.atI_1, DL.atI_2, DL.atI_3, DL.len_tup, DL.len_lst, DL.len_str, DL.len_obj, DL.ty_obj, DL.ty_str, DL.ty_lst, DL.append_obj, DL.pop_obj, DL.set_obj, DL.ixN_3_2, DL.tuple_obj, DL.tuple_lst, DL.list_tup, DL.list_lst, DL.sl_str, DL.sl_tup, DL.sl_lst, DL.rev_tup, DL.revM_lst, DL.sum_lst, DL.put_same, DL.startD, DL.pick, List.map_cons, List.map_nil, List.replicate, List.cons_append, List.nil_append, List.append_nil, List.length_cons, List.length_nil, List.getElem?_cons_zero, List.getElem?_cons_succ, List.set_cons_zero, List.set_cons_succ, List.filterMap_cons, List.filterMap_nil, Nat.zero_add, Nat.add_zero, Nat.reduceAdd, Nat.reduceSub, true_and, and_true, id_eq, if_true, if_false, Bool.false_eq_true, Bool.not_true, Bool.not_false]
  cases hn : DL.isNon x with
  | true =>
    rw [hn] at q
    simp only [DL.x_bnd, DL.x_ret, DL.x_req, DL.x_get, DL.x_opt, DL.x_seq, DL.x_on, DL.x_or, DL.x_ob, DL.x_oc, DL.x_nil, DL.x_rt, DL.x_rtN, DL.x_drop, DL.x_break, DL.x_cont, DL.x_if, DL.x_ift, DL.x_iff, DL.x_set, DL.x_asg, DL.x_par2, DL.x_par3, DL.x_for, DL.x_v0, DL.x_vS, DL.x_c, DL.x_bin, DL.x_un, DL.x_tbin, DL.x_tru, DL.x_trb, DL.x_not, DL.x_tand, DL.x_tor, DL.x_and, DL.x_orE, DL.x_notE, DL.x_ifE, DL.x_tup, DL.x_lst, DL.x_lstM, DL.x_anil, DL.x_acons, DL.x_call, DL.x_callD, DL.x_callK, DL.x_meth, DL.x_sl, DL.x_oN, DL.x_oS, DL.x_gn, DL.x_gt, DL.x_gc, DL.x_g0, DL.x_gi, DL.x_body, DL.x_yes, DL.x_add, DL.x_addS, DL.x_addT, DL.x_addL, DL.x_sub, DL.x_mul, DL.x_div, DL.x_mod, DL.x_pow, DL.x_neg, DL.x_cmp, DL.x_cmpS, DL.x_isN, DL.x_mmL, DL.x_mm2, DL.x_eqS, DL.x_eqI, DL.x_intb, DL.onB_bl, DL.onI_int, DL.onO_nx, DL.onO_rt, DL.onL_ml, DL.addD_ol, DL.isNon_non, DL.isNon_int, DL.isNon_str, DL.isNon_tup, DL.ix_tup, DL.ix_lst, DL.ix_str, DL.ix_obj, DL.atI_0, DL.atI_1, DL.atI_2, DL.atI_3, DL.len_tup, DL.len_lst, DL.len_str, DL.len_obj, DL.ty_obj, DL.ty_str, DL.ty_lst, DL.append_obj, DL.pop_obj, DL.set_obj, DL.ixN_3_2, DL.tuple_obj, DL.tuple_lst, DL.list_tup, DL.list_lst, DL.sl_str, DL.sl_tup, DL.sl_lst, DL.rev_tup, DL.revM_lst, DL.sum_lst, DL.put_same, DL.startD, DL.pick, List.map_cons, List.map_nil, List.replicate, List.cons_append, List.nil_append, List.append_nil, List.length_cons, List.length_nil, List.getElem?_cons_zero, List.getElem?_cons_succ, List.set_cons_zero, List.set_cons_succ, List.filterMap_cons, List.filterMap_nil, Nat.zero_add, Nat.add_zero, Nat.reduceAdd, Nat.reduceSub, true_and, and_true, id_eq, if_true, if_false, Bool.false_eq_true, Bool.not_true, Bool.not_false]
    exact q
  | false =>
    rw [hn] at q
    simp only [DL.x_bnd, DL.x_ret, DL.x_req, DL.x_get, DL.x_opt, DL.x_seq, DL.x_on, DL.x_or, DL.x_ob, DL.x_oc, DL.x_nil, DL.x_rt, DL.x_rtN, DL.x_drop, DL.x_break, DL.x_cont, DL.x_if, DL.x_ift, DL.x_iff, DL.x_set, DL.x_asg, DL.x_par2, DL.x_par3, DL.x_for, DL.x_v0, DL.x_vS, DL.x_c, DL.x_bin, DL.x_un, DL.x_tbin, DL.x_tru, DL.x_trb, DL.x_not, DL.x_tand, DL.x_tor, DL.x_and, DL.x_orE, DL.x_notE, DL.x_ifE, DL.x_tup, DL.x_lst, DL.x_lstM, DL.x_anil, DL.x_acons, DL.x_call, DL.x_callD, DL.x_callK, DL.x_meth, DL.x_sl, DL.x_oN, DL.x_oS, DL.x_gn, DL.x_gt, DL.x_gc, DL.x_g0, DL.x_gi, DL.x_body, DL.x_yes, DL.x_add, DL.x_addS, DL.x_addT, DL.x_addL, DL.x_sub, DL.x_mul, DL.x_div, DL.x_mod, DL.x_pow, DL.x_neg, DL.x_cmp, DL.x_cmpS, DL.x_isN, DL.x_mmL, DL.x_mm2, DL.x_eqS, DL.x_eqI, DL.x_intb, DL.onB_bl, DL.onI_int, DL.onO_nx, DL.onO_rt, DL.onL_ml, DL.addD_ol, DL.isNon_non, DL.isNon_int, DL.isNon_str, DL.isNon_tup, DL.ix_tup, DL.ix_lst, DL.ix_str, DL.ix_obj, DL.atI_0, DL.atI_1, DL.atI_2, DL.atI_3, DL.len_tup, DL.len_lst, DL.len_str, DL.len_obj, DL.ty_obj, DL.ty_str, DL.ty_lst, DL.append_obj, DL.pop_obj, DL.set_obj, DL.ixN_3_2, DL.tuple_obj, DL.tuple_lst, DL.list_tup, DL.list_lst, DL.sl_str, DL.sl_tup, DL.sl_lst, DL.rev_tup, DL.revM_lst, DL.sum_lst, DL.put_same, DL.startD, DL.pick, List.map_cons, List.map_nil, List.replicate, List.cons_append, List.nil_append, List.append_nil, List.length_cons, List.length_nil, List.getElem?_cons_zero, List.getElem?_cons_succ, List.set_cons_zero, List.set_cons_succ, List.filterMap_cons, List.filterMap_nil, Nat.zero_add, Nat.add_zero, Nat.reduceAdd, Nat.reduceSub, true_and, and_true, id_eq, if_true, if_false, Bool.false_eq_true, Bool.not_true, Bool.not_false]
    cases hm : DL.isNon y with
    | true =>
      rw [hm] at q
      simp only [DL.x_bnd, DL.x_ret, DL.x_req, DL.x_get, DL.x_opt, DL.x_seq, DL.x_on, DL.x_or, DL.x_ob, DL.x_oc, DL.x_nil, DL.x_rt, DL.x_rtN, DL.x_drop, DL.x_break, DL.x_cont, DL.x_if, DL.x_ift, DL.x_iff, DL.x_set, DL.x_asg, DL.x_par2, DL.x_par3, DL.x_for, DL.x_v0, DL.x_vS, DL.x_c, DL.x_bin, DL.x_un, DL.x_tbin, DL.x_tru, DL.x_trb, DL.x_not, DL.x_tand, DL.x_tor, DL.x_and, DL.x_orE, DL.x_notE, DL.x_ifE, DL.x_tup, DL.x_lst, DL.x_lstM, DL.x_anil, DL.x_acons, DL.x_call, DL.x_callD, DL.x_callK, DL.x_meth, DL.x_sl, DL.x_oN, DL.x_oS, DL.x_gn, DL.x_gt, DL.x_gc, DL.x_g0, DL.x_gi, DL.x_body, DL.x_yes, DL.x_add, DL.x_addS, DL.x_addT, DL.x_addL, DL.x_sub, DL.x_mul, DL.x_div, DL.x_mod, DL.x_pow, DL.x_neg, DL.x_cmp, DL.x_cmpS, DL.x_isN, DL.x_mmL, DL.x_mm2, DL.x_eqS, DL.x_eqI, DL.x_intb, DL.onB_bl, DL.onI_int, DL.onO_nx, DL.onO_rt, DL.onL_ml, DL.addD_ol, DL.isNon_non, DL.isNon_int, DL.isNon_str, DL.isNon_tup, DL.ix_tup, DL.ix_lst, DL.ix_str, DL.ix_obj, DL.atI_0, DL.atI_1, DL.atI_2, DL.atI_3, DL.len_tup, DL.len_lst, DL.len_str, DL.len_obj, DL.ty_obj, DL.ty_str, DL.ty_lst, DL.append_obj, DL.pop_obj, DL.set_obj, DL.ixN_3_2, DL.tuple_obj, DL.tuple_lst, DL.list_tup, DL.list_lst, DL.sl_str, DL.sl_tup, DL.sl_lst, DL.rev_tup, DL.revM_lst, DL.sum_lst, DL.put_same, DL.startD, DL.pick, List.map_cons, List.map_nil, List.replicate, List.cons_append, List.nil_append, List.append_nil, List.length_cons, List.length_nil, List.getElem?_cons_zero, List.getElem?_cons_succ, List.set_cons_zero, List.set_cons_succ, List.filterMap_cons, List.filterMap_nil, Nat.zero_add, Nat.add_zero, Nat.reduceAdd, Nat.reduceSub, true_and, and_true, id_eq, if_true, if_false, Bool.false_eq_true, Bool.not_true, Bool.not_false]
      exact q
    | false =>
      rw [hm] at q
      simp only [DL.x_bnd, DL.x_ret, DL.x_req, DL.x_get, DL.x_opt, DL.x_seq, DL.x_on, DL.x_or, DL.x_ob, DL.x_oc, DL.x_nil, DL.x_rt, DL.x_rtN, DL.x_drop, DL.x_break, DL.x_cont, DL.x_if, DL.x_ift, DL.x_iff, DL.x_set, DL.x_asg, DL.x_par2, DL.x_par3, DL.x_for, DL.x_v0, DL.x_vS, DL.x_c, DL.x_bin, DL.x_un, DL.x_tbin, DL.x_tru, DL.x_trb, DL.x_not, DL.x_tand, DL.x_tor, DL.x_and, DL.x_orE, DL.x_notE, DL.x_ifE, DL.x_tup, DL.x_lst, DL.x_lstM, DL.x_anil, DL.x_acons, DL.x_call, DL.x_callD, DL.x_callK, DL.x_meth, DL.x_sl, DL.x_oN, DL.x_oS, DL.x_gn, DL.x_gt, DL.x_gc, DL.x_g0, DL.x_gi, DL.x_body, DL.x_yes, DL.x_add, DL.x_addS, DL.x_addT, DL.x_addL, DL.x_sub, DL.x_mul, DL.x_div, DL.x_mod, DL.x_pow, DL.x_neg, DL.x_cmp, DL.x_cmpS, DL.x_isN, DL.x_mmL, DL.x_mm2, DL.x_eqS, DL.x_eqI, DL.x_intb, DL.onB_bl, DL.onI_int, DL.onO_nx, DL.onO_rt, DL.onL_ml, DL.addD_ol, DL.isNon_non, DL.isNon_int, DL.isNon_str, DL.isNon_tup, DL.ix_tup, DL.ix_lst, DL.ix_str, DL.ix_obj, DL.atI_0, DL.atI_1, DL.atI_2, DL.atI_3, DL.len_tup, DL.len_lst, DL.len_str, DL.len_obj, DL.ty_obj, DL.ty_str, DL.ty_lst, DL.append_obj, DL.pop_obj, DL.set_obj, DL.ixN_3_2, DL.tuple_obj, DL.tuple_lst, DL.list_tup, DL.list_lst, DL.sl_str, DL.sl_tup, DL.sl_lst, DL.rev_tup, DL.revM_lst, DL.sum_lst, DL.put_same, DL.startD, DL.pick, List.map_cons, List.map_nil, List.replicate, List.cons_append, List.nil_append, List.append_nil, List.length_cons, List.length_nil, List.getElem?_cons_zero, List.getElem?_cons_succ, List.set_cons_zero, List.set_cons_succ, List.filterMap_cons, List.filterMap_nil, Nat.zero_add, Nat.add_zero, Nat.reduceAdd, Nat.reduceSub, true_and, and_true, id_eq, if_true, if_false, Bool.false_eq_true, Bool.not_true, Bool.not_false]
      exact isi_w hx (isi_w hy (eqb_w q))
/-- the least and the greatest of a span -/
structure Sp (lo hi : D) (bl : Int) : Prop where
  slo : Sc lo
  shi : Sc hi
  sort : (lo = .non ∧ hi = .non) ∨ OneSort [lo, hi]
  bl0 : 0 ≤ bl
  bl1 : bl ≤ 100
theorem chain_w {a b c : Rho → W D} {ρ : Rho} {μ : Mem} {Q : D → Mem → Prop} {E : XD} {g g' : D → D → W D} : eChain g g' a b c ρ μ Q E = a ρ μ (fun x μ1 => b ρ μ1 (fun y μ2 => g x y μ2 (fun z μ3 => onB z fun k => if k = true then c ρ μ3 (fun u μ4 => g' y u μ4 Q E) E else Q (.bl false) μ3) E) E) E := by
  unfold eChain W.bnd
  dsimp only
  congr 1
  funext x μ1
  congr 1
  funext y μ2
  congr 1
  funext d μ3
  cases d with
  | bl k => cases k <;> rfl
  | _ => rfl
theorem sort_trans {lo hi due : D} (h : (lo = .non ∧ hi = .non) ∨ OneSort [lo, hi]) (k : OneSort [lo, due]) : OneSort [hi, due] := by
  rcases h with ⟨rfl, _⟩ | h
  · have := sort_like k
    cases this
  · rcases h with ⟨ns, e⟩ | ⟨ns, e⟩
    · match ns, e with
      | [i, j], e =>
        cases e
        rcases k with ⟨ms, e⟩ | ⟨ms, e⟩
        · match ms, e with
          | [a, b], e => cases e; exact .inl ⟨[j, b], rfl⟩
        · match ms, e with
          | [a, b], e => cases e
    · match ns, e with
      | [i, j], e =>
        cases e
        rcases k with ⟨ms, e⟩ | ⟨ms, e⟩
        · match ms, e with
          | [a, b], e => cases e
        · match ms, e with
          | [a, b], e => cases e; exact .inr ⟨[j, b], rfl⟩
theorem sort_sym {x y : D} (h : OneSort [x, y]) : OneSort [y, x] := by
  rcases h with ⟨ns, e⟩ | ⟨ns, e⟩
  · match ns, e with
    | [i, j], e => cases e; exact .inl ⟨[j, i], rfl⟩
  · match ns, e with
    | [i, j], e => cases e; exact .inr ⟨[j, i], rfl⟩
theorem may_w {n col lo hi due : D} {bl : Int} {w : Str} {μ : Mem} {Q : D → Mem → Prop} {E : XD} (h : Sp lo hi bl) (hd : Sc due) (q : Q (.bl (mayD lo hi bl w due)) μ) : m_may_meet [.tup [n, lo, hi, .int bl], .tup [col, .str w, due]] μ Q E := by
  unfold mayD at q
  simp only [m_may_meet, b_may_meet, DL.x_bnd, DL.x_ret, DL.x_req, DL.x_get, DL.x_opt, DL.x_seq, DL.x_on, DL.x_or, DL.x_ob, DL.x_oc, DL.x_nil, DL.x_rt, DL.x_rtN, DL.x_drop, DL.x_break, DL.x_cont, DL.x_if, DL.x_ift, DL.x_iff, DL.x_set, DL.x_asg, DL.x_par2, DL.x_par3, DL.x_for, DL.x_v0, DL.x_vS, DL.x_c, DL.x_bin, DL.x_un, DL.x_tbin, DL.x_tru, DL.x_trb, DL.x_not, DL.x_tand, DL.x_tor, DL.x_and, DL.x_orE, DL.x_notE, DL.x_ifE, DL.x_tup, DL.x_lst, DL.x_lstM, DL.x_anil, DL.x_acons, DL.x_call, DL.x_callD, DL.x_callK, DL.x_meth, DL.x_sl, DL.x_oN, DL.x_oS, DL.x_gn, DL.x_gt, DL.x_gc, DL.x_g0, DL.x_gi, DL.x_body, DL.x_yes, DL.x_add, DL.x_addS, DL.x_addT, DL.x_addL, DL.x_sub, DL.x_mul, DL.x_div, DL.x_mod, DL.x_pow, DL.x_neg, DL.x_cmp, DL.x_cmpS, DL.x_isN, DL.x_mmL, DL.x_mm2, DL.x_eqS, DL.x_eqI, DL.x_intb, DL.onB_bl, DL.onI_int, DL.onO_nx, DL.onO_rt, DL.onL_ml, DL.addD_ol, DL.isNon_non, DL.isNon_int, DL.isNon_str, DL.isNon_tup, DL.ix_tup, DL.ix_lst, DL.ix_str, DL.ix_obj, DL.atI_0, DL.atI_1, DL.atI_2, DL.atI_3, DL.len_tup, DL.len_lst, DL.len_str, DL.len_obj, DL.ty_obj, DL.ty_str, DL.ty_lst, DL.append_obj, DL.pop_obj, DL.set_obj, DL.ixN_3_2, DL.tuple_obj, DL.tuple_lst, DL.list_tup, DL.list_lst, DL.sl_str, DL.sl_tup, DL.sl_lst, DL.rev_tup, DL.revM_lst, DL.sum_lst, DL.put_same, DL.startD, DL.pick, List.map_cons, List.map_nil, List.replicate, List.cons_append, List.nil_append, List.append_nil, List.length_cons, List.length_nil, List.getElem?_cons_zero, List.getElem?_cons_succ, List.set_cons_zero, List.set_cons_succ, List.filterMap_cons, List.filterMap_nil, Nat.zero_add, Nat.add_zero, Nat.reduceAdd, Nat.reduceSub, true_and, and_true, id_eq, if_true, if_false, Bool.false_eq_true, Bool.not_true, Bool.not_false]
  cases hn : DL.isNon due with
  | true =>
    cases hw : (w == wIs) with
    | true =>
      simp only [hn, hw, reduceIte] at q
      simp only [hw, DL.x_bnd, DL.x_ret, DL.x_req, DL.x_get, DL.x_opt, DL.x_seq, DL.x_on, DL.x_or, DL.x_ob, DL.x_oc, DL.x_nil, DL.x_rt, DL.x_rtN, DL.x_drop, DL.x_break, DL.x_cont, DL.x_if, DL.x_ift, DL.x_iff, DL.x_set, DL.x_asg, DL.x_par2, DL.x_par3, DL.x_for, DL.x_v0, DL.x_vS, DL.x_c, DL.x_bin, DL.x_un, DL.x_tbin, DL.x_tru, DL.x_trb, DL.x_not, DL.x_tand, DL.x_tor, DL.x_and, DL.x_orE, DL.x_notE, DL.x_ifE, DL.x_tup, DL.x_lst, DL.x_lstM, DL.x_anil, DL.x_acons, DL.x_call, DL.x_callD, DL.x_callK, DL.x_meth, DL.x_sl, DL.x_oN, DL.x_oS, DL.x_gn, DL.x_gt, DL.x_gc, DL.x_g0, DL.x_gi, DL.x_body, DL.x_yes, DL.x_add, DL.x_addS, DL.x_addT, DL.x_addL, DL.x_sub, DL.x_mul, DL.x_div, DL.x_mod, DL.x_pow, DL.x_neg, DL.x_cmp, DL.x_cmpS, DL.x_isN, DL.x_mmL, DL.x_mm2, DL.x_eqS, DL.x_eqI, DL.x_intb, DL.onB_bl, DL.onI_int, DL.onO_nx, DL.onO_rt, DL.onL_ml, DL.addD_ol, DL.isNon_non, DL.isNon_int, DL.isNon_str, DL.isNon_tup, DL.ix_tup, DL.ix_lst, DL.ix_str, DL.ix_obj, DL.atI_0, DL.atI_1, DL.atI_2, DL.atI_3, DL.len_tup, DL.len_lst, DL.len_str, DL.len_obj, DL.ty_obj, DL.ty_str, DL.ty_lst, DL.append_obj, DL.pop_obj, DL.set_obj, DL.ixN_3_2, DL.tuple_obj, DL.tuple_lst, DL.list_tup, DL.list_lst, DL.sl_str, DL.sl_tup, DL.sl_lst, DL.rev_tup, DL.revM_lst, DL.sum_lst, DL.put_same, DL.startD, DL.pick, List.map_cons, List.map_nil, List.replicate, List.cons_append, List.nil_append, List.append_nil, List.length_cons, List.length_nil, List.getElem?_cons_zero, List.getElem?_cons_succ, List.set_cons_zero, List.set_cons_succ, List.filterMap_cons, List.filterMap_nil, Nat.zero_add, Nat.add_zero, Nat.reduceAdd, Nat.reduceSub, true_and, and_true, id_eq, if_true, if_false, Bool.false_eq_true, Bool.not_true, Bool.not_false]
      exact q
    | false =>
      simp only [hn, hw, reduceIte, Bool.false_eq_true] at q
      simp only [hw, DL.x_bnd, DL.x_ret, DL.x_req, DL.x_get, DL.x_opt, DL.x_seq, DL.x_on, DL.x_or, DL.x_ob, DL.x_oc, DL.x_nil, DL.x_rt, DL.x_rtN, DL.x_drop, DL.x_break, DL.x_cont, DL.x_if, DL.x_ift, DL.x_iff, DL.x_set, DL.x_asg, DL.x_par2, DL.x_par3, DL.x_for, DL.x_v0, DL.x_vS, DL.x_c, DL.x_bin, DL.x_un, DL.x_tbin, DL.x_tru, DL.x_trb, DL.x_not, DL.x_tand, DL.x_tor, DL.x_and, DL.x_orE, DL.x_notE, DL.x_ifE, DL.x_tup, DL.x_lst, DL.x_lstM, DL.x_anil, DL.x_acons, DL.x_call, DL.x_callD, DL.x_callK, DL.x_meth, DL.x_sl, DL.x_oN, DL.x_oS, DL.x_gn, DL.x_gt, DL.x_gc, DL.x_g0, DL.x_gi, DL.x_body, DL.x_yes, DL.x_add, DL.x_addS, DL.x_addT, DL.x_addL, DL.x_sub, DL.x_mul, DL.x_div, DL.x_mod, DL.x_pow, DL.x_neg, DL.x_cmp, DL.x_cmpS, DL.x_isN, DL.x_mmL, DL.x_mm2, DL.x_eqS, DL.x_eqI, DL.x_intb, DL.onB_bl, DL.onI_int, DL.onO_nx, DL.onO_rt, DL.onL_ml, DL.addD_ol, DL.isNon_non, DL.isNon_int, DL.isNon_str, DL.isNon_tup, DL.ix_tup, DL.ix_lst, DL.ix_str, DL.ix_obj, DL.atI_0, DL.atI_1, DL.atI_2, DL.atI_3, DL.len_tup, DL.len_lst, DL.len_str, DL.len_obj, DL.ty_obj, DL.ty_str, DL.ty_lst, DL.append_obj, DL.pop_obj, DL.set_obj, DL.ixN_3_2, DL.tuple_obj, DL.tuple_lst, DL.list_tup, DL.list_lst, DL.sl_str, DL.sl_tup, DL.sl_lst, DL.rev_tup, DL.revM_lst, DL.sum_lst, DL.put_same, DL.startD, DL.pick, List.map_cons, List.map_nil, List.replicate, List.cons_append, List.nil_append, List.append_nil, List.length_cons, List.length_nil, List.getElem?_cons_zero, List.getElem?_cons_succ, List.set_cons_zero, List.set_cons_succ, List.filterMap_cons, List.filterMap_nil, Nat.zero_add, Nat.add_zero, Nat.reduceAdd, Nat.reduceSub, true_and, and_true, id_eq, if_true, if_false, Bool.false_eq_true, Bool.not_true, Bool.not_false]
      exact q
  | false =>
    simp only [DL.x_bnd, DL.x_ret, DL.x_req, DL.x_get, DL.x_opt, DL.x_seq, DL.x_on, DL.x_or, DL.x_ob, DL.x_oc, DL.x_nil, DL.x_rt, DL.x_rtN, DL.x_drop, DL.x_break, DL.x_cont, DL.x_if, DL.x_ift, DL.x_iff, DL.x_set, DL.x_asg, DL.x_par2, DL.x_par3, DL.x_for, DL.x_v0, DL.x_vS, DL.x_c, DL.x_bin, DL.x_un, DL.x_tbin, DL.x_tru, DL.x_trb, DL.x_not, DL.x_tand, DL.x_tor, DL.x_and, DL.x_orE, DL.x_notE, DL.x_ifE, DL.x_tup, DL.x_lst, DL.x_lstM, DL.x_anil, DL.x_acons, DL.x_call, DL.x_callD, DL.x_callK, DL.x_meth, DL.x_sl, DL.x_oN, DL.x_oS, DL.x_gn, DL.x_gt, DL.x_gc, DL.x_g0, DL.x_gi, DL.x_body, DL.x_yes, DL.x_add, DL.x_addS, DL.x_addT, DL.x_addL, DL.x_sub, DL.x_mul, DL.x_div, DL.x_mod, DL.x_pow, DL.x_neg, DL.x_cmp, DL.x_cmpS, DL.x_isN, DL.x_mmL, DL.x_mm2, DL.x_eqS, DL.x_eqI, DL.x_intb, DL.onB_bl, DL.onI_int, DL.onO_nx, DL.onO_rt, DL.onL_ml, DL.addD_ol, DL.isNon_non, DL.isNon_int, DL.isNon_str, DL.isNon_tup, DL.ix_tup, DL.ix_lst, DL.ix_str, DL.ix_obj, DL.atI_0, DL.atI_1, DL.atI_2, DL.atI_3, DL.len_tup, DL.len_lst, DL.len_str, DL.len_obj, DL.ty_obj, DL.ty_str, DL.ty_lst, DL.append_obj, DL.pop_obj, DL.set_obj, DL.ixN_3_2, DL.tuple_obj, DL.tuple_lst, DL.list_tup, DL.list_lst, DL.sl_str, DL.sl_tup, DL.sl_lst, DL.rev_tup, DL.revM_lst, DL.sum_lst, DL.put_same, DL.startD, DL.pick, List.map_cons, List.map_nil, List.replicate, List.cons_append, List.nil_append, List.append_nil, List.length_cons, List.length_nil, List.getElem?_cons_zero, List.getElem?_cons_succ, List.set_cons_zero, List.set_cons_succ, List.filterMap_cons, List.filterMap_nil, Nat.zero_add, Nat.add_zero, Nat.reduceAdd, Nat.reduceSub, true_and, and_true, id_eq, if_true, if_false, Bool.false_eq_true, Bool.not_true, Bool.not_false]
    refine are_like_w h.slo hd ?_
    cases hl : likeD lo due with
    | false =>
      simp only [hn, hl, reduceIte, Bool.false_eq_true] at q
      simp only [DL.x_bnd, DL.x_ret, DL.x_req, DL.x_get, DL.x_opt, DL.x_seq, DL.x_on, DL.x_or, DL.x_ob, DL.x_oc, DL.x_nil, DL.x_rt, DL.x_rtN, DL.x_drop, DL.x_break, DL.x_cont, DL.x_if, DL.x_ift, DL.x_iff, DL.x_set, DL.x_asg, DL.x_par2, DL.x_par3, DL.x_for, DL.x_v0, DL.x_vS, DL.x_c, DL.x_bin, DL.x_un, DL.x_tbin, DL.x_tru, DL.x_trb, DL.x_not, DL.x_tand, DL.x_tor, DL.x_and, DL.x_orE, DL.x_notE, DL.x_ifE, DL.x_tup, DL.x_lst, DL.x_lstM, DL.x_anil, DL.x_acons, DL.x_call, DL.x_callD, DL.x_callK, DL.x_meth, DL.x_sl, DL.x_oN, DL.x_oS, DL.x_gn, DL.x_gt, DL.x_gc, DL.x_g0, DL.x_gi, DL.x_body, DL.x_yes, DL.x_add, DL.x_addS, DL.x_addT, DL.x_addL, DL.x_sub, DL.x_mul, DL.x_div, DL.x_mod, DL.x_pow, DL.x_neg, DL.x_cmp, DL.x_cmpS, DL.x_isN, DL.x_mmL, DL.x_mm2, DL.x_eqS, DL.x_eqI, DL.x_intb, DL.onB_bl, DL.onI_int, DL.onO_nx, DL.onO_rt, DL.onL_ml, DL.addD_ol, DL.isNon_non, DL.isNon_int, DL.isNon_str, DL.isNon_tup, DL.ix_tup, DL.ix_lst, DL.ix_str, DL.ix_obj, DL.atI_0, DL.atI_1, DL.atI_2, DL.atI_3, DL.len_tup, DL.len_lst, DL.len_str, DL.len_obj, DL.ty_obj, DL.ty_str, DL.ty_lst, DL.append_obj, DL.pop_obj, DL.set_obj, DL.ixN_3_2, DL.tuple_obj, DL.tuple_lst, DL.list_tup, DL.list_lst, DL.sl_str, DL.sl_tup, DL.sl_lst, DL.rev_tup, DL.revM_lst, DL.sum_lst, DL.put_same, DL.startD, DL.pick, List.map_cons, List.map_nil, List.replicate, List.cons_append, List.nil_append, List.append_nil, List.length_cons, List.length_nil, List.getElem?_cons_zero, List.getElem?_cons_succ, List.set_cons_zero, List.set_cons_succ, List.filterMap_cons, List.filterMap_nil, Nat.zero_add, Nat.add_zero, Nat.reduceAdd, Nat.reduceSub, true_and, and_true, id_eq, if_true, if_false, Bool.false_eq_true, Bool.not_true, Bool.not_false, Bool.not_false]
      exact q
    | true =>
      have s1 := like_sort h.slo hd hl
      have s2 := sort_trans h.sort s1
      simp only [DL.x_bnd, DL.x_ret, DL.x_req, DL.x_get, DL.x_opt, DL.x_seq, DL.x_on, DL.x_or, DL.x_ob, DL.x_oc, DL.x_nil, DL.x_rt, DL.x_rtN, DL.x_drop, DL.x_break, DL.x_cont, DL.x_if, DL.x_ift, DL.x_iff, DL.x_set, DL.x_asg, DL.x_par2, DL.x_par3, DL.x_for, DL.x_v0, DL.x_vS, DL.x_c, DL.x_bin, DL.x_un, DL.x_tbin, DL.x_tru, DL.x_trb, DL.x_not, DL.x_tand, DL.x_tor, DL.x_and, DL.x_orE, DL.x_notE, DL.x_ifE, DL.x_tup, DL.x_lst, DL.x_lstM, DL.x_anil, DL.x_acons, DL.x_call, DL.x_callD, DL.x_callK, DL.x_meth, DL.x_sl, DL.x_oN, DL.x_oS, DL.x_gn, DL.x_gt, DL.x_gc, DL.x_g0, DL.x_gi, DL.x_body, DL.x_yes, DL.x_add, DL.x_addS, DL.x_addT, DL.x_addL, DL.x_sub, DL.x_mul, DL.x_div, DL.x_mod, DL.x_pow, DL.x_neg, DL.x_cmp, DL.x_cmpS, DL.x_isN, DL.x_mmL, DL.x_mm2, DL.x_eqS, DL.x_eqI, DL.x_intb, DL.onB_bl, DL.onI_int, DL.onO_nx, DL.onO_rt, DL.onL_ml, DL.addD_ol, DL.isNon_non, DL.isNon_int, DL.isNon_str, DL.isNon_tup, DL.ix_tup, DL.ix_lst, DL.ix_str, DL.ix_obj, DL.atI_0, DL.atI_1, DL.atI_2, DL.atI_3, DL.len_tup, DL.len_lst, DL.len_str, DL.len_obj, DL.ty_obj, DL.ty_str, DL.ty_lst, DL.append_obj, DL.pop_obj, DL.set_obj, DL.ixN_3_2, DL.tuple_obj, DL.tuple_lst, DL.list_tup, DL.list_lst, DL.sl_str, DL.sl_tup, DL.sl_lst, DL.rev_tup, DL.revM_lst, DL.sum_lst, DL.put_same, DL.startD, DL.pick, List.map_cons, List.map_nil, List.replicate, List.cons_append, List.nil_append, List.append_nil, List.length_cons, List.length_nil, List.getElem?_cons_zero, List.getElem?_cons_succ, List.set_cons_zero, List.set_cons_succ, List.filterMap_cons, List.filterMap_nil, Nat.zero_add, Nat.add_zero, Nat.reduceAdd, Nat.reduceSub, true_and, and_true, id_eq, if_true, if_false, Bool.false_eq_true, Bool.not_true, Bool.not_false, Bool.not_true, chain_w]
      cases hw : (w == wIs) with
      | true =>
        simp only [hw, DL.x_bnd, DL.x_ret, DL.x_req, DL.x_get, DL.x_opt, DL.x_seq, DL.x_on, DL.x_or, DL.x_ob, DL.x_oc, DL.x_nil, DL.x_rt, DL.x_rtN, DL.x_drop, DL.x_break, DL.x_cont, DL.x_if, DL.x_ift, DL.x_iff, DL.x_set, DL.x_asg, DL.x_par2, DL.x_par3, DL.x_for, DL.x_v0, DL.x_vS, DL.x_c, DL.x_bin, DL.x_un, DL.x_tbin, DL.x_tru, DL.x_trb, DL.x_not, DL.x_tand, DL.x_tor, DL.x_and, DL.x_orE, DL.x_notE, DL.x_ifE, DL.x_tup, DL.x_lst, DL.x_lstM, DL.x_anil, DL.x_acons, DL.x_call, DL.x_callD, DL.x_callK, DL.x_meth, DL.x_sl, DL.x_oN, DL.x_oS, DL.x_gn, DL.x_gt, DL.x_gc, DL.x_g0, DL.x_gi, DL.x_body, DL.x_yes, DL.x_add, DL.x_addS, DL.x_addT, DL.x_addL, DL.x_sub, DL.x_mul, DL.x_div, DL.x_mod, DL.x_pow, DL.x_neg, DL.x_cmp, DL.x_cmpS, DL.x_isN, DL.x_mmL, DL.x_mm2, DL.x_eqS, DL.x_eqI, DL.x_intb, DL.onB_bl, DL.onI_int, DL.onO_nx, DL.onO_rt, DL.onL_ml, DL.addD_ol, DL.isNon_non, DL.isNon_int, DL.isNon_str, DL.isNon_tup, DL.ix_tup, DL.ix_lst, DL.ix_str, DL.ix_obj, DL.atI_0, DL.atI_1, DL.atI_2, DL.atI_3, DL.len_tup, DL.len_lst, DL.len_str, DL.len_obj, DL.ty_obj, DL.ty_str, DL.ty_lst, DL.append_obj, DL.pop_obj, DL.set_obj, DL.ixN_3_2, DL.tuple_obj, DL.tuple_lst, DL.list_tup, DL.list_lst, DL.sl_str, DL.sl_tup, DL.sl_lst, DL.rev_tup, DL.revM_lst, DL.sum_lst, DL.put_same, DL.startD, DL.pick, List.map_cons, List.map_nil, List.replicate, List.cons_append, List.nil_append, List.append_nil, List.length_cons, List.length_nil, List.getElem?_cons_zero, List.getElem?_cons_succ, List.set_cons_zero, List.set_cons_succ, List.filterMap_cons, List.filterMap_nil, Nat.zero_add, Nat.add_zero, Nat.reduceAdd, Nat.reduceSub, true_and, and_true, id_eq, if_true, if_false, Bool.false_eq_true, Bool.not_true, Bool.not_false]
        refine leD_w s1 ?_
        cases hk : ltS due lo with
        | true =>
          simp only [hn, hl, hw, hk, reduceIte, Bool.false_eq_true] at q
          simp only [DL.x_bnd, DL.x_ret, DL.x_req, DL.x_get, DL.x_opt, DL.x_seq, DL.x_on, DL.x_or, DL.x_ob, DL.x_oc, DL.x_nil, DL.x_rt, DL.x_rtN, DL.x_drop, DL.x_break, DL.x_cont, DL.x_if, DL.x_ift, DL.x_iff, DL.x_set, DL.x_asg, DL.x_par2, DL.x_par3, DL.x_for, DL.x_v0, DL.x_vS, DL.x_c, DL.x_bin, DL.x_un, DL.x_tbin, DL.x_tru, DL.x_trb, DL.x_not, DL.x_tand, DL.x_tor, DL.x_and, DL.x_orE, DL.x_notE, DL.x_ifE, DL.x_tup, DL.x_lst, DL.x_lstM, DL.x_anil, DL.x_acons, DL.x_call, DL.x_callD, DL.x_callK, DL.x_meth, DL.x_sl, DL.x_oN, DL.x_oS, DL.x_gn, DL.x_gt, DL.x_gc, DL.x_g0, DL.x_gi, DL.x_body, DL.x_yes, DL.x_add, DL.x_addS, DL.x_addT, DL.x_addL, DL.x_sub, DL.x_mul, DL.x_div, DL.x_mod, DL.x_pow, DL.x_neg, DL.x_cmp, DL.x_cmpS, DL.x_isN, DL.x_mmL, DL.x_mm2, DL.x_eqS, DL.x_eqI, DL.x_intb, DL.onB_bl, DL.onI_int, DL.onO_nx, DL.onO_rt, DL.onL_ml, DL.addD_ol, DL.isNon_non, DL.isNon_int, DL.isNon_str, DL.isNon_tup, DL.ix_tup, DL.ix_lst, DL.ix_str, DL.ix_obj, DL.atI_0, DL.atI_1, DL.atI_2, DL.atI_3, DL.len_tup, DL.len_lst, DL.len_str, DL.len_obj, DL.ty_obj, DL.ty_str, DL.ty_lst, DL.append_obj, DL.pop_obj, DL.set_obj, DL.ixN_3_2, DL.tuple_obj, DL.tuple_lst, DL.list_tup, DL.list_lst, DL.sl_str, DL.sl_tup, DL.sl_lst, DL.rev_tup, DL.revM_lst, DL.sum_lst, DL.put_same, DL.startD, DL.pick, List.map_cons, List.map_nil, List.replicate, List.cons_append, List.nil_append, List.append_nil, List.length_cons, List.length_nil, List.getElem?_cons_zero, List.getElem?_cons_succ, List.set_cons_zero, List.set_cons_succ, List.filterMap_cons, List.filterMap_nil, Nat.zero_add, Nat.add_zero, Nat.reduceAdd, Nat.reduceSub, true_and, and_true, id_eq, if_true, if_false, Bool.false_eq_true, Bool.not_true, Bool.not_false, Bool.not_true]
          exact q
        | false =>
          simp only [hn, hl, hw, hk, reduceIte, Bool.false_eq_true] at q
          simp only [DL.x_bnd, DL.x_ret, DL.x_req, DL.x_get, DL.x_opt, DL.x_seq, DL.x_on, DL.x_or, DL.x_ob, DL.x_oc, DL.x_nil, DL.x_rt, DL.x_rtN, DL.x_drop, DL.x_break, DL.x_cont, DL.x_if, DL.x_ift, DL.x_iff, DL.x_set, DL.x_asg, DL.x_par2, DL.x_par3, DL.x_for, DL.x_v0, DL.x_vS, DL.x_c, DL.x_bin, DL.x_un, DL.x_tbin, DL.x_tru, DL.x_trb, DL.x_not, DL.x_tand, DL.x_tor, DL.x_and, DL.x_orE, DL.x_notE, DL.x_ifE, DL.x_tup, DL.x_lst, DL.x_lstM, DL.x_anil, DL.x_acons, DL.x_call, DL.x_callD, DL.x_callK, DL.x_meth, DL.x_sl, DL.x_oN, DL.x_oS, DL.x_gn, DL.x_gt, DL.x_gc, DL.x_g0, DL.x_gi, DL.x_body, DL.x_yes, DL.x_add, DL.x_addS, DL.x_addT, DL.x_addL, DL.x_sub, DL.x_mul, DL.x_div, DL.x_mod, DL.x_pow, DL.x_neg, DL.x_cmp, DL.x_cmpS, DL.x_isN, DL.x_mmL, DL.x_mm2, DL.x_eqS, DL.x_eqI, DL.x_intb, DL.onB_bl, DL.onI_int, DL.onO_nx, DL.onO_rt, DL.onL_ml, DL.addD_ol, DL.isNon_non, DL.isNon_int, DL.isNon_str, DL.isNon_tup, DL.ix_tup, DL.ix_lst, DL.ix_str, DL.ix_obj, DL.atI_0, DL.atI_1, DL.atI_2, DL.atI_3, DL.len_tup, DL.len_lst, DL.len_str, DL.len_obj, DL.ty_obj, DL.ty_str, DL.ty_lst, DL.append_obj, DL.pop_obj, DL.set_obj, DL.ixN_3_2, DL.tuple_obj, DL.tuple_lst, DL.list_tup, DL.list_lst, DL.sl_str, DL.sl_tup, DL.sl_lst, DL.rev_tup, DL.revM_lst, DL.sum_lst, DL.put_same, DL.startD, DL.pick, List.map_cons, List.map_nil, List.replicate, List.cons_append, List.nil_append, List.append_nil, List.length_cons, List.length_nil, List.getElem?_cons_zero, List.getElem?_cons_succ, List.set_cons_zero, List.set_cons_succ, List.filterMap_cons, List.filterMap_nil, Nat.zero_add, Nat.add_zero, Nat.reduceAdd, Nat.reduceSub, true_and, and_true, id_eq, if_true, if_false, Bool.false_eq_true, Bool.not_true, Bool.not_false, Bool.not_false]
          exact leD_w (sort_sym s2) q
      | false =>
        simp only [hw, DL.x_bnd, DL.x_ret, DL.x_req, DL.x_get, DL.x_opt, DL.x_seq, DL.x_on, DL.x_or, DL.x_ob, DL.x_oc, DL.x_nil, DL.x_rt, DL.x_rtN, DL.x_drop, DL.x_break, DL.x_cont, DL.x_if, DL.x_ift, DL.x_iff, DL.x_set, DL.x_asg, DL.x_par2, DL.x_par3, DL.x_for, DL.x_v0, DL.x_vS, DL.x_c, DL.x_bin, DL.x_un, DL.x_tbin, DL.x_tru, DL.x_trb, DL.x_not, DL.x_tand, DL.x_tor, DL.x_and, DL.x_orE, DL.x_notE, DL.x_ifE, DL.x_tup, DL.x_lst, DL.x_lstM, DL.x_anil, DL.x_acons, DL.x_call, DL.x_callD, DL.x_callK, DL.x_meth, DL.x_sl, DL.x_oN, DL.x_oS, DL.x_gn, DL.x_gt, DL.x_gc, DL.x_g0, DL.x_gi, DL.x_body, DL.x_yes, DL.x_add, DL.x_addS, DL.x_addT, DL.x_addL, DL.x_sub, DL.x_mul, DL.x_div, DL.x_mod, DL.x_pow, DL.x_neg, DL.x_cmp, DL.x_cmpS, DL.x_isN, DL.x_mmL, DL.x_mm2, DL.x_eqS, DL.x_eqI, DL.x_intb, DL.onB_bl, DL.onI_int, DL.onO_nx, DL.onO_rt, DL.onL_ml, DL.addD_ol, DL.isNon_non, DL.isNon_int, DL.isNon_str, DL.isNon_tup, DL.ix_tup, DL.ix_lst, DL.ix_str, DL.ix_obj, DL.atI_0, DL.atI_1, DL.atI_2, DL.atI_3, DL.len_tup, DL.len_lst, DL.len_str, DL.len_obj, DL.ty_obj, DL.ty_str, DL.ty_lst, DL.append_obj, DL.pop_obj, DL.set_obj, DL.ixN_3_2, DL.tuple_obj, DL.tuple_lst, DL.list_tup, DL.list_lst, DL.sl_str, DL.sl_tup, DL.sl_lst, DL.rev_tup, DL.revM_lst, DL.sum_lst, DL.put_same, DL.startD, DL.pick, List.map_cons, List.map_nil, List.replicate, List.cons_append, List.nil_append, List.append_nil, List.length_cons, List.length_nil, List.getElem?_cons_zero, List.getElem?_cons_succ, List.set_cons_zero, List.set_cons_succ, List.filterMap_cons, List.filterMap_nil, Nat.zero_add, Nat.add_zero, Nat.reduceAdd, Nat.reduceSub, true_and, and_true, id_eq, if_true, if_false, Bool.false_eq_true, Bool.not_true, Bool.not_false]
        cases hb : (w == wBelow) with
        | true =>
          simp only [hn, hl, hw, hb, reduceIte, Bool.false_eq_true] at q
          simp only [hb, DL.x_bnd, DL.x_ret, DL.x_req, DL.x_get, DL.x_opt, DL.x_seq, DL.x_on, DL.x_or, DL.x_ob, DL.x_oc, DL.x_nil, DL.x_rt, DL.x_rtN, DL.x_drop, DL.x_break, DL.x_cont, DL.x_if, DL.x_ift, DL.x_iff, DL.x_set, DL.x_asg, DL.x_par2, DL.x_par3, DL.x_for, DL.x_v0, DL.x_vS, DL.x_c, DL.x_bin, DL.x_un, DL.x_tbin, DL.x_tru, DL.x_trb, DL.x_not, DL.x_tand, DL.x_tor, DL.x_and, DL.x_orE, DL.x_notE, DL.x_ifE, DL.x_tup, DL.x_lst, DL.x_lstM, DL.x_anil, DL.x_acons, DL.x_call, DL.x_callD, DL.x_callK, DL.x_meth, DL.x_sl, DL.x_oN, DL.x_oS, DL.x_gn, DL.x_gt, DL.x_gc, DL.x_g0, DL.x_gi, DL.x_body, DL.x_yes, DL.x_add, DL.x_addS, DL.x_addT, DL.x_addL, DL.x_sub, DL.x_mul, DL.x_div, DL.x_mod, DL.x_pow, DL.x_neg, DL.x_cmp, DL.x_cmpS, DL.x_isN, DL.x_mmL, DL.x_mm2, DL.x_eqS, DL.x_eqI, DL.x_intb, DL.onB_bl, DL.onI_int, DL.onO_nx, DL.onO_rt, DL.onL_ml, DL.addD_ol, DL.isNon_non, DL.isNon_int, DL.isNon_str, DL.isNon_tup, DL.ix_tup, DL.ix_lst, DL.ix_str, DL.ix_obj, DL.atI_0, DL.atI_1, DL.atI_2, DL.atI_3, DL.len_tup, DL.len_lst, DL.len_str, DL.len_obj, DL.ty_obj, DL.ty_str, DL.ty_lst, DL.append_obj, DL.pop_obj, DL.set_obj, DL.ixN_3_2, DL.tuple_obj, DL.tuple_lst, DL.list_tup, DL.list_lst, DL.sl_str, DL.sl_tup, DL.sl_lst, DL.rev_tup, DL.revM_lst, DL.sum_lst, DL.put_same, DL.startD, DL.pick, List.map_cons, List.map_nil, List.replicate, List.cons_append, List.nil_append, List.append_nil, List.length_cons, List.length_nil, List.getElem?_cons_zero, List.getElem?_cons_succ, List.set_cons_zero, List.set_cons_succ, List.filterMap_cons, List.filterMap_nil, Nat.zero_add, Nat.add_zero, Nat.reduceAdd, Nat.reduceSub, true_and, and_true, id_eq, if_true, if_false, Bool.false_eq_true, Bool.not_true, Bool.not_false]
          exact ltD_w s1 q
        | false =>
          simp only [hn, hl, hw, hb, reduceIte, Bool.false_eq_true] at q
          simp only [hb, DL.x_bnd, DL.x_ret, DL.x_req, DL.x_get, DL.x_opt, DL.x_seq, DL.x_on, DL.x_or, DL.x_ob, DL.x_oc, DL.x_nil, DL.x_rt, DL.x_rtN, DL.x_drop, DL.x_break, DL.x_cont, DL.x_if, DL.x_ift, DL.x_iff, DL.x_set, DL.x_asg, DL.x_par2, DL.x_par3, DL.x_for, DL.x_v0, DL.x_vS, DL.x_c, DL.x_bin, DL.x_un, DL.x_tbin, DL.x_tru, DL.x_trb, DL.x_not, DL.x_tand, DL.x_tor, DL.x_and, DL.x_orE, DL.x_notE, DL.x_ifE, DL.x_tup, DL.x_lst, DL.x_lstM, DL.x_anil, DL.x_acons, DL.x_call, DL.x_callD, DL.x_callK, DL.x_meth, DL.x_sl, DL.x_oN, DL.x_oS, DL.x_gn, DL.x_gt, DL.x_gc, DL.x_g0, DL.x_gi, DL.x_body, DL.x_yes, DL.x_add, DL.x_addS, DL.x_addT, DL.x_addL, DL.x_sub, DL.x_mul, DL.x_div, DL.x_mod, DL.x_pow, DL.x_neg, DL.x_cmp, DL.x_cmpS, DL.x_isN, DL.x_mmL, DL.x_mm2, DL.x_eqS, DL.x_eqI, DL.x_intb, DL.onB_bl, DL.onI_int, DL.onO_nx, DL.onO_rt, DL.onL_ml, DL.addD_ol, DL.isNon_non, DL.isNon_int, DL.isNon_str, DL.isNon_tup, DL.ix_tup, DL.ix_lst, DL.ix_str, DL.ix_obj, DL.atI_0, DL.atI_1, DL.atI_2, DL.atI_3, DL.len_tup, DL.len_lst, DL.len_str, DL.len_obj, DL.ty_obj, DL.ty_str, DL.ty_lst, DL.append_obj, DL.pop_obj, DL.set_obj, DL.ixN_3_2, DL.tuple_obj, DL.tuple_lst, DL.list_tup, DL.list_lst, DL.sl_str, DL.sl_tup, DL.sl_lst, DL.rev_tup, DL.revM_lst, DL.sum_lst, DL.put_same, DL.startD, DL.pick, List.map_cons, List.map_nil, List.replicate, List.cons_append, List.nil_append, List.append_nil, List.length_cons, List.length_nil, List.getElem?_cons_zero, List.getElem?_cons_succ, List.set_cons_zero, List.set_cons_succ, List.filterMap_cons, List.filterMap_nil, Nat.zero_add, Nat.add_zero, Nat.reduceAdd, Nat.reduceSub, true_and, and_true, id_eq, if_true, if_false, Bool.false_eq_true, Bool.not_true, Bool.not_false]
          exact geD_w s2 q
/-- one of the three words -/
def W3 (w : Str) : Prop := w = wIs ∨ w = wBelow ∨ w = wFrom
theorem cut1 (n l g k : D) : DL.cutD [n, l, g, k] (some 1) none = [l, g, k] := by
  have e1 : HT.sIx 4 0 (some 1) = 1 := by decide
  unfold DL.cutD
  show ((([n, l, g, k] : List D).drop (HT.sIx 4 0 (some 1))).take (4 - HT.sIx 4 0 (some 1))) = _
  rw [e1]
  rfl
theorem b12 : (wBelow == wIs) = false := by decide +kernel
theorem b32 : (wFrom == wBelow) = false := by decide +kernel
theorem b31 : (wFrom == wIs) = false := by decide +kernel
theorem b13 : (wIs == wFrom) = false := by decide +kernel
theorem b1b : (wIs == wBelow) = false := by decide +kernel
theorem b23 : (wBelow == wFrom) = false := by decide +kernel
theorem law_may_w {n lo hi due : D} {bl : Int} {w : Str} {μ : Mem} {Q : D → Mem → Prop} {E : XD} (h : Sp lo hi bl) (hd : Sc due) (hw : W3 w) (q : Q (.bl (mayD lo hi bl w due)) μ) : m__law_may [.tup [n, lo, hi, .int bl], .str w, due] μ Q E := by
  unfold mayD at q
  simp only [m__law_may, b__law_may, DL.x_bnd, DL.x_ret, DL.x_req, DL.x_get, DL.x_opt, DL.x_seq, DL.x_on, DL.x_or, DL.x_ob, DL.x_oc, DL.x_nil, DL.x_rt, DL.x_rtN, DL.x_drop, DL.x_break, DL.x_cont, DL.x_if, DL.x_ift, DL.x_iff, DL.x_set, DL.x_asg, DL.x_par2, DL.x_par3, DL.x_for, DL.x_v0, DL.x_vS, DL.x_c, DL.x_bin, DL.x_un, DL.x_tbin, DL.x_tru, DL.x_trb, DL.x_not, DL.x_tand, DL.x_tor, DL.x_and, DL.x_orE, DL.x_notE, DL.x_ifE, DL.x_tup, DL.x_lst, DL.x_lstM, DL.x_anil, DL.x_acons, DL.x_call, DL.x_callD, DL.x_callK, DL.x_meth, DL.x_sl, DL.x_oN, DL.x_oS, DL.x_gn, DL.x_gt, DL.x_gc, DL.x_g0, DL.x_gi, DL.x_body, DL.x_yes, DL.x_add, DL.x_addS, DL.x_addT, DL.x_addL, DL.x_sub, DL.x_mul, DL.x_div, DL.x_mod, DL.x_pow, DL.x_neg, DL.x_cmp, DL.x_cmpS, DL.x_isN, DL.x_mmL, DL.x_mm2, DL.x_eqS, DL.x_eqI, DL.x_intb, DL.onB_bl, DL.onI_int, DL.onO_nx, DL.onO_rt, DL.onL_ml, DL.addD_ol, DL.isNon_non, DL.isNon_int, DL.isNon_str, DL.isNon_tup, DL.ix_tup, DL.ix_lst, DL.ix_str, DL.ix_obj, DL.atI_0, DL.atI_1, DL.atI_2, DL.atI_3, DL.len_tup, DL.len_lst, DL.len_str, DL.len_obj, DL.ty_obj, DL.ty_str, DL.ty_lst, DL.append_obj, DL.pop_obj, DL.set_obj, DL.ixN_3_2, DL.tuple_obj, DL.tuple_lst, DL.list_tup, DL.list_lst, DL.sl_str, DL.sl_tup, DL.sl_lst, DL.rev_tup, DL.revM_lst, DL.sum_lst, DL.put_same, DL.startD, DL.pick, List.map_cons, List.map_nil, List.replicate, List.cons_append, List.nil_append, List.append_nil, List.length_cons, List.length_nil, List.getElem?_cons_zero, List.getElem?_cons_succ, List.set_cons_zero, List.set_cons_succ, List.filterMap_cons, List.filterMap_nil, Nat.zero_add, Nat.add_zero, Nat.reduceAdd, Nat.reduceSub, true_and, and_true, id_eq, if_true, if_false, Bool.false_eq_true, Bool.not_true, Bool.not_false, cut1]
  have rest : DL.isNon due = false → (if DL.isNon lo = true then Q (.bl false) μ else isiD [lo, .ty "str"] μ (fun x μ1 => isiD [due, .ty "str"] μ1 (fun y μ2 => neD x y μ2 (fun d μ3 => onB d fun k => if k = true then Q (.bl false) μ3 else
      if (w == PySem.Str.ofString "below") = true then ltD lo due μ3 (fun d μ1 => Q d μ1) E else ltD hi due μ3 (fun x μ1 => truD x μ1 (fun k μ2 => if (!k) = true then if (w == PySem.Str.ofString "from") = true then Q (.bl (w == PySem.Str.ofString "from")) μ2
        else ltD due lo μ2 (fun x μ1 => truD x μ1 (fun k μ2 => Q (.bl !k) μ2) E) E else Q (.bl !k) μ2) E) E) E) E) E) := fun hn => by
    cases hl : DL.isNon lo with
    | true =>
      have hk : likeD lo due = false := by unfold likeD; rw [hl]; rfl
      simp only [hn, hk, reduceIte, Bool.false_eq_true] at q
      simp only [DL.x_bnd, DL.x_ret, DL.x_req, DL.x_get, DL.x_opt, DL.x_seq, DL.x_on, DL.x_or, DL.x_ob, DL.x_oc, DL.x_nil, DL.x_rt, DL.x_rtN, DL.x_drop, DL.x_break, DL.x_cont, DL.x_if, DL.x_ift, DL.x_iff, DL.x_set, DL.x_asg, DL.x_par2, DL.x_par3, DL.x_for, DL.x_v0, DL.x_vS, DL.x_c, DL.x_bin, DL.x_un, DL.x_tbin, DL.x_tru, DL.x_trb, DL.x_not, DL.x_tand, DL.x_tor, DL.x_and, DL.x_orE, DL.x_notE, DL.x_ifE, DL.x_tup, DL.x_lst, DL.x_lstM, DL.x_anil, DL.x_acons, DL.x_call, DL.x_callD, DL.x_callK, DL.x_meth, DL.x_sl, DL.x_oN, DL.x_oS, DL.x_gn, DL.x_gt, DL.x_gc, DL.x_g0, DL.x_gi, DL.x_body, DL.x_yes, DL.x_add, DL.x_addS, DL.x_addT, DL.x_addL, DL.x_sub, DL.x_mul, DL.x_div, DL.x_mod, DL.x_pow, DL.x_neg, DL.x_cmp, DL.x_cmpS, DL.x_isN, DL.x_mmL, DL.x_mm2, DL.x_eqS, DL.x_eqI, DL.x_intb, DL.onB_bl, DL.onI_int, DL.onO_nx, DL.onO_rt, DL.onL_ml, DL.addD_ol, DL.isNon_non, DL.isNon_int, DL.isNon_str, DL.isNon_tup, DL.ix_tup, DL.ix_lst, DL.ix_str, DL.ix_obj, DL.atI_0, DL.atI_1, DL.atI_2, DL.atI_3, DL.len_tup, DL.len_lst, DL.len_str, DL.len_obj, DL.ty_obj, DL.ty_str, DL.ty_lst, DL.append_obj, DL.pop_obj, DL.set_obj, DL.ixN_3_2, DL.tuple_obj, DL.tuple_lst, DL.list_tup, DL.list_lst, DL.sl_str, DL.sl_tup, DL.sl_lst, DL.rev_tup, DL.revM_lst, DL.sum_lst, DL.put_same, DL.startD, DL.pick, List.map_cons, List.map_nil, List.replicate, List.cons_append, List.nil_append, List.append_nil, List.length_cons, List.length_nil, List.getElem?_cons_zero, List.getElem?_cons_succ, List.set_cons_zero, List.set_cons_succ, List.filterMap_cons, List.filterMap_nil, Nat.zero_add, Nat.add_zero, Nat.reduceAdd, Nat.reduceSub, true_and, and_true, id_eq, if_true, if_false, Bool.false_eq_true, Bool.not_true, Bool.not_false]
      exact q
    | false =>
      simp only [DL.x_bnd, DL.x_ret, DL.x_req, DL.x_get, DL.x_opt, DL.x_seq, DL.x_on, DL.x_or, DL.x_ob, DL.x_oc, DL.x_nil, DL.x_rt, DL.x_rtN, DL.x_drop, DL.x_break, DL.x_cont, DL.x_if, DL.x_ift, DL.x_iff, DL.x_set, DL.x_asg, DL.x_par2, DL.x_par3, DL.x_for, DL.x_v0, DL.x_vS, DL.x_c, DL.x_bin, DL.x_un, DL.x_tbin, DL.x_tru, DL.x_trb, DL.x_not, DL.x_tand, DL.x_tor, DL.x_and, DL.x_orE, DL.x_notE, DL.x_ifE, DL.x_tup, DL.x_lst, DL.x_lstM, DL.x_anil, DL.x_acons, DL.x_call, DL.x_callD, DL.x_callK, DL.x_meth, DL.x_sl, DL.x_oN, DL.x_oS, DL.x_gn, DL.x_gt, DL.x_gc, DL.x_g0, DL.x_gi, DL.x_body, DL.x_yes, DL.x_add, DL.x_addS, DL.x_addT, DL.x_addL, DL.x_sub, DL.x_mul, DL.x_div, DL.x_mod, DL.x_pow, DL.x_neg, DL.x_cmp, DL.x_cmpS, DL.x_isN, DL.x_mmL, DL.x_mm2, DL.x_eqS, DL.x_eqI, DL.x_intb, DL.onB_bl, DL.onI_int, DL.onO_nx, DL.onO_rt, DL.onL_ml, DL.addD_ol, DL.isNon_non, DL.isNon_int, DL.isNon_str, DL.isNon_tup, DL.ix_tup, DL.ix_lst, DL.ix_str, DL.ix_obj, DL.atI_0, DL.atI_1, DL.atI_2, DL.atI_3, DL.len_tup, DL.len_lst, DL.len_str, DL.len_obj, DL.ty_obj, DL.ty_str, DL.ty_lst, DL.append_obj, DL.pop_obj, DL.set_obj, DL.ixN_3_2, DL.tuple_obj, DL.tuple_lst, DL.list_tup, DL.list_lst, DL.sl_str, DL.sl_tup, DL.sl_lst, DL.rev_tup, DL.revM_lst, DL.sum_lst, DL.put_same, DL.startD, DL.pick, List.map_cons, List.map_nil, List.replicate, List.cons_append, List.nil_append, List.append_nil, List.length_cons, List.length_nil, List.getElem?_cons_zero, List.getElem?_cons_succ, List.set_cons_zero, List.set_cons_succ, List.filterMap_cons, List.filterMap_nil, Nat.zero_add, Nat.add_zero, Nat.reduceAdd, Nat.reduceSub, true_and, and_true, id_eq, if_true, if_false, Bool.false_eq_true, Bool.not_true, Bool.not_false]
      refine isi_w h.slo (isi_w hd (eqb_w ?_))
      cases he : (isS lo == isS due) with
      | false =>
        have hk : likeD lo due = false := by unfold likeD; rw [he]; simp
        simp only [hn, hk, reduceIte, Bool.false_eq_true] at q
        simp only [DL.x_bnd, DL.x_ret, DL.x_req, DL.x_get, DL.x_opt, DL.x_seq, DL.x_on, DL.x_or, DL.x_ob, DL.x_oc, DL.x_nil, DL.x_rt, DL.x_rtN, DL.x_drop, DL.x_break, DL.x_cont, DL.x_if, DL.x_ift, DL.x_iff, DL.x_set, DL.x_asg, DL.x_par2, DL.x_par3, DL.x_for, DL.x_v0, DL.x_vS, DL.x_c, DL.x_bin, DL.x_un, DL.x_tbin, DL.x_tru, DL.x_trb, DL.x_not, DL.x_tand, DL.x_tor, DL.x_and, DL.x_orE, DL.x_notE, DL.x_ifE, DL.x_tup, DL.x_lst, DL.x_lstM, DL.x_anil, DL.x_acons, DL.x_call, DL.x_callD, DL.x_callK, DL.x_meth, DL.x_sl, DL.x_oN, DL.x_oS, DL.x_gn, DL.x_gt, DL.x_gc, DL.x_g0, DL.x_gi, DL.x_body, DL.x_yes, DL.x_add, DL.x_addS, DL.x_addT, DL.x_addL, DL.x_sub, DL.x_mul, DL.x_div, DL.x_mod, DL.x_pow, DL.x_neg, DL.x_cmp, DL.x_cmpS, DL.x_isN, DL.x_mmL, DL.x_mm2, DL.x_eqS, DL.x_eqI, DL.x_intb, DL.onB_bl, DL.onI_int, DL.onO_nx, DL.onO_rt, DL.onL_ml, DL.addD_ol, DL.isNon_non, DL.isNon_int, DL.isNon_str, DL.isNon_tup, DL.ix_tup, DL.ix_lst, DL.ix_str, DL.ix_obj, DL.atI_0, DL.atI_1, DL.atI_2, DL.atI_3, DL.len_tup, DL.len_lst, DL.len_str, DL.len_obj, DL.ty_obj, DL.ty_str, DL.ty_lst, DL.append_obj, DL.pop_obj, DL.set_obj, DL.ixN_3_2, DL.tuple_obj, DL.tuple_lst, DL.list_tup, DL.list_lst, DL.sl_str, DL.sl_tup, DL.sl_lst, DL.rev_tup, DL.revM_lst, DL.sum_lst, DL.put_same, DL.startD, DL.pick, List.map_cons, List.map_nil, List.replicate, List.cons_append, List.nil_append, List.append_nil, List.length_cons, List.length_nil, List.getElem?_cons_zero, List.getElem?_cons_succ, List.set_cons_zero, List.set_cons_succ, List.filterMap_cons, List.filterMap_nil, Nat.zero_add, Nat.add_zero, Nat.reduceAdd, Nat.reduceSub, true_and, and_true, id_eq, if_true, if_false, Bool.false_eq_true, Bool.not_true, Bool.not_false]
        exact q
      | true =>
        have hk : likeD lo due = true := by unfold likeD; rw [hl, hn, he]; rfl
        have s1 := like_sort h.slo hd hk
        have s2 := sort_trans h.sort s1
        simp only [DL.x_bnd, DL.x_ret, DL.x_req, DL.x_get, DL.x_opt, DL.x_seq, DL.x_on, DL.x_or, DL.x_ob, DL.x_oc, DL.x_nil, DL.x_rt, DL.x_rtN, DL.x_drop, DL.x_break, DL.x_cont, DL.x_if, DL.x_ift, DL.x_iff, DL.x_set, DL.x_asg, DL.x_par2, DL.x_par3, DL.x_for, DL.x_v0, DL.x_vS, DL.x_c, DL.x_bin, DL.x_un, DL.x_tbin, DL.x_tru, DL.x_trb, DL.x_not, DL.x_tand, DL.x_tor, DL.x_and, DL.x_orE, DL.x_notE, DL.x_ifE, DL.x_tup, DL.x_lst, DL.x_lstM, DL.x_anil, DL.x_acons, DL.x_call, DL.x_callD, DL.x_callK, DL.x_meth, DL.x_sl, DL.x_oN, DL.x_oS, DL.x_gn, DL.x_gt, DL.x_gc, DL.x_g0, DL.x_gi, DL.x_body, DL.x_yes, DL.x_add, DL.x_addS, DL.x_addT, DL.x_addL, DL.x_sub, DL.x_mul, DL.x_div, DL.x_mod, DL.x_pow, DL.x_neg, DL.x_cmp, DL.x_cmpS, DL.x_isN, DL.x_mmL, DL.x_mm2, DL.x_eqS, DL.x_eqI, DL.x_intb, DL.onB_bl, DL.onI_int, DL.onO_nx, DL.onO_rt, DL.onL_ml, DL.addD_ol, DL.isNon_non, DL.isNon_int, DL.isNon_str, DL.isNon_tup, DL.ix_tup, DL.ix_lst, DL.ix_str, DL.ix_obj, DL.atI_0, DL.atI_1, DL.atI_2, DL.atI_3, DL.len_tup, DL.len_lst, DL.len_str, DL.len_obj, DL.ty_obj, DL.ty_str, DL.ty_lst, DL.append_obj, DL.pop_obj, DL.set_obj, DL.ixN_3_2, DL.tuple_obj, DL.tuple_lst, DL.list_tup, DL.list_lst, DL.sl_str, DL.sl_tup, DL.sl_lst, DL.rev_tup, DL.revM_lst, DL.sum_lst, DL.put_same, DL.startD, DL.pick, List.map_cons, List.map_nil, List.replicate, List.cons_append, List.nil_append, List.append_nil, List.length_cons, List.length_nil, List.getElem?_cons_zero, List.getElem?_cons_succ, List.set_cons_zero, List.set_cons_succ, List.filterMap_cons, List.filterMap_nil, Nat.zero_add, Nat.add_zero, Nat.reduceAdd, Nat.reduceSub, true_and, and_true, id_eq, if_true, if_false, Bool.false_eq_true, Bool.not_true, Bool.not_false]
        rcases hw with rfl | rfl | rfl
        · simp only [hn, hk, beq_self_eq_true, reduceIte, Bool.false_eq_true] at q
          simp only [b1b, b13, DL.x_bnd, DL.x_ret, DL.x_req, DL.x_get, DL.x_opt, DL.x_seq, DL.x_on, DL.x_or, DL.x_ob, DL.x_oc, DL.x_nil, DL.x_rt, DL.x_rtN, DL.x_drop, DL.x_break, DL.x_cont, DL.x_if, DL.x_ift, DL.x_iff, DL.x_set, DL.x_asg, DL.x_par2, DL.x_par3, DL.x_for, DL.x_v0, DL.x_vS, DL.x_c, DL.x_bin, DL.x_un, DL.x_tbin, DL.x_tru, DL.x_trb, DL.x_not, DL.x_tand, DL.x_tor, DL.x_and, DL.x_orE, DL.x_notE, DL.x_ifE, DL.x_tup, DL.x_lst, DL.x_lstM, DL.x_anil, DL.x_acons, DL.x_call, DL.x_callD, DL.x_callK, DL.x_meth, DL.x_sl, DL.x_oN, DL.x_oS, DL.x_gn, DL.x_gt, DL.x_gc, DL.x_g0, DL.x_gi, DL.x_body, DL.x_yes, DL.x_add, DL.x_addS, DL.x_addT, DL.x_addL, DL.x_sub, DL.x_mul, DL.x_div, DL.x_mod, DL.x_pow, DL.x_neg, DL.x_cmp, DL.x_cmpS, DL.x_isN, DL.x_mmL, DL.x_mm2, DL.x_eqS, DL.x_eqI, DL.x_intb, DL.onB_bl, DL.onI_int, DL.onO_nx, DL.onO_rt, DL.onL_ml, DL.addD_ol, DL.isNon_non, DL.isNon_int, DL.isNon_str, DL.isNon_tup, DL.ix_tup, DL.ix_lst, DL.ix_str, DL.ix_obj, DL.atI_0, DL.atI_1, DL.atI_2, DL.atI_3, DL.len_tup, DL.len_lst, DL.len_str, DL.len_obj, DL.ty_obj, DL.ty_str, DL.ty_lst, DL.append_obj, DL.pop_obj, DL.set_obj, DL.ixN_3_2, DL.tuple_obj, DL.tuple_lst, DL.list_tup, DL.list_lst, DL.sl_str, DL.sl_tup, DL.sl_lst, DL.rev_tup, DL.revM_lst, DL.sum_lst, DL.put_same, DL.startD, DL.pick, List.map_cons, List.map_nil, List.replicate, List.cons_append, List.nil_append, List.append_nil, List.length_cons, List.length_nil, List.getElem?_cons_zero, List.getElem?_cons_succ, List.set_cons_zero, List.set_cons_succ, List.filterMap_cons, List.filterMap_nil, Nat.zero_add, Nat.add_zero, Nat.reduceAdd, Nat.reduceSub, true_and, and_true, id_eq, if_true, if_false, Bool.false_eq_true, Bool.not_true, Bool.not_false]
          refine ltD_w s2 ?_
          cases k2 : ltS hi due with
          | true =>
            simp only [DL.x_bnd, DL.x_ret, DL.x_req, DL.x_get, DL.x_opt, DL.x_seq, DL.x_on, DL.x_or, DL.x_ob, DL.x_oc, DL.x_nil, DL.x_rt, DL.x_rtN, DL.x_drop, DL.x_break, DL.x_cont, DL.x_if, DL.x_ift, DL.x_iff, DL.x_set, DL.x_asg, DL.x_par2, DL.x_par3, DL.x_for, DL.x_v0, DL.x_vS, DL.x_c, DL.x_bin, DL.x_un, DL.x_tbin, DL.x_tru, DL.x_trb, DL.x_not, DL.x_tand, DL.x_tor, DL.x_and, DL.x_orE, DL.x_notE, DL.x_ifE, DL.x_tup, DL.x_lst, DL.x_lstM, DL.x_anil, DL.x_acons, DL.x_call, DL.x_callD, DL.x_callK, DL.x_meth, DL.x_sl, DL.x_oN, DL.x_oS, DL.x_gn, DL.x_gt, DL.x_gc, DL.x_g0, DL.x_gi, DL.x_body, DL.x_yes, DL.x_add, DL.x_addS, DL.x_addT, DL.x_addL, DL.x_sub, DL.x_mul, DL.x_div, DL.x_mod, DL.x_pow, DL.x_neg, DL.x_cmp, DL.x_cmpS, DL.x_isN, DL.x_mmL, DL.x_mm2, DL.x_eqS, DL.x_eqI, DL.x_intb, DL.onB_bl, DL.onI_int, DL.onO_nx, DL.onO_rt, DL.onL_ml, DL.addD_ol, DL.isNon_non, DL.isNon_int, DL.isNon_str, DL.isNon_tup, DL.ix_tup, DL.ix_lst, DL.ix_str, DL.ix_obj, DL.atI_0, DL.atI_1, DL.atI_2, DL.atI_3, DL.len_tup, DL.len_lst, DL.len_str, DL.len_obj, DL.ty_obj, DL.ty_str, DL.ty_lst, DL.append_obj, DL.pop_obj, DL.set_obj, DL.ixN_3_2, DL.tuple_obj, DL.tuple_lst, DL.list_tup, DL.list_lst, DL.sl_str, DL.sl_tup, DL.sl_lst, DL.rev_tup, DL.revM_lst, DL.sum_lst, DL.put_same, DL.startD, DL.pick, List.map_cons, List.map_nil, List.replicate, List.cons_append, List.nil_append, List.append_nil, List.length_cons, List.length_nil, List.getElem?_cons_zero, List.getElem?_cons_succ, List.set_cons_zero, List.set_cons_succ, List.filterMap_cons, List.filterMap_nil, Nat.zero_add, Nat.add_zero, Nat.reduceAdd, Nat.reduceSub, true_and, and_true, id_eq, if_true, if_false, Bool.false_eq_true, Bool.not_true, Bool.not_false]
            cases k1 : ltS due lo <;> simp only [k1, k2, reduceIte, Bool.false_eq_true, Bool.not_true] at q <;> exact q
          | false =>
            simp only [DL.x_bnd, DL.x_ret, DL.x_req, DL.x_get, DL.x_opt, DL.x_seq, DL.x_on, DL.x_or, DL.x_ob, DL.x_oc, DL.x_nil, DL.x_rt, DL.x_rtN, DL.x_drop, DL.x_break, DL.x_cont, DL.x_if, DL.x_ift, DL.x_iff, DL.x_set, DL.x_asg, DL.x_par2, DL.x_par3, DL.x_for, DL.x_v0, DL.x_vS, DL.x_c, DL.x_bin, DL.x_un, DL.x_tbin, DL.x_tru, DL.x_trb, DL.x_not, DL.x_tand, DL.x_tor, DL.x_and, DL.x_orE, DL.x_notE, DL.x_ifE, DL.x_tup, DL.x_lst, DL.x_lstM, DL.x_anil, DL.x_acons, DL.x_call, DL.x_callD, DL.x_callK, DL.x_meth, DL.x_sl, DL.x_oN, DL.x_oS, DL.x_gn, DL.x_gt, DL.x_gc, DL.x_g0, DL.x_gi, DL.x_body, DL.x_yes, DL.x_add, DL.x_addS, DL.x_addT, DL.x_addL, DL.x_sub, DL.x_mul, DL.x_div, DL.x_mod, DL.x_pow, DL.x_neg, DL.x_cmp, DL.x_cmpS, DL.x_isN, DL.x_mmL, DL.x_mm2, DL.x_eqS, DL.x_eqI, DL.x_intb, DL.onB_bl, DL.onI_int, DL.onO_nx, DL.onO_rt, DL.onL_ml, DL.addD_ol, DL.isNon_non, DL.isNon_int, DL.isNon_str, DL.isNon_tup, DL.ix_tup, DL.ix_lst, DL.ix_str, DL.ix_obj, DL.atI_0, DL.atI_1, DL.atI_2, DL.atI_3, DL.len_tup, DL.len_lst, DL.len_str, DL.len_obj, DL.ty_obj, DL.ty_str, DL.ty_lst, DL.append_obj, DL.pop_obj, DL.set_obj, DL.ixN_3_2, DL.tuple_obj, DL.tuple_lst, DL.list_tup, DL.list_lst, DL.sl_str, DL.sl_tup, DL.sl_lst, DL.rev_tup, DL.revM_lst, DL.sum_lst, DL.put_same, DL.startD, DL.pick, List.map_cons, List.map_nil, List.replicate, List.cons_append, List.nil_append, List.append_nil, List.length_cons, List.length_nil, List.getElem?_cons_zero, List.getElem?_cons_succ, List.set_cons_zero, List.set_cons_succ, List.filterMap_cons, List.filterMap_nil, Nat.zero_add, Nat.add_zero, Nat.reduceAdd, Nat.reduceSub, true_and, and_true, id_eq, if_true, if_false, Bool.false_eq_true, Bool.not_true, Bool.not_false]
            refine ltD_w (sort_sym s1) ?_
            cases k1 : ltS due lo <;> simp only [k1, k2, reduceIte, Bool.false_eq_true, Bool.not_false] at q <;> exact q
        · simp only [hn, hk, b12, beq_self_eq_true, reduceIte, Bool.false_eq_true] at q
          simp only [beq_self_eq_true, DL.x_bnd, DL.x_ret, DL.x_req, DL.x_get, DL.x_opt, DL.x_seq, DL.x_on, DL.x_or, DL.x_ob, DL.x_oc, DL.x_nil, DL.x_rt, DL.x_rtN, DL.x_drop, DL.x_break, DL.x_cont, DL.x_if, DL.x_ift, DL.x_iff, DL.x_set, DL.x_asg, DL.x_par2, DL.x_par3, DL.x_for, DL.x_v0, DL.x_vS, DL.x_c, DL.x_bin, DL.x_un, DL.x_tbin, DL.x_tru, DL.x_trb, DL.x_not, DL.x_tand, DL.x_tor, DL.x_and, DL.x_orE, DL.x_notE, DL.x_ifE, DL.x_tup, DL.x_lst, DL.x_lstM, DL.x_anil, DL.x_acons, DL.x_call, DL.x_callD, DL.x_callK, DL.x_meth, DL.x_sl, DL.x_oN, DL.x_oS, DL.x_gn, DL.x_gt, DL.x_gc, DL.x_g0, DL.x_gi, DL.x_body, DL.x_yes, DL.x_add, DL.x_addS, DL.x_addT, DL.x_addL, DL.x_sub, DL.x_mul, DL.x_div, DL.x_mod, DL.x_pow, DL.x_neg, DL.x_cmp, DL.x_cmpS, DL.x_isN, DL.x_mmL, DL.x_mm2, DL.x_eqS, DL.x_eqI, DL.x_intb, DL.onB_bl, DL.onI_int, DL.onO_nx, DL.onO_rt, DL.onL_ml, DL.addD_ol, DL.isNon_non, DL.isNon_int, DL.isNon_str, DL.isNon_tup, DL.ix_tup, DL.ix_lst, DL.ix_str, DL.ix_obj, DL.atI_0, DL.atI_1, DL.atI_2, DL.atI_3, DL.len_tup, DL.len_lst, DL.len_str, DL.len_obj, DL.ty_obj, DL.ty_str, DL.ty_lst, DL.append_obj, DL.pop_obj, DL.set_obj, DL.ixN_3_2, DL.tuple_obj, DL.tuple_lst, DL.list_tup, DL.list_lst, DL.sl_str, DL.sl_tup, DL.sl_lst, DL.rev_tup, DL.revM_lst, DL.sum_lst, DL.put_same, DL.startD, DL.pick, List.map_cons, List.map_nil, List.replicate, List.cons_append, List.nil_append, List.append_nil, List.length_cons, List.length_nil, List.getElem?_cons_zero, List.getElem?_cons_succ, List.set_cons_zero, List.set_cons_succ, List.filterMap_cons, List.filterMap_nil, Nat.zero_add, Nat.add_zero, Nat.reduceAdd, Nat.reduceSub, true_and, and_true, id_eq, if_true, if_false, Bool.false_eq_true, Bool.not_true, Bool.not_false]
          exact ltD_w s1 q
        · simp only [hn, hk, b31, b32, reduceIte, Bool.false_eq_true] at q
          simp only [b32, beq_self_eq_true, DL.x_bnd, DL.x_ret, DL.x_req, DL.x_get, DL.x_opt, DL.x_seq, DL.x_on, DL.x_or, DL.x_ob, DL.x_oc, DL.x_nil, DL.x_rt, DL.x_rtN, DL.x_drop, DL.x_break, DL.x_cont, DL.x_if, DL.x_ift, DL.x_iff, DL.x_set, DL.x_asg, DL.x_par2, DL.x_par3, DL.x_for, DL.x_v0, DL.x_vS, DL.x_c, DL.x_bin, DL.x_un, DL.x_tbin, DL.x_tru, DL.x_trb, DL.x_not, DL.x_tand, DL.x_tor, DL.x_and, DL.x_orE, DL.x_notE, DL.x_ifE, DL.x_tup, DL.x_lst, DL.x_lstM, DL.x_anil, DL.x_acons, DL.x_call, DL.x_callD, DL.x_callK, DL.x_meth, DL.x_sl, DL.x_oN, DL.x_oS, DL.x_gn, DL.x_gt, DL.x_gc, DL.x_g0, DL.x_gi, DL.x_body, DL.x_yes, DL.x_add, DL.x_addS, DL.x_addT, DL.x_addL, DL.x_sub, DL.x_mul, DL.x_div, DL.x_mod, DL.x_pow, DL.x_neg, DL.x_cmp, DL.x_cmpS, DL.x_isN, DL.x_mmL, DL.x_mm2, DL.x_eqS, DL.x_eqI, DL.x_intb, DL.onB_bl, DL.onI_int, DL.onO_nx, DL.onO_rt, DL.onL_ml, DL.addD_ol, DL.isNon_non, DL.isNon_int, DL.isNon_str, DL.isNon_tup, DL.ix_tup, DL.ix_lst, DL.ix_str, DL.ix_obj, DL.atI_0, DL.atI_1, DL.atI_2, DL.atI_3, DL.len_tup, DL.len_lst, DL.len_str, DL.len_obj, DL.ty_obj, DL.ty_str, DL.ty_lst, DL.append_obj, DL.pop_obj, DL.set_obj, DL.ixN_3_2, DL.tuple_obj, DL.tuple_lst, DL.list_tup, DL.list_lst, DL.sl_str, DL.sl_tup, DL.sl_lst, DL.rev_tup, DL.revM_lst, DL.sum_lst, DL.put_same, DL.startD, DL.pick, List.map_cons, List.map_nil, List.replicate, List.cons_append, List.nil_append, List.append_nil, List.length_cons, List.length_nil, List.getElem?_cons_zero, List.getElem?_cons_succ, List.set_cons_zero, List.set_cons_succ, List.filterMap_cons, List.filterMap_nil, Nat.zero_add, Nat.add_zero, Nat.reduceAdd, Nat.reduceSub, true_and, and_true, id_eq, if_true, if_false, Bool.false_eq_true, Bool.not_true, Bool.not_false]
          refine ltD_w s2 ?_
          cases k2 : ltS hi due <;> simp only [k2, Bool.not_true, Bool.not_false] at q <;> exact q
  cases hn : DL.isNon due with
  | true =>
    cases hi' : (w == wIs) with
    | true =>
      simp only [hn, hi', reduceIte] at q
      simp only [hi', DL.x_bnd, DL.x_ret, DL.x_req, DL.x_get, DL.x_opt, DL.x_seq, DL.x_on, DL.x_or, DL.x_ob, DL.x_oc, DL.x_nil, DL.x_rt, DL.x_rtN, DL.x_drop, DL.x_break, DL.x_cont, DL.x_if, DL.x_ift, DL.x_iff, DL.x_set, DL.x_asg, DL.x_par2, DL.x_par3, DL.x_for, DL.x_v0, DL.x_vS, DL.x_c, DL.x_bin, DL.x_un, DL.x_tbin, DL.x_tru, DL.x_trb, DL.x_not, DL.x_tand, DL.x_tor, DL.x_and, DL.x_orE, DL.x_notE, DL.x_ifE, DL.x_tup, DL.x_lst, DL.x_lstM, DL.x_anil, DL.x_acons, DL.x_call, DL.x_callD, DL.x_callK, DL.x_meth, DL.x_sl, DL.x_oN, DL.x_oS, DL.x_gn, DL.x_gt, DL.x_gc, DL.x_g0, DL.x_gi, DL.x_body, DL.x_yes, DL.x_add, DL.x_addS, DL.x_addT, DL.x_addL, DL.x_sub, DL.x_mul, DL.x_div, DL.x_mod, DL.x_pow, DL.x_neg, DL.x_cmp, DL.x_cmpS, DL.x_isN, DL.x_mmL, DL.x_mm2, DL.x_eqS, DL.x_eqI, DL.x_intb, DL.onB_bl, DL.onI_int, DL.onO_nx, DL.onO_rt, DL.onL_ml, DL.addD_ol, DL.isNon_non, DL.isNon_int, DL.isNon_str, DL.isNon_tup, DL.ix_tup, DL.ix_lst, DL.ix_str, DL.ix_obj, DL.atI_0, DL.atI_1, DL.atI_2, DL.atI_3, DL.len_tup, DL.len_lst, DL.len_str, DL.len_obj, DL.ty_obj, DL.ty_str, DL.ty_lst, DL.append_obj, DL.pop_obj, DL.set_obj, DL.ixN_3_2, DL.tuple_obj, DL.tuple_lst, DL.list_tup, DL.list_lst, DL.sl_str, DL.sl_tup, DL.sl_lst, DL.rev_tup, DL.revM_lst, DL.sum_lst, DL.put_same, DL.startD, DL.pick, List.map_cons, List.map_nil, List.replicate, List.cons_append, List.nil_append, List.append_nil, List.length_cons, List.length_nil, List.getElem?_cons_zero, List.getElem?_cons_succ, List.set_cons_zero, List.set_cons_succ, List.filterMap_cons, List.filterMap_nil, Nat.zero_add, Nat.add_zero, Nat.reduceAdd, Nat.reduceSub, true_and, and_true, id_eq, if_true, if_false, Bool.false_eq_true, Bool.not_true, Bool.not_false]
      exact q
    | false =>
      simp only [hn, hi', reduceIte, Bool.false_eq_true] at q
      simp only [hi', DL.x_bnd, DL.x_ret, DL.x_req, DL.x_get, DL.x_opt, DL.x_seq, DL.x_on, DL.x_or, DL.x_ob, DL.x_oc, DL.x_nil, DL.x_rt, DL.x_rtN, DL.x_drop, DL.x_break, DL.x_cont, DL.x_if, DL.x_ift, DL.x_iff, DL.x_set, DL.x_asg, DL.x_par2, DL.x_par3, DL.x_for, DL.x_v0, DL.x_vS, DL.x_c, DL.x_bin, DL.x_un, DL.x_tbin, DL.x_tru, DL.x_trb, DL.x_not, DL.x_tand, DL.x_tor, DL.x_and, DL.x_orE, DL.x_notE, DL.x_ifE, DL.x_tup, DL.x_lst, DL.x_lstM, DL.x_anil, DL.x_acons, DL.x_call, DL.x_callD, DL.x_callK, DL.x_meth, DL.x_sl, DL.x_oN, DL.x_oS, DL.x_gn, DL.x_gt, DL.x_gc, DL.x_g0, DL.x_gi, DL.x_body, DL.x_yes, DL.x_add, DL.x_addS, DL.x_addT, DL.x_addL, DL.x_sub, DL.x_mul, DL.x_div, DL.x_mod, DL.x_pow, DL.x_neg, DL.x_cmp, DL.x_cmpS, DL.x_isN, DL.x_mmL, DL.x_mm2, DL.x_eqS, DL.x_eqI, DL.x_intb, DL.onB_bl, DL.onI_int, DL.onO_nx, DL.onO_rt, DL.onL_ml, DL.addD_ol, DL.isNon_non, DL.isNon_int, DL.isNon_str, DL.isNon_tup, DL.ix_tup, DL.ix_lst, DL.ix_str, DL.ix_obj, DL.atI_0, DL.atI_1, DL.atI_2, DL.atI_3, DL.len_tup, DL.len_lst, DL.len_str, DL.len_obj, DL.ty_obj, DL.ty_str, DL.ty_lst, DL.append_obj, DL.pop_obj, DL.set_obj, DL.ixN_3_2, DL.tuple_obj, DL.tuple_lst, DL.list_tup, DL.list_lst, DL.sl_str, DL.sl_tup, DL.sl_lst, DL.rev_tup, DL.revM_lst, DL.sum_lst, DL.put_same, DL.startD, DL.pick, List.map_cons, List.map_nil, List.replicate, List.cons_append, List.nil_append, List.append_nil, List.length_cons, List.length_nil, List.getElem?_cons_zero, List.getElem?_cons_succ, List.set_cons_zero, List.set_cons_succ, List.filterMap_cons, List.filterMap_nil, Nat.zero_add, Nat.add_zero, Nat.reduceAdd, Nat.reduceSub, true_and, and_true, id_eq, if_true, if_false, Bool.false_eq_true, Bool.not_true, Bool.not_false]
      split <;> exact q
  | false =>
    have r := rest hn
    simp only [DL.x_bnd, DL.x_ret, DL.x_req, DL.x_get, DL.x_opt, DL.x_seq, DL.x_on, DL.x_or, DL.x_ob, DL.x_oc, DL.x_nil, DL.x_rt, DL.x_rtN, DL.x_drop, DL.x_break, DL.x_cont, DL.x_if, DL.x_ift, DL.x_iff, DL.x_set, DL.x_asg, DL.x_par2, DL.x_par3, DL.x_for, DL.x_v0, DL.x_vS, DL.x_c, DL.x_bin, DL.x_un, DL.x_tbin, DL.x_tru, DL.x_trb, DL.x_not, DL.x_tand, DL.x_tor, DL.x_and, DL.x_orE, DL.x_notE, DL.x_ifE, DL.x_tup, DL.x_lst, DL.x_lstM, DL.x_anil, DL.x_acons, DL.x_call, DL.x_callD, DL.x_callK, DL.x_meth, DL.x_sl, DL.x_oN, DL.x_oS, DL.x_gn, DL.x_gt, DL.x_gc, DL.x_g0, DL.x_gi, DL.x_body, DL.x_yes, DL.x_add, DL.x_addS, DL.x_addT, DL.x_addL, DL.x_sub, DL.x_mul, DL.x_div, DL.x_mod, DL.x_pow, DL.x_neg, DL.x_cmp, DL.x_cmpS, DL.x_isN, DL.x_mmL, DL.x_mm2, DL.x_eqS, DL.x_eqI, DL.x_intb, DL.onB_bl, DL.onI_int, DL.onO_nx, DL.onO_rt, DL.onL_ml, DL.addD_ol, DL.isNon_non, DL.isNon_int, DL.isNon_str, DL.isNon_tup, DL.ix_tup, DL.ix_lst, DL.ix_str, DL.ix_obj, DL.atI_0, DL.atI_1, DL.atI_2, DL.atI_3, DL.len_tup, DL.len_lst, DL.len_str, DL.len_obj, DL.ty_obj, DL.ty_str, DL.ty_lst, DL.append_obj, DL.pop_obj, DL.set_obj, DL.ixN_3_2, DL.tuple_obj, DL.tuple_lst, DL.list_tup, DL.list_lst, DL.sl_str, DL.sl_tup, DL.sl_lst, DL.rev_tup, DL.revM_lst, DL.sum_lst, DL.put_same, DL.startD, DL.pick, List.map_cons, List.map_nil, List.replicate, List.cons_append, List.nil_append, List.append_nil, List.length_cons, List.length_nil, List.getElem?_cons_zero, List.getElem?_cons_succ, List.set_cons_zero, List.set_cons_succ, List.filterMap_cons, List.filterMap_nil, Nat.zero_add, Nat.add_zero, Nat.reduceAdd, Nat.reduceSub, true_and, and_true, id_eq, if_true, if_false, Bool.false_eq_true, Bool.not_true, Bool.not_false] at r ⊢
    split <;> exact r
end Lk10

namespace Lk10
open PySem PySem.Spec PyProof.Rows L2 DL

theorem meets_w {col due x : D} {w : Str} {μ : Mem} {Q : D → Mem → Prop} {E : XD} (hd : Sc due) (hx : Sc x) (q : Q (.bl (meetD w due x)) μ) : m_meets [.tup [col, .str w, due], x] μ Q E := by
  unfold meetD at q
  simp only [m_meets, b_meets, DL.x_bnd, DL.x_ret, DL.x_req, DL.x_get, DL.x_opt, DL.x_seq, DL.x_on, DL.x_or, DL.x_ob, DL.x_oc, DL.x_nil, DL.x_rt, DL.x_rtN, DL.x_drop, DL.x_break, DL.x_cont, DL.x_if, DL.x_ift, DL.x_iff, DL.x_set, DL.x_asg, DL.x_par2, DL.x_par3, DL.x_for, DL.x_v0, DL.x_vS, DL.x_c, DL.x_bin, DL.x_un, DL.x_tbin, DL.x_tru, DL.x_trb, DL.x_not, DL.x_tand, DL.x_tor, DL.x_and, DL.x_orE, DL.x_notE, DL.x_ifE, DL.x_tup, DL.x_lst, DL.x_lstM, DL.x_anil, DL.x_acons, DL.x_call, DL.x_callD, DL.x_callK, DL.x_meth, DL.x_sl, DL.x_oN, DL.x_oS, DL.x_gn, DL.x_gt, DL.x_gc, DL.x_g0, DL.x_gi, DL.x_body, DL.x_yes, DL.x_add, DL.x_addS, DL.x_addT, DL.x_addL, DL.x_sub, DL.x_mul, DL.x_div, DL.x_mod, DL.x_pow, DL.x_neg, DL.x_cmp, DL.x_cmpS, DL.x_isN, DL.x_mmL, DL.x_mm2, DL.x_eqS, DL.x_eqI, DL.x_intb, DL.onB_bl, DL.onI_int, DL.onO_nx, DL.onO_rt, DL.onL_ml, DL.addD_ol, DL.isNon_non, DL.isNon_int, DL.isNon_str, DL.isNon_tup, DL.ix_tup, DL.ix_lst, DL.ix_str, DL.ix_obj, DL.atI_0, DL.atI_1, DL.atI_2, DL.atI_3, DL.len_tup, DL.len_lst, DL.len_str, DL.len_obj, DL.ty_obj, DL.ty_str, DL.ty_lst, DL.append_obj, DL.pop_obj, DL.set_obj, DL.ixN_3_2, DL.tuple_obj, DL.tuple_lst, DL.list_tup, DL.list_lst, DL.sl_str, DL.sl_tup, DL.sl_lst, DL.rev_tup, DL.revM_lst, DL.sum_lst, DL.put_same, DL.startD, DL.pick, List.map_cons, List.map_nil, List.replicate, List.cons_append, List.nil_append, List.append_nil, List.length_cons, List.length_nil, List.getElem?_cons_zero, List.getElem?_cons_succ, List.set_cons_zero, List.set_cons_succ, List.filterMap_cons, List.filterMap_nil, Nat.zero_add, Nat.add_zero, Nat.reduceAdd, Nat.reduceSub, true_and, and_true, id_eq, if_true, if_false, Bool.false_eq_true, Bool.not_true, Bool.not_false]
  cases hw : (w == wIs) with
  | true =>
    simp only [hw, reduceIte] at q
    simp only [hw, DL.x_bnd, DL.x_ret, DL.x_req, DL.x_get, DL.x_opt, DL.x_seq, DL.x_on, DL.x_or, DL.x_ob, DL.x_oc, DL.x_nil, DL.x_rt, DL.x_rtN, DL.x_drop, DL.x_break, DL.x_cont, DL.x_if, DL.x_ift, DL.x_iff, DL.x_set, DL.x_asg, DL.x_par2, DL.x_par3, DL.x_for, DL.x_v0, DL.x_vS, DL.x_c, DL.x_bin, DL.x_un, DL.x_tbin, DL.x_tru, DL.x_trb, DL.x_not, DL.x_tand, DL.x_tor, DL.x_and, DL.x_orE, DL.x_notE, DL.x_ifE, DL.x_tup, DL.x_lst, DL.x_lstM, DL.x_anil, DL.x_acons, DL.x_call, DL.x_callD, DL.x_callK, DL.x_meth, DL.x_sl, DL.x_oN, DL.x_oS, DL.x_gn, DL.x_gt, DL.x_gc, DL.x_g0, DL.x_gi, DL.x_body, DL.x_yes, DL.x_add, DL.x_addS, DL.x_addT, DL.x_addL, DL.x_sub, DL.x_mul, DL.x_div, DL.x_mod, DL.x_pow, DL.x_neg, DL.x_cmp, DL.x_cmpS, DL.x_isN, DL.x_mmL, DL.x_mm2, DL.x_eqS, DL.x_eqI, DL.x_intb, DL.onB_bl, DL.onI_int, DL.onO_nx, DL.onO_rt, DL.onL_ml, DL.addD_ol, DL.isNon_non, DL.isNon_int, DL.isNon_str, DL.isNon_tup, DL.ix_tup, DL.ix_lst, DL.ix_str, DL.ix_obj, DL.atI_0, DL.atI_1, DL.atI_2, DL.atI_3, DL.len_tup, DL.len_lst, DL.len_str, DL.len_obj, DL.ty_obj, DL.ty_str, DL.ty_lst, DL.append_obj, DL.pop_obj, DL.set_obj, DL.ixN_3_2, DL.tuple_obj, DL.tuple_lst, DL.list_tup, DL.list_lst, DL.sl_str, DL.sl_tup, DL.sl_lst, DL.rev_tup, DL.revM_lst, DL.sum_lst, DL.put_same, DL.startD, DL.pick, List.map_cons, List.map_nil, List.replicate, List.cons_append, List.nil_append, List.append_nil, List.length_cons, List.length_nil, List.getElem?_cons_zero, List.getElem?_cons_succ, List.set_cons_zero, List.set_cons_succ, List.filterMap_cons, List.filterMap_nil, Nat.zero_add, Nat.add_zero, Nat.reduceAdd, Nat.reduceSub, true_and, and_true, id_eq, if_true, if_false, Bool.false_eq_true, Bool.not_true, Bool.not_false]
    exact eqsc_w hx hd q
  | false =>
    simp only [hw, DL.x_bnd, DL.x_ret, DL.x_req, DL.x_get, DL.x_opt, DL.x_seq, DL.x_on, DL.x_or, DL.x_ob, DL.x_oc, DL.x_nil, DL.x_rt, DL.x_rtN, DL.x_drop, DL.x_break, DL.x_cont, DL.x_if, DL.x_ift, DL.x_iff, DL.x_set, DL.x_asg, DL.x_par2, DL.x_par3, DL.x_for, DL.x_v0, DL.x_vS, DL.x_c, DL.x_bin, DL.x_un, DL.x_tbin, DL.x_tru, DL.x_trb, DL.x_not, DL.x_tand, DL.x_tor, DL.x_and, DL.x_orE, DL.x_notE, DL.x_ifE, DL.x_tup, DL.x_lst, DL.x_lstM, DL.x_anil, DL.x_acons, DL.x_call, DL.x_callD, DL.x_callK, DL.x_meth, DL.x_sl, DL.x_oN, DL.x_oS, DL.x_gn, DL.x_gt, DL.x_gc, DL.x_g0, DL.x_gi, DL.x_body, DL.x_yes, DL.x_add, DL.x_addS, DL.x_addT, DL.x_addL, DL.x_sub, DL.x_mul, DL.x_div, DL.x_mod, DL.x_pow, DL.x_neg, DL.x_cmp, DL.x_cmpS, DL.x_isN, DL.x_mmL, DL.x_mm2, DL.x_eqS, DL.x_eqI, DL.x_intb, DL.onB_bl, DL.onI_int, DL.onO_nx, DL.onO_rt, DL.onL_ml, DL.addD_ol, DL.isNon_non, DL.isNon_int, DL.isNon_str, DL.isNon_tup, DL.ix_tup, DL.ix_lst, DL.ix_str, DL.ix_obj, DL.atI_0, DL.atI_1, DL.atI_2, DL.atI_3, DL.len_tup, DL.len_lst, DL.len_str, DL.len_obj, DL.ty_obj, DL.ty_str, DL.ty_lst, DL.append_obj, DL.pop_obj, DL.set_obj, DL.ixN_3_2, DL.tuple_obj, DL.tuple_lst, DL.list_tup, DL.list_lst, DL.sl_str, DL.sl_tup, DL.sl_lst, DL.rev_tup, DL.revM_lst, DL.sum_lst, DL.put_same, DL.startD, DL.pick, List.map_cons, List.map_nil, List.replicate, List.cons_append, List.nil_append, List.append_nil, List.length_cons, List.length_nil, List.getElem?_cons_zero, List.getElem?_cons_succ, List.set_cons_zero, List.set_cons_succ, List.filterMap_cons, List.filterMap_nil, Nat.zero_add, Nat.add_zero, Nat.reduceAdd, Nat.reduceSub, true_and, and_true, id_eq, if_true, if_false, Bool.false_eq_true, Bool.not_true, Bool.not_false]
    refine are_like_w hx hd ?_
    cases hl : likeD x due with
    | false =>
      simp only [hw, hl, reduceIte, Bool.false_eq_true] at q
      simp only [DL.x_bnd, DL.x_ret, DL.x_req, DL.x_get, DL.x_opt, DL.x_seq, DL.x_on, DL.x_or, DL.x_ob, DL.x_oc, DL.x_nil, DL.x_rt, DL.x_rtN, DL.x_drop, DL.x_break, DL.x_cont, DL.x_if, DL.x_ift, DL.x_iff, DL.x_set, DL.x_asg, DL.x_par2, DL.x_par3, DL.x_for, DL.x_v0, DL.x_vS, DL.x_c, DL.x_bin, DL.x_un, DL.x_tbin, DL.x_tru, DL.x_trb, DL.x_not, DL.x_tand, DL.x_tor, DL.x_and, DL.x_orE, DL.x_notE, DL.x_ifE, DL.x_tup, DL.x_lst, DL.x_lstM, DL.x_anil, DL.x_acons, DL.x_call, DL.x_callD, DL.x_callK, DL.x_meth, DL.x_sl, DL.x_oN, DL.x_oS, DL.x_gn, DL.x_gt, DL.x_gc, DL.x_g0, DL.x_gi, DL.x_body, DL.x_yes, DL.x_add, DL.x_addS, DL.x_addT, DL.x_addL, DL.x_sub, DL.x_mul, DL.x_div, DL.x_mod, DL.x_pow, DL.x_neg, DL.x_cmp, DL.x_cmpS, DL.x_isN, DL.x_mmL, DL.x_mm2, DL.x_eqS, DL.x_eqI, DL.x_intb, DL.onB_bl, DL.onI_int, DL.onO_nx, DL.onO_rt, DL.onL_ml, DL.addD_ol, DL.isNon_non, DL.isNon_int, DL.isNon_str, DL.isNon_tup, DL.ix_tup, DL.ix_lst, DL.ix_str, DL.ix_obj, DL.atI_0, DL.atI_1, DL.atI_2, DL.atI_3, DL.len_tup, DL.len_lst, DL.len_str, DL.len_obj, DL.ty_obj, DL.ty_str, DL.ty_lst, DL.append_obj, DL.pop_obj, DL.set_obj, DL.ixN_3_2, DL.tuple_obj, DL.tuple_lst, DL.list_tup, DL.list_lst, DL.sl_str, DL.sl_tup, DL.sl_lst, DL.rev_tup, DL.revM_lst, DL.sum_lst, DL.put_same, DL.startD, DL.pick, List.map_cons, List.map_nil, List.replicate, List.cons_append, List.nil_append, List.append_nil, List.length_cons, List.length_nil, List.getElem?_cons_zero, List.getElem?_cons_succ, List.set_cons_zero, List.set_cons_succ, List.filterMap_cons, List.filterMap_nil, Nat.zero_add, Nat.add_zero, Nat.reduceAdd, Nat.reduceSub, true_and, and_true, id_eq, if_true, if_false, Bool.false_eq_true, Bool.not_true, Bool.not_false]
      exact q
    | true =>
      have s1 := like_sort hx hd hl
      simp only [DL.x_bnd, DL.x_ret, DL.x_req, DL.x_get, DL.x_opt, DL.x_seq, DL.x_on, DL.x_or, DL.x_ob, DL.x_oc, DL.x_nil, DL.x_rt, DL.x_rtN, DL.x_drop, DL.x_break, DL.x_cont, DL.x_if, DL.x_ift, DL.x_iff, DL.x_set, DL.x_asg, DL.x_par2, DL.x_par3, DL.x_for, DL.x_v0, DL.x_vS, DL.x_c, DL.x_bin, DL.x_un, DL.x_tbin, DL.x_tru, DL.x_trb, DL.x_not, DL.x_tand, DL.x_tor, DL.x_and, DL.x_orE, DL.x_notE, DL.x_ifE, DL.x_tup, DL.x_lst, DL.x_lstM, DL.x_anil, DL.x_acons, DL.x_call, DL.x_callD, DL.x_callK, DL.x_meth, DL.x_sl, DL.x_oN, DL.x_oS, DL.x_gn, DL.x_gt, DL.x_gc, DL.x_g0, DL.x_gi, DL.x_body, DL.x_yes, DL.x_add, DL.x_addS, DL.x_addT, DL.x_addL, DL.x_sub, DL.x_mul, DL.x_div, DL.x_mod, DL.x_pow, DL.x_neg, DL.x_cmp, DL.x_cmpS, DL.x_isN, DL.x_mmL, DL.x_mm2, DL.x_eqS, DL.x_eqI, DL.x_intb, DL.onB_bl, DL.onI_int, DL.onO_nx, DL.onO_rt, DL.onL_ml, DL.addD_ol, DL.isNon_non, DL.isNon_int, DL.isNon_str, DL.isNon_tup, DL.ix_tup, DL.ix_lst, DL.ix_str, DL.ix_obj, DL.atI_0, DL.atI_1, DL.atI_2, DL.atI_3, DL.len_tup, DL.len_lst, DL.len_str, DL.len_obj, DL.ty_obj, DL.ty_str, DL.ty_lst, DL.append_obj, DL.pop_obj, DL.set_obj, DL.ixN_3_2, DL.tuple_obj, DL.tuple_lst, DL.list_tup, DL.list_lst, DL.sl_str, DL.sl_tup, DL.sl_lst, DL.rev_tup, DL.revM_lst, DL.sum_lst, DL.put_same, DL.startD, DL.pick, List.map_cons, List.map_nil, List.replicate, List.cons_append, List.nil_append, List.append_nil, List.length_cons, List.length_nil, List.getElem?_cons_zero, List.getElem?_cons_succ, List.set_cons_zero, List.set_cons_succ, List.filterMap_cons, List.filterMap_nil, Nat.zero_add, Nat.add_zero, Nat.reduceAdd, Nat.reduceSub, true_and, and_true, id_eq, if_true, if_false, Bool.false_eq_true, Bool.not_true, Bool.not_false]
      cases hb : (w == wBelow) with
      | true =>
        simp only [hw, hl, hb, reduceIte, Bool.false_eq_true] at q
        simp only [hb, DL.x_bnd, DL.x_ret, DL.x_req, DL.x_get, DL.x_opt, DL.x_seq, DL.x_on, DL.x_or, DL.x_ob, DL.x_oc, DL.x_nil, DL.x_rt, DL.x_rtN, DL.x_drop, DL.x_break, DL.x_cont, DL.x_if, DL.x_ift, DL.x_iff, DL.x_set, DL.x_asg, DL.x_par2, DL.x_par3, DL.x_for, DL.x_v0, DL.x_vS, DL.x_c, DL.x_bin, DL.x_un, DL.x_tbin, DL.x_tru, DL.x_trb, DL.x_not, DL.x_tand, DL.x_tor, DL.x_and, DL.x_orE, DL.x_notE, DL.x_ifE, DL.x_tup, DL.x_lst, DL.x_lstM, DL.x_anil, DL.x_acons, DL.x_call, DL.x_callD, DL.x_callK, DL.x_meth, DL.x_sl, DL.x_oN, DL.x_oS, DL.x_gn, DL.x_gt, DL.x_gc, DL.x_g0, DL.x_gi, DL.x_body, DL.x_yes, DL.x_add, DL.x_addS, DL.x_addT, DL.x_addL, DL.x_sub, DL.x_mul, DL.x_div, DL.x_mod, DL.x_pow, DL.x_neg, DL.x_cmp, DL.x_cmpS, DL.x_isN, DL.x_mmL, DL.x_mm2, DL.x_eqS, DL.x_eqI, DL.x_intb, DL.onB_bl, DL.onI_int, DL.onO_nx, DL.onO_rt, DL.onL_ml, DL.addD_ol, DL.isNon_non, DL.isNon_int, DL.isNon_str, DL.isNon_tup, DL.ix_tup, DL.ix_lst, DL.ix_str, DL.ix_obj, DL.atI_0, DL.atI_1, DL.atI_2, DL.atI_3, DL.len_tup, DL.len_lst, DL.len_str, DL.len_obj, DL.ty_obj, DL.ty_str, DL.ty_lst, DL.append_obj, DL.pop_obj, DL.set_obj, DL.ixN_3_2, DL.tuple_obj, DL.tuple_lst, DL.list_tup, DL.list_lst, DL.sl_str, DL.sl_tup, DL.sl_lst, DL.rev_tup, DL.revM_lst, DL.sum_lst, DL.put_same, DL.startD, DL.pick, List.map_cons, List.map_nil, List.replicate, List.cons_append, List.nil_append, List.append_nil, List.length_cons, List.length_nil, List.getElem?_cons_zero, List.getElem?_cons_succ, List.set_cons_zero, List.set_cons_succ, List.filterMap_cons, List.filterMap_nil, Nat.zero_add, Nat.add_zero, Nat.reduceAdd, Nat.reduceSub, true_and, and_true, id_eq, if_true, if_false, Bool.false_eq_true, Bool.not_true, Bool.not_false]
        exact ltD_w s1 q
      | false =>
        simp only [hw, hl, hb, reduceIte, Bool.false_eq_true] at q
        simp only [hb, DL.x_bnd, DL.x_ret, DL.x_req, DL.x_get, DL.x_opt, DL.x_seq, DL.x_on, DL.x_or, DL.x_ob, DL.x_oc, DL.x_nil, DL.x_rt, DL.x_rtN, DL.x_drop, DL.x_break, DL.x_cont, DL.x_if, DL.x_ift, DL.x_iff, DL.x_set, DL.x_asg, DL.x_par2, DL.x_par3, DL.x_for, DL.x_v0, DL.x_vS, DL.x_c, DL.x_bin, DL.x_un, DL.x_tbin, DL.x_tru, DL.x_trb, DL.x_not, DL.x_tand, DL.x_tor, DL.x_and, DL.x_orE, DL.x_notE, DL.x_ifE, DL.x_tup, DL.x_lst, DL.x_lstM, DL.x_anil, DL.x_acons, DL.x_call, DL.x_callD, DL.x_callK, DL.x_meth, DL.x_sl, DL.x_oN, DL.x_oS, DL.x_gn, DL.x_gt, DL.x_gc, DL.x_g0, DL.x_gi, DL.x_body, DL.x_yes, DL.x_add, DL.x_addS, DL.x_addT, DL.x_addL, DL.x_sub, DL.x_mul, DL.x_div, DL.x_mod, DL.x_pow, DL.x_neg, DL.x_cmp, DL.x_cmpS, DL.x_isN, DL.x_mmL, DL.x_mm2, DL.x_eqS, DL.x_eqI, DL.x_intb, DL.onB_bl, DL.onI_int, DL.onO_nx, DL.onO_rt, DL.onL_ml, DL.addD_ol, DL.isNon_non, DL.isNon_int, DL.isNon_str, DL.isNon_tup, DL.ix_tup, DL.ix_lst, DL.ix_str, DL.ix_obj, DL.atI_0, DL.atI_1, DL.atI_2, DL.atI_3, DL.len_tup, DL.len_lst, DL.len_str, DL.len_obj, DL.ty_obj, DL.ty_str, DL.ty_lst, DL.append_obj, DL.pop_obj, DL.set_obj, DL.ixN_3_2, DL.tuple_obj, DL.tuple_lst, DL.list_tup, DL.list_lst, DL.sl_str, DL.sl_tup, DL.sl_lst, DL.rev_tup, DL.revM_lst, DL.sum_lst, DL.put_same, DL.startD, DL.pick, List.map_cons, List.map_nil, List.replicate, List.cons_append, List.nil_append, List.append_nil, List.length_cons, List.length_nil, List.getElem?_cons_zero, List.getElem?_cons_succ, List.set_cons_zero, List.set_cons_succ, List.filterMap_cons, List.filterMap_nil, Nat.zero_add, Nat.add_zero, Nat.reduceAdd, Nat.reduceSub, true_and, and_true, id_eq, if_true, if_false, Bool.false_eq_true, Bool.not_true, Bool.not_false]
        exact geD_w s1 q
theorem non_not {x : D} (h : DL.isNon x = false) : x ≠ .non := fun e => by subst e; cases h
theorem some_in {x : D} {ds : List D} (h : x ∈ ds) (hn : DL.isNon x = false) : x ∈ someOf ds := List.mem_filter.mpr ⟨h, by rw [hn]; rfl⟩
theorem sub_in {x : D} {ds : List D} (h : x ∈ someOf ds) : x ∈ ds := (List.mem_filter.mp h).1
theorem bl_pos {ds : List D} : 0 < blD ds ↔ .non ∈ ds := by
  have key : ∀ ds : List D, (someOf ds).length ≤ ds.length ∧ ((someOf ds).length < ds.length ↔ .non ∈ ds) := fun ds => by
    induction ds with
    | nil => exact ⟨Nat.le_refl _, by simp [someOf]⟩
    | cons d r ih =>
      obtain ⟨i1, i2⟩ := ih
      cases hd : DL.isNon d with
      | true =>
        have e : someOf (d :: r) = someOf r := by unfold someOf; rw [List.filter_cons, hd]; rfl
        have := isNon_of hd
        rw [e, List.length_cons]
        refine ⟨by omega, ⟨fun _ => by rw [this]; exact List.mem_cons_self .., fun _ => by omega⟩⟩
      | false =>
        have e : someOf (d :: r) = d :: someOf r := by unfold someOf; rw [List.filter_cons, hd]; rfl
        rw [e, List.length_cons, List.length_cons]
        refine ⟨by omega, ⟨fun h => List.mem_cons_of_mem _ (i2.mp (by omega)), fun h => ?_⟩⟩
        rcases List.mem_cons.mp h with k | k
        · exact absurd k.symm (non_not hd)
        · have := i2.mpr k; omega
  unfold blD
  obtain ⟨a, b⟩ := key ds
  constructor
  · intro h; exact b.mp (by omega)
  · intro h; have := b.mpr h; omega
theorem like_non {x : D} : likeD .non x = false := rfl
theorem like_non' {x : D} : likeD x .non = false := by
  unfold likeD
  show (!DL.isNon x && !true && _) = false
  simp
theorem eqS_like {x y : D} (h : eqS x y = true) (hn : DL.isNon y = false) : likeD x y = true := by
  have e := eqS_iff h
  subst e
  unfold likeD
  rw [hn]
  simp
theorem like_tr {x y z : D} (h : OneSort [x, y]) : likeD x z = likeD y z := by
  rcases h with ⟨ns, e⟩ | ⟨ns, e⟩
  · match ns, e with
    | [i, j], e => cases e; rfl
  · match ns, e with
    | [i, j], e => cases e; rfl
/-- what the law asks of a span and its worths -/
theorem sound_law {ds : List D} {w : Str} {due : D} (hs : OneSort (someOf ds)) (hsc : ∀ x ∈ ds, Sc x) (hd : Sc due) (hw : W3 w) :
    ((∃ x ∈ ds, meetD w due x = true) → mayD (loD ds) (hiD ds) (blD ds) w due = true) ∧ (mayD (loD ds) (hiD ds) (blD ds) w due = true → (¬ ∃ x ∈ ds, meetD w due x = true) → w = wIs ∧ eqS (loD ds) (hiD ds) = false) := by
  cases hn : DL.isNon due with
  | true =>
    have e := isNon_of hn
    subst e
    have key : mayD (loD ds) (hiD ds) (blD ds) w .non = true ↔ ∃ x ∈ ds, meetD w .non x = true := by
      unfold mayD meetD
      rcases hw with rfl | rfl | rfl
      · simp only [hn, beq_self_eq_true, reduceIte, decide_eq_true_eq]
        rw [bl_pos]
        constructor
        · intro h; exact ⟨.non, h, rfl⟩
        · rintro ⟨x, hx, h⟩; rw [eqS_iff h] at hx; exact hx
      · simp only [hn, b12, like_non', reduceIte, Bool.false_eq_true]
        simp
      · simp only [hn, b31, like_non', reduceIte, Bool.false_eq_true]
        simp
    exact ⟨key.mpr, fun h k => absurd (key.mp h) k⟩
  | false =>
    have dn := non_not hn
    cases es : someOf ds with
    | nil =>
      have all : ∀ x ∈ ds, x = .non := fun x hx => by
        cases k : DL.isNon x with
        | true => exact isNon_of k
        | false => have := some_in hx k; rw [es] at this; cases this
      have lo : loD ds = .non := by unfold loD; rw [es]
      have m : mayD (loD ds) (hiD ds) (blD ds) w due = false := by unfold mayD; rw [lo, hn, like_non]; rfl
      have nm : ¬ ∃ x ∈ ds, meetD w due x = true := by
        rintro ⟨x, hx, h⟩
        rw [all x hx] at h
        unfold meetD at h
        rw [like_non] at h
        have : eqS .non due = false := by
          cases k : eqS .non due with
          | false => rfl
          | true => exact absurd (eqS_iff k).symm dn
        rw [this] at h
        revert h
        cases (w == wIs) <;> simp
      exact ⟨fun h => absurd h nm, fun h => by rw [m] at h; cases h⟩
    | cons d r =>
      rw [es] at hs
      have lo : loD ds = minL d r := by unfold loD; rw [es]
      have hi : hiD ds = maxL d r := by unfold hiD; rw [es]
      have lom := min_mem d r
      have him := max_mem d r
      have lod : minL d r ∈ ds := sub_in (by rw [es]; exact lom)
      have hid : maxL d r ∈ ds := sub_in (by rw [es]; exact him)
      have sub := sort_sub hs
      have inn : ∀ x ∈ ds, DL.isNon x = false → x ∈ d :: r := fun x hx k => by have := some_in hx k; rw [es] at this; exact this
      have lk : ∀ x ∈ d :: r, likeD x due = likeD (minL d r) due := fun x hx => like_tr (sub x hx _ lom)
      have xn : ∀ x ∈ ds, likeD x due = true → DL.isNon x = false := fun x hx h => by
        cases k : DL.isNon x with
        | false => rfl
        | true => rw [isNon_of k, like_non] at h; cases h
      rw [lo, hi]
      cases hl : likeD (minL d r) due with
      | false =>
        have m : mayD (minL d r) (maxL d r) (blD ds) w due = false := by unfold mayD; rw [hn, hl]; rfl
        have nl : ∀ x ∈ ds, likeD x due = false := fun x hx => by
          cases k : DL.isNon x with
          | true => rw [isNon_of k]; exact like_non
          | false => rw [lk x (inn x hx k)]; exact hl
        have nm : ¬ ∃ x ∈ ds, meetD w due x = true := by
          rintro ⟨x, hx, h⟩
          unfold meetD at h
          rw [nl x hx] at h
          have : eqS x due = false := by
            cases k : eqS x due with
            | false => rfl
            | true => have := eqS_like k hn; rw [nl x hx] at this; cases this
          rw [this] at h
          revert h
          cases (w == wIs) <;> simp
        exact ⟨fun h => absurd h nm, fun h => by rw [m] at h; cases h⟩
      | true =>
        have s1 := like_sort (hsc _ lod) hd hl
        have s2 : OneSort [maxL d r, due] := like_sort (hsc _ hid) hd (by rw [lk _ him]; exact hl)
        have hlh : likeD (maxL d r) due = true := by rw [lk _ him]; exact hl
        unfold mayD meetD
        rcases hw with rfl | rfl | rfl
        · simp only [hn, hl, beq_self_eq_true, reduceIte, Bool.false_eq_true]
          refine ⟨?_, ?_⟩
          · rintro ⟨x, hx, h⟩
            have ex := eqS_iff h
            subst ex
            have hm := inn x hx hn
            rw [min_le hm, max_le hm]
            rfl
          · intro h k
            refine ⟨trivial, ?_⟩
            cases e : eqS (minL d r) (maxL d r) with
            | false => rfl
            | true =>
              have e := eqS_iff e
              exfalso
              apply k
              cases k1 : ltS due (minL d r) with
              | true => rw [k1] at h; cases h
              | false =>
                rw [k1] at h
                have k2 : ltS (maxL d r) due = false := by
                  cases k2 : ltS (maxL d r) due with
                  | false => rfl
                  | true => rw [k2] at h; cases h
                rw [← e] at k2
                have := lt_eq s1 k2 k1
                exact ⟨_, lod, by rw [this]; exact eqS_self hd⟩
        · simp only [hn, hl, b12, beq_self_eq_true, reduceIte, Bool.false_eq_true]
          refine ⟨?_, ?_⟩
          · rintro ⟨x, hx, h⟩
            cases k : likeD x due with
            | false => rw [k] at h; cases h
            | true =>
              rw [k] at h
              have h : ltS x due = true := h
              have hm := inn x hx (xn x hx k)
              have hx' := min_le hm
              cases k1 : ltS (minL d r) due with
              | true => rfl
              | false =>
                cases k2 : ltS due (minL d r) with
                | true => rw [lt_tr h k2] at hx'; cases hx'
                | false => rw [lt_eq s1 k1 k2, h] at hx'; cases hx'
          · intro h k
            exact absurd ⟨_, lod, by rw [hl]; exact h⟩ k
        · simp only [hn, hl, b31, b32, reduceIte, Bool.false_eq_true]
          refine ⟨?_, ?_⟩
          · rintro ⟨x, hx, h⟩
            cases k : likeD x due with
            | false => rw [k] at h; cases h
            | true =>
              rw [k] at h
              have h : (!ltS x due) = true := h
              have hm := inn x hx (xn x hx k)
              have hx' := max_le hm
              cases k1 : ltS (maxL d r) due with
              | false => rfl
              | true =>
                cases k2 : ltS x (maxL d r) with
                | true => rw [lt_tr k2 k1] at h; cases h
                | false => rw [lt_eq (sub x hm _ him) k2 hx', k1] at h; cases h
          · intro h k
            exact absurd ⟨_, hid, by rw [hlh]; exact h⟩ k
end Lk10

namespace Lk10
open PySem PySem.Spec PyProof.Rows L2 DL

/-- a test as it is handed in -/
def Ts (t : D) : Prop := ∃ (c : Int) (w : Str) (due : D), t = .tup [.int c, .str w, due] ∧ c.natAbs < 1000 ∧ W3 w ∧ Sc due
theorem gi {j : Int} (hj : j.natAbs < 4611686018427387904) : gd (.int j) = true := decide_eq_true (Nat.lt_trans (log_lt (k := 62) (by decide) (by omega)) (by decide))
theorem w3_ok {w : Str} (h : W3 w) : gd (.str w) = true ∧ dsz (.str w) ≤ 100 := by
  rcases h with rfl | rfl | rfl <;> exact ⟨by decide +kernel, by decide +kernel⟩
theorem sp_of {ds : List D} (hs : OneSort (someOf ds)) (hsc : ∀ x ∈ ds, Sc x) (hl : ds.length ≤ 50) : Sp (loD ds) (hiD ds) (blD ds) := by
  have non : Sc .non := ⟨.inl rfl, rfl, by decide⟩
  have hb : 0 ≤ blD ds ∧ blD ds ≤ 100 := by
    have h2 : (someOf ds).length ≤ ds.length := List.length_filter_le _ _
    unfold blD
    omega
  cases e : someOf ds with
  | nil =>
    have lo : loD ds = .non := by unfold loD; rw [e]
    have hi : hiD ds = .non := by unfold hiD; rw [e]
    rw [lo, hi]
    exact ⟨non, non, .inl ⟨rfl, rfl⟩, hb.1, hb.2⟩
  | cons d r =>
    have lo : loD ds = minL d r := by unfold loD; rw [e]
    have hi : hiD ds = maxL d r := by unfold hiD; rw [e]
    rw [lo, hi]
    rw [e] at hs
    exact ⟨hsc _ (sub_in (by rw [e]; exact min_mem d r)), hsc _ (sub_in (by rw [e]; exact max_mem d r)), .inr (sort_sub hs _ (min_mem d r) _ (max_mem d r)), hb.1, hb.2⟩
theorem filter_nil {c : D → Bool} {ds : List D} : ds.filter c = [] ↔ ¬ ∃ x ∈ ds, c x = true := by
  constructor
  · rintro h ⟨x, hx, k⟩
    have : x ∈ ds.filter c := List.mem_filter.mpr ⟨hx, k⟩
    rw [h] at this; cases this
  · intro h
    cases e : ds.filter c with
    | nil => rfl
    | cons x r =>
      have : x ∈ ds.filter c := by rw [e]; exact List.mem_cons_self ..
      obtain ⟨a, b⟩ := List.mem_filter.mp this
      exact absurd ⟨x, a, b⟩ h
theorem gdL_of : ∀ {ds : List D}, (∀ x ∈ ds, gd x = true ∧ dpt x = 0) → gdL ds = true ∧ dptL ds = 0
  | [], _ => ⟨rfl, rfl⟩
  | d :: r, h => by
    obtain ⟨a, b⟩ := h d (List.mem_cons_self ..)
    obtain ⟨a', b'⟩ := gdL_of fun x hx => h x (List.mem_cons_of_mem _ hx)
    refine ⟨Bool.and_eq_true_iff.mpr ⟨a, a'⟩, ?_⟩
    show max (dpt d) (dptL r) = 0
    omega
theorem sound_w {k : Int} {ds tests : List D} {μ : Mem} {Q : D → Mem → Prop} {E : XD} (hs : OneSort (someOf ds)) (hsc : ∀ x ∈ ds, Sc x) (hl : ds.length ≤ 50) (ht : ∀ t ∈ tests, Ts t) (q : Q (.bl true) μ) :
    m__law_sound [spanD (.int k) ds, .tup ds, .lst tests] μ Q E := by
  have sp := sp_of hs hsc hl
  unfold spanD
  simp only [m__law_sound, b__law_sound, DL.x_bnd, DL.x_ret, DL.x_req, DL.x_get, DL.x_opt, DL.x_seq, DL.x_or, DL.x_ob, DL.x_oc, DL.x_nil, DL.x_rt, DL.x_rtN, DL.x_drop, DL.x_break, DL.x_cont, DL.x_if, DL.x_ift, DL.x_iff, DL.x_set, DL.x_asg, DL.x_par2, DL.x_par3, DL.x_for, DL.x_v0, DL.x_vS, DL.x_c, DL.x_bin, DL.x_un, DL.x_tbin, DL.x_tru, DL.x_trb, DL.x_not, DL.x_tand, DL.x_tor, DL.x_and, DL.x_orE, DL.x_notE, DL.x_ifE, DL.x_tup, DL.x_lst, DL.x_lstM, DL.x_anil, DL.x_acons, DL.x_call, DL.x_callD, DL.x_callK, DL.x_meth, DL.x_sl, DL.x_oN, DL.x_oS, DL.x_gn, DL.x_gt, DL.x_gc, DL.x_g0, DL.x_gi, DL.x_body, DL.x_yes, DL.x_add, DL.x_addS, DL.x_addT, DL.x_addL, DL.x_sub, DL.x_mul, DL.x_div, DL.x_mod, DL.x_pow, DL.x_neg, DL.x_cmp, DL.x_cmpS, DL.x_isN, DL.x_mmL, DL.x_mm2, DL.x_eqS, DL.x_eqI, DL.x_intb, DL.onB_bl, DL.onI_int, DL.onO_nx, DL.onO_rt, DL.onL_ml, DL.addD_ol, DL.isNon_non, DL.isNon_int, DL.isNon_str, DL.isNon_tup, DL.ix_tup, DL.ix_lst, DL.ix_str, DL.ix_obj, DL.atI_0, DL.atI_1, DL.atI_2, DL.atI_3, DL.len_tup, DL.len_lst, DL.len_str, DL.len_obj, DL.ty_obj, DL.ty_str, DL.ty_lst, DL.append_obj, DL.pop_obj, DL.set_obj, DL.ixN_3_2, DL.tuple_obj, DL.tuple_lst, DL.list_tup, DL.list_lst, DL.sl_str, DL.sl_tup, DL.sl_lst, DL.rev_tup, DL.revM_lst, DL.sum_lst, DL.put_same, DL.startD, DL.pick, List.map_cons, List.map_nil, List.replicate, List.cons_append, List.nil_append, List.append_nil, List.length_cons, List.length_nil, List.getElem?_cons_zero, List.getElem?_cons_succ, List.set_cons_zero, List.set_cons_succ, List.filterMap_cons, List.filterMap_nil, Nat.zero_add, Nat.add_zero, Nat.reduceAdd, Nat.reduceSub, true_and, and_true, id_eq, if_true, if_false, Bool.false_eq_true, Bool.not_true, Bool.not_false]
  refine for_w (fun i ρ μ' => μ' = μ ∧ ∃ o3 o4 o5, ρ = [some (.tup [.int k, loD ds, hiD ds, .int (blD ds)]), some (.tup ds), some (.lst tests), o3, o4, o5]) tests ?_ ?_ _ _ ⟨rfl, none, none, none, rfl⟩
  · intro i t ρ μ1 R hx hI hR _
    obtain ⟨rfl, o3, o4, o5, rfl⟩ := hI
    have hm : t ∈ tests := List.mem_of_getElem? hx
    obtain ⟨c, w, due, rfl, hc, hw, hd⟩ := ht t hm
    obtain ⟨l1, l2⟩ := sound_law hs hsc hd hw
    refine ⟨trivial, ?_⟩
    simp only [DL.x_bnd, DL.x_ret, DL.x_req, DL.x_get, DL.x_opt, DL.x_seq, DL.x_or, DL.x_ob, DL.x_oc, DL.x_nil, DL.x_rt, DL.x_rtN, DL.x_drop, DL.x_break, DL.x_cont, DL.x_if, DL.x_ift, DL.x_iff, DL.x_set, DL.x_asg, DL.x_par2, DL.x_par3, DL.x_for, DL.x_v0, DL.x_vS, DL.x_c, DL.x_bin, DL.x_un, DL.x_tbin, DL.x_tru, DL.x_trb, DL.x_not, DL.x_tand, DL.x_tor, DL.x_and, DL.x_orE, DL.x_notE, DL.x_ifE, DL.x_tup, DL.x_lst, DL.x_lstM, DL.x_anil, DL.x_acons, DL.x_call, DL.x_callD, DL.x_callK, DL.x_meth, DL.x_sl, DL.x_oN, DL.x_oS, DL.x_gn, DL.x_gt, DL.x_gc, DL.x_g0, DL.x_gi, DL.x_body, DL.x_yes, DL.x_add, DL.x_addS, DL.x_addT, DL.x_addL, DL.x_sub, DL.x_mul, DL.x_div, DL.x_mod, DL.x_pow, DL.x_neg, DL.x_cmp, DL.x_cmpS, DL.x_isN, DL.x_mmL, DL.x_mm2, DL.x_eqS, DL.x_eqI, DL.x_intb, DL.onB_bl, DL.onI_int, DL.onO_nx, DL.onO_rt, DL.onL_ml, DL.addD_ol, DL.isNon_non, DL.isNon_int, DL.isNon_str, DL.isNon_tup, DL.ix_tup, DL.ix_lst, DL.ix_str, DL.ix_obj, DL.atI_0, DL.atI_1, DL.atI_2, DL.atI_3, DL.len_tup, DL.len_lst, DL.len_str, DL.len_obj, DL.ty_obj, DL.ty_str, DL.ty_lst, DL.append_obj, DL.pop_obj, DL.set_obj, DL.ixN_3_2, DL.tuple_obj, DL.tuple_lst, DL.list_tup, DL.list_lst, DL.sl_str, DL.sl_tup, DL.sl_lst, DL.rev_tup, DL.revM_lst, DL.sum_lst, DL.put_same, DL.startD, DL.pick, List.map_cons, List.map_nil, List.replicate, List.cons_append, List.nil_append, List.append_nil, List.length_cons, List.length_nil, List.getElem?_cons_zero, List.getElem?_cons_succ, List.set_cons_zero, List.set_cons_succ, List.filterMap_cons, List.filterMap_nil, Nat.zero_add, Nat.add_zero, Nat.reduceAdd, Nat.reduceSub, true_and, and_true, id_eq, if_true, if_false, Bool.false_eq_true, Bool.not_true, Bool.not_false]
    have g0 := gdL_of (ds := ds.filter (meetD w due)) fun x hx => by
      have := hsc x (List.mem_filter.mp hx).1
      exact ⟨this.good, this.flat⟩
    refine elc_nm (items := ds) (chk := fun _ => True) (meetD w due) id (fun R h => h) (Nat.lt_of_le_of_lt hl (by decide)) (fun _ _ _ => trivial) (fun x hx p acc hp R h => ?_) (fun x hx _ p acc hp R h => ?_) ?_
    · simp only [DL.x_bnd, DL.x_ret, DL.x_req, DL.x_get, DL.x_opt, DL.x_seq, DL.x_on, DL.x_or, DL.x_ob, DL.x_oc, DL.x_nil, DL.x_rt, DL.x_rtN, DL.x_drop, DL.x_break, DL.x_cont, DL.x_if, DL.x_ift, DL.x_iff, DL.x_set, DL.x_asg, DL.x_par2, DL.x_par3, DL.x_for, DL.x_v0, DL.x_vS, DL.x_c, DL.x_bin, DL.x_un, DL.x_tbin, DL.x_tru, DL.x_trb, DL.x_not, DL.x_tand, DL.x_tor, DL.x_and, DL.x_orE, DL.x_notE, DL.x_ifE, DL.x_tup, DL.x_lst, DL.x_lstM, DL.x_anil, DL.x_acons, DL.x_call, DL.x_callD, DL.x_callK, DL.x_meth, DL.x_sl, DL.x_oN, DL.x_oS, DL.x_gn, DL.x_gt, DL.x_gc, DL.x_g0, DL.x_gi, DL.x_body, DL.x_yes, DL.x_add, DL.x_addS, DL.x_addT, DL.x_addL, DL.x_sub, DL.x_mul, DL.x_div, DL.x_mod, DL.x_pow, DL.x_neg, DL.x_cmp, DL.x_cmpS, DL.x_isN, DL.x_mmL, DL.x_mm2, DL.x_eqS, DL.x_eqI, DL.x_intb, DL.onB_bl, DL.onI_int, DL.onO_nx, DL.onO_rt, DL.onL_ml, DL.addD_ol, DL.isNon_non, DL.isNon_int, DL.isNon_str, DL.isNon_tup, DL.ix_tup, DL.ix_lst, DL.ix_str, DL.ix_obj, DL.atI_0, DL.atI_1, DL.atI_2, DL.atI_3, DL.len_tup, DL.len_lst, DL.len_str, DL.len_obj, DL.ty_obj, DL.ty_str, DL.ty_lst, DL.append_obj, DL.pop_obj, DL.set_obj, DL.ixN_3_2, DL.tuple_obj, DL.tuple_lst, DL.list_tup, DL.list_lst, DL.sl_str, DL.sl_tup, DL.sl_lst, DL.rev_tup, DL.revM_lst, DL.sum_lst, DL.put_same, DL.startD, DL.pick, List.map_cons, List.map_nil, List.replicate, List.cons_append, List.nil_append, List.append_nil, List.length_cons, List.length_nil, List.getElem?_cons_zero, List.getElem?_cons_succ, List.set_cons_zero, List.set_cons_succ, List.filterMap_cons, List.filterMap_nil, Nat.zero_add, Nat.add_zero, Nat.reduceAdd, Nat.reduceSub, true_and, and_true, id_eq, if_true, if_false, Bool.false_eq_true, Bool.not_true, Bool.not_false, wipeD]
      refine meets_w hd (hsc x hx) ?_
      simp only [DL.x_bnd, DL.x_ret, DL.x_req, DL.x_get, DL.x_opt, DL.x_seq, DL.x_on, DL.x_or, DL.x_ob, DL.x_oc, DL.x_nil, DL.x_rt, DL.x_rtN, DL.x_drop, DL.x_break, DL.x_cont, DL.x_if, DL.x_ift, DL.x_iff, DL.x_set, DL.x_asg, DL.x_par2, DL.x_par3, DL.x_for, DL.x_v0, DL.x_vS, DL.x_c, DL.x_bin, DL.x_un, DL.x_tbin, DL.x_tru, DL.x_trb, DL.x_not, DL.x_tand, DL.x_tor, DL.x_and, DL.x_orE, DL.x_notE, DL.x_ifE, DL.x_tup, DL.x_lst, DL.x_lstM, DL.x_anil, DL.x_acons, DL.x_call, DL.x_callD, DL.x_callK, DL.x_meth, DL.x_sl, DL.x_oN, DL.x_oS, DL.x_gn, DL.x_gt, DL.x_gc, DL.x_g0, DL.x_gi, DL.x_body, DL.x_yes, DL.x_add, DL.x_addS, DL.x_addT, DL.x_addL, DL.x_sub, DL.x_mul, DL.x_div, DL.x_mod, DL.x_pow, DL.x_neg, DL.x_cmp, DL.x_cmpS, DL.x_isN, DL.x_mmL, DL.x_mm2, DL.x_eqS, DL.x_eqI, DL.x_intb, DL.onB_bl, DL.onI_int, DL.onO_nx, DL.onO_rt, DL.onL_ml, DL.addD_ol, DL.isNon_non, DL.isNon_int, DL.isNon_str, DL.isNon_tup, DL.ix_tup, DL.ix_lst, DL.ix_str, DL.ix_obj, DL.atI_0, DL.atI_1, DL.atI_2, DL.atI_3, DL.len_tup, DL.len_lst, DL.len_str, DL.len_obj, DL.ty_obj, DL.ty_str, DL.ty_lst, DL.append_obj, DL.pop_obj, DL.set_obj, DL.ixN_3_2, DL.tuple_obj, DL.tuple_lst, DL.list_tup, DL.list_lst, DL.sl_str, DL.sl_tup, DL.sl_lst, DL.rev_tup, DL.revM_lst, DL.sum_lst, DL.put_same, DL.startD, DL.pick, List.map_cons, List.map_nil, List.replicate, List.cons_append, List.nil_append, List.append_nil, List.length_cons, List.length_nil, List.getElem?_cons_zero, List.getElem?_cons_succ, List.set_cons_zero, List.set_cons_succ, List.filterMap_cons, List.filterMap_nil, Nat.zero_add, Nat.add_zero, Nat.reduceAdd, Nat.reduceSub, true_and, and_true, id_eq, if_true, if_false, Bool.false_eq_true, Bool.not_true, Bool.not_false]
      exact h
    · simp only [DL.x_bnd, DL.x_ret, DL.x_req, DL.x_get, DL.x_opt, DL.x_seq, DL.x_on, DL.x_or, DL.x_ob, DL.x_oc, DL.x_nil, DL.x_rt, DL.x_rtN, DL.x_drop, DL.x_break, DL.x_cont, DL.x_if, DL.x_ift, DL.x_iff, DL.x_set, DL.x_asg, DL.x_par2, DL.x_par3, DL.x_for, DL.x_v0, DL.x_vS, DL.x_c, DL.x_bin, DL.x_un, DL.x_tbin, DL.x_tru, DL.x_trb, DL.x_not, DL.x_tand, DL.x_tor, DL.x_and, DL.x_orE, DL.x_notE, DL.x_ifE, DL.x_tup, DL.x_lst, DL.x_lstM, DL.x_anil, DL.x_acons, DL.x_call, DL.x_callD, DL.x_callK, DL.x_meth, DL.x_sl, DL.x_oN, DL.x_oS, DL.x_gn, DL.x_gt, DL.x_gc, DL.x_g0, DL.x_gi, DL.x_body, DL.x_yes, DL.x_add, DL.x_addS, DL.x_addT, DL.x_addL, DL.x_sub, DL.x_mul, DL.x_div, DL.x_mod, DL.x_pow, DL.x_neg, DL.x_cmp, DL.x_cmpS, DL.x_isN, DL.x_mmL, DL.x_mm2, DL.x_eqS, DL.x_eqI, DL.x_intb, DL.onB_bl, DL.onI_int, DL.onO_nx, DL.onO_rt, DL.onL_ml, DL.addD_ol, DL.isNon_non, DL.isNon_int, DL.isNon_str, DL.isNon_tup, DL.ix_tup, DL.ix_lst, DL.ix_str, DL.ix_obj, DL.atI_0, DL.atI_1, DL.atI_2, DL.atI_3, DL.len_tup, DL.len_lst, DL.len_str, DL.len_obj, DL.ty_obj, DL.ty_str, DL.ty_lst, DL.append_obj, DL.pop_obj, DL.set_obj, DL.ixN_3_2, DL.tuple_obj, DL.tuple_lst, DL.list_tup, DL.list_lst, DL.sl_str, DL.sl_tup, DL.sl_lst, DL.rev_tup, DL.revM_lst, DL.sum_lst, DL.put_same, DL.startD, DL.pick, List.map_cons, List.map_nil, List.replicate, List.cons_append, List.nil_append, List.append_nil, List.length_cons, List.length_nil, List.getElem?_cons_zero, List.getElem?_cons_succ, List.set_cons_zero, List.set_cons_succ, List.filterMap_cons, List.filterMap_nil, Nat.zero_add, Nat.add_zero, Nat.reduceAdd, Nat.reduceSub, true_and, and_true, id_eq, if_true, if_false, Bool.false_eq_true, Bool.not_true, Bool.not_false, wipeD]
      exact h
    · rw [List.map_id]
      refine ⟨by decide, eq_nil_w g0.1 (by rw [g0.2]; decide) ?_⟩
      rw [x_on]
      have fin : R (.nx [some (.tup [.int k, loD ds, hiD ds, .int (blD ds)]), some (.tup ds), some (.lst tests), some (.tup [.int c, .str w, due]), some (.bl (!decide (ds.filter (meetD w due) = []))), o5]) μ1 := hR _ _ ⟨rfl, _, _, _, rfl⟩
      simp only [DL.x_bnd, DL.x_ret, DL.x_req, DL.x_get, DL.x_opt, DL.x_seq, DL.x_on, DL.x_or, DL.x_ob, DL.x_oc, DL.x_nil, DL.x_rt, DL.x_rtN, DL.x_drop, DL.x_break, DL.x_cont, DL.x_if, DL.x_ift, DL.x_iff, DL.x_set, DL.x_asg, DL.x_par2, DL.x_par3, DL.x_for, DL.x_v0, DL.x_vS, DL.x_c, DL.x_bin, DL.x_un, DL.x_tbin, DL.x_tru, DL.x_trb, DL.x_not, DL.x_tand, DL.x_tor, DL.x_and, DL.x_orE, DL.x_notE, DL.x_ifE, DL.x_tup, DL.x_lst, DL.x_lstM, DL.x_anil, DL.x_acons, DL.x_call, DL.x_callD, DL.x_callK, DL.x_meth, DL.x_sl, DL.x_oN, DL.x_oS, DL.x_gn, DL.x_gt, DL.x_gc, DL.x_g0, DL.x_gi, DL.x_body, DL.x_yes, DL.x_add, DL.x_addS, DL.x_addT, DL.x_addL, DL.x_sub, DL.x_mul, DL.x_div, DL.x_mod, DL.x_pow, DL.x_neg, DL.x_cmp, DL.x_cmpS, DL.x_isN, DL.x_mmL, DL.x_mm2, DL.x_eqS, DL.x_eqI, DL.x_intb, DL.onB_bl, DL.onI_int, DL.onO_nx, DL.onO_rt, DL.onL_ml, DL.addD_ol, DL.isNon_non, DL.isNon_int, DL.isNon_str, DL.isNon_tup, DL.ix_tup, DL.ix_lst, DL.ix_str, DL.ix_obj, DL.atI_0, DL.atI_1, DL.atI_2, DL.atI_3, DL.len_tup, DL.len_lst, DL.len_str, DL.len_obj, DL.ty_obj, DL.ty_str, DL.ty_lst, DL.append_obj, DL.pop_obj, DL.set_obj, DL.ixN_3_2, DL.tuple_obj, DL.tuple_lst, DL.list_tup, DL.list_lst, DL.sl_str, DL.sl_tup, DL.sl_lst, DL.rev_tup, DL.revM_lst, DL.sum_lst, DL.put_same, DL.startD, DL.pick, List.map_cons, List.map_nil, List.replicate, List.cons_append, List.nil_append, List.append_nil, List.length_cons, List.length_nil, List.getElem?_cons_zero, List.getElem?_cons_succ, List.set_cons_zero, List.set_cons_succ, List.filterMap_cons, List.filterMap_nil, Nat.zero_add, Nat.add_zero, Nat.reduceAdd, Nat.reduceSub, true_and, and_true, id_eq, if_true, if_false, Bool.false_eq_true, Bool.not_true, Bool.not_false]
      by_cases he : ds.filter (meetD w due) = []
      · have he' := filter_nil.mp he
        simp only [decide_eq_true he, DL.x_bnd, DL.x_ret, DL.x_req, DL.x_get, DL.x_opt, DL.x_seq, DL.x_on, DL.x_or, DL.x_ob, DL.x_oc, DL.x_nil, DL.x_rt, DL.x_rtN, DL.x_drop, DL.x_break, DL.x_cont, DL.x_if, DL.x_ift, DL.x_iff, DL.x_set, DL.x_asg, DL.x_par2, DL.x_par3, DL.x_for, DL.x_v0, DL.x_vS, DL.x_c, DL.x_bin, DL.x_un, DL.x_tbin, DL.x_tru, DL.x_trb, DL.x_not, DL.x_tand, DL.x_tor, DL.x_and, DL.x_orE, DL.x_notE, DL.x_ifE, DL.x_tup, DL.x_lst, DL.x_lstM, DL.x_anil, DL.x_acons, DL.x_call, DL.x_callD, DL.x_callK, DL.x_meth, DL.x_sl, DL.x_oN, DL.x_oS, DL.x_gn, DL.x_gt, DL.x_gc, DL.x_g0, DL.x_gi, DL.x_body, DL.x_yes, DL.x_add, DL.x_addS, DL.x_addT, DL.x_addL, DL.x_sub, DL.x_mul, DL.x_div, DL.x_mod, DL.x_pow, DL.x_neg, DL.x_cmp, DL.x_cmpS, DL.x_isN, DL.x_mmL, DL.x_mm2, DL.x_eqS, DL.x_eqI, DL.x_intb, DL.onB_bl, DL.onI_int, DL.onO_nx, DL.onO_rt, DL.onL_ml, DL.addD_ol, DL.isNon_non, DL.isNon_int, DL.isNon_str, DL.isNon_tup, DL.ix_tup, DL.ix_lst, DL.ix_str, DL.ix_obj, DL.atI_0, DL.atI_1, DL.atI_2, DL.atI_3, DL.len_tup, DL.len_lst, DL.len_str, DL.len_obj, DL.ty_obj, DL.ty_str, DL.ty_lst, DL.append_obj, DL.pop_obj, DL.set_obj, DL.ixN_3_2, DL.tuple_obj, DL.tuple_lst, DL.list_tup, DL.list_lst, DL.sl_str, DL.sl_tup, DL.sl_lst, DL.rev_tup, DL.revM_lst, DL.sum_lst, DL.put_same, DL.startD, DL.pick, List.map_cons, List.map_nil, List.replicate, List.cons_append, List.nil_append, List.append_nil, List.length_cons, List.length_nil, List.getElem?_cons_zero, List.getElem?_cons_succ, List.set_cons_zero, List.set_cons_succ, List.filterMap_cons, List.filterMap_nil, Nat.zero_add, Nat.add_zero, Nat.reduceAdd, Nat.reduceSub, true_and, and_true, id_eq, if_true, if_false, Bool.false_eq_true, Bool.not_true, Bool.not_false] at fin ⊢
        refine may_w sp hd ?_
        cases hmay : mayD (loD ds) (hiD ds) (blD ds) w due with
        | false => simp only [DL.x_bnd, DL.x_ret, DL.x_req, DL.x_get, DL.x_opt, DL.x_seq, DL.x_on, DL.x_or, DL.x_ob, DL.x_oc, DL.x_nil, DL.x_rt, DL.x_rtN, DL.x_drop, DL.x_break, DL.x_cont, DL.x_if, DL.x_ift, DL.x_iff, DL.x_set, DL.x_asg, DL.x_par2, DL.x_par3, DL.x_for, DL.x_v0, DL.x_vS, DL.x_c, DL.x_bin, DL.x_un, DL.x_tbin, DL.x_tru, DL.x_trb, DL.x_not, DL.x_tand, DL.x_tor, DL.x_and, DL.x_orE, DL.x_notE, DL.x_ifE, DL.x_tup, DL.x_lst, DL.x_lstM, DL.x_anil, DL.x_acons, DL.x_call, DL.x_callD, DL.x_callK, DL.x_meth, DL.x_sl, DL.x_oN, DL.x_oS, DL.x_gn, DL.x_gt, DL.x_gc, DL.x_g0, DL.x_gi, DL.x_body, DL.x_yes, DL.x_add, DL.x_addS, DL.x_addT, DL.x_addL, DL.x_sub, DL.x_mul, DL.x_div, DL.x_mod, DL.x_pow, DL.x_neg, DL.x_cmp, DL.x_cmpS, DL.x_isN, DL.x_mmL, DL.x_mm2, DL.x_eqS, DL.x_eqI, DL.x_intb, DL.onB_bl, DL.onI_int, DL.onO_nx, DL.onO_rt, DL.onL_ml, DL.addD_ol, DL.isNon_non, DL.isNon_int, DL.isNon_str, DL.isNon_tup, DL.ix_tup, DL.ix_lst, DL.ix_str, DL.ix_obj, DL.atI_0, DL.atI_1, DL.atI_2, DL.atI_3, DL.len_tup, DL.len_lst, DL.len_str, DL.len_obj, DL.ty_obj, DL.ty_str, DL.ty_lst, DL.append_obj, DL.pop_obj, DL.set_obj, DL.ixN_3_2, DL.tuple_obj, DL.tuple_lst, DL.list_tup, DL.list_lst, DL.sl_str, DL.sl_tup, DL.sl_lst, DL.rev_tup, DL.revM_lst, DL.sum_lst, DL.put_same, DL.startD, DL.pick, List.map_cons, List.map_nil, List.replicate, List.cons_append, List.nil_append, List.append_nil, List.length_cons, List.length_nil, List.getElem?_cons_zero, List.getElem?_cons_succ, List.set_cons_zero, List.set_cons_succ, List.filterMap_cons, List.filterMap_nil, Nat.zero_add, Nat.add_zero, Nat.reduceAdd, Nat.reduceSub, true_and, and_true, id_eq, if_true, if_false, Bool.false_eq_true, Bool.not_true, Bool.not_false]; exact fin
        | true =>
          obtain ⟨rfl, h2⟩ := l2 hmay he'
          simp only [DL.x_bnd, DL.x_ret, DL.x_req, DL.x_get, DL.x_opt, DL.x_seq, DL.x_on, DL.x_or, DL.x_ob, DL.x_oc, DL.x_nil, DL.x_rt, DL.x_rtN, DL.x_drop, DL.x_break, DL.x_cont, DL.x_if, DL.x_ift, DL.x_iff, DL.x_set, DL.x_asg, DL.x_par2, DL.x_par3, DL.x_for, DL.x_v0, DL.x_vS, DL.x_c, DL.x_bin, DL.x_un, DL.x_tbin, DL.x_tru, DL.x_trb, DL.x_not, DL.x_tand, DL.x_tor, DL.x_and, DL.x_orE, DL.x_notE, DL.x_ifE, DL.x_tup, DL.x_lst, DL.x_lstM, DL.x_anil, DL.x_acons, DL.x_call, DL.x_callD, DL.x_callK, DL.x_meth, DL.x_sl, DL.x_oN, DL.x_oS, DL.x_gn, DL.x_gt, DL.x_gc, DL.x_g0, DL.x_gi, DL.x_body, DL.x_yes, DL.x_add, DL.x_addS, DL.x_addT, DL.x_addL, DL.x_sub, DL.x_mul, DL.x_div, DL.x_mod, DL.x_pow, DL.x_neg, DL.x_cmp, DL.x_cmpS, DL.x_isN, DL.x_mmL, DL.x_mm2, DL.x_eqS, DL.x_eqI, DL.x_intb, DL.onB_bl, DL.onI_int, DL.onO_nx, DL.onO_rt, DL.onL_ml, DL.addD_ol, DL.isNon_non, DL.isNon_int, DL.isNon_str, DL.isNon_tup, DL.ix_tup, DL.ix_lst, DL.ix_str, DL.ix_obj, DL.atI_0, DL.atI_1, DL.atI_2, DL.atI_3, DL.len_tup, DL.len_lst, DL.len_str, DL.len_obj, DL.ty_obj, DL.ty_str, DL.ty_lst, DL.append_obj, DL.pop_obj, DL.set_obj, DL.ixN_3_2, DL.tuple_obj, DL.tuple_lst, DL.list_tup, DL.list_lst, DL.sl_str, DL.sl_tup, DL.sl_lst, DL.rev_tup, DL.revM_lst, DL.sum_lst, DL.put_same, DL.startD, DL.pick, List.map_cons, List.map_nil, List.replicate, List.cons_append, List.nil_append, List.append_nil, List.length_cons, List.length_nil, List.getElem?_cons_zero, List.getElem?_cons_succ, List.set_cons_zero, List.set_cons_succ, List.filterMap_cons, List.filterMap_nil, Nat.zero_add, Nat.add_zero, Nat.reduceAdd, Nat.reduceSub, true_and, and_true, id_eq, if_true, if_false, Bool.false_eq_true, Bool.not_true, Bool.not_false, beq_self_eq_true]
          refine eqsc_w sp.slo sp.shi ?_
          simp only [h2, DL.x_bnd, DL.x_ret, DL.x_req, DL.x_get, DL.x_opt, DL.x_seq, DL.x_on, DL.x_or, DL.x_ob, DL.x_oc, DL.x_nil, DL.x_rt, DL.x_rtN, DL.x_drop, DL.x_break, DL.x_cont, DL.x_if, DL.x_ift, DL.x_iff, DL.x_set, DL.x_asg, DL.x_par2, DL.x_par3, DL.x_for, DL.x_v0, DL.x_vS, DL.x_c, DL.x_bin, DL.x_un, DL.x_tbin, DL.x_tru, DL.x_trb, DL.x_not, DL.x_tand, DL.x_tor, DL.x_and, DL.x_orE, DL.x_notE, DL.x_ifE, DL.x_tup, DL.x_lst, DL.x_lstM, DL.x_anil, DL.x_acons, DL.x_call, DL.x_callD, DL.x_callK, DL.x_meth, DL.x_sl, DL.x_oN, DL.x_oS, DL.x_gn, DL.x_gt, DL.x_gc, DL.x_g0, DL.x_gi, DL.x_body, DL.x_yes, DL.x_add, DL.x_addS, DL.x_addT, DL.x_addL, DL.x_sub, DL.x_mul, DL.x_div, DL.x_mod, DL.x_pow, DL.x_neg, DL.x_cmp, DL.x_cmpS, DL.x_isN, DL.x_mmL, DL.x_mm2, DL.x_eqS, DL.x_eqI, DL.x_intb, DL.onB_bl, DL.onI_int, DL.onO_nx, DL.onO_rt, DL.onL_ml, DL.addD_ol, DL.isNon_non, DL.isNon_int, DL.isNon_str, DL.isNon_tup, DL.ix_tup, DL.ix_lst, DL.ix_str, DL.ix_obj, DL.atI_0, DL.atI_1, DL.atI_2, DL.atI_3, DL.len_tup, DL.len_lst, DL.len_str, DL.len_obj, DL.ty_obj, DL.ty_str, DL.ty_lst, DL.append_obj, DL.pop_obj, DL.set_obj, DL.ixN_3_2, DL.tuple_obj, DL.tuple_lst, DL.list_tup, DL.list_lst, DL.sl_str, DL.sl_tup, DL.sl_lst, DL.rev_tup, DL.revM_lst, DL.sum_lst, DL.put_same, DL.startD, DL.pick, List.map_cons, List.map_nil, List.replicate, List.cons_append, List.nil_append, List.append_nil, List.length_cons, List.length_nil, List.getElem?_cons_zero, List.getElem?_cons_succ, List.set_cons_zero, List.set_cons_succ, List.filterMap_cons, List.filterMap_nil, Nat.zero_add, Nat.add_zero, Nat.reduceAdd, Nat.reduceSub, true_and, and_true, id_eq, if_true, if_false, Bool.false_eq_true, Bool.not_true, Bool.not_false]
          exact fin
      · have he' : ∃ x ∈ ds, meetD w due x = true := Classical.byContradiction fun h => he (filter_nil.mpr h)
        have hmay := l1 he'
        simp only [decide_eq_false he, DL.x_bnd, DL.x_ret, DL.x_req, DL.x_get, DL.x_opt, DL.x_seq, DL.x_on, DL.x_or, DL.x_ob, DL.x_oc, DL.x_nil, DL.x_rt, DL.x_rtN, DL.x_drop, DL.x_break, DL.x_cont, DL.x_if, DL.x_ift, DL.x_iff, DL.x_set, DL.x_asg, DL.x_par2, DL.x_par3, DL.x_for, DL.x_v0, DL.x_vS, DL.x_c, DL.x_bin, DL.x_un, DL.x_tbin, DL.x_tru, DL.x_trb, DL.x_not, DL.x_tand, DL.x_tor, DL.x_and, DL.x_orE, DL.x_notE, DL.x_ifE, DL.x_tup, DL.x_lst, DL.x_lstM, DL.x_anil, DL.x_acons, DL.x_call, DL.x_callD, DL.x_callK, DL.x_meth, DL.x_sl, DL.x_oN, DL.x_oS, DL.x_gn, DL.x_gt, DL.x_gc, DL.x_g0, DL.x_gi, DL.x_body, DL.x_yes, DL.x_add, DL.x_addS, DL.x_addT, DL.x_addL, DL.x_sub, DL.x_mul, DL.x_div, DL.x_mod, DL.x_pow, DL.x_neg, DL.x_cmp, DL.x_cmpS, DL.x_isN, DL.x_mmL, DL.x_mm2, DL.x_eqS, DL.x_eqI, DL.x_intb, DL.onB_bl, DL.onI_int, DL.onO_nx, DL.onO_rt, DL.onL_ml, DL.addD_ol, DL.isNon_non, DL.isNon_int, DL.isNon_str, DL.isNon_tup, DL.ix_tup, DL.ix_lst, DL.ix_str, DL.ix_obj, DL.atI_0, DL.atI_1, DL.atI_2, DL.atI_3, DL.len_tup, DL.len_lst, DL.len_str, DL.len_obj, DL.ty_obj, DL.ty_str, DL.ty_lst, DL.append_obj, DL.pop_obj, DL.set_obj, DL.ixN_3_2, DL.tuple_obj, DL.tuple_lst, DL.list_tup, DL.list_lst, DL.sl_str, DL.sl_tup, DL.sl_lst, DL.rev_tup, DL.revM_lst, DL.sum_lst, DL.put_same, DL.startD, DL.pick, List.map_cons, List.map_nil, List.replicate, List.cons_append, List.nil_append, List.append_nil, List.length_cons, List.length_nil, List.getElem?_cons_zero, List.getElem?_cons_succ, List.set_cons_zero, List.set_cons_succ, List.filterMap_cons, List.filterMap_nil, Nat.zero_add, Nat.add_zero, Nat.reduceAdd, Nat.reduceSub, true_and, and_true, id_eq, if_true, if_false, Bool.false_eq_true, Bool.not_true, Bool.not_false] at fin ⊢
        refine may_w sp hd ?_
        simp only [hmay, DL.x_bnd, DL.x_ret, DL.x_req, DL.x_get, DL.x_opt, DL.x_seq, DL.x_on, DL.x_or, DL.x_ob, DL.x_oc, DL.x_nil, DL.x_rt, DL.x_rtN, DL.x_drop, DL.x_break, DL.x_cont, DL.x_if, DL.x_ift, DL.x_iff, DL.x_set, DL.x_asg, DL.x_par2, DL.x_par3, DL.x_for, DL.x_v0, DL.x_vS, DL.x_c, DL.x_bin, DL.x_un, DL.x_tbin, DL.x_tru, DL.x_trb, DL.x_not, DL.x_tand, DL.x_tor, DL.x_and, DL.x_orE, DL.x_notE, DL.x_ifE, DL.x_tup, DL.x_lst, DL.x_lstM, DL.x_anil, DL.x_acons, DL.x_call, DL.x_callD, DL.x_callK, DL.x_meth, DL.x_sl, DL.x_oN, DL.x_oS, DL.x_gn, DL.x_gt, DL.x_gc, DL.x_g0, DL.x_gi, DL.x_body, DL.x_yes, DL.x_add, DL.x_addS, DL.x_addT, DL.x_addL, DL.x_sub, DL.x_mul, DL.x_div, DL.x_mod, DL.x_pow, DL.x_neg, DL.x_cmp, DL.x_cmpS, DL.x_isN, DL.x_mmL, DL.x_mm2, DL.x_eqS, DL.x_eqI, DL.x_intb, DL.onB_bl, DL.onI_int, DL.onO_nx, DL.onO_rt, DL.onL_ml, DL.addD_ol, DL.isNon_non, DL.isNon_int, DL.isNon_str, DL.isNon_tup, DL.ix_tup, DL.ix_lst, DL.ix_str, DL.ix_obj, DL.atI_0, DL.atI_1, DL.atI_2, DL.atI_3, DL.len_tup, DL.len_lst, DL.len_str, DL.len_obj, DL.ty_obj, DL.ty_str, DL.ty_lst, DL.append_obj, DL.pop_obj, DL.set_obj, DL.ixN_3_2, DL.tuple_obj, DL.tuple_lst, DL.list_tup, DL.list_lst, DL.sl_str, DL.sl_tup, DL.sl_lst, DL.rev_tup, DL.revM_lst, DL.sum_lst, DL.put_same, DL.startD, DL.pick, List.map_cons, List.map_nil, List.replicate, List.cons_append, List.nil_append, List.append_nil, List.length_cons, List.length_nil, List.getElem?_cons_zero, List.getElem?_cons_succ, List.set_cons_zero, List.set_cons_succ, List.filterMap_cons, List.filterMap_nil, Nat.zero_add, Nat.add_zero, Nat.reduceAdd, Nat.reduceSub, true_and, and_true, id_eq, if_true, if_false, Bool.false_eq_true, Bool.not_true, Bool.not_false]
        refine may_w sp hd ?_
        simp only [hmay, DL.x_bnd, DL.x_ret, DL.x_req, DL.x_get, DL.x_opt, DL.x_seq, DL.x_on, DL.x_or, DL.x_ob, DL.x_oc, DL.x_nil, DL.x_rt, DL.x_rtN, DL.x_drop, DL.x_break, DL.x_cont, DL.x_if, DL.x_ift, DL.x_iff, DL.x_set, DL.x_asg, DL.x_par2, DL.x_par3, DL.x_for, DL.x_v0, DL.x_vS, DL.x_c, DL.x_bin, DL.x_un, DL.x_tbin, DL.x_tru, DL.x_trb, DL.x_not, DL.x_tand, DL.x_tor, DL.x_and, DL.x_orE, DL.x_notE, DL.x_ifE, DL.x_tup, DL.x_lst, DL.x_lstM, DL.x_anil, DL.x_acons, DL.x_call, DL.x_callD, DL.x_callK, DL.x_meth, DL.x_sl, DL.x_oN, DL.x_oS, DL.x_gn, DL.x_gt, DL.x_gc, DL.x_g0, DL.x_gi, DL.x_body, DL.x_yes, DL.x_add, DL.x_addS, DL.x_addT, DL.x_addL, DL.x_sub, DL.x_mul, DL.x_div, DL.x_mod, DL.x_pow, DL.x_neg, DL.x_cmp, DL.x_cmpS, DL.x_isN, DL.x_mmL, DL.x_mm2, DL.x_eqS, DL.x_eqI, DL.x_intb, DL.onB_bl, DL.onI_int, DL.onO_nx, DL.onO_rt, DL.onL_ml, DL.addD_ol, DL.isNon_non, DL.isNon_int, DL.isNon_str, DL.isNon_tup, DL.ix_tup, DL.ix_lst, DL.ix_str, DL.ix_obj, DL.atI_0, DL.atI_1, DL.atI_2, DL.atI_3, DL.len_tup, DL.len_lst, DL.len_str, DL.len_obj, DL.ty_obj, DL.ty_str, DL.ty_lst, DL.append_obj, DL.pop_obj, DL.set_obj, DL.ixN_3_2, DL.tuple_obj, DL.tuple_lst, DL.list_tup, DL.list_lst, DL.sl_str, DL.sl_tup, DL.sl_lst, DL.rev_tup, DL.revM_lst, DL.sum_lst, DL.put_same, DL.startD, DL.pick, List.map_cons, List.map_nil, List.replicate, List.cons_append, List.nil_append, List.append_nil, List.length_cons, List.length_nil, List.getElem?_cons_zero, List.getElem?_cons_succ, List.set_cons_zero, List.set_cons_succ, List.filterMap_cons, List.filterMap_nil, Nat.zero_add, Nat.add_zero, Nat.reduceAdd, Nat.reduceSub, true_and, and_true, id_eq, if_true, if_false, Bool.false_eq_true, Bool.not_true, Bool.not_false]
        exact fin
  · rintro ρ μ1 ⟨rfl, o3, o4, o5, rfl⟩
    refine ⟨trivial, ?_⟩
    simp only [DL.x_bnd, DL.x_ret, DL.x_req, DL.x_get, DL.x_opt, DL.x_seq, DL.x_on, DL.x_or, DL.x_ob, DL.x_oc, DL.x_nil, DL.x_rt, DL.x_rtN, DL.x_drop, DL.x_break, DL.x_cont, DL.x_if, DL.x_ift, DL.x_iff, DL.x_set, DL.x_asg, DL.x_par2, DL.x_par3, DL.x_for, DL.x_v0, DL.x_vS, DL.x_c, DL.x_bin, DL.x_un, DL.x_tbin, DL.x_tru, DL.x_trb, DL.x_not, DL.x_tand, DL.x_tor, DL.x_and, DL.x_orE, DL.x_notE, DL.x_ifE, DL.x_tup, DL.x_lst, DL.x_lstM, DL.x_anil, DL.x_acons, DL.x_call, DL.x_callD, DL.x_callK, DL.x_meth, DL.x_sl, DL.x_oN, DL.x_oS, DL.x_gn, DL.x_gt, DL.x_gc, DL.x_g0, DL.x_gi, DL.x_body, DL.x_yes, DL.x_add, DL.x_addS, DL.x_addT, DL.x_addL, DL.x_sub, DL.x_mul, DL.x_div, DL.x_mod, DL.x_pow, DL.x_neg, DL.x_cmp, DL.x_cmpS, DL.x_isN, DL.x_mmL, DL.x_mm2, DL.x_eqS, DL.x_eqI, DL.x_intb, DL.onB_bl, DL.onI_int, DL.onO_nx, DL.onO_rt, DL.onL_ml, DL.addD_ol, DL.isNon_non, DL.isNon_int, DL.isNon_str, DL.isNon_tup, DL.ix_tup, DL.ix_lst, DL.ix_str, DL.ix_obj, DL.atI_0, DL.atI_1, DL.atI_2, DL.atI_3, DL.len_tup, DL.len_lst, DL.len_str, DL.len_obj, DL.ty_obj, DL.ty_str, DL.ty_lst, DL.append_obj, DL.pop_obj, DL.set_obj, DL.ixN_3_2, DL.tuple_obj, DL.tuple_lst, DL.list_tup, DL.list_lst, DL.sl_str, DL.sl_tup, DL.sl_lst, DL.rev_tup, DL.revM_lst, DL.sum_lst, DL.put_same, DL.startD, DL.pick, List.map_cons, List.map_nil, List.replicate, List.cons_append, List.nil_append, List.append_nil, List.length_cons, List.length_nil, List.getElem?_cons_zero, List.getElem?_cons_succ, List.set_cons_zero, List.set_cons_succ, List.filterMap_cons, List.filterMap_nil, Nat.zero_add, Nat.add_zero, Nat.reduceAdd, Nat.reduceSub, true_and, and_true, id_eq, if_true, if_false, Bool.false_eq_true, Bool.not_true, Bool.not_false]
    exact q
theorem right_w {k bl : Int} {lo hi : D} {tests : List D} {μ : Mem} {Q : D → Mem → Prop} {E : XD} (sp : Sp lo hi bl) (hk : k.natAbs < 1000) (ht : ∀ t ∈ tests, Ts t) (q : Q (.bl true) μ) :
    m__law_right [.tup [.int k, lo, hi, .int bl], .lst tests] μ Q E := by
  simp only [m__law_right, b__law_right, DL.x_bnd, DL.x_ret, DL.x_req, DL.x_get, DL.x_opt, DL.x_seq, DL.x_or, DL.x_ob, DL.x_oc, DL.x_nil, DL.x_rt, DL.x_rtN, DL.x_drop, DL.x_break, DL.x_cont, DL.x_if, DL.x_ift, DL.x_iff, DL.x_set, DL.x_asg, DL.x_par2, DL.x_par3, DL.x_for, DL.x_v0, DL.x_vS, DL.x_c, DL.x_bin, DL.x_un, DL.x_tbin, DL.x_tru, DL.x_trb, DL.x_not, DL.x_tand, DL.x_tor, DL.x_and, DL.x_orE, DL.x_notE, DL.x_ifE, DL.x_tup, DL.x_lst, DL.x_lstM, DL.x_anil, DL.x_acons, DL.x_call, DL.x_callD, DL.x_callK, DL.x_meth, DL.x_sl, DL.x_oN, DL.x_oS, DL.x_gn, DL.x_gt, DL.x_gc, DL.x_g0, DL.x_gi, DL.x_body, DL.x_yes, DL.x_add, DL.x_addS, DL.x_addT, DL.x_addL, DL.x_sub, DL.x_mul, DL.x_div, DL.x_mod, DL.x_pow, DL.x_neg, DL.x_cmp, DL.x_cmpS, DL.x_isN, DL.x_mmL, DL.x_mm2, DL.x_eqS, DL.x_eqI, DL.x_intb, DL.onB_bl, DL.onI_int, DL.onO_nx, DL.onO_rt, DL.onL_ml, DL.addD_ol, DL.isNon_non, DL.isNon_int, DL.isNon_str, DL.isNon_tup, DL.ix_tup, DL.ix_lst, DL.ix_str, DL.ix_obj, DL.atI_0, DL.atI_1, DL.atI_2, DL.atI_3, DL.len_tup, DL.len_lst, DL.len_str, DL.len_obj, DL.ty_obj, DL.ty_str, DL.ty_lst, DL.append_obj, DL.pop_obj, DL.set_obj, DL.ixN_3_2, DL.tuple_obj, DL.tuple_lst, DL.list_tup, DL.list_lst, DL.sl_str, DL.sl_tup, DL.sl_lst, DL.rev_tup, DL.revM_lst, DL.sum_lst, DL.put_same, DL.startD, DL.pick, List.map_cons, List.map_nil, List.replicate, List.cons_append, List.nil_append, List.append_nil, List.length_cons, List.length_nil, List.getElem?_cons_zero, List.getElem?_cons_succ, List.set_cons_zero, List.set_cons_succ, List.filterMap_cons, List.filterMap_nil, Nat.zero_add, Nat.add_zero, Nat.reduceAdd, Nat.reduceSub, true_and, and_true, id_eq, if_true, if_false, Bool.false_eq_true, Bool.not_true, Bool.not_false]
  refine for_w (fun i ρ μ' => μ' = μ ∧ ∃ o2 o3 o4 o5, ρ = [some (.tup [.int k, lo, hi, .int bl]), some (.lst tests), o2, o3, o4, o5]) tests ?_ ?_ _ _ ⟨rfl, none, none, none, none, rfl⟩
  · intro i t ρ μ1 R hx hI hR _
    obtain ⟨rfl, o2, o3, o4, o5, rfl⟩ := hI
    have hm : t ∈ tests := List.mem_of_getElem? hx
    obtain ⟨c, w, due, rfl, hc, hw, hd⟩ := ht t hm
    obtain ⟨w1, w2⟩ := w3_ok hw
    have p1 : gd (.tup [.tup [.int k, lo, hi, .int bl], .tup [.int c, .str w, due]]) = true := by
      have b0 := sp.bl0
      have b1 := sp.bl1
      show ((gd (.int k) && (gd lo && (gd hi && (gd (.int bl) && true)))) && ((gd (.int c) && (gd (.str w) && (gd due && true))) && true)) = true
      rw [gi (by omega), gi (j := bl) (by omega), gi (j := c) (by omega), sp.slo.good, sp.shi.good, hd.good, w1]
      rfl
    have p2 : dpt (.tup [.tup [.int k, lo, hi, .int bl], .tup [.int c, .str w, due]]) ≤ 60 := by
      have e1 : dpt (.int k) = 0 := rfl
      have e2 : dpt (.int bl) = 0 := rfl
      have e3 : dpt (.int c) = 0 := rfl
      have e4 : dpt (.str w) = 0 := rfl
      have e5 := sp.slo.flat
      have e6 := sp.shi.flat
      have e7 := hd.flat
      show max (max (dpt (.int k)) (max (dpt lo) (max (dpt hi) (max (dpt (.int bl)) 0))) + 1) (max (max (dpt (.int c)) (max (dpt (.str w)) (max (dpt due) 0)) + 1) 0) + 1 ≤ 60
      omega
    have p3 : dsz (.tup [.tup [.int k, lo, hi, .int bl], .tup [.int c, .str w, due]]) ≤ 16777216 := by
      have e1 : dsz (.int k) = 1921 := rfl
      have e2 : dsz (.int bl) = 1921 := rfl
      have e3 : dsz (.int c) = 1921 := rfl
      have e5 := sp.slo.size
      have e6 := sp.shi.size
      have e7 := hd.size
      show ((dsz (.int k) + 2 + (dsz lo + 2 + (dsz hi + 2 + (dsz (.int bl) + 2 + 0))) + 3) + 2 + ((dsz (.int c) + 2 + (dsz (.str w) + 2 + (dsz due + 2 + 0)) + 3) + 2 + 0)) + 3 ≤ 16777216
      omega
    refine ⟨trivial, ?_⟩
    simp only [DL.x_bnd, DL.x_ret, DL.x_req, DL.x_get, DL.x_opt, DL.x_seq, DL.x_or, DL.x_ob, DL.x_oc, DL.x_nil, DL.x_rt, DL.x_rtN, DL.x_drop, DL.x_break, DL.x_cont, DL.x_if, DL.x_ift, DL.x_iff, DL.x_set, DL.x_asg, DL.x_par2, DL.x_par3, DL.x_for, DL.x_v0, DL.x_vS, DL.x_c, DL.x_bin, DL.x_un, DL.x_tbin, DL.x_tru, DL.x_trb, DL.x_not, DL.x_tand, DL.x_tor, DL.x_and, DL.x_orE, DL.x_notE, DL.x_ifE, DL.x_tup, DL.x_lst, DL.x_lstM, DL.x_anil, DL.x_acons, DL.x_call, DL.x_callD, DL.x_callK, DL.x_meth, DL.x_sl, DL.x_oN, DL.x_oS, DL.x_gn, DL.x_gt, DL.x_gc, DL.x_g0, DL.x_gi, DL.x_body, DL.x_yes, DL.x_add, DL.x_addS, DL.x_addT, DL.x_addL, DL.x_sub, DL.x_mul, DL.x_div, DL.x_mod, DL.x_pow, DL.x_neg, DL.x_cmp, DL.x_cmpS, DL.x_isN, DL.x_mmL, DL.x_mm2, DL.x_eqS, DL.x_eqI, DL.x_intb, DL.onB_bl, DL.onI_int, DL.onO_nx, DL.onO_rt, DL.onL_ml, DL.addD_ol, DL.isNon_non, DL.isNon_int, DL.isNon_str, DL.isNon_tup, DL.ix_tup, DL.ix_lst, DL.ix_str, DL.ix_obj, DL.atI_0, DL.atI_1, DL.atI_2, DL.atI_3, DL.len_tup, DL.len_lst, DL.len_str, DL.len_obj, DL.ty_obj, DL.ty_str, DL.ty_lst, DL.append_obj, DL.pop_obj, DL.set_obj, DL.ixN_3_2, DL.tuple_obj, DL.tuple_lst, DL.list_tup, DL.list_lst, DL.sl_str, DL.sl_tup, DL.sl_lst, DL.rev_tup, DL.revM_lst, DL.sum_lst, DL.put_same, DL.startD, DL.pick, List.map_cons, List.map_nil, List.replicate, List.cons_append, List.nil_append, List.append_nil, List.length_cons, List.length_nil, List.getElem?_cons_zero, List.getElem?_cons_succ, List.set_cons_zero, List.set_cons_succ, List.filterMap_cons, List.filterMap_nil, Nat.zero_add, Nat.add_zero, Nat.reduceAdd, Nat.reduceSub, true_and, and_true, id_eq, if_true, if_false, Bool.false_eq_true, Bool.not_true, Bool.not_false]
    refine ⟨by decide, repr_w p1 p2 p3 ?_⟩
    refine law_may_w sp hd hw ?_
    refine repr_w rfl (show 0 ≤ 60 by decide) (show 5 ≤ 16777216 by decide) ?_
    rw [x_on]
    simp only [DL.x_bnd, DL.x_ret, DL.x_req, DL.x_get, DL.x_opt, DL.x_seq, DL.x_or, DL.x_ob, DL.x_oc, DL.x_nil, DL.x_rt, DL.x_rtN, DL.x_drop, DL.x_break, DL.x_cont, DL.x_if, DL.x_ift, DL.x_iff, DL.x_set, DL.x_asg, DL.x_par2, DL.x_par3, DL.x_for, DL.x_v0, DL.x_vS, DL.x_c, DL.x_bin, DL.x_un, DL.x_tbin, DL.x_tru, DL.x_trb, DL.x_not, DL.x_tand, DL.x_tor, DL.x_and, DL.x_orE, DL.x_notE, DL.x_ifE, DL.x_tup, DL.x_lst, DL.x_lstM, DL.x_anil, DL.x_acons, DL.x_call, DL.x_callD, DL.x_callK, DL.x_meth, DL.x_sl, DL.x_oN, DL.x_oS, DL.x_gn, DL.x_gt, DL.x_gc, DL.x_g0, DL.x_gi, DL.x_body, DL.x_yes, DL.x_add, DL.x_addS, DL.x_addT, DL.x_addL, DL.x_sub, DL.x_mul, DL.x_div, DL.x_mod, DL.x_pow, DL.x_neg, DL.x_cmp, DL.x_cmpS, DL.x_isN, DL.x_mmL, DL.x_mm2, DL.x_eqS, DL.x_eqI, DL.x_intb, DL.onB_bl, DL.onI_int, DL.onO_nx, DL.onO_rt, DL.onL_ml, DL.addD_ol, DL.isNon_non, DL.isNon_int, DL.isNon_str, DL.isNon_tup, DL.ix_tup, DL.ix_lst, DL.ix_str, DL.ix_obj, DL.atI_0, DL.atI_1, DL.atI_2, DL.atI_3, DL.len_tup, DL.len_lst, DL.len_str, DL.len_obj, DL.ty_obj, DL.ty_str, DL.ty_lst, DL.append_obj, DL.pop_obj, DL.set_obj, DL.ixN_3_2, DL.tuple_obj, DL.tuple_lst, DL.list_tup, DL.list_lst, DL.sl_str, DL.sl_tup, DL.sl_lst, DL.rev_tup, DL.revM_lst, DL.sum_lst, DL.put_same, DL.startD, DL.pick, List.map_cons, List.map_nil, List.replicate, List.cons_append, List.nil_append, List.append_nil, List.length_cons, List.length_nil, List.getElem?_cons_zero, List.getElem?_cons_succ, List.set_cons_zero, List.set_cons_succ, List.filterMap_cons, List.filterMap_nil, Nat.zero_add, Nat.add_zero, Nat.reduceAdd, Nat.reduceSub, true_and, and_true, id_eq, if_true, if_false, Bool.false_eq_true, Bool.not_true, Bool.not_false]
    refine ⟨by decide, ?_⟩
    rw [x_on]
    simp only [DL.x_bnd, DL.x_ret, DL.x_req, DL.x_get, DL.x_opt, DL.x_seq, DL.x_on, DL.x_or, DL.x_ob, DL.x_oc, DL.x_nil, DL.x_rt, DL.x_rtN, DL.x_drop, DL.x_break, DL.x_cont, DL.x_if, DL.x_ift, DL.x_iff, DL.x_set, DL.x_asg, DL.x_par2, DL.x_par3, DL.x_for, DL.x_v0, DL.x_vS, DL.x_c, DL.x_bin, DL.x_un, DL.x_tbin, DL.x_tru, DL.x_trb, DL.x_not, DL.x_tand, DL.x_tor, DL.x_and, DL.x_orE, DL.x_notE, DL.x_ifE, DL.x_tup, DL.x_lst, DL.x_lstM, DL.x_anil, DL.x_acons, DL.x_call, DL.x_callD, DL.x_callK, DL.x_meth, DL.x_sl, DL.x_oN, DL.x_oS, DL.x_gn, DL.x_gt, DL.x_gc, DL.x_g0, DL.x_gi, DL.x_body, DL.x_yes, DL.x_add, DL.x_addS, DL.x_addT, DL.x_addL, DL.x_sub, DL.x_mul, DL.x_div, DL.x_mod, DL.x_pow, DL.x_neg, DL.x_cmp, DL.x_cmpS, DL.x_isN, DL.x_mmL, DL.x_mm2, DL.x_eqS, DL.x_eqI, DL.x_intb, DL.onB_bl, DL.onI_int, DL.onO_nx, DL.onO_rt, DL.onL_ml, DL.addD_ol, DL.isNon_non, DL.isNon_int, DL.isNon_str, DL.isNon_tup, DL.ix_tup, DL.ix_lst, DL.ix_str, DL.ix_obj, DL.atI_0, DL.atI_1, DL.atI_2, DL.atI_3, DL.len_tup, DL.len_lst, DL.len_str, DL.len_obj, DL.ty_obj, DL.ty_str, DL.ty_lst, DL.append_obj, DL.pop_obj, DL.set_obj, DL.ixN_3_2, DL.tuple_obj, DL.tuple_lst, DL.list_tup, DL.list_lst, DL.sl_str, DL.sl_tup, DL.sl_lst, DL.rev_tup, DL.revM_lst, DL.sum_lst, DL.put_same, DL.startD, DL.pick, List.map_cons, List.map_nil, List.replicate, List.cons_append, List.nil_append, List.append_nil, List.length_cons, List.length_nil, List.getElem?_cons_zero, List.getElem?_cons_succ, List.set_cons_zero, List.set_cons_succ, List.filterMap_cons, List.filterMap_nil, Nat.zero_add, Nat.add_zero, Nat.reduceAdd, Nat.reduceSub, true_and, and_true, id_eq, if_true, if_false, Bool.false_eq_true, Bool.not_true, Bool.not_false]
    refine may_w sp hd ?_
    refine repr_w rfl (show 0 ≤ 60 by decide) (show 5 ≤ 16777216 by decide) ?_
    simp only [DL.x_bnd, DL.x_ret, DL.x_req, DL.x_get, DL.x_opt, DL.x_seq, DL.x_on, DL.x_or, DL.x_ob, DL.x_oc, DL.x_nil, DL.x_rt, DL.x_rtN, DL.x_drop, DL.x_break, DL.x_cont, DL.x_if, DL.x_ift, DL.x_iff, DL.x_set, DL.x_asg, DL.x_par2, DL.x_par3, DL.x_for, DL.x_v0, DL.x_vS, DL.x_c, DL.x_bin, DL.x_un, DL.x_tbin, DL.x_tru, DL.x_trb, DL.x_not, DL.x_tand, DL.x_tor, DL.x_and, DL.x_orE, DL.x_notE, DL.x_ifE, DL.x_tup, DL.x_lst, DL.x_lstM, DL.x_anil, DL.x_acons, DL.x_call, DL.x_callD, DL.x_callK, DL.x_meth, DL.x_sl, DL.x_oN, DL.x_oS, DL.x_gn, DL.x_gt, DL.x_gc, DL.x_g0, DL.x_gi, DL.x_body, DL.x_yes, DL.x_add, DL.x_addS, DL.x_addT, DL.x_addL, DL.x_sub, DL.x_mul, DL.x_div, DL.x_mod, DL.x_pow, DL.x_neg, DL.x_cmp, DL.x_cmpS, DL.x_isN, DL.x_mmL, DL.x_mm2, DL.x_eqS, DL.x_eqI, DL.x_intb, DL.onB_bl, DL.onI_int, DL.onO_nx, DL.onO_rt, DL.onL_ml, DL.addD_ol, DL.isNon_non, DL.isNon_int, DL.isNon_str, DL.isNon_tup, DL.ix_tup, DL.ix_lst, DL.ix_str, DL.ix_obj, DL.atI_0, DL.atI_1, DL.atI_2, DL.atI_3, DL.len_tup, DL.len_lst, DL.len_str, DL.len_obj, DL.ty_obj, DL.ty_str, DL.ty_lst, DL.append_obj, DL.pop_obj, DL.set_obj, DL.ixN_3_2, DL.tuple_obj, DL.tuple_lst, DL.list_tup, DL.list_lst, DL.sl_str, DL.sl_tup, DL.sl_lst, DL.rev_tup, DL.revM_lst, DL.sum_lst, DL.put_same, DL.startD, DL.pick, List.map_cons, List.map_nil, List.replicate, List.cons_append, List.nil_append, List.append_nil, List.length_cons, List.length_nil, List.getElem?_cons_zero, List.getElem?_cons_succ, List.set_cons_zero, List.set_cons_succ, List.filterMap_cons, List.filterMap_nil, Nat.zero_add, Nat.add_zero, Nat.reduceAdd, Nat.reduceSub, true_and, and_true, id_eq, if_true, if_false, Bool.false_eq_true, Bool.not_true, Bool.not_false, beq_self_eq_true]
    refine may_w sp hd ?_
    refine repr_w rfl (show 0 ≤ 60 by decide) (show 5 ≤ 16777216 by decide) ?_
    simp only [DL.x_bnd, DL.x_ret, DL.x_req, DL.x_get, DL.x_opt, DL.x_seq, DL.x_on, DL.x_or, DL.x_ob, DL.x_oc, DL.x_nil, DL.x_rt, DL.x_rtN, DL.x_drop, DL.x_break, DL.x_cont, DL.x_if, DL.x_ift, DL.x_iff, DL.x_set, DL.x_asg, DL.x_par2, DL.x_par3, DL.x_for, DL.x_v0, DL.x_vS, DL.x_c, DL.x_bin, DL.x_un, DL.x_tbin, DL.x_tru, DL.x_trb, DL.x_not, DL.x_tand, DL.x_tor, DL.x_and, DL.x_orE, DL.x_notE, DL.x_ifE, DL.x_tup, DL.x_lst, DL.x_lstM, DL.x_anil, DL.x_acons, DL.x_call, DL.x_callD, DL.x_callK, DL.x_meth, DL.x_sl, DL.x_oN, DL.x_oS, DL.x_gn, DL.x_gt, DL.x_gc, DL.x_g0, DL.x_gi, DL.x_body, DL.x_yes, DL.x_add, DL.x_addS, DL.x_addT, DL.x_addL, DL.x_sub, DL.x_mul, DL.x_div, DL.x_mod, DL.x_pow, DL.x_neg, DL.x_cmp, DL.x_cmpS, DL.x_isN, DL.x_mmL, DL.x_mm2, DL.x_eqS, DL.x_eqI, DL.x_intb, DL.onB_bl, DL.onI_int, DL.onO_nx, DL.onO_rt, DL.onL_ml, DL.addD_ol, DL.isNon_non, DL.isNon_int, DL.isNon_str, DL.isNon_tup, DL.ix_tup, DL.ix_lst, DL.ix_str, DL.ix_obj, DL.atI_0, DL.atI_1, DL.atI_2, DL.atI_3, DL.len_tup, DL.len_lst, DL.len_str, DL.len_obj, DL.ty_obj, DL.ty_str, DL.ty_lst, DL.append_obj, DL.pop_obj, DL.set_obj, DL.ixN_3_2, DL.tuple_obj, DL.tuple_lst, DL.list_tup, DL.list_lst, DL.sl_str, DL.sl_tup, DL.sl_lst, DL.rev_tup, DL.revM_lst, DL.sum_lst, DL.put_same, DL.startD, DL.pick, List.map_cons, List.map_nil, List.replicate, List.cons_append, List.nil_append, List.append_nil, List.length_cons, List.length_nil, List.getElem?_cons_zero, List.getElem?_cons_succ, List.set_cons_zero, List.set_cons_succ, List.filterMap_cons, List.filterMap_nil, Nat.zero_add, Nat.add_zero, Nat.reduceAdd, Nat.reduceSub, true_and, and_true, id_eq, if_true, if_false, Bool.false_eq_true, Bool.not_true, Bool.not_false, beq_self_eq_true]
    refine ⟨by decide, repr_w p1 p2 p3 ?_⟩
    simp only [DL.x_bnd, DL.x_ret, DL.x_req, DL.x_get, DL.x_opt, DL.x_seq, DL.x_on, DL.x_or, DL.x_ob, DL.x_oc, DL.x_nil, DL.x_rt, DL.x_rtN, DL.x_drop, DL.x_break, DL.x_cont, DL.x_if, DL.x_ift, DL.x_iff, DL.x_set, DL.x_asg, DL.x_par2, DL.x_par3, DL.x_for, DL.x_v0, DL.x_vS, DL.x_c, DL.x_bin, DL.x_un, DL.x_tbin, DL.x_tru, DL.x_trb, DL.x_not, DL.x_tand, DL.x_tor, DL.x_and, DL.x_orE, DL.x_notE, DL.x_ifE, DL.x_tup, DL.x_lst, DL.x_lstM, DL.x_anil, DL.x_acons, DL.x_call, DL.x_callD, DL.x_callK, DL.x_meth, DL.x_sl, DL.x_oN, DL.x_oS, DL.x_gn, DL.x_gt, DL.x_gc, DL.x_g0, DL.x_gi, DL.x_body, DL.x_yes, DL.x_add, DL.x_addS, DL.x_addT, DL.x_addL, DL.x_sub, DL.x_mul, DL.x_div, DL.x_mod, DL.x_pow, DL.x_neg, DL.x_cmp, DL.x_cmpS, DL.x_isN, DL.x_mmL, DL.x_mm2, DL.x_eqS, DL.x_eqI, DL.x_intb, DL.onB_bl, DL.onI_int, DL.onO_nx, DL.onO_rt, DL.onL_ml, DL.addD_ol, DL.isNon_non, DL.isNon_int, DL.isNon_str, DL.isNon_tup, DL.ix_tup, DL.ix_lst, DL.ix_str, DL.ix_obj, DL.atI_0, DL.atI_1, DL.atI_2, DL.atI_3, DL.len_tup, DL.len_lst, DL.len_str, DL.len_obj, DL.ty_obj, DL.ty_str, DL.ty_lst, DL.append_obj, DL.pop_obj, DL.set_obj, DL.ixN_3_2, DL.tuple_obj, DL.tuple_lst, DL.list_tup, DL.list_lst, DL.sl_str, DL.sl_tup, DL.sl_lst, DL.rev_tup, DL.revM_lst, DL.sum_lst, DL.put_same, DL.startD, DL.pick, List.map_cons, List.map_nil, List.replicate, List.cons_append, List.nil_append, List.append_nil, List.length_cons, List.length_nil, List.getElem?_cons_zero, List.getElem?_cons_succ, List.set_cons_zero, List.set_cons_succ, List.filterMap_cons, List.filterMap_nil, Nat.zero_add, Nat.add_zero, Nat.reduceAdd, Nat.reduceSub, true_and, and_true, id_eq, if_true, if_false, Bool.false_eq_true, Bool.not_true, Bool.not_false, beq_self_eq_true]
    exact hR _ _ ⟨rfl, _, _, _, _, rfl⟩
  · rintro ρ μ1 ⟨rfl, o2, o3, o4, o5, rfl⟩
    refine ⟨trivial, ?_⟩
    simp only [DL.x_bnd, DL.x_ret, DL.x_req, DL.x_get, DL.x_opt, DL.x_seq, DL.x_on, DL.x_or, DL.x_ob, DL.x_oc, DL.x_nil, DL.x_rt, DL.x_rtN, DL.x_drop, DL.x_break, DL.x_cont, DL.x_if, DL.x_ift, DL.x_iff, DL.x_set, DL.x_asg, DL.x_par2, DL.x_par3, DL.x_for, DL.x_v0, DL.x_vS, DL.x_c, DL.x_bin, DL.x_un, DL.x_tbin, DL.x_tru, DL.x_trb, DL.x_not, DL.x_tand, DL.x_tor, DL.x_and, DL.x_orE, DL.x_notE, DL.x_ifE, DL.x_tup, DL.x_lst, DL.x_lstM, DL.x_anil, DL.x_acons, DL.x_call, DL.x_callD, DL.x_callK, DL.x_meth, DL.x_sl, DL.x_oN, DL.x_oS, DL.x_gn, DL.x_gt, DL.x_gc, DL.x_g0, DL.x_gi, DL.x_body, DL.x_yes, DL.x_add, DL.x_addS, DL.x_addT, DL.x_addL, DL.x_sub, DL.x_mul, DL.x_div, DL.x_mod, DL.x_pow, DL.x_neg, DL.x_cmp, DL.x_cmpS, DL.x_isN, DL.x_mmL, DL.x_mm2, DL.x_eqS, DL.x_eqI, DL.x_intb, DL.onB_bl, DL.onI_int, DL.onO_nx, DL.onO_rt, DL.onL_ml, DL.addD_ol, DL.isNon_non, DL.isNon_int, DL.isNon_str, DL.isNon_tup, DL.ix_tup, DL.ix_lst, DL.ix_str, DL.ix_obj, DL.atI_0, DL.atI_1, DL.atI_2, DL.atI_3, DL.len_tup, DL.len_lst, DL.len_str, DL.len_obj, DL.ty_obj, DL.ty_str, DL.ty_lst, DL.append_obj, DL.pop_obj, DL.set_obj, DL.ixN_3_2, DL.tuple_obj, DL.tuple_lst, DL.list_tup, DL.list_lst, DL.sl_str, DL.sl_tup, DL.sl_lst, DL.rev_tup, DL.revM_lst, DL.sum_lst, DL.put_same, DL.startD, DL.pick, List.map_cons, List.map_nil, List.replicate, List.cons_append, List.nil_append, List.append_nil, List.length_cons, List.length_nil, List.getElem?_cons_zero, List.getElem?_cons_succ, List.set_cons_zero, List.set_cons_succ, List.filterMap_cons, List.filterMap_nil, Nat.zero_add, Nat.add_zero, Nat.reduceAdd, Nat.reduceSub, true_and, and_true, id_eq, if_true, if_false, Bool.false_eq_true, Bool.not_true, Bool.not_false]
    exact q
end Lk10

namespace Lk10
open PySem PySem.Spec PyProof.Rows L2 DL

theorem ok_sc {s : Bool} {d : D} (h : OkW s d) : Sc d := by
  rcases h with rfl | ⟨_, i, rfl, hi⟩ | ⟨_, x, rfl, hx⟩
  · exact ⟨.inl rfl, rfl, by decide⟩
  · exact ⟨.inr (.inl ⟨i, rfl⟩), gi (by omega), show 1921 ≤ 2000 by decide⟩
  · refine ⟨.inr (.inr ⟨x, rfl⟩), hx.2, ?_⟩
    have := hx.1
    show 10 * x.length + 2 ≤ 2000
    omega
theorem ok_sort {s : Bool} : ∀ {ds : List D}, (∀ d ∈ ds, OkW s d) → OneSort (someOf ds) := fun {ds} h => by
  have sm : ∀ ds : List D, (∀ d ∈ ds, OkW s d) → (s = true → ∃ ns : List Int, someOf ds = ns.map .int) ∧ (s = false → ∃ ns : List Str, someOf ds = ns.map .str) := fun ds => by
    induction ds with
    | nil => exact fun _ => ⟨fun _ => ⟨[], rfl⟩, fun _ => ⟨[], rfl⟩⟩
    | cons d r ih =>
      intro h
      obtain ⟨i1, i2⟩ := ih fun e he => h e (List.mem_cons_of_mem _ he)
      have hd := h d (List.mem_cons_self ..)
      refine ⟨fun es => ?_, fun es => ?_⟩
      · obtain ⟨ns, e⟩ := i1 es
        rcases hd with rfl | ⟨_, i, rfl, hi⟩ | ⟨k, _⟩
        · exact ⟨ns, e⟩
        · exact ⟨i :: ns, by show .int i :: someOf r = _; rw [e]; rfl⟩
        · rw [es] at k; cases k
      · obtain ⟨ns, e⟩ := i2 es
        rcases hd with rfl | ⟨k, _⟩ | ⟨_, x, rfl, hi⟩
        · exact ⟨ns, e⟩
        · rw [es] at k; cases k
        · exact ⟨x :: ns, by show .str x :: someOf r = _; rw [e]; rfl⟩
  cases s with
  | true => exact .inl ((sm ds h).1 rfl)
  | false => exact .inr ((sm ds h).2 rfl)
theorem rep_non {d : D} : ∀ {k : Nat}, d ∈ (List.replicate k [D.non]).flatten → d = .non
  | 0, h => by cases h
  | k + 1, h => by
    rw [List.replicate_succ, List.flatten_cons] at h
    rcases List.mem_append.mp h with h | h
    · exact List.mem_singleton.mp h
    · exact rep_non h
theorem rep_len : ∀ k : Nat, (List.replicate k [D.non]).flatten.length = k := fun k => by
  rw [lm_len_rep_flat]; simp
theorem kinds {sort : Int} (a0 : 0 ≤ sort) (a1 : sort < 2) : ∃ s x y, atI [D.lst [D.str (PySem.Str.ofString "small"), D.str (PySem.Str.ofString "whole")], D.lst [D.str (PySem.Str.ofString "sign"), D.str (PySem.Str.ofString "word")]] sort = some (.lst [.str x, .str y]) ∧ (s = decide (sort = 0)) ∧ ∀ k, k = x ∨ k = y → (s = true ∧ (k = "small" ∨ k = "whole")) ∨ (s = false ∧ (k = "sign" ∨ k = "word")) := by
  have : sort = 0 ∨ sort = 1 := by omega
  rcases this with rfl | rfl
  · exact ⟨true, _, _, atI_0 _ _, rfl, fun k hk => .inl ⟨rfl, hk⟩⟩
  · exact ⟨false, _, _, atI_1 _ _ _, rfl, fun k hk => .inr ⟨rfl, hk⟩⟩
theorem worths_w {μ : Mem} {a c : Addr} {t sort : Int} {Q : D → Mem → Prop} {E : XD} (h : Deck μ a c t) (ht : t < 10000000000) (a0 : 0 ≤ sort) (a1 : sort < 2)
    (q : ∀ ds μ', ds.length ≤ 10 → (∀ d ∈ ds, OkW (decide (sort = 0)) d) → Deck μ' a c (t + 100) → DL.Fr a c μ μ' → Q (.tup ds) μ') : m__law_worths [.obj a, .int sort] μ Q E := by
  simp only [m__law_worths, b__law_worths, DL.x_bnd, DL.x_ret, DL.x_req, DL.x_get, DL.x_opt, DL.x_seq, DL.x_or, DL.x_ob, DL.x_oc, DL.x_nil, DL.x_rt, DL.x_rtN, DL.x_drop, DL.x_break, DL.x_cont, DL.x_if, DL.x_ift, DL.x_iff, DL.x_set, DL.x_asg, DL.x_par2, DL.x_par3, DL.x_for, DL.x_v0, DL.x_vS, DL.x_c, DL.x_bin, DL.x_un, DL.x_tbin, DL.x_tru, DL.x_trb, DL.x_not, DL.x_tand, DL.x_tor, DL.x_and, DL.x_orE, DL.x_notE, DL.x_ifE, DL.x_tup, DL.x_lst, DL.x_lstM, DL.x_anil, DL.x_acons, DL.x_call, DL.x_callD, DL.x_callK, DL.x_meth, DL.x_sl, DL.x_oN, DL.x_oS, DL.x_gn, DL.x_gt, DL.x_gc, DL.x_g0, DL.x_gi, DL.x_body, DL.x_yes, DL.x_add, DL.x_addS, DL.x_addT, DL.x_addL, DL.x_sub, DL.x_mul, DL.x_div, DL.x_mod, DL.x_pow, DL.x_neg, DL.x_cmp, DL.x_cmpS, DL.x_isN, DL.x_mmL, DL.x_mm2, DL.x_eqS, DL.x_eqI, DL.x_intb, DL.onB_bl, DL.onI_int, DL.onO_nx, DL.onO_rt, DL.onL_ml, DL.addD_ol, DL.isNon_non, DL.isNon_int, DL.isNon_str, DL.isNon_tup, DL.ix_tup, DL.ix_lst, DL.ix_str, DL.ix_obj, DL.atI_0, DL.atI_1, DL.atI_2, DL.atI_3, DL.len_tup, DL.len_lst, DL.len_str, DL.len_obj, DL.ty_obj, DL.ty_str, DL.ty_lst, DL.append_obj, DL.pop_obj, DL.set_obj, DL.ixN_3_2, DL.tuple_obj, DL.tuple_lst, DL.list_tup, DL.list_lst, DL.sl_str, DL.sl_tup, DL.sl_lst, DL.rev_tup, DL.revM_lst, DL.sum_lst, DL.put_same, DL.startD, DL.pick, List.map_cons, List.map_nil, List.replicate, List.cons_append, List.nil_append, List.append_nil, List.length_cons, List.length_nil, List.getElem?_cons_zero, List.getElem?_cons_succ, List.set_cons_zero, List.set_cons_succ, List.filterMap_cons, List.filterMap_nil, Nat.zero_add, Nat.add_zero, Nat.reduceAdd, Nat.reduceSub, true_and, and_true, id_eq, if_true, if_false, Bool.false_eq_true, Bool.not_true, Bool.not_false]
  refine draw_w h (by decide) (by decide) (by omega) fun many μ1 b0 b1 hd1 hf1 => ?_
  refine draw_w hd1 (by decide) (by decide) (by omega) fun blank μ2 c0 c1 hd2 hf2 => ?_
  have hf := hf1.trans hf2
  rw [x_on]
  simp only [DL.x_bnd, DL.x_ret, DL.x_req, DL.x_get, DL.x_opt, DL.x_seq, DL.x_or, DL.x_ob, DL.x_oc, DL.x_nil, DL.x_rt, DL.x_rtN, DL.x_drop, DL.x_break, DL.x_cont, DL.x_if, DL.x_ift, DL.x_iff, DL.x_set, DL.x_asg, DL.x_par2, DL.x_par3, DL.x_for, DL.x_v0, DL.x_vS, DL.x_c, DL.x_bin, DL.x_un, DL.x_tbin, DL.x_tru, DL.x_trb, DL.x_not, DL.x_tand, DL.x_tor, DL.x_and, DL.x_orE, DL.x_notE, DL.x_ifE, DL.x_tup, DL.x_lst, DL.x_lstM, DL.x_anil, DL.x_acons, DL.x_call, DL.x_callD, DL.x_callK, DL.x_meth, DL.x_sl, DL.x_oN, DL.x_oS, DL.x_gn, DL.x_gt, DL.x_gc, DL.x_g0, DL.x_gi, DL.x_body, DL.x_yes, DL.x_add, DL.x_addS, DL.x_addT, DL.x_addL, DL.x_sub, DL.x_mul, DL.x_div, DL.x_mod, DL.x_pow, DL.x_neg, DL.x_cmp, DL.x_cmpS, DL.x_isN, DL.x_mmL, DL.x_mm2, DL.x_eqS, DL.x_eqI, DL.x_intb, DL.onB_bl, DL.onI_int, DL.onO_nx, DL.onO_rt, DL.onL_ml, DL.addD_ol, DL.isNon_non, DL.isNon_int, DL.isNon_str, DL.isNon_tup, DL.ix_tup, DL.ix_lst, DL.ix_str, DL.ix_obj, DL.atI_0, DL.atI_1, DL.atI_2, DL.atI_3, DL.len_tup, DL.len_lst, DL.len_str, DL.len_obj, DL.ty_obj, DL.ty_str, DL.ty_lst, DL.append_obj, DL.pop_obj, DL.set_obj, DL.ixN_3_2, DL.tuple_obj, DL.tuple_lst, DL.list_tup, DL.list_lst, DL.sl_str, DL.sl_tup, DL.sl_lst, DL.rev_tup, DL.revM_lst, DL.sum_lst, DL.put_same, DL.startD, DL.pick, List.map_cons, List.map_nil, List.replicate, List.cons_append, List.nil_append, List.append_nil, List.length_cons, List.length_nil, List.getElem?_cons_zero, List.getElem?_cons_succ, List.set_cons_zero, List.set_cons_succ, List.filterMap_cons, List.filterMap_nil, Nat.zero_add, Nat.add_zero, Nat.reduceAdd, Nat.reduceSub, true_and, and_true, id_eq, if_true, if_false, Bool.false_eq_true, Bool.not_true, Bool.not_false]
  obtain ⟨s, x, y, ek, es, hk⟩ := kinds a0 a1
  rw [← es] at q
  refine ⟨by decide, by decide, by decide, ?_⟩
  rw [ek, x_opt, x_on]
  simp only [DL.x_bnd, DL.x_ret, DL.x_req, DL.x_get, DL.x_opt, DL.x_seq, DL.x_or, DL.x_ob, DL.x_oc, DL.x_nil, DL.x_rt, DL.x_rtN, DL.x_drop, DL.x_break, DL.x_cont, DL.x_if, DL.x_ift, DL.x_iff, DL.x_set, DL.x_asg, DL.x_par2, DL.x_par3, DL.x_for, DL.x_v0, DL.x_vS, DL.x_c, DL.x_bin, DL.x_un, DL.x_tbin, DL.x_tru, DL.x_trb, DL.x_not, DL.x_tand, DL.x_tor, DL.x_and, DL.x_orE, DL.x_notE, DL.x_ifE, DL.x_tup, DL.x_lst, DL.x_lstM, DL.x_anil, DL.x_acons, DL.x_call, DL.x_callD, DL.x_callK, DL.x_meth, DL.x_sl, DL.x_oN, DL.x_oS, DL.x_gn, DL.x_gt, DL.x_gc, DL.x_g0, DL.x_gi, DL.x_body, DL.x_yes, DL.x_add, DL.x_addS, DL.x_addT, DL.x_addL, DL.x_sub, DL.x_mul, DL.x_div, DL.x_mod, DL.x_pow, DL.x_neg, DL.x_cmp, DL.x_cmpS, DL.x_isN, DL.x_mmL, DL.x_mm2, DL.x_eqS, DL.x_eqI, DL.x_intb, DL.onB_bl, DL.onI_int, DL.onO_nx, DL.onO_rt, DL.onL_ml, DL.addD_ol, DL.isNon_non, DL.isNon_int, DL.isNon_str, DL.isNon_tup, DL.ix_tup, DL.ix_lst, DL.ix_str, DL.ix_obj, DL.atI_0, DL.atI_1, DL.atI_2, DL.atI_3, DL.len_tup, DL.len_lst, DL.len_str, DL.len_obj, DL.ty_obj, DL.ty_str, DL.ty_lst, DL.append_obj, DL.pop_obj, DL.set_obj, DL.ixN_3_2, DL.tuple_obj, DL.tuple_lst, DL.list_tup, DL.list_lst, DL.sl_str, DL.sl_tup, DL.sl_lst, DL.rev_tup, DL.revM_lst, DL.sum_lst, DL.put_same, DL.startD, DL.pick, List.map_cons, List.map_nil, List.replicate, List.cons_append, List.nil_append, List.append_nil, List.length_cons, List.length_nil, List.getElem?_cons_zero, List.getElem?_cons_succ, List.set_cons_zero, List.set_cons_succ, List.filterMap_cons, List.filterMap_nil, Nat.zero_add, Nat.add_zero, Nat.reduceAdd, Nat.reduceSub, true_and, and_true, id_eq, if_true, if_false, Bool.false_eq_true, Bool.not_true, Bool.not_false]
  rw [x_lcI, rg_w many _ _ _ _ _ (by rfl)]
  refine ⟨⟨by omega, by omega⟩, ?_⟩
  have hlen : (rangeL 0 many.toNat).length = many.toNat := by unfold rangeL; rw [List.length_map, List.length_range]
  refine elc_eff (fun p n acc μ' => μ2 p = none ∧ p ≠ a ∧ p ≠ c ∧ n ≤ many.toNat ∧ μ' p = some (.ml acc) ∧ acc.length = n ∧ (∀ d ∈ acc, OkW s d) ∧ Deck μ' a c (t + 2 + 4 * n) ∧ DL.Fr a c μ2 μ') ?_ ?_ ?_ ?_
  · intro p hp
    obtain ⟨pa, pc, _⟩ := fresh hd2 (DL.Fr.refl a c μ2) hp
    exact ⟨hp, pa, pc, Nat.zero_le _, put_same, rfl, fun _ h => (nomatch h), (hd2.new hp).mono (by omega), Fr.put (DL.Fr.refl a c μ2) hp⟩
  · rintro p n acc μ' ⟨h1, h2, h3, h4, h5, h6, _⟩
    exact ⟨h5, Nat.lt_of_le_of_lt (show acc.length ≤ 10 by omega) (by decide)⟩
  · rintro p n acc μ' v R hv ⟨p0, pa, pc, hn, hm, hl, hok, hd, hfr⟩ hR
    have hn' : n < many.toNat := by
      rcases Nat.lt_or_ge n many.toNat with k | k
      · exact k
      · rw [List.getElem?_eq_none (by rw [hlen]; exact k)] at hv; cases hv
    simp only [DL.x_bnd, DL.x_ret, DL.x_req, DL.x_get, DL.x_opt, DL.x_seq, DL.x_on, DL.x_or, DL.x_ob, DL.x_oc, DL.x_nil, DL.x_rt, DL.x_rtN, DL.x_drop, DL.x_break, DL.x_cont, DL.x_if, DL.x_ift, DL.x_iff, DL.x_set, DL.x_asg, DL.x_par2, DL.x_par3, DL.x_for, DL.x_v0, DL.x_vS, DL.x_c, DL.x_bin, DL.x_un, DL.x_tbin, DL.x_tru, DL.x_trb, DL.x_not, DL.x_tand, DL.x_tor, DL.x_and, DL.x_orE, DL.x_notE, DL.x_ifE, DL.x_tup, DL.x_lst, DL.x_lstM, DL.x_anil, DL.x_acons, DL.x_call, DL.x_callD, DL.x_callK, DL.x_meth, DL.x_sl, DL.x_oN, DL.x_oS, DL.x_gn, DL.x_gt, DL.x_gc, DL.x_g0, DL.x_gi, DL.x_body, DL.x_yes, DL.x_add, DL.x_addS, DL.x_addT, DL.x_addL, DL.x_sub, DL.x_mul, DL.x_div, DL.x_mod, DL.x_pow, DL.x_neg, DL.x_cmp, DL.x_cmpS, DL.x_isN, DL.x_mmL, DL.x_mm2, DL.x_eqS, DL.x_eqI, DL.x_intb, DL.onB_bl, DL.onI_int, DL.onO_nx, DL.onO_rt, DL.onL_ml, DL.addD_ol, DL.isNon_non, DL.isNon_int, DL.isNon_str, DL.isNon_tup, DL.ix_tup, DL.ix_lst, DL.ix_str, DL.ix_obj, DL.atI_0, DL.atI_1, DL.atI_2, DL.atI_3, DL.len_tup, DL.len_lst, DL.len_str, DL.len_obj, DL.ty_obj, DL.ty_str, DL.ty_lst, DL.append_obj, DL.pop_obj, DL.set_obj, DL.ixN_3_2, DL.tuple_obj, DL.tuple_lst, DL.list_tup, DL.list_lst, DL.sl_str, DL.sl_tup, DL.sl_lst, DL.rev_tup, DL.revM_lst, DL.sum_lst, DL.put_same, DL.startD, DL.pick, List.map_cons, List.map_nil, List.replicate, List.cons_append, List.nil_append, List.append_nil, List.length_cons, List.length_nil, List.getElem?_cons_zero, List.getElem?_cons_succ, List.set_cons_zero, List.set_cons_succ, List.filterMap_cons, List.filterMap_nil, Nat.zero_add, Nat.add_zero, Nat.reduceAdd, Nat.reduceSub, true_and, and_true, id_eq, if_true, if_false, Bool.false_eq_true, Bool.not_true, Bool.not_false, wipeD]
    refine pick_w hd (show 0 < 2 by decide) (show 2 < 1000000 by decide) (by omega) fun kd μ6 hkd hd6 hf6 => ?_
    have hm6 := hf6 p _ pa pc hm
    have hkd' : ∃ k, kd = .str k ∧ (k = x ∨ k = y) := by
      simp only [List.mem_cons, List.not_mem_nil, or_false] at hkd
      rcases hkd with rfl | rfl
      · exact ⟨x, rfl, .inl rfl⟩
      · exact ⟨y, rfl, .inr rfl⟩
    obtain ⟨k, rfl, hk'⟩ := hkd'
    refine worth_w hd6 (by omega) (hk k hk') fun wd μ7 hw hd7 hf7 => ?_
    have hm7 := hf7 p _ pa pc hm6
    refine hR wd μ7 hm7 ⟨p0, pa, pc, hn', put_same, by rw [List.length_append, hl]; rfl, ?_, (hd7.put pa pc).mono (by omega), Fr.put ((hfr.trans hf6).trans hf7) p0⟩
    intro d' hd'
    rcases List.mem_append.mp hd' with k | k
    · exact hok d' k
    · rw [List.mem_singleton.mp k]; exact hw
  · rintro p acc μ' ⟨p0, pa, pc, hn, hm, hl, hok, hd, hfr⟩
    rw [hlen] at hl hd
    rw [x_on]
    simp only [DL.x_bnd, DL.x_ret, DL.x_req, DL.x_get, DL.x_opt, DL.x_seq, DL.x_on, DL.x_or, DL.x_ob, DL.x_oc, DL.x_nil, DL.x_rt, DL.x_rtN, DL.x_drop, DL.x_break, DL.x_cont, DL.x_if, DL.x_ift, DL.x_iff, DL.x_set, DL.x_asg, DL.x_par2, DL.x_par3, DL.x_for, DL.x_v0, DL.x_vS, DL.x_c, DL.x_bin, DL.x_un, DL.x_tbin, DL.x_tru, DL.x_trb, DL.x_not, DL.x_tand, DL.x_tor, DL.x_and, DL.x_orE, DL.x_notE, DL.x_ifE, DL.x_tup, DL.x_lst, DL.x_lstM, DL.x_anil, DL.x_acons, DL.x_call, DL.x_callD, DL.x_callK, DL.x_meth, DL.x_sl, DL.x_oN, DL.x_oS, DL.x_gn, DL.x_gt, DL.x_gc, DL.x_g0, DL.x_gi, DL.x_body, DL.x_yes, DL.x_add, DL.x_addS, DL.x_addT, DL.x_addL, DL.x_sub, DL.x_mul, DL.x_div, DL.x_mod, DL.x_pow, DL.x_neg, DL.x_cmp, DL.x_cmpS, DL.x_isN, DL.x_mmL, DL.x_mm2, DL.x_eqS, DL.x_eqI, DL.x_intb, DL.onB_bl, DL.onI_int, DL.onO_nx, DL.onO_rt, DL.onL_ml, DL.addD_ol, DL.isNon_non, DL.isNon_int, DL.isNon_str, DL.isNon_tup, DL.ix_tup, DL.ix_lst, DL.ix_str, DL.ix_obj, DL.atI_0, DL.atI_1, DL.atI_2, DL.atI_3, DL.len_tup, DL.len_lst, DL.len_str, DL.len_obj, DL.ty_obj, DL.ty_str, DL.ty_lst, DL.append_obj, DL.pop_obj, DL.set_obj, DL.ixN_3_2, DL.tuple_obj, DL.tuple_lst, DL.list_tup, DL.list_lst, DL.sl_str, DL.sl_tup, DL.sl_lst, DL.rev_tup, DL.revM_lst, DL.sum_lst, DL.put_same, DL.startD, DL.pick, List.map_cons, List.map_nil, List.replicate, List.cons_append, List.nil_append, List.append_nil, List.length_cons, List.length_nil, List.getElem?_cons_zero, List.getElem?_cons_succ, List.set_cons_zero, List.set_cons_succ, List.filterMap_cons, List.filterMap_nil, Nat.zero_add, Nat.add_zero, Nat.reduceAdd, Nat.reduceSub, true_and, and_true, id_eq, if_true, if_false, Bool.false_eq_true, Bool.not_true, Bool.not_false]
    refine ⟨by decide, by decide, ?_⟩
    refine ix_in c0 (show blank < 4 from c1) fun z hz _ => ?_
    have hz' : ∃ j : Int, z = .int j ∧ 0 ≤ j ∧ j ≤ 2 := by
      simp only [List.mem_cons, List.not_mem_nil, or_false] at hz
      rcases hz with rfl | rfl | rfl | rfl
      · exact ⟨0, rfl, by decide, by decide⟩
      · exact ⟨0, rfl, by decide, by decide⟩
      · exact ⟨1, rfl, by decide, by decide⟩
      · exact ⟨2, rfl, by decide, by decide⟩
    obtain ⟨j, rfl, j0, j1⟩ := hz'
    rw [x_mulL]
    refine ⟨⟨by omega, by omega, ?_⟩, ?_⟩
    · show 1 * j.toNat ≤ sizeLine
      exact Nat.le_trans (show 1 * j.toNat ≤ 10 by omega) (by decide)
    · simp only [DL.x_bnd, DL.x_ret, DL.x_req, DL.x_get, DL.x_opt, DL.x_seq, DL.x_on, DL.x_or, DL.x_ob, DL.x_oc, DL.x_nil, DL.x_rt, DL.x_rtN, DL.x_drop, DL.x_break, DL.x_cont, DL.x_if, DL.x_ift, DL.x_iff, DL.x_set, DL.x_asg, DL.x_par2, DL.x_par3, DL.x_for, DL.x_v0, DL.x_vS, DL.x_c, DL.x_bin, DL.x_un, DL.x_tbin, DL.x_tru, DL.x_trb, DL.x_not, DL.x_tand, DL.x_tor, DL.x_and, DL.x_orE, DL.x_notE, DL.x_ifE, DL.x_tup, DL.x_lst, DL.x_lstM, DL.x_anil, DL.x_acons, DL.x_call, DL.x_callD, DL.x_callK, DL.x_meth, DL.x_sl, DL.x_oN, DL.x_oS, DL.x_gn, DL.x_gt, DL.x_gc, DL.x_g0, DL.x_gi, DL.x_body, DL.x_yes, DL.x_add, DL.x_addS, DL.x_addT, DL.x_addL, DL.x_sub, DL.x_mul, DL.x_div, DL.x_mod, DL.x_pow, DL.x_neg, DL.x_cmp, DL.x_cmpS, DL.x_isN, DL.x_mmL, DL.x_mm2, DL.x_eqS, DL.x_eqI, DL.x_intb, DL.onB_bl, DL.onI_int, DL.onO_nx, DL.onO_rt, DL.onL_ml, DL.addD_ol, DL.isNon_non, DL.isNon_int, DL.isNon_str, DL.isNon_tup, DL.ix_tup, DL.ix_lst, DL.ix_str, DL.ix_obj, DL.atI_0, DL.atI_1, DL.atI_2, DL.atI_3, DL.len_tup, DL.len_lst, DL.len_str, DL.len_obj, DL.ty_obj, DL.ty_str, DL.ty_lst, DL.append_obj, DL.pop_obj, DL.set_obj, DL.ixN_3_2, DL.tuple_obj, DL.tuple_lst, DL.list_tup, DL.list_lst, DL.sl_str, DL.sl_tup, DL.sl_lst, DL.rev_tup, DL.revM_lst, DL.sum_lst, DL.put_same, DL.startD, DL.pick, List.map_cons, List.map_nil, List.replicate, List.cons_append, List.nil_append, List.append_nil, List.length_cons, List.length_nil, List.getElem?_cons_zero, List.getElem?_cons_succ, List.set_cons_zero, List.set_cons_succ, List.filterMap_cons, List.filterMap_nil, Nat.zero_add, Nat.add_zero, Nat.reduceAdd, Nat.reduceSub, true_and, and_true, id_eq, if_true, if_false, Bool.false_eq_true, Bool.not_true, Bool.not_false, rep_len]
      refine ⟨Nat.le_trans (show acc.length + j.toNat ≤ 20 by omega) (by decide), ?_⟩
      refine q _ _ (by rw [List.length_append, rep_len]; omega) (fun d hd' => ?_) ((hd.del pa pc).mono (by omega)) (hf.trans (hfr.del p0))
      rcases List.mem_append.mp hd' with k | k
      · exact hok d k
      · exact .inl (rep_non k)
end Lk10

namespace Lk10
open PySem PySem.Spec PyProof.Rows L2 DL

def Tx (s : Str) : Prop := s.length ≤ 100 ∧ PyData.canLay0 (.str s) = true
theorem tx_sc {s : Str} (h : Tx s) : Sc (.str s) := ⟨.inr (.inr ⟨s, rfl⟩), h.2, by
  have := h.1
  show 10 * s.length + 2 ≤ 2000
  omega⟩
theorem tx_cut {s : Str} {lo hi : Option Int} (h : Tx s) : Tx (cutS s lo hi) :=
  ⟨Nat.le_trans (cutS_length s lo hi) h.1, ok_of fun c hc => of_ok h.2 c (by
    unfold cutS at hc
    simp only at hc
    exact List.mem_of_mem_drop (List.mem_of_mem_take hc))⟩
theorem app_len (a b : Str) : (a ++ b).length = a.length + b.length := strLen_append a b
theorem app_ok {a b : Str} (ha : PyData.canLay0 (.str a) = true) (hb : PyData.canLay0 (.str b) = true) : PyData.canLay0 (.str (a ++ b)) = true := ok_of fun c hc => by
  have e : (a ++ b).cps.toList = a.cps.toList ++ b.cps.toList := by
    show (a.cps ++ b.cps).toList = _
    simp
  rw [e] at hc
  rcases List.mem_append.mp hc with k | k
  · exact of_ok ha c k
  · exact of_ok hb c k
theorem int_sc {i : Int} (h : i.natAbs < 4611686018427387904) : Sc (.int i) := ⟨.inr (.inl ⟨i, rfl⟩), gi h, show 1921 ≤ 2000 by decide⟩
theorem non_sc : Sc .non := ⟨.inl rfl, rfl, by decide⟩
theorem max2 (i j : Int) : maxL (.int i) [.int j] = .int (if i < j then j else i) := by
  show (if ltS (.int i) (.int j) = true then D.int j else .int i) = _
  by_cases h : i < j
  · rw [if_pos h, show ltS (.int i) (.int j) = true from decide_eq_true h, if_pos rfl]
  · rw [if_neg h, show ltS (.int i) (.int j) = false from decide_eq_false h, if_neg (by decide)]
theorem min2 (i j : Int) : minL (.int i) [.int j] = .int (if j < i then j else i) := by
  show (if ltS (.int j) (.int i) = true then D.int j else .int i) = _
  by_cases h : j < i
  · rw [if_pos h, show ltS (.int j) (.int i) = true from decide_eq_true h, if_pos rfl]
  · rw [if_neg h, show ltS (.int j) (.int i) = false from decide_eq_false h, if_neg (by decide)]
theorem beside_w {d : D} {μ : Mem} {Q : D → Mem → Prop} {E : XD} (h : ∃ s, OkW s d) (q : ∀ xs, xs.length ≤ 4 → (∀ x ∈ xs, Sc x) → Q (.lst xs) μ) : m__law_beside [d] μ Q E := by
  obtain ⟨s, h⟩ := h
  have hs := ok_sc h
  simp only [m__law_beside, b__law_beside, DL.x_bnd, DL.x_ret, DL.x_req, DL.x_get, DL.x_opt, DL.x_seq, DL.x_on, DL.x_or, DL.x_ob, DL.x_oc, DL.x_nil, DL.x_rt, DL.x_rtN, DL.x_drop, DL.x_break, DL.x_cont, DL.x_if, DL.x_ift, DL.x_iff, DL.x_set, DL.x_asg, DL.x_par2, DL.x_par3, DL.x_for, DL.x_v0, DL.x_vS, DL.x_c, DL.x_bin, DL.x_un, DL.x_tbin, DL.x_tru, DL.x_trb, DL.x_not, DL.x_tand, DL.x_tor, DL.x_and, DL.x_orE, DL.x_notE, DL.x_ifE, DL.x_tup, DL.x_lst, DL.x_lstM, DL.x_anil, DL.x_acons, DL.x_call, DL.x_callD, DL.x_callK, DL.x_meth, DL.x_sl, DL.x_oN, DL.x_oS, DL.x_gn, DL.x_gt, DL.x_gc, DL.x_g0, DL.x_gi, DL.x_body, DL.x_yes, DL.x_add, DL.x_addS, DL.x_addT, DL.x_addL, DL.x_sub, DL.x_mul, DL.x_div, DL.x_mod, DL.x_pow, DL.x_neg, DL.x_cmp, DL.x_cmpS, DL.x_isN, DL.x_mmL, DL.x_mm2, DL.x_eqS, DL.x_eqI, DL.x_intb, DL.onB_bl, DL.onI_int, DL.onO_nx, DL.onO_rt, DL.onL_ml, DL.addD_ol, DL.isNon_non, DL.isNon_int, DL.isNon_str, DL.isNon_tup, DL.ix_tup, DL.ix_lst, DL.ix_str, DL.ix_obj, DL.atI_0, DL.atI_1, DL.atI_2, DL.atI_3, DL.len_tup, DL.len_lst, DL.len_str, DL.len_obj, DL.ty_obj, DL.ty_str, DL.ty_lst, DL.append_obj, DL.pop_obj, DL.set_obj, DL.ixN_3_2, DL.tuple_obj, DL.tuple_lst, DL.list_tup, DL.list_lst, DL.sl_str, DL.sl_tup, DL.sl_lst, DL.rev_tup, DL.revM_lst, DL.sum_lst, DL.put_same, DL.startD, DL.pick, List.map_cons, List.map_nil, List.replicate, List.cons_append, List.nil_append, List.append_nil, List.length_cons, List.length_nil, List.getElem?_cons_zero, List.getElem?_cons_succ, List.set_cons_zero, List.set_cons_succ, List.filterMap_cons, List.filterMap_nil, Nat.zero_add, Nat.add_zero, Nat.reduceAdd, Nat.reduceSub, true_and, and_true, id_eq, if_true, if_false, Bool.false_eq_true, Bool.not_true, Bool.not_false]
  rcases h with rfl | ⟨_, i, rfl, hi⟩ | ⟨_, x, rfl, hx⟩
  · simp only [DL.x_bnd, DL.x_ret, DL.x_req, DL.x_get, DL.x_opt, DL.x_seq, DL.x_on, DL.x_or, DL.x_ob, DL.x_oc, DL.x_nil, DL.x_rt, DL.x_rtN, DL.x_drop, DL.x_break, DL.x_cont, DL.x_if, DL.x_ift, DL.x_iff, DL.x_set, DL.x_asg, DL.x_par2, DL.x_par3, DL.x_for, DL.x_v0, DL.x_vS, DL.x_c, DL.x_bin, DL.x_un, DL.x_tbin, DL.x_tru, DL.x_trb, DL.x_not, DL.x_tand, DL.x_tor, DL.x_and, DL.x_orE, DL.x_notE, DL.x_ifE, DL.x_tup, DL.x_lst, DL.x_lstM, DL.x_anil, DL.x_acons, DL.x_call, DL.x_callD, DL.x_callK, DL.x_meth, DL.x_sl, DL.x_oN, DL.x_oS, DL.x_gn, DL.x_gt, DL.x_gc, DL.x_g0, DL.x_gi, DL.x_body, DL.x_yes, DL.x_add, DL.x_addS, DL.x_addT, DL.x_addL, DL.x_sub, DL.x_mul, DL.x_div, DL.x_mod, DL.x_pow, DL.x_neg, DL.x_cmp, DL.x_cmpS, DL.x_isN, DL.x_mmL, DL.x_mm2, DL.x_eqS, DL.x_eqI, DL.x_intb, DL.onB_bl, DL.onI_int, DL.onO_nx, DL.onO_rt, DL.onL_ml, DL.addD_ol, DL.isNon_non, DL.isNon_int, DL.isNon_str, DL.isNon_tup, DL.ix_tup, DL.ix_lst, DL.ix_str, DL.ix_obj, DL.atI_0, DL.atI_1, DL.atI_2, DL.atI_3, DL.len_tup, DL.len_lst, DL.len_str, DL.len_obj, DL.ty_obj, DL.ty_str, DL.ty_lst, DL.append_obj, DL.pop_obj, DL.set_obj, DL.ixN_3_2, DL.tuple_obj, DL.tuple_lst, DL.list_tup, DL.list_lst, DL.sl_str, DL.sl_tup, DL.sl_lst, DL.rev_tup, DL.revM_lst, DL.sum_lst, DL.put_same, DL.startD, DL.pick, List.map_cons, List.map_nil, List.replicate, List.cons_append, List.nil_append, List.append_nil, List.length_cons, List.length_nil, List.getElem?_cons_zero, List.getElem?_cons_succ, List.set_cons_zero, List.set_cons_succ, List.filterMap_cons, List.filterMap_nil, Nat.zero_add, Nat.add_zero, Nat.reduceAdd, Nat.reduceSub, true_and, and_true, id_eq, if_true, if_false, Bool.false_eq_true, Bool.not_true, Bool.not_false]
    refine ⟨by decide, q _ (show 3 ≤ 4 by decide) ?_⟩
    simp only [List.forall_mem_cons]
    exact ⟨non_sc, int_sc (by decide), tx_sc ⟨by decide +kernel, by decide +kernel⟩, fun _ h => (nomatch h)⟩
  · simp only [DL.x_bnd, DL.x_ret, DL.x_req, DL.x_get, DL.x_opt, DL.x_seq, DL.x_on, DL.x_or, DL.x_ob, DL.x_oc, DL.x_nil, DL.x_rt, DL.x_rtN, DL.x_drop, DL.x_break, DL.x_cont, DL.x_if, DL.x_ift, DL.x_iff, DL.x_set, DL.x_asg, DL.x_par2, DL.x_par3, DL.x_for, DL.x_v0, DL.x_vS, DL.x_c, DL.x_bin, DL.x_un, DL.x_tbin, DL.x_tru, DL.x_trb, DL.x_not, DL.x_tand, DL.x_tor, DL.x_and, DL.x_orE, DL.x_notE, DL.x_ifE, DL.x_tup, DL.x_lst, DL.x_lstM, DL.x_anil, DL.x_acons, DL.x_call, DL.x_callD, DL.x_callK, DL.x_meth, DL.x_sl, DL.x_oN, DL.x_oS, DL.x_gn, DL.x_gt, DL.x_gc, DL.x_g0, DL.x_gi, DL.x_body, DL.x_yes, DL.x_add, DL.x_addS, DL.x_addT, DL.x_addL, DL.x_sub, DL.x_mul, DL.x_div, DL.x_mod, DL.x_pow, DL.x_neg, DL.x_cmp, DL.x_cmpS, DL.x_isN, DL.x_mmL, DL.x_mm2, DL.x_eqS, DL.x_eqI, DL.x_intb, DL.onB_bl, DL.onI_int, DL.onO_nx, DL.onO_rt, DL.onL_ml, DL.addD_ol, DL.isNon_non, DL.isNon_int, DL.isNon_str, DL.isNon_tup, DL.ix_tup, DL.ix_lst, DL.ix_str, DL.ix_obj, DL.atI_0, DL.atI_1, DL.atI_2, DL.atI_3, DL.len_tup, DL.len_lst, DL.len_str, DL.len_obj, DL.ty_obj, DL.ty_str, DL.ty_lst, DL.append_obj, DL.pop_obj, DL.set_obj, DL.ixN_3_2, DL.tuple_obj, DL.tuple_lst, DL.list_tup, DL.list_lst, DL.sl_str, DL.sl_tup, DL.sl_lst, DL.rev_tup, DL.revM_lst, DL.sum_lst, DL.put_same, DL.startD, DL.pick, List.map_cons, List.map_nil, List.replicate, List.cons_append, List.nil_append, List.append_nil, List.length_cons, List.length_nil, List.getElem?_cons_zero, List.getElem?_cons_succ, List.set_cons_zero, List.set_cons_succ, List.filterMap_cons, List.filterMap_nil, Nat.zero_add, Nat.add_zero, Nat.reduceAdd, Nat.reduceSub, true_and, and_true, id_eq, if_true, if_false, Bool.false_eq_true, Bool.not_true, Bool.not_false]
    refine isi_w hs ?_
    have p12 : (10 : Int) ^ Int.toNat 12 = 1000000000000 := by decide
    simp only [isS, DL.x_bnd, DL.x_ret, DL.x_req, DL.x_get, DL.x_opt, DL.x_seq, DL.x_on, DL.x_or, DL.x_ob, DL.x_oc, DL.x_nil, DL.x_rt, DL.x_rtN, DL.x_drop, DL.x_break, DL.x_cont, DL.x_if, DL.x_ift, DL.x_iff, DL.x_set, DL.x_asg, DL.x_par2, DL.x_par3, DL.x_for, DL.x_v0, DL.x_vS, DL.x_c, DL.x_bin, DL.x_un, DL.x_tbin, DL.x_tru, DL.x_trb, DL.x_not, DL.x_tand, DL.x_tor, DL.x_and, DL.x_orE, DL.x_notE, DL.x_ifE, DL.x_tup, DL.x_lst, DL.x_lstM, DL.x_anil, DL.x_acons, DL.x_call, DL.x_callD, DL.x_callK, DL.x_meth, DL.x_sl, DL.x_oN, DL.x_oS, DL.x_gn, DL.x_gt, DL.x_gc, DL.x_g0, DL.x_gi, DL.x_body, DL.x_yes, DL.x_add, DL.x_addS, DL.x_addT, DL.x_addL, DL.x_sub, DL.x_mul, DL.x_div, DL.x_mod, DL.x_pow, DL.x_neg, DL.x_cmp, DL.x_cmpS, DL.x_isN, DL.x_mmL, DL.x_mm2, DL.x_eqS, DL.x_eqI, DL.x_intb, DL.onB_bl, DL.onI_int, DL.onO_nx, DL.onO_rt, DL.onL_ml, DL.addD_ol, DL.isNon_non, DL.isNon_int, DL.isNon_str, DL.isNon_tup, DL.ix_tup, DL.ix_lst, DL.ix_str, DL.ix_obj, DL.atI_0, DL.atI_1, DL.atI_2, DL.atI_3, DL.len_tup, DL.len_lst, DL.len_str, DL.len_obj, DL.ty_obj, DL.ty_str, DL.ty_lst, DL.append_obj, DL.pop_obj, DL.set_obj, DL.ixN_3_2, DL.tuple_obj, DL.tuple_lst, DL.list_tup, DL.list_lst, DL.sl_str, DL.sl_tup, DL.sl_lst, DL.rev_tup, DL.revM_lst, DL.sum_lst, DL.put_same, DL.startD, DL.pick, List.map_cons, List.map_nil, List.replicate, List.cons_append, List.nil_append, List.append_nil, List.length_cons, List.length_nil, List.getElem?_cons_zero, List.getElem?_cons_succ, List.set_cons_zero, List.set_cons_succ, List.filterMap_cons, List.filterMap_nil, Nat.zero_add, Nat.add_zero, Nat.reduceAdd, Nat.reduceSub, true_and, and_true, id_eq, if_true, if_false, Bool.false_eq_true, Bool.not_true, Bool.not_false, p12]
    refine ⟨cpow_w (by decide) (by decide) (by decide), .inl ⟨[i - 1, 0 - 1000000000000], rfl⟩, cpow_w (by decide) (by decide) (by decide), .inl ⟨[i + 1, 1000000000000], rfl⟩, by decide, q _ (show 4 ≤ 4 by decide) ?_⟩
    rw [max2, min2]
    simp only [List.forall_mem_cons]
    exact ⟨hs, int_sc (by split <;> omega), int_sc (by split <;> omega), int_sc (by omega), fun _ h => (nomatch h)⟩
  · simp only [DL.x_bnd, DL.x_ret, DL.x_req, DL.x_get, DL.x_opt, DL.x_seq, DL.x_on, DL.x_or, DL.x_ob, DL.x_oc, DL.x_nil, DL.x_rt, DL.x_rtN, DL.x_drop, DL.x_break, DL.x_cont, DL.x_if, DL.x_ift, DL.x_iff, DL.x_set, DL.x_asg, DL.x_par2, DL.x_par3, DL.x_for, DL.x_v0, DL.x_vS, DL.x_c, DL.x_bin, DL.x_un, DL.x_tbin, DL.x_tru, DL.x_trb, DL.x_not, DL.x_tand, DL.x_tor, DL.x_and, DL.x_orE, DL.x_notE, DL.x_ifE, DL.x_tup, DL.x_lst, DL.x_lstM, DL.x_anil, DL.x_acons, DL.x_call, DL.x_callD, DL.x_callK, DL.x_meth, DL.x_sl, DL.x_oN, DL.x_oS, DL.x_gn, DL.x_gt, DL.x_gc, DL.x_g0, DL.x_gi, DL.x_body, DL.x_yes, DL.x_add, DL.x_addS, DL.x_addT, DL.x_addL, DL.x_sub, DL.x_mul, DL.x_div, DL.x_mod, DL.x_pow, DL.x_neg, DL.x_cmp, DL.x_cmpS, DL.x_isN, DL.x_mmL, DL.x_mm2, DL.x_eqS, DL.x_eqI, DL.x_intb, DL.onB_bl, DL.onI_int, DL.onO_nx, DL.onO_rt, DL.onL_ml, DL.addD_ol, DL.isNon_non, DL.isNon_int, DL.isNon_str, DL.isNon_tup, DL.ix_tup, DL.ix_lst, DL.ix_str, DL.ix_obj, DL.atI_0, DL.atI_1, DL.atI_2, DL.atI_3, DL.len_tup, DL.len_lst, DL.len_str, DL.len_obj, DL.ty_obj, DL.ty_str, DL.ty_lst, DL.append_obj, DL.pop_obj, DL.set_obj, DL.ixN_3_2, DL.tuple_obj, DL.tuple_lst, DL.list_tup, DL.list_lst, DL.sl_str, DL.sl_tup, DL.sl_lst, DL.rev_tup, DL.revM_lst, DL.sum_lst, DL.put_same, DL.startD, DL.pick, List.map_cons, List.map_nil, List.replicate, List.cons_append, List.nil_append, List.append_nil, List.length_cons, List.length_nil, List.getElem?_cons_zero, List.getElem?_cons_succ, List.set_cons_zero, List.set_cons_succ, List.filterMap_cons, List.filterMap_nil, Nat.zero_add, Nat.add_zero, Nat.reduceAdd, Nat.reduceSub, true_and, and_true, id_eq, if_true, if_false, Bool.false_eq_true, Bool.not_true, Bool.not_false]
    refine isi_w hs ?_
    simp only [isS, DL.x_bnd, DL.x_ret, DL.x_req, DL.x_get, DL.x_opt, DL.x_seq, DL.x_on, DL.x_or, DL.x_ob, DL.x_oc, DL.x_nil, DL.x_rt, DL.x_rtN, DL.x_drop, DL.x_break, DL.x_cont, DL.x_if, DL.x_ift, DL.x_iff, DL.x_set, DL.x_asg, DL.x_par2, DL.x_par3, DL.x_for, DL.x_v0, DL.x_vS, DL.x_c, DL.x_bin, DL.x_un, DL.x_tbin, DL.x_tru, DL.x_trb, DL.x_not, DL.x_tand, DL.x_tor, DL.x_and, DL.x_orE, DL.x_notE, DL.x_ifE, DL.x_tup, DL.x_lst, DL.x_lstM, DL.x_anil, DL.x_acons, DL.x_call, DL.x_callD, DL.x_callK, DL.x_meth, DL.x_sl, DL.x_oN, DL.x_oS, DL.x_gn, DL.x_gt, DL.x_gc, DL.x_g0, DL.x_gi, DL.x_body, DL.x_yes, DL.x_add, DL.x_addS, DL.x_addT, DL.x_addL, DL.x_sub, DL.x_mul, DL.x_div, DL.x_mod, DL.x_pow, DL.x_neg, DL.x_cmp, DL.x_cmpS, DL.x_isN, DL.x_mmL, DL.x_mm2, DL.x_eqS, DL.x_eqI, DL.x_intb, DL.onB_bl, DL.onI_int, DL.onO_nx, DL.onO_rt, DL.onL_ml, DL.addD_ol, DL.isNon_non, DL.isNon_int, DL.isNon_str, DL.isNon_tup, DL.ix_tup, DL.ix_lst, DL.ix_str, DL.ix_obj, DL.atI_0, DL.atI_1, DL.atI_2, DL.atI_3, DL.len_tup, DL.len_lst, DL.len_str, DL.len_obj, DL.ty_obj, DL.ty_str, DL.ty_lst, DL.append_obj, DL.pop_obj, DL.set_obj, DL.ixN_3_2, DL.tuple_obj, DL.tuple_lst, DL.list_tup, DL.list_lst, DL.sl_str, DL.sl_tup, DL.sl_lst, DL.rev_tup, DL.revM_lst, DL.sum_lst, DL.put_same, DL.startD, DL.pick, List.map_cons, List.map_nil, List.replicate, List.cons_append, List.nil_append, List.append_nil, List.length_cons, List.length_nil, List.getElem?_cons_zero, List.getElem?_cons_succ, List.set_cons_zero, List.set_cons_succ, List.filterMap_cons, List.filterMap_nil, Nat.zero_add, Nat.add_zero, Nat.reduceAdd, Nat.reduceSub, true_and, and_true, id_eq, if_true, if_false, Bool.false_eq_true, Bool.not_true, Bool.not_false]
    have la : (PySem.Str.ofString "a").length = 1 := by decide +kernel
    have lz : (PySem.Str.ofString "z").length = 1 := by decide +kernel
    have oa : PyData.canLay0 (.str (PySem.Str.ofString "a")) = true := by decide +kernel
    have oz : PyData.canLay0 (.str (PySem.Str.ofString "z")) = true := by decide +kernel
    have h8 := hx.1
    have tx : Tx x := ⟨by omega, hx.2⟩
    have c1 := tx_cut (lo := none) (hi := some (-1)) tx
    have c1l := cutS_length x none (some (-1))
    have t2 : Tx (x ++ PySem.Str.ofString "a") := ⟨by rw [app_len, la]; omega, app_ok hx.2 oa⟩
    have t3 : Tx (cutS x none (some (-1)) ++ PySem.Str.ofString "z") := ⟨by rw [app_len, lz]; omega, app_ok c1.2 oz⟩
    have big : (100 : Nat) ≤ sizeLine := by decide
    refine ⟨by omega, by omega, Nat.le_trans t2.1 big, by omega, by omega, Nat.le_trans t3.1 big, by decide, q _ (show 4 ≤ 4 by decide) ?_⟩
    simp only [List.forall_mem_cons]
    exact ⟨hs, tx_sc c1, tx_sc (tx_cut t2), tx_sc (tx_cut t3), fun _ h => (nomatch h)⟩
theorem tup_ne {ds : List D} {μ : Mem} {Q : D → Mem → Prop} {E : XD} (h : ∀ x ∈ ds, Sc x) (q : Q (.bl (!decide (ds = []))) μ) : eqA not (.tup ds) (.tup []) μ Q E := by
  obtain ⟨g1, g2⟩ := gdL_of (ds := ds) fun x hx => ⟨(h x hx).good, (h x hx).flat⟩
  refine eq_w (x := .tup ds) (y := .tup []) g1 rfl (by show dptL ds + 1 ≤ 60; omega) (by decide) ?_
  have e : PyData.eqv (toPy (.tup ds)) (toPy (.tup [])) = decide (ds = []) := by
    cases ds <;> rfl
  rw [e]
  exact q
theorem tests_w {μ : Mem} {a c : Addr} {t k : Int} {ds : List D} {Q : D → Mem → Prop} {E : XD} (h : Deck μ a c t) (ht : t < 10000000000) (hk : k.natAbs < 1000) (hl : ds.length ≤ 50) (hok : ∀ d ∈ ds, ∃ s, OkW s d)
    (q : ∀ tests μ', (∀ x ∈ tests, Ts x) → Deck μ' a c (t + 100) → DL.Fr a c μ μ' → Q (.lst tests) μ') : m__law_tests [.obj a, .int k, .tup ds] μ Q E := by
  simp only [m__law_tests, b__law_tests, DL.x_bnd, DL.x_ret, DL.x_req, DL.x_get, DL.x_opt, DL.x_seq, DL.x_or, DL.x_ob, DL.x_oc, DL.x_nil, DL.x_rt, DL.x_rtN, DL.x_drop, DL.x_break, DL.x_cont, DL.x_if, DL.x_ift, DL.x_iff, DL.x_set, DL.x_asg, DL.x_par2, DL.x_par3, DL.x_for, DL.x_v0, DL.x_vS, DL.x_c, DL.x_bin, DL.x_un, DL.x_tbin, DL.x_tru, DL.x_trb, DL.x_not, DL.x_tand, DL.x_tor, DL.x_and, DL.x_orE, DL.x_notE, DL.x_ifE, DL.x_tup, DL.x_lst, DL.x_lstM, DL.x_anil, DL.x_acons, DL.x_call, DL.x_callD, DL.x_callK, DL.x_meth, DL.x_sl, DL.x_oN, DL.x_oS, DL.x_gn, DL.x_gt, DL.x_gc, DL.x_g0, DL.x_gi, DL.x_body, DL.x_yes, DL.x_add, DL.x_addS, DL.x_addT, DL.x_addL, DL.x_sub, DL.x_mul, DL.x_div, DL.x_mod, DL.x_pow, DL.x_neg, DL.x_cmp, DL.x_cmpS, DL.x_isN, DL.x_mmL, DL.x_mm2, DL.x_eqS, DL.x_eqI, DL.x_intb, DL.onB_bl, DL.onI_int, DL.onO_nx, DL.onO_rt, DL.onL_ml, DL.addD_ol, DL.isNon_non, DL.isNon_int, DL.isNon_str, DL.isNon_tup, DL.ix_tup, DL.ix_lst, DL.ix_str, DL.ix_obj, DL.atI_0, DL.atI_1, DL.atI_2, DL.atI_3, DL.len_tup, DL.len_lst, DL.len_str, DL.len_obj, DL.ty_obj, DL.ty_str, DL.ty_lst, DL.append_obj, DL.pop_obj, DL.set_obj, DL.ixN_3_2, DL.tuple_obj, DL.tuple_lst, DL.list_tup, DL.list_lst, DL.sl_str, DL.sl_tup, DL.sl_lst, DL.rev_tup, DL.revM_lst, DL.sum_lst, DL.put_same, DL.startD, DL.pick, List.map_cons, List.map_nil, List.replicate, List.cons_append, List.nil_append, List.append_nil, List.length_cons, List.length_nil, List.getElem?_cons_zero, List.getElem?_cons_succ, List.set_cons_zero, List.set_cons_succ, List.filterMap_cons, List.filterMap_nil, Nat.zero_add, Nat.add_zero, Nat.reduceAdd, Nat.reduceSub, true_and, and_true, id_eq, if_true, if_false, Bool.false_eq_true, Bool.not_true, Bool.not_false]
  refine ⟨by decide, pick_w h (show 0 < 2 by decide) (show 2 < 1000000 by decide) (by omega) fun kd μ1 hkd hd1 hf1 => ?_⟩
  have hkd' : ∃ k s, kd = .str k ∧ ((s = true ∧ (k = "small" ∨ k = "whole")) ∨ (s = false ∧ (k = "sign" ∨ k = "word"))) := by
    simp only [List.mem_cons, List.not_mem_nil, or_false] at hkd
    rcases hkd with rfl | rfl
    · exact ⟨_, true, rfl, .inl ⟨rfl, .inl rfl⟩⟩
    · exact ⟨_, false, rfl, .inr ⟨rfl, .inr rfl⟩⟩
  obtain ⟨kd, s, rfl, hkk⟩ := hkd'
  refine worth_w hd1 (by omega) hkk fun wd μ2 hw hd2 hf2 => ?_
  refine ⟨by decide, ?_⟩
  rw [x_on]
  simp only [DL.x_bnd, DL.x_ret, DL.x_req, DL.x_get, DL.x_opt, DL.x_seq, DL.x_or, DL.x_ob, DL.x_oc, DL.x_nil, DL.x_rt, DL.x_rtN, DL.x_drop, DL.x_break, DL.x_cont, DL.x_if, DL.x_ift, DL.x_iff, DL.x_set, DL.x_asg, DL.x_par2, DL.x_par3, DL.x_for, DL.x_v0, DL.x_vS, DL.x_c, DL.x_bin, DL.x_un, DL.x_tbin, DL.x_tru, DL.x_trb, DL.x_not, DL.x_tand, DL.x_tor, DL.x_and, DL.x_orE, DL.x_notE, DL.x_ifE, DL.x_tup, DL.x_lst, DL.x_lstM, DL.x_anil, DL.x_acons, DL.x_call, DL.x_callD, DL.x_callK, DL.x_meth, DL.x_sl, DL.x_oN, DL.x_oS, DL.x_gn, DL.x_gt, DL.x_gc, DL.x_g0, DL.x_gi, DL.x_body, DL.x_yes, DL.x_add, DL.x_addS, DL.x_addT, DL.x_addL, DL.x_sub, DL.x_mul, DL.x_div, DL.x_mod, DL.x_pow, DL.x_neg, DL.x_cmp, DL.x_cmpS, DL.x_isN, DL.x_mmL, DL.x_mm2, DL.x_eqS, DL.x_eqI, DL.x_intb, DL.onB_bl, DL.onI_int, DL.onO_nx, DL.onO_rt, DL.onL_ml, DL.addD_ol, DL.isNon_non, DL.isNon_int, DL.isNon_str, DL.isNon_tup, DL.ix_tup, DL.ix_lst, DL.ix_str, DL.ix_obj, DL.atI_0, DL.atI_1, DL.atI_2, DL.atI_3, DL.len_tup, DL.len_lst, DL.len_str, DL.len_obj, DL.ty_obj, DL.ty_str, DL.ty_lst, DL.append_obj, DL.pop_obj, DL.set_obj, DL.ixN_3_2, DL.tuple_obj, DL.tuple_lst, DL.list_tup, DL.list_lst, DL.sl_str, DL.sl_tup, DL.sl_lst, DL.rev_tup, DL.revM_lst, DL.sum_lst, DL.put_same, DL.startD, DL.pick, List.map_cons, List.map_nil, List.replicate, List.cons_append, List.nil_append, List.append_nil, List.length_cons, List.length_nil, List.getElem?_cons_zero, List.getElem?_cons_succ, List.set_cons_zero, List.set_cons_succ, List.filterMap_cons, List.filterMap_nil, Nat.zero_add, Nat.add_zero, Nat.reduceAdd, Nat.reduceSub, true_and, and_true, id_eq, if_true, if_false, Bool.false_eq_true, Bool.not_true, Bool.not_false]
  have hsc : ∀ x ∈ ds, Sc x := fun x hx => by obtain ⟨s, h⟩ := hok x hx; exact ok_sc h
  rw [x_rg1]
  simp only [DL.x_bnd, DL.x_ret, DL.x_req, DL.x_get, DL.x_opt, DL.x_seq, DL.x_or, DL.x_ob, DL.x_oc, DL.x_nil, DL.x_rt, DL.x_rtN, DL.x_drop, DL.x_break, DL.x_cont, DL.x_if, DL.x_ift, DL.x_iff, DL.x_set, DL.x_asg, DL.x_par2, DL.x_par3, DL.x_for, DL.x_v0, DL.x_vS, DL.x_c, DL.x_bin, DL.x_un, DL.x_tbin, DL.x_tru, DL.x_trb, DL.x_not, DL.x_tand, DL.x_tor, DL.x_and, DL.x_orE, DL.x_notE, DL.x_ifE, DL.x_tup, DL.x_lst, DL.x_lstM, DL.x_anil, DL.x_acons, DL.x_call, DL.x_callD, DL.x_callK, DL.x_meth, DL.x_sl, DL.x_oN, DL.x_oS, DL.x_gn, DL.x_gt, DL.x_gc, DL.x_g0, DL.x_gi, DL.x_body, DL.x_yes, DL.x_add, DL.x_addS, DL.x_addT, DL.x_addL, DL.x_sub, DL.x_mul, DL.x_div, DL.x_mod, DL.x_pow, DL.x_neg, DL.x_cmp, DL.x_cmpS, DL.x_isN, DL.x_mmL, DL.x_mm2, DL.x_eqS, DL.x_eqI, DL.x_intb, DL.onB_bl, DL.onI_int, DL.onO_nx, DL.onO_rt, DL.onL_ml, DL.addD_ol, DL.isNon_non, DL.isNon_int, DL.isNon_str, DL.isNon_tup, DL.ix_tup, DL.ix_lst, DL.ix_str, DL.ix_obj, DL.atI_0, DL.atI_1, DL.atI_2, DL.atI_3, DL.len_tup, DL.len_lst, DL.len_str, DL.len_obj, DL.ty_obj, DL.ty_str, DL.ty_lst, DL.append_obj, DL.pop_obj, DL.set_obj, DL.ixN_3_2, DL.tuple_obj, DL.tuple_lst, DL.list_tup, DL.list_lst, DL.sl_str, DL.sl_tup, DL.sl_lst, DL.rev_tup, DL.revM_lst, DL.sum_lst, DL.put_same, DL.startD, DL.pick, List.map_cons, List.map_nil, List.replicate, List.cons_append, List.nil_append, List.append_nil, List.length_cons, List.length_nil, List.getElem?_cons_zero, List.getElem?_cons_succ, List.set_cons_zero, List.set_cons_succ, List.filterMap_cons, List.filterMap_nil, Nat.zero_add, Nat.add_zero, Nat.reduceAdd, Nat.reduceSub, true_and, and_true, id_eq, if_true, if_false, Bool.false_eq_true, Bool.not_true, Bool.not_false]
  refine ⟨by decide, tup_ne hsc ?_⟩
  simp only [DL.x_bnd, DL.x_ret, DL.x_req, DL.x_get, DL.x_opt, DL.x_seq, DL.x_or, DL.x_ob, DL.x_oc, DL.x_nil, DL.x_rt, DL.x_rtN, DL.x_drop, DL.x_break, DL.x_cont, DL.x_if, DL.x_ift, DL.x_iff, DL.x_set, DL.x_asg, DL.x_par2, DL.x_par3, DL.x_for, DL.x_v0, DL.x_vS, DL.x_c, DL.x_bin, DL.x_un, DL.x_tbin, DL.x_tru, DL.x_trb, DL.x_not, DL.x_tand, DL.x_tor, DL.x_and, DL.x_orE, DL.x_notE, DL.x_ifE, DL.x_tup, DL.x_lst, DL.x_lstM, DL.x_anil, DL.x_acons, DL.x_call, DL.x_callD, DL.x_callK, DL.x_meth, DL.x_sl, DL.x_oN, DL.x_oS, DL.x_gn, DL.x_gt, DL.x_gc, DL.x_g0, DL.x_gi, DL.x_body, DL.x_yes, DL.x_add, DL.x_addS, DL.x_addT, DL.x_addL, DL.x_sub, DL.x_mul, DL.x_div, DL.x_mod, DL.x_pow, DL.x_neg, DL.x_cmp, DL.x_cmpS, DL.x_isN, DL.x_mmL, DL.x_mm2, DL.x_eqS, DL.x_eqI, DL.x_intb, DL.onB_bl, DL.onI_int, DL.onO_nx, DL.onO_rt, DL.onL_ml, DL.addD_ol, DL.isNon_non, DL.isNon_int, DL.isNon_str, DL.isNon_tup, DL.ix_tup, DL.ix_lst, DL.ix_str, DL.ix_obj, DL.atI_0, DL.atI_1, DL.atI_2, DL.atI_3, DL.len_tup, DL.len_lst, DL.len_str, DL.len_obj, DL.ty_obj, DL.ty_str, DL.ty_lst, DL.append_obj, DL.pop_obj, DL.set_obj, DL.ixN_3_2, DL.tuple_obj, DL.tuple_lst, DL.list_tup, DL.list_lst, DL.sl_str, DL.sl_tup, DL.sl_lst, DL.rev_tup, DL.revM_lst, DL.sum_lst, DL.put_same, DL.startD, DL.pick, List.map_cons, List.map_nil, List.replicate, List.cons_append, List.nil_append, List.append_nil, List.length_cons, List.length_nil, List.getElem?_cons_zero, List.getElem?_cons_succ, List.set_cons_zero, List.set_cons_succ, List.filterMap_cons, List.filterMap_nil, Nat.zero_add, Nat.add_zero, Nat.reduceAdd, Nat.reduceSub, true_and, and_true, id_eq, if_true, if_false, Bool.false_eq_true, Bool.not_true, Bool.not_false]
  refine ⟨cmul_l (by decide) (by decide), ⟨by split <;> decide, by split <;> decide⟩, ?_⟩
  have hlen : ∀ n : Nat, (rangeL 0 n).length = n := fun n => by unfold rangeL; rw [List.length_map, List.length_range]
  have hN : (2 * (if (!decide (ds = [])) = true then (1 : Int) else 0)).toNat ≤ 2 := by split <;> decide
  have hN0 : 0 < (2 * (if (!decide (ds = [])) = true then (1 : Int) else 0)).toNat → 0 < ds.length := by
    cases ds with
    | nil => intro h; simp at h
    | cons d r => intro _; exact Nat.succ_pos _
  generalize (2 * (if (!decide (ds = [])) = true then (1 : Int) else 0)).toNat = N at hN hN0
  refine for_w (fun i ρ μ' => ∃ xs o4, ρ = [some (.obj a), some (.int k), some (.tup ds), some (.lst xs), o4, none, none, none] ∧ xs.length ≤ 4 + 4 * i ∧ (∀ x ∈ xs, Sc x) ∧ Deck μ' a c (t + 4 + i) ∧ DL.Fr a c μ μ') (rangeL 0 N) ?_ ?_ _ _ ⟨_, none, rfl, show 4 ≤ 4 + 4 * 0 by decide, ?_, hd2.mono (by omega), hf1.trans hf2⟩
  · intro i v ρ μ3 R hv hI hR _
    obtain ⟨xs, o4, rfl, hx, hs3, hd3, hf3⟩ := hI
    have hi : i < N := by
      rcases Nat.lt_or_ge i N with k | k
      · exact k
      · rw [List.getElem?_eq_none (by rw [hlen]; exact k)] at hv; cases hv
    have h0 := hN0 (by omega)
    refine ⟨trivial, ?_⟩
    simp only [DL.x_bnd, DL.x_ret, DL.x_req, DL.x_get, DL.x_opt, DL.x_seq, DL.x_on, DL.x_or, DL.x_ob, DL.x_oc, DL.x_nil, DL.x_rt, DL.x_rtN, DL.x_drop, DL.x_break, DL.x_cont, DL.x_if, DL.x_ift, DL.x_iff, DL.x_set, DL.x_asg, DL.x_par2, DL.x_par3, DL.x_for, DL.x_v0, DL.x_vS, DL.x_c, DL.x_bin, DL.x_un, DL.x_tbin, DL.x_tru, DL.x_trb, DL.x_not, DL.x_tand, DL.x_tor, DL.x_and, DL.x_orE, DL.x_notE, DL.x_ifE, DL.x_tup, DL.x_lst, DL.x_lstM, DL.x_anil, DL.x_acons, DL.x_call, DL.x_callD, DL.x_callK, DL.x_meth, DL.x_sl, DL.x_oN, DL.x_oS, DL.x_gn, DL.x_gt, DL.x_gc, DL.x_g0, DL.x_gi, DL.x_body, DL.x_yes, DL.x_add, DL.x_addS, DL.x_addT, DL.x_addL, DL.x_sub, DL.x_mul, DL.x_div, DL.x_mod, DL.x_pow, DL.x_neg, DL.x_cmp, DL.x_cmpS, DL.x_isN, DL.x_mmL, DL.x_mm2, DL.x_eqS, DL.x_eqI, DL.x_intb, DL.onB_bl, DL.onI_int, DL.onO_nx, DL.onO_rt, DL.onL_ml, DL.addD_ol, DL.isNon_non, DL.isNon_int, DL.isNon_str, DL.isNon_tup, DL.ix_tup, DL.ix_lst, DL.ix_str, DL.ix_obj, DL.atI_0, DL.atI_1, DL.atI_2, DL.atI_3, DL.len_tup, DL.len_lst, DL.len_str, DL.len_obj, DL.ty_obj, DL.ty_str, DL.ty_lst, DL.append_obj, DL.pop_obj, DL.set_obj, DL.ixN_3_2, DL.tuple_obj, DL.tuple_lst, DL.list_tup, DL.list_lst, DL.sl_str, DL.sl_tup, DL.sl_lst, DL.rev_tup, DL.revM_lst, DL.sum_lst, DL.put_same, DL.startD, DL.pick, List.map_cons, List.map_nil, List.replicate, List.cons_append, List.nil_append, List.append_nil, List.length_cons, List.length_nil, List.getElem?_cons_zero, List.getElem?_cons_succ, List.set_cons_zero, List.set_cons_succ, List.filterMap_cons, List.filterMap_nil, Nat.zero_add, Nat.add_zero, Nat.reduceAdd, Nat.reduceSub, true_and, and_true, id_eq, if_true, if_false, Bool.false_eq_true, Bool.not_true, Bool.not_false]
    refine draw_w hd3 (by omega) (by omega) (by omega) fun k4 μ4 b0 b1 hd4 hf4 => ?_
    simp only [DL.x_bnd, DL.x_ret, DL.x_req, DL.x_get, DL.x_opt, DL.x_seq, DL.x_on, DL.x_or, DL.x_ob, DL.x_oc, DL.x_nil, DL.x_rt, DL.x_rtN, DL.x_drop, DL.x_break, DL.x_cont, DL.x_if, DL.x_ift, DL.x_iff, DL.x_set, DL.x_asg, DL.x_par2, DL.x_par3, DL.x_for, DL.x_v0, DL.x_vS, DL.x_c, DL.x_bin, DL.x_un, DL.x_tbin, DL.x_tru, DL.x_trb, DL.x_not, DL.x_tand, DL.x_tor, DL.x_and, DL.x_orE, DL.x_notE, DL.x_ifE, DL.x_tup, DL.x_lst, DL.x_lstM, DL.x_anil, DL.x_acons, DL.x_call, DL.x_callD, DL.x_callK, DL.x_meth, DL.x_sl, DL.x_oN, DL.x_oS, DL.x_gn, DL.x_gt, DL.x_gc, DL.x_g0, DL.x_gi, DL.x_body, DL.x_yes, DL.x_add, DL.x_addS, DL.x_addT, DL.x_addL, DL.x_sub, DL.x_mul, DL.x_div, DL.x_mod, DL.x_pow, DL.x_neg, DL.x_cmp, DL.x_cmpS, DL.x_isN, DL.x_mmL, DL.x_mm2, DL.x_eqS, DL.x_eqI, DL.x_intb, DL.onB_bl, DL.onI_int, DL.onO_nx, DL.onO_rt, DL.onL_ml, DL.addD_ol, DL.isNon_non, DL.isNon_int, DL.isNon_str, DL.isNon_tup, DL.ix_tup, DL.ix_lst, DL.ix_str, DL.ix_obj, DL.atI_0, DL.atI_1, DL.atI_2, DL.atI_3, DL.len_tup, DL.len_lst, DL.len_str, DL.len_obj, DL.ty_obj, DL.ty_str, DL.ty_lst, DL.append_obj, DL.pop_obj, DL.set_obj, DL.ixN_3_2, DL.tuple_obj, DL.tuple_lst, DL.list_tup, DL.list_lst, DL.sl_str, DL.sl_tup, DL.sl_lst, DL.rev_tup, DL.revM_lst, DL.sum_lst, DL.put_same, DL.startD, DL.pick, List.map_cons, List.map_nil, List.replicate, List.cons_append, List.nil_append, List.append_nil, List.length_cons, List.length_nil, List.getElem?_cons_zero, List.getElem?_cons_succ, List.set_cons_zero, List.set_cons_succ, List.filterMap_cons, List.filterMap_nil, Nat.zero_add, Nat.add_zero, Nat.reduceAdd, Nat.reduceSub, true_and, and_true, id_eq, if_true, if_false, Bool.false_eq_true, Bool.not_true, Bool.not_false]
    refine ix_in b0 b1 fun d hdm _ => ?_
    refine beside_w (hok d hdm) fun ys hy hys => ?_
    simp only [DL.x_bnd, DL.x_ret, DL.x_req, DL.x_get, DL.x_opt, DL.x_seq, DL.x_on, DL.x_or, DL.x_ob, DL.x_oc, DL.x_nil, DL.x_rt, DL.x_rtN, DL.x_drop, DL.x_break, DL.x_cont, DL.x_if, DL.x_ift, DL.x_iff, DL.x_set, DL.x_asg, DL.x_par2, DL.x_par3, DL.x_for, DL.x_v0, DL.x_vS, DL.x_c, DL.x_bin, DL.x_un, DL.x_tbin, DL.x_tru, DL.x_trb, DL.x_not, DL.x_tand, DL.x_tor, DL.x_and, DL.x_orE, DL.x_notE, DL.x_ifE, DL.x_tup, DL.x_lst, DL.x_lstM, DL.x_anil, DL.x_acons, DL.x_call, DL.x_callD, DL.x_callK, DL.x_meth, DL.x_sl, DL.x_oN, DL.x_oS, DL.x_gn, DL.x_gt, DL.x_gc, DL.x_g0, DL.x_gi, DL.x_body, DL.x_yes, DL.x_add, DL.x_addS, DL.x_addT, DL.x_addL, DL.x_sub, DL.x_mul, DL.x_div, DL.x_mod, DL.x_pow, DL.x_neg, DL.x_cmp, DL.x_cmpS, DL.x_isN, DL.x_mmL, DL.x_mm2, DL.x_eqS, DL.x_eqI, DL.x_intb, DL.onB_bl, DL.onI_int, DL.onO_nx, DL.onO_rt, DL.onL_ml, DL.addD_ol, DL.isNon_non, DL.isNon_int, DL.isNon_str, DL.isNon_tup, DL.ix_tup, DL.ix_lst, DL.ix_str, DL.ix_obj, DL.atI_0, DL.atI_1, DL.atI_2, DL.atI_3, DL.len_tup, DL.len_lst, DL.len_str, DL.len_obj, DL.ty_obj, DL.ty_str, DL.ty_lst, DL.append_obj, DL.pop_obj, DL.set_obj, DL.ixN_3_2, DL.tuple_obj, DL.tuple_lst, DL.list_tup, DL.list_lst, DL.sl_str, DL.sl_tup, DL.sl_lst, DL.rev_tup, DL.revM_lst, DL.sum_lst, DL.put_same, DL.startD, DL.pick, List.map_cons, List.map_nil, List.replicate, List.cons_append, List.nil_append, List.append_nil, List.length_cons, List.length_nil, List.getElem?_cons_zero, List.getElem?_cons_succ, List.set_cons_zero, List.set_cons_succ, List.filterMap_cons, List.filterMap_nil, Nat.zero_add, Nat.add_zero, Nat.reduceAdd, Nat.reduceSub, true_and, and_true, id_eq, if_true, if_false, Bool.false_eq_true, Bool.not_true, Bool.not_false]
    refine ⟨Nat.le_trans (show xs.length + ys.length ≤ 100 by omega) (by decide), hR _ _ ⟨xs ++ ys, _, rfl, by rw [List.length_append]; omega, fun x hx' => ?_, hd4.mono (by omega), hf3.trans hf4⟩⟩
    rcases List.mem_append.mp hx' with k | k
    · exact hs3 x k
    · exact hys x k
  · rintro ρ μ3 ⟨xs, o4, rfl, hx, hs3, hd3, hf3⟩
    rw [hlen] at hx hd3
    refine ⟨trivial, ?_⟩
    rw [x_on]
    simp only [DL.x_bnd, DL.x_ret, DL.x_req, DL.x_get, DL.x_opt, DL.x_seq, DL.x_or, DL.x_ob, DL.x_oc, DL.x_nil, DL.x_rt, DL.x_rtN, DL.x_drop, DL.x_break, DL.x_cont, DL.x_if, DL.x_ift, DL.x_iff, DL.x_set, DL.x_asg, DL.x_par2, DL.x_par3, DL.x_for, DL.x_v0, DL.x_vS, DL.x_c, DL.x_bin, DL.x_un, DL.x_tbin, DL.x_tru, DL.x_trb, DL.x_not, DL.x_tand, DL.x_tor, DL.x_and, DL.x_orE, DL.x_notE, DL.x_ifE, DL.x_tup, DL.x_lst, DL.x_lstM, DL.x_anil, DL.x_acons, DL.x_call, DL.x_callD, DL.x_callK, DL.x_meth, DL.x_sl, DL.x_oN, DL.x_oS, DL.x_gn, DL.x_gt, DL.x_gc, DL.x_g0, DL.x_gi, DL.x_body, DL.x_yes, DL.x_add, DL.x_addS, DL.x_addT, DL.x_addL, DL.x_sub, DL.x_mul, DL.x_div, DL.x_mod, DL.x_pow, DL.x_neg, DL.x_cmp, DL.x_cmpS, DL.x_isN, DL.x_mmL, DL.x_mm2, DL.x_eqS, DL.x_eqI, DL.x_intb, DL.onB_bl, DL.onI_int, DL.onO_nx, DL.onO_rt, DL.onL_ml, DL.addD_ol, DL.isNon_non, DL.isNon_int, DL.isNon_str, DL.isNon_tup, DL.ix_tup, DL.ix_lst, DL.ix_str, DL.ix_obj, DL.atI_0, DL.atI_1, DL.atI_2, DL.atI_3, DL.len_tup, DL.len_lst, DL.len_str, DL.len_obj, DL.ty_obj, DL.ty_str, DL.ty_lst, DL.append_obj, DL.pop_obj, DL.set_obj, DL.ixN_3_2, DL.tuple_obj, DL.tuple_lst, DL.list_tup, DL.list_lst, DL.sl_str, DL.sl_tup, DL.sl_lst, DL.rev_tup, DL.revM_lst, DL.sum_lst, DL.put_same, DL.startD, DL.pick, List.map_cons, List.map_nil, List.replicate, List.cons_append, List.nil_append, List.append_nil, List.length_cons, List.length_nil, List.getElem?_cons_zero, List.getElem?_cons_succ, List.set_cons_zero, List.set_cons_succ, List.filterMap_cons, List.filterMap_nil, Nat.zero_add, Nat.add_zero, Nat.reduceAdd, Nat.reduceSub, true_and, and_true, id_eq, if_true, if_false, Bool.false_eq_true, Bool.not_true, Bool.not_false]
    refine ⟨by decide, ?_⟩
    rw [x_on]
    simp only [DL.x_bnd, DL.x_ret, DL.x_req, DL.x_get, DL.x_opt, DL.x_seq, DL.x_or, DL.x_ob, DL.x_oc, DL.x_nil, DL.x_rt, DL.x_rtN, DL.x_drop, DL.x_break, DL.x_cont, DL.x_if, DL.x_ift, DL.x_iff, DL.x_set, DL.x_asg, DL.x_par2, DL.x_par3, DL.x_for, DL.x_v0, DL.x_vS, DL.x_c, DL.x_bin, DL.x_un, DL.x_tbin, DL.x_tru, DL.x_trb, DL.x_not, DL.x_tand, DL.x_tor, DL.x_and, DL.x_orE, DL.x_notE, DL.x_ifE, DL.x_tup, DL.x_lst, DL.x_lstM, DL.x_anil, DL.x_acons, DL.x_call, DL.x_callD, DL.x_callK, DL.x_meth, DL.x_sl, DL.x_oN, DL.x_oS, DL.x_gn, DL.x_gt, DL.x_gc, DL.x_g0, DL.x_gi, DL.x_body, DL.x_yes, DL.x_add, DL.x_addS, DL.x_addT, DL.x_addL, DL.x_sub, DL.x_mul, DL.x_div, DL.x_mod, DL.x_pow, DL.x_neg, DL.x_cmp, DL.x_cmpS, DL.x_isN, DL.x_mmL, DL.x_mm2, DL.x_eqS, DL.x_eqI, DL.x_intb, DL.onB_bl, DL.onI_int, DL.onO_nx, DL.onO_rt, DL.onL_ml, DL.addD_ol, DL.isNon_non, DL.isNon_int, DL.isNon_str, DL.isNon_tup, DL.ix_tup, DL.ix_lst, DL.ix_str, DL.ix_obj, DL.atI_0, DL.atI_1, DL.atI_2, DL.atI_3, DL.len_tup, DL.len_lst, DL.len_str, DL.len_obj, DL.ty_obj, DL.ty_str, DL.ty_lst, DL.append_obj, DL.pop_obj, DL.set_obj, DL.ixN_3_2, DL.tuple_obj, DL.tuple_lst, DL.list_tup, DL.list_lst, DL.sl_str, DL.sl_tup, DL.sl_lst, DL.rev_tup, DL.revM_lst, DL.sum_lst, DL.put_same, DL.startD, DL.pick, List.map_cons, List.map_nil, List.replicate, List.cons_append, List.nil_append, List.append_nil, List.length_cons, List.length_nil, List.getElem?_cons_zero, List.getElem?_cons_succ, List.set_cons_zero, List.set_cons_succ, List.filterMap_cons, List.filterMap_nil, Nat.zero_add, Nat.add_zero, Nat.reduceAdd, Nat.reduceSub, true_and, and_true, id_eq, if_true, if_false, Bool.false_eq_true, Bool.not_true, Bool.not_false]
    rw [x_iseq]
    simp only [DL.x_bnd, DL.x_ret, DL.x_req, DL.x_get, DL.x_opt, DL.x_seq, DL.x_or, DL.x_ob, DL.x_oc, DL.x_nil, DL.x_rt, DL.x_rtN, DL.x_drop, DL.x_break, DL.x_cont, DL.x_if, DL.x_ift, DL.x_iff, DL.x_set, DL.x_asg, DL.x_par2, DL.x_par3, DL.x_for, DL.x_v0, DL.x_vS, DL.x_c, DL.x_bin, DL.x_un, DL.x_tbin, DL.x_tru, DL.x_trb, DL.x_not, DL.x_tand, DL.x_tor, DL.x_and, DL.x_orE, DL.x_notE, DL.x_ifE, DL.x_tup, DL.x_lst, DL.x_lstM, DL.x_anil, DL.x_acons, DL.x_call, DL.x_callD, DL.x_callK, DL.x_meth, DL.x_sl, DL.x_oN, DL.x_oS, DL.x_gn, DL.x_gt, DL.x_gc, DL.x_g0, DL.x_gi, DL.x_body, DL.x_yes, DL.x_add, DL.x_addS, DL.x_addT, DL.x_addL, DL.x_sub, DL.x_mul, DL.x_div, DL.x_mod, DL.x_pow, DL.x_neg, DL.x_cmp, DL.x_cmpS, DL.x_isN, DL.x_mmL, DL.x_mm2, DL.x_eqS, DL.x_eqI, DL.x_intb, DL.onB_bl, DL.onI_int, DL.onO_nx, DL.onO_rt, DL.onL_ml, DL.addD_ol, DL.isNon_non, DL.isNon_int, DL.isNon_str, DL.isNon_tup, DL.ix_tup, DL.ix_lst, DL.ix_str, DL.ix_obj, DL.atI_0, DL.atI_1, DL.atI_2, DL.atI_3, DL.len_tup, DL.len_lst, DL.len_str, DL.len_obj, DL.ty_obj, DL.ty_str, DL.ty_lst, DL.append_obj, DL.pop_obj, DL.set_obj, DL.ixN_3_2, DL.tuple_obj, DL.tuple_lst, DL.list_tup, DL.list_lst, DL.sl_str, DL.sl_tup, DL.sl_lst, DL.rev_tup, DL.revM_lst, DL.sum_lst, DL.put_same, DL.startD, DL.pick, List.map_cons, List.map_nil, List.replicate, List.cons_append, List.nil_append, List.append_nil, List.length_cons, List.length_nil, List.getElem?_cons_zero, List.getElem?_cons_succ, List.set_cons_zero, List.set_cons_succ, List.filterMap_cons, List.filterMap_nil, Nat.zero_add, Nat.add_zero, Nat.reduceAdd, Nat.reduceSub, true_and, and_true, id_eq, if_true, if_false, Bool.false_eq_true, Bool.not_true, Bool.not_false, onIt_lst]
    refine for_w (fun i ρ μ' => μ' = μ3 ∧ ∃ fs o6 o7, ρ = [some (.obj a), some (.int k), some (.tup ds), some (.lst xs), o4, some (.lst fs), o6, o7] ∧ fs.length = 3 * i ∧ (∀ x ∈ fs, Ts x)) xs ?_ ?_ _ _ ⟨rfl, [], none, none, rfl, rfl, fun _ h => (nomatch h)⟩
    · intro i v ρ μ4 R hv hI hR _
      obtain ⟨rfl, fs, o6, o7, rfl, hfs, hts⟩ := hI
      have hm : v ∈ xs := List.mem_of_getElem? hv
      have hi : i < xs.length := by
        rcases Nat.lt_or_ge i xs.length with k | k
        · exact k
        · rw [List.getElem?_eq_none k] at hv; cases hv
      refine ⟨trivial, ?_⟩
      simp only [DL.x_bnd, DL.x_ret, DL.x_req, DL.x_get, DL.x_opt, DL.x_seq, DL.x_on, DL.x_or, DL.x_ob, DL.x_oc, DL.x_nil, DL.x_rt, DL.x_rtN, DL.x_drop, DL.x_break, DL.x_cont, DL.x_if, DL.x_ift, DL.x_iff, DL.x_set, DL.x_asg, DL.x_par2, DL.x_par3, DL.x_for, DL.x_v0, DL.x_vS, DL.x_c, DL.x_bin, DL.x_un, DL.x_tbin, DL.x_tru, DL.x_trb, DL.x_not, DL.x_tand, DL.x_tor, DL.x_and, DL.x_orE, DL.x_notE, DL.x_ifE, DL.x_tup, DL.x_lst, DL.x_lstM, DL.x_anil, DL.x_acons, DL.x_call, DL.x_callD, DL.x_callK, DL.x_meth, DL.x_sl, DL.x_oN, DL.x_oS, DL.x_gn, DL.x_gt, DL.x_gc, DL.x_g0, DL.x_gi, DL.x_body, DL.x_yes, DL.x_add, DL.x_addS, DL.x_addT, DL.x_addL, DL.x_sub, DL.x_mul, DL.x_div, DL.x_mod, DL.x_pow, DL.x_neg, DL.x_cmp, DL.x_cmpS, DL.x_isN, DL.x_mmL, DL.x_mm2, DL.x_eqS, DL.x_eqI, DL.x_intb, DL.onB_bl, DL.onI_int, DL.onO_nx, DL.onO_rt, DL.onL_ml, DL.addD_ol, DL.isNon_non, DL.isNon_int, DL.isNon_str, DL.isNon_tup, DL.ix_tup, DL.ix_lst, DL.ix_str, DL.ix_obj, DL.atI_0, DL.atI_1, DL.atI_2, DL.atI_3, DL.len_tup, DL.len_lst, DL.len_str, DL.len_obj, DL.ty_obj, DL.ty_str, DL.ty_lst, DL.append_obj, DL.pop_obj, DL.set_obj, DL.ixN_3_2, DL.tuple_obj, DL.tuple_lst, DL.list_tup, DL.list_lst, DL.sl_str, DL.sl_tup, DL.sl_lst, DL.rev_tup, DL.revM_lst, DL.sum_lst, DL.put_same, DL.startD, DL.pick, List.map_cons, List.map_nil, List.replicate, List.cons_append, List.nil_append, List.append_nil, List.length_cons, List.length_nil, List.getElem?_cons_zero, List.getElem?_cons_succ, List.set_cons_zero, List.set_cons_succ, List.filterMap_cons, List.filterMap_nil, Nat.zero_add, Nat.add_zero, Nat.reduceAdd, Nat.reduceSub, true_and, and_true, id_eq, if_true, if_false, Bool.false_eq_true, Bool.not_true, Bool.not_false]
      refine elc_nm (items := [.str wIs, .str wBelow, .str wFrom]) (chk := fun _ => True) (fun _ => true) (fun w => .tup [.int k, w, v]) (fun R h => ⟨by decide, h⟩) (show 3 < sizeLine by decide) (fun _ _ _ => trivial) (fun x hx p acc hp R h => h) (fun x hx _ p acc hp R h => ?_) ?_
      · simp only [DL.x_bnd, DL.x_ret, DL.x_req, DL.x_get, DL.x_opt, DL.x_seq, DL.x_on, DL.x_or, DL.x_ob, DL.x_oc, DL.x_nil, DL.x_rt, DL.x_rtN, DL.x_drop, DL.x_break, DL.x_cont, DL.x_if, DL.x_ift, DL.x_iff, DL.x_set, DL.x_asg, DL.x_par2, DL.x_par3, DL.x_for, DL.x_v0, DL.x_vS, DL.x_c, DL.x_bin, DL.x_un, DL.x_tbin, DL.x_tru, DL.x_trb, DL.x_not, DL.x_tand, DL.x_tor, DL.x_and, DL.x_orE, DL.x_notE, DL.x_ifE, DL.x_tup, DL.x_lst, DL.x_lstM, DL.x_anil, DL.x_acons, DL.x_call, DL.x_callD, DL.x_callK, DL.x_meth, DL.x_sl, DL.x_oN, DL.x_oS, DL.x_gn, DL.x_gt, DL.x_gc, DL.x_g0, DL.x_gi, DL.x_body, DL.x_yes, DL.x_add, DL.x_addS, DL.x_addT, DL.x_addL, DL.x_sub, DL.x_mul, DL.x_div, DL.x_mod, DL.x_pow, DL.x_neg, DL.x_cmp, DL.x_cmpS, DL.x_isN, DL.x_mmL, DL.x_mm2, DL.x_eqS, DL.x_eqI, DL.x_intb, DL.onB_bl, DL.onI_int, DL.onO_nx, DL.onO_rt, DL.onL_ml, DL.addD_ol, DL.isNon_non, DL.isNon_int, DL.isNon_str, DL.isNon_tup, DL.ix_tup, DL.ix_lst, DL.ix_str, DL.ix_obj, DL.atI_0, DL.atI_1, DL.atI_2, DL.atI_3, DL.len_tup, DL.len_lst, DL.len_str, DL.len_obj, DL.ty_obj, DL.ty_str, DL.ty_lst, DL.append_obj, DL.pop_obj, DL.set_obj, DL.ixN_3_2, DL.tuple_obj, DL.tuple_lst, DL.list_tup, DL.list_lst, DL.sl_str, DL.sl_tup, DL.sl_lst, DL.rev_tup, DL.revM_lst, DL.sum_lst, DL.put_same, DL.startD, DL.pick, List.map_cons, List.map_nil, List.replicate, List.cons_append, List.nil_append, List.append_nil, List.length_cons, List.length_nil, List.getElem?_cons_zero, List.getElem?_cons_succ, List.set_cons_zero, List.set_cons_succ, List.filterMap_cons, List.filterMap_nil, Nat.zero_add, Nat.add_zero, Nat.reduceAdd, Nat.reduceSub, true_and, and_true, id_eq, if_true, if_false, Bool.false_eq_true, Bool.not_true, Bool.not_false, wipeD]
        exact ⟨by decide, h⟩
      · have e : (([.str wIs, .str wBelow, .str wFrom] : List D).filter fun _ => true).map (fun w => D.tup [.int k, w, v]) = [.tup [.int k, .str wIs, v], .tup [.int k, .str wBelow, v], .tup [.int k, .str wFrom, v]] := rfl
        rw [e]
        simp only [DL.x_bnd, DL.x_ret, DL.x_req, DL.x_get, DL.x_opt, DL.x_seq, DL.x_on, DL.x_or, DL.x_ob, DL.x_oc, DL.x_nil, DL.x_rt, DL.x_rtN, DL.x_drop, DL.x_break, DL.x_cont, DL.x_if, DL.x_ift, DL.x_iff, DL.x_set, DL.x_asg, DL.x_par2, DL.x_par3, DL.x_for, DL.x_v0, DL.x_vS, DL.x_c, DL.x_bin, DL.x_un, DL.x_tbin, DL.x_tru, DL.x_trb, DL.x_not, DL.x_tand, DL.x_tor, DL.x_and, DL.x_orE, DL.x_notE, DL.x_ifE, DL.x_tup, DL.x_lst, DL.x_lstM, DL.x_anil, DL.x_acons, DL.x_call, DL.x_callD, DL.x_callK, DL.x_meth, DL.x_sl, DL.x_oN, DL.x_oS, DL.x_gn, DL.x_gt, DL.x_gc, DL.x_g0, DL.x_gi, DL.x_body, DL.x_yes, DL.x_add, DL.x_addS, DL.x_addT, DL.x_addL, DL.x_sub, DL.x_mul, DL.x_div, DL.x_mod, DL.x_pow, DL.x_neg, DL.x_cmp, DL.x_cmpS, DL.x_isN, DL.x_mmL, DL.x_mm2, DL.x_eqS, DL.x_eqI, DL.x_intb, DL.onB_bl, DL.onI_int, DL.onO_nx, DL.onO_rt, DL.onL_ml, DL.addD_ol, DL.isNon_non, DL.isNon_int, DL.isNon_str, DL.isNon_tup, DL.ix_tup, DL.ix_lst, DL.ix_str, DL.ix_obj, DL.atI_0, DL.atI_1, DL.atI_2, DL.atI_3, DL.len_tup, DL.len_lst, DL.len_str, DL.len_obj, DL.ty_obj, DL.ty_str, DL.ty_lst, DL.append_obj, DL.pop_obj, DL.set_obj, DL.ixN_3_2, DL.tuple_obj, DL.tuple_lst, DL.list_tup, DL.list_lst, DL.sl_str, DL.sl_tup, DL.sl_lst, DL.rev_tup, DL.revM_lst, DL.sum_lst, DL.put_same, DL.startD, DL.pick, List.map_cons, List.map_nil, List.replicate, List.cons_append, List.nil_append, List.append_nil, List.length_cons, List.length_nil, List.getElem?_cons_zero, List.getElem?_cons_succ, List.set_cons_zero, List.set_cons_succ, List.filterMap_cons, List.filterMap_nil, Nat.zero_add, Nat.add_zero, Nat.reduceAdd, Nat.reduceSub, true_and, and_true, id_eq, if_true, if_false, Bool.false_eq_true, Bool.not_true, Bool.not_false]
        refine ⟨by rw [hfs]; exact Nat.le_trans (show 3 * i + 3 ≤ 1000 by omega) (by decide), hR _ _ ⟨rfl, _, _, _, rfl, by rw [List.length_append, hfs]; rfl, fun x hx' => ?_⟩⟩
        rcases List.mem_append.mp hx' with k' | k'
        · exact hts x k'
        · simp only [List.mem_cons, List.not_mem_nil, or_false] at k'
          rcases k' with rfl | rfl | rfl
          · exact ⟨k, _, v, rfl, hk, .inl rfl, hs3 v hm⟩
          · exact ⟨k, _, v, rfl, hk, .inr (.inl rfl), hs3 v hm⟩
          · exact ⟨k, _, v, rfl, hk, .inr (.inr rfl), hs3 v hm⟩
    · rintro ρ μ4 ⟨rfl, fs, o6, o7, rfl, hfs, hts⟩
      refine ⟨trivial, ?_⟩
      simp only [DL.x_bnd, DL.x_ret, DL.x_req, DL.x_get, DL.x_opt, DL.x_seq, DL.x_on, DL.x_or, DL.x_ob, DL.x_oc, DL.x_nil, DL.x_rt, DL.x_rtN, DL.x_drop, DL.x_break, DL.x_cont, DL.x_if, DL.x_ift, DL.x_iff, DL.x_set, DL.x_asg, DL.x_par2, DL.x_par3, DL.x_for, DL.x_v0, DL.x_vS, DL.x_c, DL.x_bin, DL.x_un, DL.x_tbin, DL.x_tru, DL.x_trb, DL.x_not, DL.x_tand, DL.x_tor, DL.x_and, DL.x_orE, DL.x_notE, DL.x_ifE, DL.x_tup, DL.x_lst, DL.x_lstM, DL.x_anil, DL.x_acons, DL.x_call, DL.x_callD, DL.x_callK, DL.x_meth, DL.x_sl, DL.x_oN, DL.x_oS, DL.x_gn, DL.x_gt, DL.x_gc, DL.x_g0, DL.x_gi, DL.x_body, DL.x_yes, DL.x_add, DL.x_addS, DL.x_addT, DL.x_addL, DL.x_sub, DL.x_mul, DL.x_div, DL.x_mod, DL.x_pow, DL.x_neg, DL.x_cmp, DL.x_cmpS, DL.x_isN, DL.x_mmL, DL.x_mm2, DL.x_eqS, DL.x_eqI, DL.x_intb, DL.onB_bl, DL.onI_int, DL.onO_nx, DL.onO_rt, DL.onL_ml, DL.addD_ol, DL.isNon_non, DL.isNon_int, DL.isNon_str, DL.isNon_tup, DL.ix_tup, DL.ix_lst, DL.ix_str, DL.ix_obj, DL.atI_0, DL.atI_1, DL.atI_2, DL.atI_3, DL.len_tup, DL.len_lst, DL.len_str, DL.len_obj, DL.ty_obj, DL.ty_str, DL.ty_lst, DL.append_obj, DL.pop_obj, DL.set_obj, DL.ixN_3_2, DL.tuple_obj, DL.tuple_lst, DL.list_tup, DL.list_lst, DL.sl_str, DL.sl_tup, DL.sl_lst, DL.rev_tup, DL.revM_lst, DL.sum_lst, DL.put_same, DL.startD, DL.pick, List.map_cons, List.map_nil, List.replicate, List.cons_append, List.nil_append, List.append_nil, List.length_cons, List.length_nil, List.getElem?_cons_zero, List.getElem?_cons_succ, List.set_cons_zero, List.set_cons_succ, List.filterMap_cons, List.filterMap_nil, Nat.zero_add, Nat.add_zero, Nat.reduceAdd, Nat.reduceSub, true_and, and_true, id_eq, if_true, if_false, Bool.false_eq_true, Bool.not_true, Bool.not_false]
      exact q fs _ hts (hd3.mono (by omega)) hf3
  · simp only [List.forall_mem_cons]
    exact ⟨int_sc (by decide), tx_sc ⟨by decide +kernel, by decide +kernel⟩, non_sc, ok_sc hw, fun _ h => (nomatch h)⟩
theorem lspan_w {μ : Mem} {a c : Addr} {t sort : Int} {Q : D → Mem → Prop} {E : XD} (h : Deck μ a c t) (ht : t < 10000000000) (a0 : 0 ≤ sort) (a1 : sort < 2)
    (q : ∀ k lo hi bl μ', k.natAbs < 1000 → Sp lo hi bl → (∃ s, OkW s lo) → (∃ s, OkW s hi) → Deck μ' a c (t + 100) → DL.Fr a c μ μ' → Q (.tup [.int k, lo, hi, .int bl]) μ') : m__law_span [.obj a, .int sort] μ Q E := by
  simp only [m__law_span, b__law_span, DL.x_bnd, DL.x_ret, DL.x_req, DL.x_get, DL.x_opt, DL.x_seq, DL.x_or, DL.x_ob, DL.x_oc, DL.x_nil, DL.x_rt, DL.x_rtN, DL.x_drop, DL.x_break, DL.x_cont, DL.x_if, DL.x_ift, DL.x_iff, DL.x_set, DL.x_asg, DL.x_par2, DL.x_par3, DL.x_for, DL.x_v0, DL.x_vS, DL.x_c, DL.x_bin, DL.x_un, DL.x_tbin, DL.x_tru, DL.x_trb, DL.x_not, DL.x_tand, DL.x_tor, DL.x_and, DL.x_orE, DL.x_notE, DL.x_ifE, DL.x_tup, DL.x_lst, DL.x_lstM, DL.x_anil, DL.x_acons, DL.x_call, DL.x_callD, DL.x_callK, DL.x_meth, DL.x_sl, DL.x_oN, DL.x_oS, DL.x_gn, DL.x_gt, DL.x_gc, DL.x_g0, DL.x_gi, DL.x_body, DL.x_yes, DL.x_add, DL.x_addS, DL.x_addT, DL.x_addL, DL.x_sub, DL.x_mul, DL.x_div, DL.x_mod, DL.x_pow, DL.x_neg, DL.x_cmp, DL.x_cmpS, DL.x_isN, DL.x_mmL, DL.x_mm2, DL.x_eqS, DL.x_eqI, DL.x_intb, DL.onB_bl, DL.onI_int, DL.onO_nx, DL.onO_rt, DL.onL_ml, DL.addD_ol, DL.isNon_non, DL.isNon_int, DL.isNon_str, DL.isNon_tup, DL.ix_tup, DL.ix_lst, DL.ix_str, DL.ix_obj, DL.atI_0, DL.atI_1, DL.atI_2, DL.atI_3, DL.len_tup, DL.len_lst, DL.len_str, DL.len_obj, DL.ty_obj, DL.ty_str, DL.ty_lst, DL.append_obj, DL.pop_obj, DL.set_obj, DL.ixN_3_2, DL.tuple_obj, DL.tuple_lst, DL.list_tup, DL.list_lst, DL.sl_str, DL.sl_tup, DL.sl_lst, DL.rev_tup, DL.revM_lst, DL.sum_lst, DL.put_same, DL.startD, DL.pick, List.map_cons, List.map_nil, List.replicate, List.cons_append, List.nil_append, List.append_nil, List.length_cons, List.length_nil, List.getElem?_cons_zero, List.getElem?_cons_succ, List.set_cons_zero, List.set_cons_succ, List.filterMap_cons, List.filterMap_nil, Nat.zero_add, Nat.add_zero, Nat.reduceAdd, Nat.reduceSub, true_and, and_true, id_eq, if_true, if_false, Bool.false_eq_true, Bool.not_true, Bool.not_false]
  refine draw_w h (by decide) (by decide) (by omega) fun way μ1 b0 b1 hd1 hf1 => ?_
  refine ⟨by decide, draw_w hd1 (by decide) (by decide) (by omega) fun bk μ2 c0 c1 hd2 hf2 => ?_⟩
  rw [DL.ix_lst]
  refine ix_in c0 (show bk < 4 from c1) fun z hz _ => ?_
  have hz' : ∃ j : Int, z = .int j ∧ 0 ≤ j ∧ j ≤ 12 := by
    simp only [List.mem_cons, List.not_mem_nil, or_false] at hz
    rcases hz with rfl | rfl | rfl | rfl
    · exact ⟨0, rfl, by decide, by decide⟩
    · exact ⟨0, rfl, by decide, by decide⟩
    · exact ⟨1, rfl, by decide, by decide⟩
    · exact ⟨12, rfl, by decide, by decide⟩
  obtain ⟨bl, rfl, j0, j1⟩ := hz'
  rw [x_on]
  simp only [DL.x_bnd, DL.x_ret, DL.x_req, DL.x_get, DL.x_opt, DL.x_seq, DL.x_or, DL.x_ob, DL.x_oc, DL.x_nil, DL.x_rt, DL.x_rtN, DL.x_drop, DL.x_break, DL.x_cont, DL.x_if, DL.x_ift, DL.x_iff, DL.x_set, DL.x_asg, DL.x_par2, DL.x_par3, DL.x_for, DL.x_v0, DL.x_vS, DL.x_c, DL.x_bin, DL.x_un, DL.x_tbin, DL.x_tru, DL.x_trb, DL.x_not, DL.x_tand, DL.x_tor, DL.x_and, DL.x_orE, DL.x_notE, DL.x_ifE, DL.x_tup, DL.x_lst, DL.x_lstM, DL.x_anil, DL.x_acons, DL.x_call, DL.x_callD, DL.x_callK, DL.x_meth, DL.x_sl, DL.x_oN, DL.x_oS, DL.x_gn, DL.x_gt, DL.x_gc, DL.x_g0, DL.x_gi, DL.x_body, DL.x_yes, DL.x_add, DL.x_addS, DL.x_addT, DL.x_addL, DL.x_sub, DL.x_mul, DL.x_div, DL.x_mod, DL.x_pow, DL.x_neg, DL.x_cmp, DL.x_cmpS, DL.x_isN, DL.x_mmL, DL.x_mm2, DL.x_eqS, DL.x_eqI, DL.x_intb, DL.onB_bl, DL.onI_int, DL.onO_nx, DL.onO_rt, DL.onL_ml, DL.addD_ol, DL.isNon_non, DL.isNon_int, DL.isNon_str, DL.isNon_tup, DL.ix_tup, DL.ix_lst, DL.ix_str, DL.ix_obj, DL.atI_0, DL.atI_1, DL.atI_2, DL.atI_3, DL.len_tup, DL.len_lst, DL.len_str, DL.len_obj, DL.ty_obj, DL.ty_str, DL.ty_lst, DL.append_obj, DL.pop_obj, DL.set_obj, DL.ixN_3_2, DL.tuple_obj, DL.tuple_lst, DL.list_tup, DL.list_lst, DL.sl_str, DL.sl_tup, DL.sl_lst, DL.rev_tup, DL.revM_lst, DL.sum_lst, DL.put_same, DL.startD, DL.pick, List.map_cons, List.map_nil, List.replicate, List.cons_append, List.nil_append, List.append_nil, List.length_cons, List.length_nil, List.getElem?_cons_zero, List.getElem?_cons_succ, List.set_cons_zero, List.set_cons_succ, List.filterMap_cons, List.filterMap_nil, Nat.zero_add, Nat.add_zero, Nat.reduceAdd, Nat.reduceSub, true_and, and_true, id_eq, if_true, if_false, Bool.false_eq_true, Bool.not_true, Bool.not_false]
  obtain ⟨s, x, y, ek, es, hk⟩ := kinds a0 a1
  refine ⟨by decide, by decide, by decide, ?_⟩
  rw [ek, x_opt]
  refine draw_w hd2 (by decide) (by decide) (by omega) fun kk μ3 d0 d1 hd3 hf3 => ?_
  rw [DL.ix_lst]
  refine ix_in d0 (show kk < 2 from d1) fun kd hkd _ => ?_
  have hkd' : ∃ k, kd = .str k ∧ (k = x ∨ k = y) := by
    simp only [List.mem_cons, List.not_mem_nil, or_false] at hkd
    rcases hkd with rfl | rfl
    · exact ⟨x, rfl, .inl rfl⟩
    · exact ⟨y, rfl, .inr rfl⟩
  obtain ⟨k, rfl, hk'⟩ := hkd'
  rw [x_on]
  simp only [DL.x_bnd, DL.x_ret, DL.x_req, DL.x_get, DL.x_opt, DL.x_seq, DL.x_or, DL.x_ob, DL.x_oc, DL.x_nil, DL.x_rt, DL.x_rtN, DL.x_drop, DL.x_break, DL.x_cont, DL.x_if, DL.x_ift, DL.x_iff, DL.x_set, DL.x_asg, DL.x_par2, DL.x_par3, DL.x_for, DL.x_v0, DL.x_vS, DL.x_c, DL.x_bin, DL.x_un, DL.x_tbin, DL.x_tru, DL.x_trb, DL.x_not, DL.x_tand, DL.x_tor, DL.x_and, DL.x_orE, DL.x_notE, DL.x_ifE, DL.x_tup, DL.x_lst, DL.x_lstM, DL.x_anil, DL.x_acons, DL.x_call, DL.x_callD, DL.x_callK, DL.x_meth, DL.x_sl, DL.x_oN, DL.x_oS, DL.x_gn, DL.x_gt, DL.x_gc, DL.x_g0, DL.x_gi, DL.x_body, DL.x_yes, DL.x_add, DL.x_addS, DL.x_addT, DL.x_addL, DL.x_sub, DL.x_mul, DL.x_div, DL.x_mod, DL.x_pow, DL.x_neg, DL.x_cmp, DL.x_cmpS, DL.x_isN, DL.x_mmL, DL.x_mm2, DL.x_eqS, DL.x_eqI, DL.x_intb, DL.onB_bl, DL.onI_int, DL.onO_nx, DL.onO_rt, DL.onL_ml, DL.addD_ol, DL.isNon_non, DL.isNon_int, DL.isNon_str, DL.isNon_tup, DL.ix_tup, DL.ix_lst, DL.ix_str, DL.ix_obj, DL.atI_0, DL.atI_1, DL.atI_2, DL.atI_3, DL.len_tup, DL.len_lst, DL.len_str, DL.len_obj, DL.ty_obj, DL.ty_str, DL.ty_lst, DL.append_obj, DL.pop_obj, DL.set_obj, DL.ixN_3_2, DL.tuple_obj, DL.tuple_lst, DL.list_tup, DL.list_lst, DL.sl_str, DL.sl_tup, DL.sl_lst, DL.rev_tup, DL.revM_lst, DL.sum_lst, DL.put_same, DL.startD, DL.pick, List.map_cons, List.map_nil, List.replicate, List.cons_append, List.nil_append, List.append_nil, List.length_cons, List.length_nil, List.getElem?_cons_zero, List.getElem?_cons_succ, List.set_cons_zero, List.set_cons_succ, List.filterMap_cons, List.filterMap_nil, Nat.zero_add, Nat.add_zero, Nat.reduceAdd, Nat.reduceSub, true_and, and_true, id_eq, if_true, if_false, Bool.false_eq_true, Bool.not_true, Bool.not_false]
  rw [x_lcI, x_iseq]
  simp only [DL.x_bnd, DL.x_ret, DL.x_req, DL.x_get, DL.x_opt, DL.x_seq, DL.x_or, DL.x_ob, DL.x_oc, DL.x_nil, DL.x_rt, DL.x_rtN, DL.x_drop, DL.x_break, DL.x_cont, DL.x_if, DL.x_ift, DL.x_iff, DL.x_set, DL.x_asg, DL.x_par2, DL.x_par3, DL.x_for, DL.x_v0, DL.x_vS, DL.x_c, DL.x_bin, DL.x_un, DL.x_tbin, DL.x_tru, DL.x_trb, DL.x_not, DL.x_tand, DL.x_tor, DL.x_and, DL.x_orE, DL.x_notE, DL.x_ifE, DL.x_tup, DL.x_lst, DL.x_lstM, DL.x_anil, DL.x_acons, DL.x_call, DL.x_callD, DL.x_callK, DL.x_meth, DL.x_sl, DL.x_oN, DL.x_oS, DL.x_gn, DL.x_gt, DL.x_gc, DL.x_g0, DL.x_gi, DL.x_body, DL.x_yes, DL.x_add, DL.x_addS, DL.x_addT, DL.x_addL, DL.x_sub, DL.x_mul, DL.x_div, DL.x_mod, DL.x_pow, DL.x_neg, DL.x_cmp, DL.x_cmpS, DL.x_isN, DL.x_mmL, DL.x_mm2, DL.x_eqS, DL.x_eqI, DL.x_intb, DL.onB_bl, DL.onI_int, DL.onO_nx, DL.onO_rt, DL.onL_ml, DL.addD_ol, DL.isNon_non, DL.isNon_int, DL.isNon_str, DL.isNon_tup, DL.ix_tup, DL.ix_lst, DL.ix_str, DL.ix_obj, DL.atI_0, DL.atI_1, DL.atI_2, DL.atI_3, DL.len_tup, DL.len_lst, DL.len_str, DL.len_obj, DL.ty_obj, DL.ty_str, DL.ty_lst, DL.append_obj, DL.pop_obj, DL.set_obj, DL.ixN_3_2, DL.tuple_obj, DL.tuple_lst, DL.list_tup, DL.list_lst, DL.sl_str, DL.sl_tup, DL.sl_lst, DL.rev_tup, DL.revM_lst, DL.sum_lst, DL.put_same, DL.startD, DL.pick, List.map_cons, List.map_nil, List.replicate, List.cons_append, List.nil_append, List.append_nil, List.length_cons, List.length_nil, List.getElem?_cons_zero, List.getElem?_cons_succ, List.set_cons_zero, List.set_cons_succ, List.filterMap_cons, List.filterMap_nil, Nat.zero_add, Nat.add_zero, Nat.reduceAdd, Nat.reduceSub, true_and, and_true, id_eq, if_true, if_false, Bool.false_eq_true, Bool.not_true, Bool.not_false]
  refine worth_w hd3 (by omega) (hk k hk') fun w1 μ4 hw1 hd4 hf4 => ?_
  refine worth_w hd4 (by omega) (hk k hk') fun w2 μ5 hw2 hd5 hf5 => ?_
  refine ⟨by decide, ?_⟩
  simp only [onIt_lst]
  have hfr := (((hf1.trans hf2).trans hf3).trans hf4).trans hf5
  have ho : ∀ d ∈ [w1, w2], OkW s d := by
    simp only [List.forall_mem_cons]
    exact ⟨hw1, hw2, fun _ h => (nomatch h)⟩
  have hso := ok_sort ho
  refine elc_nm (items := [w1, w2]) (chk := fun _ => True) (fun d => !DL.isNon d) id (fun R h => h) (show 2 < sizeLine by decide) (fun _ _ _ => trivial) (fun x hx p acc hp R h => ?_) (fun x hx _ p acc hp R h => ?_) ?_
  · simp only [DL.x_bnd, DL.x_ret, DL.x_req, DL.x_get, DL.x_opt, DL.x_seq, DL.x_on, DL.x_or, DL.x_ob, DL.x_oc, DL.x_nil, DL.x_rt, DL.x_rtN, DL.x_drop, DL.x_break, DL.x_cont, DL.x_if, DL.x_ift, DL.x_iff, DL.x_set, DL.x_asg, DL.x_par2, DL.x_par3, DL.x_for, DL.x_v0, DL.x_vS, DL.x_c, DL.x_bin, DL.x_un, DL.x_tbin, DL.x_tru, DL.x_trb, DL.x_not, DL.x_tand, DL.x_tor, DL.x_and, DL.x_orE, DL.x_notE, DL.x_ifE, DL.x_tup, DL.x_lst, DL.x_lstM, DL.x_anil, DL.x_acons, DL.x_call, DL.x_callD, DL.x_callK, DL.x_meth, DL.x_sl, DL.x_oN, DL.x_oS, DL.x_gn, DL.x_gt, DL.x_gc, DL.x_g0, DL.x_gi, DL.x_body, DL.x_yes, DL.x_add, DL.x_addS, DL.x_addT, DL.x_addL, DL.x_sub, DL.x_mul, DL.x_div, DL.x_mod, DL.x_pow, DL.x_neg, DL.x_cmp, DL.x_cmpS, DL.x_isN, DL.x_mmL, DL.x_mm2, DL.x_eqS, DL.x_eqI, DL.x_intb, DL.onB_bl, DL.onI_int, DL.onO_nx, DL.onO_rt, DL.onL_ml, DL.addD_ol, DL.isNon_non, DL.isNon_int, DL.isNon_str, DL.isNon_tup, DL.ix_tup, DL.ix_lst, DL.ix_str, DL.ix_obj, DL.atI_0, DL.atI_1, DL.atI_2, DL.atI_3, DL.len_tup, DL.len_lst, DL.len_str, DL.len_obj, DL.ty_obj, DL.ty_str, DL.ty_lst, DL.append_obj, DL.pop_obj, DL.set_obj, DL.ixN_3_2, DL.tuple_obj, DL.tuple_lst, DL.list_tup, DL.list_lst, DL.sl_str, DL.sl_tup, DL.sl_lst, DL.rev_tup, DL.revM_lst, DL.sum_lst, DL.put_same, DL.startD, DL.pick, List.map_cons, List.map_nil, List.replicate, List.cons_append, List.nil_append, List.append_nil, List.length_cons, List.length_nil, List.getElem?_cons_zero, List.getElem?_cons_succ, List.set_cons_zero, List.set_cons_succ, List.filterMap_cons, List.filterMap_nil, Nat.zero_add, Nat.add_zero, Nat.reduceAdd, Nat.reduceSub, true_and, and_true, id_eq, if_true, if_false, Bool.false_eq_true, Bool.not_true, Bool.not_false, wipeD]
    exact h
  · simp only [DL.x_bnd, DL.x_ret, DL.x_req, DL.x_get, DL.x_opt, DL.x_seq, DL.x_on, DL.x_or, DL.x_ob, DL.x_oc, DL.x_nil, DL.x_rt, DL.x_rtN, DL.x_drop, DL.x_break, DL.x_cont, DL.x_if, DL.x_ift, DL.x_iff, DL.x_set, DL.x_asg, DL.x_par2, DL.x_par3, DL.x_for, DL.x_v0, DL.x_vS, DL.x_c, DL.x_bin, DL.x_un, DL.x_tbin, DL.x_tru, DL.x_trb, DL.x_not, DL.x_tand, DL.x_tor, DL.x_and, DL.x_orE, DL.x_notE, DL.x_ifE, DL.x_tup, DL.x_lst, DL.x_lstM, DL.x_anil, DL.x_acons, DL.x_call, DL.x_callD, DL.x_callK, DL.x_meth, DL.x_sl, DL.x_oN, DL.x_oS, DL.x_gn, DL.x_gt, DL.x_gc, DL.x_g0, DL.x_gi, DL.x_body, DL.x_yes, DL.x_add, DL.x_addS, DL.x_addT, DL.x_addL, DL.x_sub, DL.x_mul, DL.x_div, DL.x_mod, DL.x_pow, DL.x_neg, DL.x_cmp, DL.x_cmpS, DL.x_isN, DL.x_mmL, DL.x_mm2, DL.x_eqS, DL.x_eqI, DL.x_intb, DL.onB_bl, DL.onI_int, DL.onO_nx, DL.onO_rt, DL.onL_ml, DL.addD_ol, DL.isNon_non, DL.isNon_int, DL.isNon_str, DL.isNon_tup, DL.ix_tup, DL.ix_lst, DL.ix_str, DL.ix_obj, DL.atI_0, DL.atI_1, DL.atI_2, DL.atI_3, DL.len_tup, DL.len_lst, DL.len_str, DL.len_obj, DL.ty_obj, DL.ty_str, DL.ty_lst, DL.append_obj, DL.pop_obj, DL.set_obj, DL.ixN_3_2, DL.tuple_obj, DL.tuple_lst, DL.list_tup, DL.list_lst, DL.sl_str, DL.sl_tup, DL.sl_lst, DL.rev_tup, DL.revM_lst, DL.sum_lst, DL.put_same, DL.startD, DL.pick, List.map_cons, List.map_nil, List.replicate, List.cons_append, List.nil_append, List.append_nil, List.length_cons, List.length_nil, List.getElem?_cons_zero, List.getElem?_cons_succ, List.set_cons_zero, List.set_cons_succ, List.filterMap_cons, List.filterMap_nil, Nat.zero_add, Nat.add_zero, Nat.reduceAdd, Nat.reduceSub, true_and, and_true, id_eq, if_true, if_false, Bool.false_eq_true, Bool.not_true, Bool.not_false, wipeD]
    exact h
  · rw [List.map_id]
    have g0 := gdL_of (ds := someOf [w1, w2]) fun x hx => by
      have := ok_sc (ho x (sub_in hx))
      exact ⟨this.good, this.flat⟩
    have hin : ∀ d ∈ someOf [w1, w2], OkW s d := fun d hd => ho d (sub_in hd)
    show outSeq _ (.nx _) μ5 _ E
    rw [x_on]
    simp only [DL.x_bnd, DL.x_ret, DL.x_req, DL.x_get, DL.x_opt, DL.x_seq, DL.x_on, DL.x_or, DL.x_ob, DL.x_oc, DL.x_nil, DL.x_rt, DL.x_rtN, DL.x_drop, DL.x_break, DL.x_cont, DL.x_if, DL.x_ift, DL.x_iff, DL.x_set, DL.x_asg, DL.x_par2, DL.x_par3, DL.x_for, DL.x_v0, DL.x_vS, DL.x_c, DL.x_bin, DL.x_un, DL.x_tbin, DL.x_tru, DL.x_trb, DL.x_not, DL.x_tand, DL.x_tor, DL.x_and, DL.x_orE, DL.x_notE, DL.x_ifE, DL.x_tup, DL.x_lst, DL.x_lstM, DL.x_anil, DL.x_acons, DL.x_call, DL.x_callD, DL.x_callK, DL.x_meth, DL.x_sl, DL.x_oN, DL.x_oS, DL.x_gn, DL.x_gt, DL.x_gc, DL.x_g0, DL.x_gi, DL.x_body, DL.x_yes, DL.x_add, DL.x_addS, DL.x_addT, DL.x_addL, DL.x_sub, DL.x_mul, DL.x_div, DL.x_mod, DL.x_pow, DL.x_neg, DL.x_cmp, DL.x_cmpS, DL.x_isN, DL.x_mmL, DL.x_mm2, DL.x_eqS, DL.x_eqI, DL.x_intb, DL.onB_bl, DL.onI_int, DL.onO_nx, DL.onO_rt, DL.onL_ml, DL.addD_ol, DL.isNon_non, DL.isNon_int, DL.isNon_str, DL.isNon_tup, DL.ix_tup, DL.ix_lst, DL.ix_str, DL.ix_obj, DL.atI_0, DL.atI_1, DL.atI_2, DL.atI_3, DL.len_tup, DL.len_lst, DL.len_str, DL.len_obj, DL.ty_obj, DL.ty_str, DL.ty_lst, DL.append_obj, DL.pop_obj, DL.set_obj, DL.ixN_3_2, DL.tuple_obj, DL.tuple_lst, DL.list_tup, DL.list_lst, DL.sl_str, DL.sl_tup, DL.sl_lst, DL.rev_tup, DL.revM_lst, DL.sum_lst, DL.put_same, DL.startD, DL.pick, List.map_cons, List.map_nil, List.replicate, List.cons_append, List.nil_append, List.append_nil, List.length_cons, List.length_nil, List.getElem?_cons_zero, List.getElem?_cons_succ, List.set_cons_zero, List.set_cons_succ, List.filterMap_cons, List.filterMap_nil, Nat.zero_add, Nat.add_zero, Nat.reduceAdd, Nat.reduceSub, true_and, and_true, id_eq, if_true, if_false, Bool.false_eq_true, Bool.not_true, Bool.not_false]
    refine ⟨by decide, eq_nil_w g0.1 (by show dptL (someOf [w1, w2]) ≤ 50; rw [g0.2]; decide) ?_⟩
    have e0 : [w1, w2].filter (fun d => !DL.isNon d) = someOf [w1, w2] := rfl
    rw [e0]
    have fin0 : ∀ k6 μ6, 0 ≤ k6 → k6 < 99 → Deck μ6 a c (t + 1 + 1 + 1 + 3 + 3 + 1) → DL.Fr a c μ5 μ6 → Q (.tup [.int (1 + k6), .non, .non, .int bl]) μ6 := fun k6 μ6 h1 h2 hd6 hf6 =>
      q _ _ _ _ _ (by omega) ⟨non_sc, non_sc, .inl ⟨rfl, rfl⟩, j0, by omega⟩ ⟨true, .inl rfl⟩ ⟨true, .inl rfl⟩ (hd6.mono (by omega)) (hfr.trans hf6)
    cases em : someOf [w1, w2] with
    | nil =>
      simp only [decide_true, DL.x_bnd, DL.x_ret, DL.x_req, DL.x_get, DL.x_opt, DL.x_seq, DL.x_on, DL.x_or, DL.x_ob, DL.x_oc, DL.x_nil, DL.x_rt, DL.x_rtN, DL.x_drop, DL.x_break, DL.x_cont, DL.x_if, DL.x_ift, DL.x_iff, DL.x_set, DL.x_asg, DL.x_par2, DL.x_par3, DL.x_for, DL.x_v0, DL.x_vS, DL.x_c, DL.x_bin, DL.x_un, DL.x_tbin, DL.x_tru, DL.x_trb, DL.x_not, DL.x_tand, DL.x_tor, DL.x_and, DL.x_orE, DL.x_notE, DL.x_ifE, DL.x_tup, DL.x_lst, DL.x_lstM, DL.x_anil, DL.x_acons, DL.x_call, DL.x_callD, DL.x_callK, DL.x_meth, DL.x_sl, DL.x_oN, DL.x_oS, DL.x_gn, DL.x_gt, DL.x_gc, DL.x_g0, DL.x_gi, DL.x_body, DL.x_yes, DL.x_add, DL.x_addS, DL.x_addT, DL.x_addL, DL.x_sub, DL.x_mul, DL.x_div, DL.x_mod, DL.x_pow, DL.x_neg, DL.x_cmp, DL.x_cmpS, DL.x_isN, DL.x_mmL, DL.x_mm2, DL.x_eqS, DL.x_eqI, DL.x_intb, DL.onB_bl, DL.onI_int, DL.onO_nx, DL.onO_rt, DL.onL_ml, DL.addD_ol, DL.isNon_non, DL.isNon_int, DL.isNon_str, DL.isNon_tup, DL.ix_tup, DL.ix_lst, DL.ix_str, DL.ix_obj, DL.atI_0, DL.atI_1, DL.atI_2, DL.atI_3, DL.len_tup, DL.len_lst, DL.len_str, DL.len_obj, DL.ty_obj, DL.ty_str, DL.ty_lst, DL.append_obj, DL.pop_obj, DL.set_obj, DL.ixN_3_2, DL.tuple_obj, DL.tuple_lst, DL.list_tup, DL.list_lst, DL.sl_str, DL.sl_tup, DL.sl_lst, DL.rev_tup, DL.revM_lst, DL.sum_lst, DL.put_same, DL.startD, DL.pick, List.map_cons, List.map_nil, List.replicate, List.cons_append, List.nil_append, List.append_nil, List.length_cons, List.length_nil, List.getElem?_cons_zero, List.getElem?_cons_succ, List.set_cons_zero, List.set_cons_succ, List.filterMap_cons, List.filterMap_nil, Nat.zero_add, Nat.add_zero, Nat.reduceAdd, Nat.reduceSub, true_and, and_true, id_eq, if_true, if_false, Bool.false_eq_true, Bool.not_true, Bool.not_false]
      refine draw_w hd5 (by decide) (by decide) (by omega) fun k6 μ6 e0 e1 hd6 hf6 => ?_
      simp only [DL.x_bnd, DL.x_ret, DL.x_req, DL.x_get, DL.x_opt, DL.x_seq, DL.x_on, DL.x_or, DL.x_ob, DL.x_oc, DL.x_nil, DL.x_rt, DL.x_rtN, DL.x_drop, DL.x_break, DL.x_cont, DL.x_if, DL.x_ift, DL.x_iff, DL.x_set, DL.x_asg, DL.x_par2, DL.x_par3, DL.x_for, DL.x_v0, DL.x_vS, DL.x_c, DL.x_bin, DL.x_un, DL.x_tbin, DL.x_tru, DL.x_trb, DL.x_not, DL.x_tand, DL.x_tor, DL.x_and, DL.x_orE, DL.x_notE, DL.x_ifE, DL.x_tup, DL.x_lst, DL.x_lstM, DL.x_anil, DL.x_acons, DL.x_call, DL.x_callD, DL.x_callK, DL.x_meth, DL.x_sl, DL.x_oN, DL.x_oS, DL.x_gn, DL.x_gt, DL.x_gc, DL.x_g0, DL.x_gi, DL.x_body, DL.x_yes, DL.x_add, DL.x_addS, DL.x_addT, DL.x_addL, DL.x_sub, DL.x_mul, DL.x_div, DL.x_mod, DL.x_pow, DL.x_neg, DL.x_cmp, DL.x_cmpS, DL.x_isN, DL.x_mmL, DL.x_mm2, DL.x_eqS, DL.x_eqI, DL.x_intb, DL.onB_bl, DL.onI_int, DL.onO_nx, DL.onO_rt, DL.onL_ml, DL.addD_ol, DL.isNon_non, DL.isNon_int, DL.isNon_str, DL.isNon_tup, DL.ix_tup, DL.ix_lst, DL.ix_str, DL.ix_obj, DL.atI_0, DL.atI_1, DL.atI_2, DL.atI_3, DL.len_tup, DL.len_lst, DL.len_str, DL.len_obj, DL.ty_obj, DL.ty_str, DL.ty_lst, DL.append_obj, DL.pop_obj, DL.set_obj, DL.ixN_3_2, DL.tuple_obj, DL.tuple_lst, DL.list_tup, DL.list_lst, DL.sl_str, DL.sl_tup, DL.sl_lst, DL.rev_tup, DL.revM_lst, DL.sum_lst, DL.put_same, DL.startD, DL.pick, List.map_cons, List.map_nil, List.replicate, List.cons_append, List.nil_append, List.append_nil, List.length_cons, List.length_nil, List.getElem?_cons_zero, List.getElem?_cons_succ, List.set_cons_zero, List.set_cons_succ, List.filterMap_cons, List.filterMap_nil, Nat.zero_add, Nat.add_zero, Nat.reduceAdd, Nat.reduceSub, true_and, and_true, id_eq, if_true, if_false, Bool.false_eq_true, Bool.not_true, Bool.not_false]
      exact ⟨by decide, fin0 k6 μ6 e0 e1 hd6 hf6⟩
    | cons d r =>
      rw [em] at hso hin
      have ne : ¬ (d :: r = []) := fun x => nomatch x
      simp only [decide_eq_false ne, DL.x_bnd, DL.x_ret, DL.x_req, DL.x_get, DL.x_opt, DL.x_seq, DL.x_on, DL.x_or, DL.x_ob, DL.x_oc, DL.x_nil, DL.x_rt, DL.x_rtN, DL.x_drop, DL.x_break, DL.x_cont, DL.x_if, DL.x_ift, DL.x_iff, DL.x_set, DL.x_asg, DL.x_par2, DL.x_par3, DL.x_for, DL.x_v0, DL.x_vS, DL.x_c, DL.x_bin, DL.x_un, DL.x_tbin, DL.x_tru, DL.x_trb, DL.x_not, DL.x_tand, DL.x_tor, DL.x_and, DL.x_orE, DL.x_notE, DL.x_ifE, DL.x_tup, DL.x_lst, DL.x_lstM, DL.x_anil, DL.x_acons, DL.x_call, DL.x_callD, DL.x_callK, DL.x_meth, DL.x_sl, DL.x_oN, DL.x_oS, DL.x_gn, DL.x_gt, DL.x_gc, DL.x_g0, DL.x_gi, DL.x_body, DL.x_yes, DL.x_add, DL.x_addS, DL.x_addT, DL.x_addL, DL.x_sub, DL.x_mul, DL.x_div, DL.x_mod, DL.x_pow, DL.x_neg, DL.x_cmp, DL.x_cmpS, DL.x_isN, DL.x_mmL, DL.x_mm2, DL.x_eqS, DL.x_eqI, DL.x_intb, DL.onB_bl, DL.onI_int, DL.onO_nx, DL.onO_rt, DL.onL_ml, DL.addD_ol, DL.isNon_non, DL.isNon_int, DL.isNon_str, DL.isNon_tup, DL.ix_tup, DL.ix_lst, DL.ix_str, DL.ix_obj, DL.atI_0, DL.atI_1, DL.atI_2, DL.atI_3, DL.len_tup, DL.len_lst, DL.len_str, DL.len_obj, DL.ty_obj, DL.ty_str, DL.ty_lst, DL.append_obj, DL.pop_obj, DL.set_obj, DL.ixN_3_2, DL.tuple_obj, DL.tuple_lst, DL.list_tup, DL.list_lst, DL.sl_str, DL.sl_tup, DL.sl_lst, DL.rev_tup, DL.revM_lst, DL.sum_lst, DL.put_same, DL.startD, DL.pick, List.map_cons, List.map_nil, List.replicate, List.cons_append, List.nil_append, List.append_nil, List.length_cons, List.length_nil, List.getElem?_cons_zero, List.getElem?_cons_succ, List.set_cons_zero, List.set_cons_succ, List.filterMap_cons, List.filterMap_nil, Nat.zero_add, Nat.add_zero, Nat.reduceAdd, Nat.reduceSub, true_and, and_true, id_eq, if_true, if_false, Bool.false_eq_true, Bool.not_true, Bool.not_false]
      by_cases hw0 : way = 0
      · simp only [decide_eq_true hw0, DL.x_bnd, DL.x_ret, DL.x_req, DL.x_get, DL.x_opt, DL.x_seq, DL.x_on, DL.x_or, DL.x_ob, DL.x_oc, DL.x_nil, DL.x_rt, DL.x_rtN, DL.x_drop, DL.x_break, DL.x_cont, DL.x_if, DL.x_ift, DL.x_iff, DL.x_set, DL.x_asg, DL.x_par2, DL.x_par3, DL.x_for, DL.x_v0, DL.x_vS, DL.x_c, DL.x_bin, DL.x_un, DL.x_tbin, DL.x_tru, DL.x_trb, DL.x_not, DL.x_tand, DL.x_tor, DL.x_and, DL.x_orE, DL.x_notE, DL.x_ifE, DL.x_tup, DL.x_lst, DL.x_lstM, DL.x_anil, DL.x_acons, DL.x_call, DL.x_callD, DL.x_callK, DL.x_meth, DL.x_sl, DL.x_oN, DL.x_oS, DL.x_gn, DL.x_gt, DL.x_gc, DL.x_g0, DL.x_gi, DL.x_body, DL.x_yes, DL.x_add, DL.x_addS, DL.x_addT, DL.x_addL, DL.x_sub, DL.x_mul, DL.x_div, DL.x_mod, DL.x_pow, DL.x_neg, DL.x_cmp, DL.x_cmpS, DL.x_isN, DL.x_mmL, DL.x_mm2, DL.x_eqS, DL.x_eqI, DL.x_intb, DL.onB_bl, DL.onI_int, DL.onO_nx, DL.onO_rt, DL.onL_ml, DL.addD_ol, DL.isNon_non, DL.isNon_int, DL.isNon_str, DL.isNon_tup, DL.ix_tup, DL.ix_lst, DL.ix_str, DL.ix_obj, DL.atI_0, DL.atI_1, DL.atI_2, DL.atI_3, DL.len_tup, DL.len_lst, DL.len_str, DL.len_obj, DL.ty_obj, DL.ty_str, DL.ty_lst, DL.append_obj, DL.pop_obj, DL.set_obj, DL.ixN_3_2, DL.tuple_obj, DL.tuple_lst, DL.list_tup, DL.list_lst, DL.sl_str, DL.sl_tup, DL.sl_lst, DL.rev_tup, DL.revM_lst, DL.sum_lst, DL.put_same, DL.startD, DL.pick, List.map_cons, List.map_nil, List.replicate, List.cons_append, List.nil_append, List.append_nil, List.length_cons, List.length_nil, List.getElem?_cons_zero, List.getElem?_cons_succ, List.set_cons_zero, List.set_cons_succ, List.filterMap_cons, List.filterMap_nil, Nat.zero_add, Nat.add_zero, Nat.reduceAdd, Nat.reduceSub, true_and, and_true, id_eq, if_true, if_false, Bool.false_eq_true, Bool.not_true, Bool.not_false]
        refine draw_w hd5 (by decide) (by decide) (by omega) fun k6 μ6 e0 e1 hd6 hf6 => ?_
        simp only [DL.x_bnd, DL.x_ret, DL.x_req, DL.x_get, DL.x_opt, DL.x_seq, DL.x_on, DL.x_or, DL.x_ob, DL.x_oc, DL.x_nil, DL.x_rt, DL.x_rtN, DL.x_drop, DL.x_break, DL.x_cont, DL.x_if, DL.x_ift, DL.x_iff, DL.x_set, DL.x_asg, DL.x_par2, DL.x_par3, DL.x_for, DL.x_v0, DL.x_vS, DL.x_c, DL.x_bin, DL.x_un, DL.x_tbin, DL.x_tru, DL.x_trb, DL.x_not, DL.x_tand, DL.x_tor, DL.x_and, DL.x_orE, DL.x_notE, DL.x_ifE, DL.x_tup, DL.x_lst, DL.x_lstM, DL.x_anil, DL.x_acons, DL.x_call, DL.x_callD, DL.x_callK, DL.x_meth, DL.x_sl, DL.x_oN, DL.x_oS, DL.x_gn, DL.x_gt, DL.x_gc, DL.x_g0, DL.x_gi, DL.x_body, DL.x_yes, DL.x_add, DL.x_addS, DL.x_addT, DL.x_addL, DL.x_sub, DL.x_mul, DL.x_div, DL.x_mod, DL.x_pow, DL.x_neg, DL.x_cmp, DL.x_cmpS, DL.x_isN, DL.x_mmL, DL.x_mm2, DL.x_eqS, DL.x_eqI, DL.x_intb, DL.onB_bl, DL.onI_int, DL.onO_nx, DL.onO_rt, DL.onL_ml, DL.addD_ol, DL.isNon_non, DL.isNon_int, DL.isNon_str, DL.isNon_tup, DL.ix_tup, DL.ix_lst, DL.ix_str, DL.ix_obj, DL.atI_0, DL.atI_1, DL.atI_2, DL.atI_3, DL.len_tup, DL.len_lst, DL.len_str, DL.len_obj, DL.ty_obj, DL.ty_str, DL.ty_lst, DL.append_obj, DL.pop_obj, DL.set_obj, DL.ixN_3_2, DL.tuple_obj, DL.tuple_lst, DL.list_tup, DL.list_lst, DL.sl_str, DL.sl_tup, DL.sl_lst, DL.rev_tup, DL.revM_lst, DL.sum_lst, DL.put_same, DL.startD, DL.pick, List.map_cons, List.map_nil, List.replicate, List.cons_append, List.nil_append, List.append_nil, List.length_cons, List.length_nil, List.getElem?_cons_zero, List.getElem?_cons_succ, List.set_cons_zero, List.set_cons_succ, List.filterMap_cons, List.filterMap_nil, Nat.zero_add, Nat.add_zero, Nat.reduceAdd, Nat.reduceSub, true_and, and_true, id_eq, if_true, if_false, Bool.false_eq_true, Bool.not_true, Bool.not_false]
        exact ⟨by decide, fin0 k6 μ6 e0 e1 hd6 hf6⟩
      · simp only [decide_eq_false hw0, DL.x_bnd, DL.x_ret, DL.x_req, DL.x_get, DL.x_opt, DL.x_seq, DL.x_on, DL.x_or, DL.x_ob, DL.x_oc, DL.x_nil, DL.x_rt, DL.x_rtN, DL.x_drop, DL.x_break, DL.x_cont, DL.x_if, DL.x_ift, DL.x_iff, DL.x_set, DL.x_asg, DL.x_par2, DL.x_par3, DL.x_for, DL.x_v0, DL.x_vS, DL.x_c, DL.x_bin, DL.x_un, DL.x_tbin, DL.x_tru, DL.x_trb, DL.x_not, DL.x_tand, DL.x_tor, DL.x_and, DL.x_orE, DL.x_notE, DL.x_ifE, DL.x_tup, DL.x_lst, DL.x_lstM, DL.x_anil, DL.x_acons, DL.x_call, DL.x_callD, DL.x_callK, DL.x_meth, DL.x_sl, DL.x_oN, DL.x_oS, DL.x_gn, DL.x_gt, DL.x_gc, DL.x_g0, DL.x_gi, DL.x_body, DL.x_yes, DL.x_add, DL.x_addS, DL.x_addT, DL.x_addL, DL.x_sub, DL.x_mul, DL.x_div, DL.x_mod, DL.x_pow, DL.x_neg, DL.x_cmp, DL.x_cmpS, DL.x_isN, DL.x_mmL, DL.x_mm2, DL.x_eqS, DL.x_eqI, DL.x_intb, DL.onB_bl, DL.onI_int, DL.onO_nx, DL.onO_rt, DL.onL_ml, DL.addD_ol, DL.isNon_non, DL.isNon_int, DL.isNon_str, DL.isNon_tup, DL.ix_tup, DL.ix_lst, DL.ix_str, DL.ix_obj, DL.atI_0, DL.atI_1, DL.atI_2, DL.atI_3, DL.len_tup, DL.len_lst, DL.len_str, DL.len_obj, DL.ty_obj, DL.ty_str, DL.ty_lst, DL.append_obj, DL.pop_obj, DL.set_obj, DL.ixN_3_2, DL.tuple_obj, DL.tuple_lst, DL.list_tup, DL.list_lst, DL.sl_str, DL.sl_tup, DL.sl_lst, DL.rev_tup, DL.revM_lst, DL.sum_lst, DL.put_same, DL.startD, DL.pick, List.map_cons, List.map_nil, List.replicate, List.cons_append, List.nil_append, List.append_nil, List.length_cons, List.length_nil, List.getElem?_cons_zero, List.getElem?_cons_succ, List.set_cons_zero, List.set_cons_succ, List.filterMap_cons, List.filterMap_nil, Nat.zero_add, Nat.add_zero, Nat.reduceAdd, Nat.reduceSub, true_and, and_true, id_eq, if_true, if_false, Bool.false_eq_true, Bool.not_true, Bool.not_false]
        refine draw_w hd5 (by decide) (by decide) (by omega) fun k6 μ6 e0 e1 hd6 hf6 => ?_
        simp only [DL.x_bnd, DL.x_ret, DL.x_req, DL.x_get, DL.x_opt, DL.x_seq, DL.x_on, DL.x_or, DL.x_ob, DL.x_oc, DL.x_nil, DL.x_rt, DL.x_rtN, DL.x_drop, DL.x_break, DL.x_cont, DL.x_if, DL.x_ift, DL.x_iff, DL.x_set, DL.x_asg, DL.x_par2, DL.x_par3, DL.x_for, DL.x_v0, DL.x_vS, DL.x_c, DL.x_bin, DL.x_un, DL.x_tbin, DL.x_tru, DL.x_trb, DL.x_not, DL.x_tand, DL.x_tor, DL.x_and, DL.x_orE, DL.x_notE, DL.x_ifE, DL.x_tup, DL.x_lst, DL.x_lstM, DL.x_anil, DL.x_acons, DL.x_call, DL.x_callD, DL.x_callK, DL.x_meth, DL.x_sl, DL.x_oN, DL.x_oS, DL.x_gn, DL.x_gt, DL.x_gc, DL.x_g0, DL.x_gi, DL.x_body, DL.x_yes, DL.x_add, DL.x_addS, DL.x_addT, DL.x_addL, DL.x_sub, DL.x_mul, DL.x_div, DL.x_mod, DL.x_pow, DL.x_neg, DL.x_cmp, DL.x_cmpS, DL.x_isN, DL.x_mmL, DL.x_mm2, DL.x_eqS, DL.x_eqI, DL.x_intb, DL.onB_bl, DL.onI_int, DL.onO_nx, DL.onO_rt, DL.onL_ml, DL.addD_ol, DL.isNon_non, DL.isNon_int, DL.isNon_str, DL.isNon_tup, DL.ix_tup, DL.ix_lst, DL.ix_str, DL.ix_obj, DL.atI_0, DL.atI_1, DL.atI_2, DL.atI_3, DL.len_tup, DL.len_lst, DL.len_str, DL.len_obj, DL.ty_obj, DL.ty_str, DL.ty_lst, DL.append_obj, DL.pop_obj, DL.set_obj, DL.ixN_3_2, DL.tuple_obj, DL.tuple_lst, DL.list_tup, DL.list_lst, DL.sl_str, DL.sl_tup, DL.sl_lst, DL.rev_tup, DL.revM_lst, DL.sum_lst, DL.put_same, DL.startD, DL.pick, List.map_cons, List.map_nil, List.replicate, List.cons_append, List.nil_append, List.append_nil, List.length_cons, List.length_nil, List.getElem?_cons_zero, List.getElem?_cons_succ, List.set_cons_zero, List.set_cons_succ, List.filterMap_cons, List.filterMap_nil, Nat.zero_add, Nat.add_zero, Nat.reduceAdd, Nat.reduceSub, true_and, and_true, id_eq, if_true, if_false, Bool.false_eq_true, Bool.not_true, Bool.not_false]
        have sub := sort_sub hso
        have m1 := min_mem d r
        have m2 := max_mem d r
        refine ⟨hso, hso, hso, by decide, ?_⟩
        have hix : ∃ z, atI [maxL d r, minL d r] (if decide (way = 1) = true then 1 else 0) = some z ∧ (z = maxL d r ∨ z = minL d r) := by
          by_cases h1 : way = 1
          · rw [decide_eq_true h1]; exact ⟨_, atI_1 _ _ _, .inr rfl⟩
          · rw [decide_eq_false h1]; exact ⟨_, atI_0 _ _, .inl rfl⟩
        obtain ⟨z, ez, hz⟩ := hix
        have hzm : z ∈ d :: r := by
          rcases hz with rfl | rfl
          · exact m2
          · exact m1
        rw [ez, x_opt]
        refine ⟨by decide, q _ _ _ _ _ (by omega) ⟨ok_sc (hin _ m1), ok_sc (hin _ hzm), .inr (sub _ m1 _ hzm), j0, by omega⟩ ⟨s, hin _ m1⟩ ⟨s, hin _ hzm⟩ (hd6.mono (by omega)) (hfr.trans hf6)⟩
end Lk10

namespace Lk10
open PySem PySem.Spec PyProof.Rows L2 DL

def Pr (x : D) : Prop := ∃ (k : Int) (lo hi : D) (bl : Int) (tests : List D), x = .tup [.tup [.int k, lo, hi, .int bl], .lst tests] ∧ k.natAbs < 1000 ∧ Sp lo hi bl ∧ ∀ t ∈ tests, Ts t
theorem cut13 (n l g k : D) : DL.cutD [n, l, g, k] (some 1) (some 3) = [l, g] := by
  have e1 : HT.sIx 4 0 (some 1) = 1 := by decide
  have e2 : HT.sIx 4 4 (some 3) = 3 := by decide
  unfold DL.cutD
  show ((([n, l, g, k] : List D).drop (HT.sIx 4 0 (some 1))).take (HT.sIx 4 4 (some 3) - HT.sIx 4 0 (some 1))) = _
  rw [e1, e2]
  rfl
theorem wo_of {s : Bool} {ds : List D} (hl : ds.length ≤ 12) (h : ∀ d ∈ ds, OkW s d) : Wo ds := by
  obtain ⟨g1, g2⟩ := gdL_of (ds := ds) fun x hx => ⟨(ok_sc (h x hx)).good, (ok_sc (h x hx)).flat⟩
  have all : ∀ ds : List D, (∀ d ∈ ds, OkW s d) → dszL ds ≤ 2002 * ds.length := fun ds => by
    induction ds with
    | nil => exact fun _ => Nat.le_refl _
    | cons d r ih =>
      intro h
      have a := (ok_sc (h d (List.mem_cons_self ..))).size
      have b := ih fun e he => h e (List.mem_cons_of_mem _ he)
      show dsz d + 2 + dszL r ≤ 2002 * (r.length + 1)
      omega
  exact ⟨ok_sort h, g1, hl, by have := all ds h; omega, g2⟩
theorem law_true (ns : List Int) (μ : Mem) (hl : ns.length ≤ 63) (hμ : ∀ b, μ b = none) : m_law [.lst (ns.map .int)] μ (fun d _ => d = .bl true) (fun _ _ => False) := by
  simp only [m_law, b_law, DL.x_bnd, DL.x_ret, DL.x_req, DL.x_get, DL.x_opt, DL.x_seq, DL.x_or, DL.x_ob, DL.x_oc, DL.x_nil, DL.x_rt, DL.x_rtN, DL.x_drop, DL.x_break, DL.x_cont, DL.x_if, DL.x_ift, DL.x_iff, DL.x_set, DL.x_asg, DL.x_par2, DL.x_par3, DL.x_for, DL.x_v0, DL.x_vS, DL.x_c, DL.x_bin, DL.x_un, DL.x_tbin, DL.x_tru, DL.x_trb, DL.x_not, DL.x_tand, DL.x_tor, DL.x_and, DL.x_orE, DL.x_notE, DL.x_ifE, DL.x_tup, DL.x_lst, DL.x_lstM, DL.x_anil, DL.x_acons, DL.x_call, DL.x_callD, DL.x_callK, DL.x_meth, DL.x_sl, DL.x_oN, DL.x_oS, DL.x_gn, DL.x_gt, DL.x_gc, DL.x_g0, DL.x_gi, DL.x_body, DL.x_yes, DL.x_add, DL.x_addS, DL.x_addT, DL.x_addL, DL.x_sub, DL.x_mul, DL.x_div, DL.x_mod, DL.x_pow, DL.x_neg, DL.x_cmp, DL.x_cmpS, DL.x_isN, DL.x_mmL, DL.x_mm2, DL.x_eqS, DL.x_eqI, DL.x_intb, DL.onB_bl, DL.onI_int, DL.onO_nx, DL.onO_rt, DL.onL_ml, DL.addD_ol, DL.isNon_non, DL.isNon_int, DL.isNon_str, DL.isNon_tup, DL.ix_tup, DL.ix_lst, DL.ix_str, DL.ix_obj, DL.atI_0, DL.atI_1, DL.atI_2, DL.atI_3, DL.len_tup, DL.len_lst, DL.len_str, DL.len_obj, DL.ty_obj, DL.ty_str, DL.ty_lst, DL.append_obj, DL.pop_obj, DL.set_obj, DL.ixN_3_2, DL.tuple_obj, DL.tuple_lst, DL.list_tup, DL.list_lst, DL.sl_str, DL.sl_tup, DL.sl_lst, DL.rev_tup, DL.revM_lst, DL.sum_lst, DL.put_same, DL.startD, DL.pick, List.map_cons, List.map_nil, List.replicate, List.cons_append, List.nil_append, List.append_nil, List.length_cons, List.length_nil, List.getElem?_cons_zero, List.getElem?_cons_succ, List.set_cons_zero, List.set_cons_succ, List.filterMap_cons, List.filterMap_nil, Nat.zero_add, Nat.add_zero, Nat.reduceAdd, Nat.reduceSub, true_and, and_true, id_eq, if_true, if_false, Bool.false_eq_true, Bool.not_true, Bool.not_false]
  refine deck_w hl hμ fun a c μ1 hd => ?_
  rw [x_on]
  simp only [DL.x_bnd, DL.x_ret, DL.x_req, DL.x_get, DL.x_opt, DL.x_seq, DL.x_or, DL.x_ob, DL.x_oc, DL.x_nil, DL.x_rt, DL.x_rtN, DL.x_drop, DL.x_break, DL.x_cont, DL.x_if, DL.x_ift, DL.x_iff, DL.x_set, DL.x_asg, DL.x_par2, DL.x_par3, DL.x_for, DL.x_v0, DL.x_vS, DL.x_c, DL.x_bin, DL.x_un, DL.x_tbin, DL.x_tru, DL.x_trb, DL.x_not, DL.x_tand, DL.x_tor, DL.x_and, DL.x_orE, DL.x_notE, DL.x_ifE, DL.x_tup, DL.x_lst, DL.x_lstM, DL.x_anil, DL.x_acons, DL.x_call, DL.x_callD, DL.x_callK, DL.x_meth, DL.x_sl, DL.x_oN, DL.x_oS, DL.x_gn, DL.x_gt, DL.x_gc, DL.x_g0, DL.x_gi, DL.x_body, DL.x_yes, DL.x_add, DL.x_addS, DL.x_addT, DL.x_addL, DL.x_sub, DL.x_mul, DL.x_div, DL.x_mod, DL.x_pow, DL.x_neg, DL.x_cmp, DL.x_cmpS, DL.x_isN, DL.x_mmL, DL.x_mm2, DL.x_eqS, DL.x_eqI, DL.x_intb, DL.onB_bl, DL.onI_int, DL.onO_nx, DL.onO_rt, DL.onL_ml, DL.addD_ol, DL.isNon_non, DL.isNon_int, DL.isNon_str, DL.isNon_tup, DL.ix_tup, DL.ix_lst, DL.ix_str, DL.ix_obj, DL.atI_0, DL.atI_1, DL.atI_2, DL.atI_3, DL.len_tup, DL.len_lst, DL.len_str, DL.len_obj, DL.ty_obj, DL.ty_str, DL.ty_lst, DL.append_obj, DL.pop_obj, DL.set_obj, DL.ixN_3_2, DL.tuple_obj, DL.tuple_lst, DL.list_tup, DL.list_lst, DL.sl_str, DL.sl_tup, DL.sl_lst, DL.rev_tup, DL.revM_lst, DL.sum_lst, DL.put_same, DL.startD, DL.pick, List.map_cons, List.map_nil, List.replicate, List.cons_append, List.nil_append, List.append_nil, List.length_cons, List.length_nil, List.getElem?_cons_zero, List.getElem?_cons_succ, List.set_cons_zero, List.set_cons_succ, List.filterMap_cons, List.filterMap_nil, Nat.zero_add, Nat.add_zero, Nat.reduceAdd, Nat.reduceSub, true_and, and_true, id_eq, if_true, if_false, Bool.false_eq_true, Bool.not_true, Bool.not_false]
  refine ⟨by decide, fun p hp => ?_⟩
  obtain ⟨pa, pc, _⟩ := fresh hd (DL.Fr.refl a c μ1) hp
  rw [x_on]
  simp only [DL.x_bnd, DL.x_ret, DL.x_req, DL.x_get, DL.x_opt, DL.x_seq, DL.x_or, DL.x_ob, DL.x_oc, DL.x_nil, DL.x_rt, DL.x_rtN, DL.x_drop, DL.x_break, DL.x_cont, DL.x_if, DL.x_ift, DL.x_iff, DL.x_set, DL.x_asg, DL.x_par2, DL.x_par3, DL.x_for, DL.x_v0, DL.x_vS, DL.x_c, DL.x_bin, DL.x_un, DL.x_tbin, DL.x_tru, DL.x_trb, DL.x_not, DL.x_tand, DL.x_tor, DL.x_and, DL.x_orE, DL.x_notE, DL.x_ifE, DL.x_tup, DL.x_lst, DL.x_lstM, DL.x_anil, DL.x_acons, DL.x_call, DL.x_callD, DL.x_callK, DL.x_meth, DL.x_sl, DL.x_oN, DL.x_oS, DL.x_gn, DL.x_gt, DL.x_gc, DL.x_g0, DL.x_gi, DL.x_body, DL.x_yes, DL.x_add, DL.x_addS, DL.x_addT, DL.x_addL, DL.x_sub, DL.x_mul, DL.x_div, DL.x_mod, DL.x_pow, DL.x_neg, DL.x_cmp, DL.x_cmpS, DL.x_isN, DL.x_mmL, DL.x_mm2, DL.x_eqS, DL.x_eqI, DL.x_intb, DL.onB_bl, DL.onI_int, DL.onO_nx, DL.onO_rt, DL.onL_ml, DL.addD_ol, DL.isNon_non, DL.isNon_int, DL.isNon_str, DL.isNon_tup, DL.ix_tup, DL.ix_lst, DL.ix_str, DL.ix_obj, DL.atI_0, DL.atI_1, DL.atI_2, DL.atI_3, DL.len_tup, DL.len_lst, DL.len_str, DL.len_obj, DL.ty_obj, DL.ty_str, DL.ty_lst, DL.append_obj, DL.pop_obj, DL.set_obj, DL.ixN_3_2, DL.tuple_obj, DL.tuple_lst, DL.list_tup, DL.list_lst, DL.sl_str, DL.sl_tup, DL.sl_lst, DL.rev_tup, DL.revM_lst, DL.sum_lst, DL.put_same, DL.startD, DL.pick, List.map_cons, List.map_nil, List.replicate, List.cons_append, List.nil_append, List.append_nil, List.length_cons, List.length_nil, List.getElem?_cons_zero, List.getElem?_cons_succ, List.set_cons_zero, List.set_cons_succ, List.filterMap_cons, List.filterMap_nil, Nat.zero_add, Nat.add_zero, Nat.reduceAdd, Nat.reduceSub, true_and, and_true, id_eq, if_true, if_false, Bool.false_eq_true, Bool.not_true, Bool.not_false]
  rw [x_rg1]
  simp only [DL.x_bnd, DL.x_ret, DL.x_req, DL.x_get, DL.x_opt, DL.x_seq, DL.x_or, DL.x_ob, DL.x_oc, DL.x_nil, DL.x_rt, DL.x_rtN, DL.x_drop, DL.x_break, DL.x_cont, DL.x_if, DL.x_ift, DL.x_iff, DL.x_set, DL.x_asg, DL.x_par2, DL.x_par3, DL.x_for, DL.x_v0, DL.x_vS, DL.x_c, DL.x_bin, DL.x_un, DL.x_tbin, DL.x_tru, DL.x_trb, DL.x_not, DL.x_tand, DL.x_tor, DL.x_and, DL.x_orE, DL.x_notE, DL.x_ifE, DL.x_tup, DL.x_lst, DL.x_lstM, DL.x_anil, DL.x_acons, DL.x_call, DL.x_callD, DL.x_callK, DL.x_meth, DL.x_sl, DL.x_oN, DL.x_oS, DL.x_gn, DL.x_gt, DL.x_gc, DL.x_g0, DL.x_gi, DL.x_body, DL.x_yes, DL.x_add, DL.x_addS, DL.x_addT, DL.x_addL, DL.x_sub, DL.x_mul, DL.x_div, DL.x_mod, DL.x_pow, DL.x_neg, DL.x_cmp, DL.x_cmpS, DL.x_isN, DL.x_mmL, DL.x_mm2, DL.x_eqS, DL.x_eqI, DL.x_intb, DL.onB_bl, DL.onI_int, DL.onO_nx, DL.onO_rt, DL.onL_ml, DL.addD_ol, DL.isNon_non, DL.isNon_int, DL.isNon_str, DL.isNon_tup, DL.ix_tup, DL.ix_lst, DL.ix_str, DL.ix_obj, DL.atI_0, DL.atI_1, DL.atI_2, DL.atI_3, DL.len_tup, DL.len_lst, DL.len_str, DL.len_obj, DL.ty_obj, DL.ty_str, DL.ty_lst, DL.append_obj, DL.pop_obj, DL.set_obj, DL.ixN_3_2, DL.tuple_obj, DL.tuple_lst, DL.list_tup, DL.list_lst, DL.sl_str, DL.sl_tup, DL.sl_lst, DL.rev_tup, DL.revM_lst, DL.sum_lst, DL.put_same, DL.startD, DL.pick, List.map_cons, List.map_nil, List.replicate, List.cons_append, List.nil_append, List.append_nil, List.length_cons, List.length_nil, List.getElem?_cons_zero, List.getElem?_cons_succ, List.set_cons_zero, List.set_cons_succ, List.filterMap_cons, List.filterMap_nil, Nat.zero_add, Nat.add_zero, Nat.reduceAdd, Nat.reduceSub, true_and, and_true, id_eq, if_true, if_false, Bool.false_eq_true, Bool.not_true, Bool.not_false]
  refine ⟨⟨by decide, by decide⟩, ?_⟩
  have hlen : (rangeL 0 (4 : Int).toNat).length = 4 := rfl
  refine for_w (fun i ρ μ' => ∃ xs o3 o4 o5 o6 o7 o8, ρ = [some (.lst (ns.map .int)), some (.obj a), some (.obj p), o3, o4, o5, o6, o7, o8] ∧ μ' p = some (.ml xs) ∧ xs.length = 2 * i ∧ (∀ x ∈ xs, Pr x) ∧ Deck μ' a c (1000 * i)) (rangeL 0 (4 : Int).toNat) ?_ ?_ _ _ ⟨[], none, none, none, none, none, none, rfl, put_same, rfl, fun _ h => (nomatch h), (hd.new hp).mono (by omega)⟩
  · intro i v ρ μ2 R hv hI hR _
    obtain ⟨xs, o3, o4, o5, o6, o7, o8, rfl, hm, hx, hp2, hd2⟩ := hI
    have hi : i < 4 := by
      rcases Nat.lt_or_ge i 4 with k | k
      · exact k
      · rw [List.getElem?_eq_none (by rw [hlen]; exact k)] at hv; cases hv
    refine ⟨trivial, ?_⟩
    simp only [DL.x_bnd, DL.x_ret, DL.x_req, DL.x_get, DL.x_opt, DL.x_seq, DL.x_or, DL.x_ob, DL.x_oc, DL.x_nil, DL.x_rt, DL.x_rtN, DL.x_drop, DL.x_break, DL.x_cont, DL.x_if, DL.x_ift, DL.x_iff, DL.x_set, DL.x_asg, DL.x_par2, DL.x_par3, DL.x_for, DL.x_v0, DL.x_vS, DL.x_c, DL.x_bin, DL.x_un, DL.x_tbin, DL.x_tru, DL.x_trb, DL.x_not, DL.x_tand, DL.x_tor, DL.x_and, DL.x_orE, DL.x_notE, DL.x_ifE, DL.x_tup, DL.x_lst, DL.x_lstM, DL.x_anil, DL.x_acons, DL.x_call, DL.x_callD, DL.x_callK, DL.x_meth, DL.x_sl, DL.x_oN, DL.x_oS, DL.x_gn, DL.x_gt, DL.x_gc, DL.x_g0, DL.x_gi, DL.x_body, DL.x_yes, DL.x_add, DL.x_addS, DL.x_addT, DL.x_addL, DL.x_sub, DL.x_mul, DL.x_div, DL.x_mod, DL.x_pow, DL.x_neg, DL.x_cmp, DL.x_cmpS, DL.x_isN, DL.x_mmL, DL.x_mm2, DL.x_eqS, DL.x_eqI, DL.x_intb, DL.onB_bl, DL.onI_int, DL.onO_nx, DL.onO_rt, DL.onL_ml, DL.addD_ol, DL.isNon_non, DL.isNon_int, DL.isNon_str, DL.isNon_tup, DL.ix_tup, DL.ix_lst, DL.ix_str, DL.ix_obj, DL.atI_0, DL.atI_1, DL.atI_2, DL.atI_3, DL.len_tup, DL.len_lst, DL.len_str, DL.len_obj, DL.ty_obj, DL.ty_str, DL.ty_lst, DL.append_obj, DL.pop_obj, DL.set_obj, DL.ixN_3_2, DL.tuple_obj, DL.tuple_lst, DL.list_tup, DL.list_lst, DL.sl_str, DL.sl_tup, DL.sl_lst, DL.rev_tup, DL.revM_lst, DL.sum_lst, DL.put_same, DL.startD, DL.pick, List.map_cons, List.map_nil, List.replicate, List.cons_append, List.nil_append, List.append_nil, List.length_cons, List.length_nil, List.getElem?_cons_zero, List.getElem?_cons_succ, List.set_cons_zero, List.set_cons_succ, List.filterMap_cons, List.filterMap_nil, Nat.zero_add, Nat.add_zero, Nat.reduceAdd, Nat.reduceSub, true_and, and_true, id_eq, if_true, if_false, Bool.false_eq_true, Bool.not_true, Bool.not_false]
    refine draw_w hd2 (by decide) (by decide) (by omega) fun sort μ3 a0 a1 hd3 hf3 => ?_
    have hm3 := hf3 p _ pa pc hm
    rw [x_on]
    simp only [DL.x_bnd, DL.x_ret, DL.x_req, DL.x_get, DL.x_opt, DL.x_seq, DL.x_or, DL.x_ob, DL.x_oc, DL.x_nil, DL.x_rt, DL.x_rtN, DL.x_drop, DL.x_break, DL.x_cont, DL.x_if, DL.x_ift, DL.x_iff, DL.x_set, DL.x_asg, DL.x_par2, DL.x_par3, DL.x_for, DL.x_v0, DL.x_vS, DL.x_c, DL.x_bin, DL.x_un, DL.x_tbin, DL.x_tru, DL.x_trb, DL.x_not, DL.x_tand, DL.x_tor, DL.x_and, DL.x_orE, DL.x_notE, DL.x_ifE, DL.x_tup, DL.x_lst, DL.x_lstM, DL.x_anil, DL.x_acons, DL.x_call, DL.x_callD, DL.x_callK, DL.x_meth, DL.x_sl, DL.x_oN, DL.x_oS, DL.x_gn, DL.x_gt, DL.x_gc, DL.x_g0, DL.x_gi, DL.x_body, DL.x_yes, DL.x_add, DL.x_addS, DL.x_addT, DL.x_addL, DL.x_sub, DL.x_mul, DL.x_div, DL.x_mod, DL.x_pow, DL.x_neg, DL.x_cmp, DL.x_cmpS, DL.x_isN, DL.x_mmL, DL.x_mm2, DL.x_eqS, DL.x_eqI, DL.x_intb, DL.onB_bl, DL.onI_int, DL.onO_nx, DL.onO_rt, DL.onL_ml, DL.addD_ol, DL.isNon_non, DL.isNon_int, DL.isNon_str, DL.isNon_tup, DL.ix_tup, DL.ix_lst, DL.ix_str, DL.ix_obj, DL.atI_0, DL.atI_1, DL.atI_2, DL.atI_3, DL.len_tup, DL.len_lst, DL.len_str, DL.len_obj, DL.ty_obj, DL.ty_str, DL.ty_lst, DL.append_obj, DL.pop_obj, DL.set_obj, DL.ixN_3_2, DL.tuple_obj, DL.tuple_lst, DL.list_tup, DL.list_lst, DL.sl_str, DL.sl_tup, DL.sl_lst, DL.rev_tup, DL.revM_lst, DL.sum_lst, DL.put_same, DL.startD, DL.pick, List.map_cons, List.map_nil, List.replicate, List.cons_append, List.nil_append, List.append_nil, List.length_cons, List.length_nil, List.getElem?_cons_zero, List.getElem?_cons_succ, List.set_cons_zero, List.set_cons_succ, List.filterMap_cons, List.filterMap_nil, Nat.zero_add, Nat.add_zero, Nat.reduceAdd, Nat.reduceSub, true_and, and_true, id_eq, if_true, if_false, Bool.false_eq_true, Bool.not_true, Bool.not_false]
    refine worths_w hd3 (by omega) a0 a1 fun ds μ4 hl4 hok hd4 hf4 => ?_
    have hm4 := hf4 p _ pa pc hm3
    rw [x_on]
    simp only [DL.x_bnd, DL.x_ret, DL.x_req, DL.x_get, DL.x_opt, DL.x_seq, DL.x_or, DL.x_ob, DL.x_oc, DL.x_nil, DL.x_rt, DL.x_rtN, DL.x_drop, DL.x_break, DL.x_cont, DL.x_if, DL.x_ift, DL.x_iff, DL.x_set, DL.x_asg, DL.x_par2, DL.x_par3, DL.x_for, DL.x_v0, DL.x_vS, DL.x_c, DL.x_bin, DL.x_un, DL.x_tbin, DL.x_tru, DL.x_trb, DL.x_not, DL.x_tand, DL.x_tor, DL.x_and, DL.x_orE, DL.x_notE, DL.x_ifE, DL.x_tup, DL.x_lst, DL.x_lstM, DL.x_anil, DL.x_acons, DL.x_call, DL.x_callD, DL.x_callK, DL.x_meth, DL.x_sl, DL.x_oN, DL.x_oS, DL.x_gn, DL.x_gt, DL.x_gc, DL.x_g0, DL.x_gi, DL.x_body, DL.x_yes, DL.x_add, DL.x_addS, DL.x_addT, DL.x_addL, DL.x_sub, DL.x_mul, DL.x_div, DL.x_mod, DL.x_pow, DL.x_neg, DL.x_cmp, DL.x_cmpS, DL.x_isN, DL.x_mmL, DL.x_mm2, DL.x_eqS, DL.x_eqI, DL.x_intb, DL.onB_bl, DL.onI_int, DL.onO_nx, DL.onO_rt, DL.onL_ml, DL.addD_ol, DL.isNon_non, DL.isNon_int, DL.isNon_str, DL.isNon_tup, DL.ix_tup, DL.ix_lst, DL.ix_str, DL.ix_obj, DL.atI_0, DL.atI_1, DL.atI_2, DL.atI_3, DL.len_tup, DL.len_lst, DL.len_str, DL.len_obj, DL.ty_obj, DL.ty_str, DL.ty_lst, DL.append_obj, DL.pop_obj, DL.set_obj, DL.ixN_3_2, DL.tuple_obj, DL.tuple_lst, DL.list_tup, DL.list_lst, DL.sl_str, DL.sl_tup, DL.sl_lst, DL.rev_tup, DL.revM_lst, DL.sum_lst, DL.put_same, DL.startD, DL.pick, List.map_cons, List.map_nil, List.replicate, List.cons_append, List.nil_append, List.append_nil, List.length_cons, List.length_nil, List.getElem?_cons_zero, List.getElem?_cons_succ, List.set_cons_zero, List.set_cons_succ, List.filterMap_cons, List.filterMap_nil, Nat.zero_add, Nat.add_zero, Nat.reduceAdd, Nat.reduceSub, true_and, and_true, id_eq, if_true, if_false, Bool.false_eq_true, Bool.not_true, Bool.not_false]
    refine draw_w hd4 (by decide) (by decide) (by omega) fun k5 μ5 b0 b1 hd5 hf5 => ?_
    have hm5 := hf5 p _ pa pc hm4
    simp only [DL.x_bnd, DL.x_ret, DL.x_req, DL.x_get, DL.x_opt, DL.x_seq, DL.x_or, DL.x_ob, DL.x_oc, DL.x_nil, DL.x_rt, DL.x_rtN, DL.x_drop, DL.x_break, DL.x_cont, DL.x_if, DL.x_ift, DL.x_iff, DL.x_set, DL.x_asg, DL.x_par2, DL.x_par3, DL.x_for, DL.x_v0, DL.x_vS, DL.x_c, DL.x_bin, DL.x_un, DL.x_tbin, DL.x_tru, DL.x_trb, DL.x_not, DL.x_tand, DL.x_tor, DL.x_and, DL.x_orE, DL.x_notE, DL.x_ifE, DL.x_tup, DL.x_lst, DL.x_lstM, DL.x_anil, DL.x_acons, DL.x_call, DL.x_callD, DL.x_callK, DL.x_meth, DL.x_sl, DL.x_oN, DL.x_oS, DL.x_gn, DL.x_gt, DL.x_gc, DL.x_g0, DL.x_gi, DL.x_body, DL.x_yes, DL.x_add, DL.x_addS, DL.x_addT, DL.x_addL, DL.x_sub, DL.x_mul, DL.x_div, DL.x_mod, DL.x_pow, DL.x_neg, DL.x_cmp, DL.x_cmpS, DL.x_isN, DL.x_mmL, DL.x_mm2, DL.x_eqS, DL.x_eqI, DL.x_intb, DL.onB_bl, DL.onI_int, DL.onO_nx, DL.onO_rt, DL.onL_ml, DL.addD_ol, DL.isNon_non, DL.isNon_int, DL.isNon_str, DL.isNon_tup, DL.ix_tup, DL.ix_lst, DL.ix_str, DL.ix_obj, DL.atI_0, DL.atI_1, DL.atI_2, DL.atI_3, DL.len_tup, DL.len_lst, DL.len_str, DL.len_obj, DL.ty_obj, DL.ty_str, DL.ty_lst, DL.append_obj, DL.pop_obj, DL.set_obj, DL.ixN_3_2, DL.tuple_obj, DL.tuple_lst, DL.list_tup, DL.list_lst, DL.sl_str, DL.sl_tup, DL.sl_lst, DL.rev_tup, DL.revM_lst, DL.sum_lst, DL.put_same, DL.startD, DL.pick, List.map_cons, List.map_nil, List.replicate, List.cons_append, List.nil_append, List.append_nil, List.length_cons, List.length_nil, List.getElem?_cons_zero, List.getElem?_cons_succ, List.set_cons_zero, List.set_cons_succ, List.filterMap_cons, List.filterMap_nil, Nat.zero_add, Nat.add_zero, Nat.reduceAdd, Nat.reduceSub, true_and, and_true, id_eq, if_true, if_false, Bool.false_eq_true, Bool.not_true, Bool.not_false]
    have wo := wo_of (by omega) hok
    refine span_of_w wo ?_
    have hsc : ∀ x ∈ ds, Sc x := fun x hx => ok_sc (hok x hx)
    have sp := sp_of (ok_sort hok) hsc (by omega)
    rw [x_on]
    unfold spanD
    simp only [DL.x_bnd, DL.x_ret, DL.x_req, DL.x_get, DL.x_opt, DL.x_seq, DL.x_or, DL.x_ob, DL.x_oc, DL.x_nil, DL.x_rt, DL.x_rtN, DL.x_drop, DL.x_break, DL.x_cont, DL.x_if, DL.x_ift, DL.x_iff, DL.x_set, DL.x_asg, DL.x_par2, DL.x_par3, DL.x_for, DL.x_v0, DL.x_vS, DL.x_c, DL.x_bin, DL.x_un, DL.x_tbin, DL.x_tru, DL.x_trb, DL.x_not, DL.x_tand, DL.x_tor, DL.x_and, DL.x_orE, DL.x_notE, DL.x_ifE, DL.x_tup, DL.x_lst, DL.x_lstM, DL.x_anil, DL.x_acons, DL.x_call, DL.x_callD, DL.x_callK, DL.x_meth, DL.x_sl, DL.x_oN, DL.x_oS, DL.x_gn, DL.x_gt, DL.x_gc, DL.x_g0, DL.x_gi, DL.x_body, DL.x_yes, DL.x_add, DL.x_addS, DL.x_addT, DL.x_addL, DL.x_sub, DL.x_mul, DL.x_div, DL.x_mod, DL.x_pow, DL.x_neg, DL.x_cmp, DL.x_cmpS, DL.x_isN, DL.x_mmL, DL.x_mm2, DL.x_eqS, DL.x_eqI, DL.x_intb, DL.onB_bl, DL.onI_int, DL.onO_nx, DL.onO_rt, DL.onL_ml, DL.addD_ol, DL.isNon_non, DL.isNon_int, DL.isNon_str, DL.isNon_tup, DL.ix_tup, DL.ix_lst, DL.ix_str, DL.ix_obj, DL.atI_0, DL.atI_1, DL.atI_2, DL.atI_3, DL.len_tup, DL.len_lst, DL.len_str, DL.len_obj, DL.ty_obj, DL.ty_str, DL.ty_lst, DL.append_obj, DL.pop_obj, DL.set_obj, DL.ixN_3_2, DL.tuple_obj, DL.tuple_lst, DL.list_tup, DL.list_lst, DL.sl_str, DL.sl_tup, DL.sl_lst, DL.rev_tup, DL.revM_lst, DL.sum_lst, DL.put_same, DL.startD, DL.pick, List.map_cons, List.map_nil, List.replicate, List.cons_append, List.nil_append, List.append_nil, List.length_cons, List.length_nil, List.getElem?_cons_zero, List.getElem?_cons_succ, List.set_cons_zero, List.set_cons_succ, List.filterMap_cons, List.filterMap_nil, Nat.zero_add, Nat.add_zero, Nat.reduceAdd, Nat.reduceSub, true_and, and_true, id_eq, if_true, if_false, Bool.false_eq_true, Bool.not_true, Bool.not_false]
    refine tests_w hd5 (by omega) (by omega) (by omega) (fun d hd => ⟨_, hok d hd⟩) fun tests μ6 hts hd6 hf6 => ?_
    have hm6 := hf6 p _ pa pc hm5
    rw [x_on]
    simp only [DL.x_bnd, DL.x_ret, DL.x_req, DL.x_get, DL.x_opt, DL.x_seq, DL.x_or, DL.x_ob, DL.x_oc, DL.x_nil, DL.x_rt, DL.x_rtN, DL.x_drop, DL.x_break, DL.x_cont, DL.x_if, DL.x_ift, DL.x_iff, DL.x_set, DL.x_asg, DL.x_par2, DL.x_par3, DL.x_for, DL.x_v0, DL.x_vS, DL.x_c, DL.x_bin, DL.x_un, DL.x_tbin, DL.x_tru, DL.x_trb, DL.x_not, DL.x_tand, DL.x_tor, DL.x_and, DL.x_orE, DL.x_notE, DL.x_ifE, DL.x_tup, DL.x_lst, DL.x_lstM, DL.x_anil, DL.x_acons, DL.x_call, DL.x_callD, DL.x_callK, DL.x_meth, DL.x_sl, DL.x_oN, DL.x_oS, DL.x_gn, DL.x_gt, DL.x_gc, DL.x_g0, DL.x_gi, DL.x_body, DL.x_yes, DL.x_add, DL.x_addS, DL.x_addT, DL.x_addL, DL.x_sub, DL.x_mul, DL.x_div, DL.x_mod, DL.x_pow, DL.x_neg, DL.x_cmp, DL.x_cmpS, DL.x_isN, DL.x_mmL, DL.x_mm2, DL.x_eqS, DL.x_eqI, DL.x_intb, DL.onB_bl, DL.onI_int, DL.onO_nx, DL.onO_rt, DL.onL_ml, DL.addD_ol, DL.isNon_non, DL.isNon_int, DL.isNon_str, DL.isNon_tup, DL.ix_tup, DL.ix_lst, DL.ix_str, DL.ix_obj, DL.atI_0, DL.atI_1, DL.atI_2, DL.atI_3, DL.len_tup, DL.len_lst, DL.len_str, DL.len_obj, DL.ty_obj, DL.ty_str, DL.ty_lst, DL.append_obj, DL.pop_obj, DL.set_obj, DL.ixN_3_2, DL.tuple_obj, DL.tuple_lst, DL.list_tup, DL.list_lst, DL.sl_str, DL.sl_tup, DL.sl_lst, DL.rev_tup, DL.revM_lst, DL.sum_lst, DL.put_same, DL.startD, DL.pick, List.map_cons, List.map_nil, List.replicate, List.cons_append, List.nil_append, List.append_nil, List.length_cons, List.length_nil, List.getElem?_cons_zero, List.getElem?_cons_succ, List.set_cons_zero, List.set_cons_succ, List.filterMap_cons, List.filterMap_nil, Nat.zero_add, Nat.add_zero, Nat.reduceAdd, Nat.reduceSub, true_and, and_true, id_eq, if_true, if_false, Bool.false_eq_true, Bool.not_true, Bool.not_false, hm6]
    refine ⟨by decide, by rw [hx]; exact Nat.lt_trans (show 2 * i < 100 by omega) (by decide), ?_⟩
    rw [x_on]
    simp only [DL.x_bnd, DL.x_ret, DL.x_req, DL.x_get, DL.x_opt, DL.x_seq, DL.x_or, DL.x_ob, DL.x_oc, DL.x_nil, DL.x_rt, DL.x_rtN, DL.x_drop, DL.x_break, DL.x_cont, DL.x_if, DL.x_ift, DL.x_iff, DL.x_set, DL.x_asg, DL.x_par2, DL.x_par3, DL.x_for, DL.x_v0, DL.x_vS, DL.x_c, DL.x_bin, DL.x_un, DL.x_tbin, DL.x_tru, DL.x_trb, DL.x_not, DL.x_tand, DL.x_tor, DL.x_and, DL.x_orE, DL.x_notE, DL.x_ifE, DL.x_tup, DL.x_lst, DL.x_lstM, DL.x_anil, DL.x_acons, DL.x_call, DL.x_callD, DL.x_callK, DL.x_meth, DL.x_sl, DL.x_oN, DL.x_oS, DL.x_gn, DL.x_gt, DL.x_gc, DL.x_g0, DL.x_gi, DL.x_body, DL.x_yes, DL.x_add, DL.x_addS, DL.x_addT, DL.x_addL, DL.x_sub, DL.x_mul, DL.x_div, DL.x_mod, DL.x_pow, DL.x_neg, DL.x_cmp, DL.x_cmpS, DL.x_isN, DL.x_mmL, DL.x_mm2, DL.x_eqS, DL.x_eqI, DL.x_intb, DL.onB_bl, DL.onI_int, DL.onO_nx, DL.onO_rt, DL.onL_ml, DL.addD_ol, DL.isNon_non, DL.isNon_int, DL.isNon_str, DL.isNon_tup, DL.ix_tup, DL.ix_lst, DL.ix_str, DL.ix_obj, DL.atI_0, DL.atI_1, DL.atI_2, DL.atI_3, DL.len_tup, DL.len_lst, DL.len_str, DL.len_obj, DL.ty_obj, DL.ty_str, DL.ty_lst, DL.append_obj, DL.pop_obj, DL.set_obj, DL.ixN_3_2, DL.tuple_obj, DL.tuple_lst, DL.list_tup, DL.list_lst, DL.sl_str, DL.sl_tup, DL.sl_lst, DL.rev_tup, DL.revM_lst, DL.sum_lst, DL.put_same, DL.startD, DL.pick, List.map_cons, List.map_nil, List.replicate, List.cons_append, List.nil_append, List.append_nil, List.length_cons, List.length_nil, List.getElem?_cons_zero, List.getElem?_cons_succ, List.set_cons_zero, List.set_cons_succ, List.filterMap_cons, List.filterMap_nil, Nat.zero_add, Nat.add_zero, Nat.reduceAdd, Nat.reduceSub, true_and, and_true, id_eq, if_true, if_false, Bool.false_eq_true, Bool.not_true, Bool.not_false]
    refine sound_w (ok_sort hok) hsc (by omega) hts ?_
    simp only [DL.x_bnd, DL.x_ret, DL.x_req, DL.x_get, DL.x_opt, DL.x_seq, DL.x_or, DL.x_ob, DL.x_oc, DL.x_nil, DL.x_rt, DL.x_rtN, DL.x_drop, DL.x_break, DL.x_cont, DL.x_if, DL.x_ift, DL.x_iff, DL.x_set, DL.x_asg, DL.x_par2, DL.x_par3, DL.x_for, DL.x_v0, DL.x_vS, DL.x_c, DL.x_bin, DL.x_un, DL.x_tbin, DL.x_tru, DL.x_trb, DL.x_not, DL.x_tand, DL.x_tor, DL.x_and, DL.x_orE, DL.x_notE, DL.x_ifE, DL.x_tup, DL.x_lst, DL.x_lstM, DL.x_anil, DL.x_acons, DL.x_call, DL.x_callD, DL.x_callK, DL.x_meth, DL.x_sl, DL.x_oN, DL.x_oS, DL.x_gn, DL.x_gt, DL.x_gc, DL.x_g0, DL.x_gi, DL.x_body, DL.x_yes, DL.x_add, DL.x_addS, DL.x_addT, DL.x_addL, DL.x_sub, DL.x_mul, DL.x_div, DL.x_mod, DL.x_pow, DL.x_neg, DL.x_cmp, DL.x_cmpS, DL.x_isN, DL.x_mmL, DL.x_mm2, DL.x_eqS, DL.x_eqI, DL.x_intb, DL.onB_bl, DL.onI_int, DL.onO_nx, DL.onO_rt, DL.onL_ml, DL.addD_ol, DL.isNon_non, DL.isNon_int, DL.isNon_str, DL.isNon_tup, DL.ix_tup, DL.ix_lst, DL.ix_str, DL.ix_obj, DL.atI_0, DL.atI_1, DL.atI_2, DL.atI_3, DL.len_tup, DL.len_lst, DL.len_str, DL.len_obj, DL.ty_obj, DL.ty_str, DL.ty_lst, DL.append_obj, DL.pop_obj, DL.set_obj, DL.ixN_3_2, DL.tuple_obj, DL.tuple_lst, DL.list_tup, DL.list_lst, DL.sl_str, DL.sl_tup, DL.sl_lst, DL.rev_tup, DL.revM_lst, DL.sum_lst, DL.put_same, DL.startD, DL.pick, List.map_cons, List.map_nil, List.replicate, List.cons_append, List.nil_append, List.append_nil, List.length_cons, List.length_nil, List.getElem?_cons_zero, List.getElem?_cons_succ, List.set_cons_zero, List.set_cons_succ, List.filterMap_cons, List.filterMap_nil, Nat.zero_add, Nat.add_zero, Nat.reduceAdd, Nat.reduceSub, true_and, and_true, id_eq, if_true, if_false, Bool.false_eq_true, Bool.not_true, Bool.not_false]
    rw [x_on]
    simp only [DL.x_bnd, DL.x_ret, DL.x_req, DL.x_get, DL.x_opt, DL.x_seq, DL.x_or, DL.x_ob, DL.x_oc, DL.x_nil, DL.x_rt, DL.x_rtN, DL.x_drop, DL.x_break, DL.x_cont, DL.x_if, DL.x_ift, DL.x_iff, DL.x_set, DL.x_asg, DL.x_par2, DL.x_par3, DL.x_for, DL.x_v0, DL.x_vS, DL.x_c, DL.x_bin, DL.x_un, DL.x_tbin, DL.x_tru, DL.x_trb, DL.x_not, DL.x_tand, DL.x_tor, DL.x_and, DL.x_orE, DL.x_notE, DL.x_ifE, DL.x_tup, DL.x_lst, DL.x_lstM, DL.x_anil, DL.x_acons, DL.x_call, DL.x_callD, DL.x_callK, DL.x_meth, DL.x_sl, DL.x_oN, DL.x_oS, DL.x_gn, DL.x_gt, DL.x_gc, DL.x_g0, DL.x_gi, DL.x_body, DL.x_yes, DL.x_add, DL.x_addS, DL.x_addT, DL.x_addL, DL.x_sub, DL.x_mul, DL.x_div, DL.x_mod, DL.x_pow, DL.x_neg, DL.x_cmp, DL.x_cmpS, DL.x_isN, DL.x_mmL, DL.x_mm2, DL.x_eqS, DL.x_eqI, DL.x_intb, DL.onB_bl, DL.onI_int, DL.onO_nx, DL.onO_rt, DL.onL_ml, DL.addD_ol, DL.isNon_non, DL.isNon_int, DL.isNon_str, DL.isNon_tup, DL.ix_tup, DL.ix_lst, DL.ix_str, DL.ix_obj, DL.atI_0, DL.atI_1, DL.atI_2, DL.atI_3, DL.len_tup, DL.len_lst, DL.len_str, DL.len_obj, DL.ty_obj, DL.ty_str, DL.ty_lst, DL.append_obj, DL.pop_obj, DL.set_obj, DL.ixN_3_2, DL.tuple_obj, DL.tuple_lst, DL.list_tup, DL.list_lst, DL.sl_str, DL.sl_tup, DL.sl_lst, DL.rev_tup, DL.revM_lst, DL.sum_lst, DL.put_same, DL.startD, DL.pick, List.map_cons, List.map_nil, List.replicate, List.cons_append, List.nil_append, List.append_nil, List.length_cons, List.length_nil, List.getElem?_cons_zero, List.getElem?_cons_succ, List.set_cons_zero, List.set_cons_succ, List.filterMap_cons, List.filterMap_nil, Nat.zero_add, Nat.add_zero, Nat.reduceAdd, Nat.reduceSub, true_and, and_true, id_eq, if_true, if_false, Bool.false_eq_true, Bool.not_true, Bool.not_false]
    refine lspan_w (hd6.put pa pc) (by omega) a0 a1 fun k7 lo hi bl μ7 hk7 sp7 ol oh hd7 hf7 => ?_
    have hm7 := hf7 p _ pa pc put_same
    rw [x_on]
    simp only [DL.x_bnd, DL.x_ret, DL.x_req, DL.x_get, DL.x_opt, DL.x_seq, DL.x_on, DL.x_or, DL.x_ob, DL.x_oc, DL.x_nil, DL.x_rt, DL.x_rtN, DL.x_drop, DL.x_break, DL.x_cont, DL.x_if, DL.x_ift, DL.x_iff, DL.x_set, DL.x_asg, DL.x_par2, DL.x_par3, DL.x_for, DL.x_v0, DL.x_vS, DL.x_c, DL.x_bin, DL.x_un, DL.x_tbin, DL.x_tru, DL.x_trb, DL.x_not, DL.x_tand, DL.x_tor, DL.x_and, DL.x_orE, DL.x_notE, DL.x_ifE, DL.x_tup, DL.x_lst, DL.x_lstM, DL.x_anil, DL.x_acons, DL.x_call, DL.x_callD, DL.x_callK, DL.x_meth, DL.x_sl, DL.x_oN, DL.x_oS, DL.x_gn, DL.x_gt, DL.x_gc, DL.x_g0, DL.x_gi, DL.x_body, DL.x_yes, DL.x_add, DL.x_addS, DL.x_addT, DL.x_addL, DL.x_sub, DL.x_mul, DL.x_div, DL.x_mod, DL.x_pow, DL.x_neg, DL.x_cmp, DL.x_cmpS, DL.x_isN, DL.x_mmL, DL.x_mm2, DL.x_eqS, DL.x_eqI, DL.x_intb, DL.onB_bl, DL.onI_int, DL.onO_nx, DL.onO_rt, DL.onL_ml, DL.addD_ol, DL.isNon_non, DL.isNon_int, DL.isNon_str, DL.isNon_tup, DL.ix_tup, DL.ix_lst, DL.ix_str, DL.ix_obj, DL.atI_0, DL.atI_1, DL.atI_2, DL.atI_3, DL.len_tup, DL.len_lst, DL.len_str, DL.len_obj, DL.ty_obj, DL.ty_str, DL.ty_lst, DL.append_obj, DL.pop_obj, DL.set_obj, DL.ixN_3_2, DL.tuple_obj, DL.tuple_lst, DL.list_tup, DL.list_lst, DL.sl_str, DL.sl_tup, DL.sl_lst, DL.rev_tup, DL.revM_lst, DL.sum_lst, DL.put_same, DL.startD, DL.pick, List.map_cons, List.map_nil, List.replicate, List.cons_append, List.nil_append, List.append_nil, List.length_cons, List.length_nil, List.getElem?_cons_zero, List.getElem?_cons_succ, List.set_cons_zero, List.set_cons_succ, List.filterMap_cons, List.filterMap_nil, Nat.zero_add, Nat.add_zero, Nat.reduceAdd, Nat.reduceSub, true_and, and_true, id_eq, if_true, if_false, Bool.false_eq_true, Bool.not_true, Bool.not_false, hm7, cut13]
    refine tests_w hd7 (by omega) hk7 (show 2 ≤ 50 by decide) (by
      simp only [List.forall_mem_cons]
      exact ⟨ol, oh, fun _ h => (nomatch h)⟩) fun tests' μ8 hts' hd8 hf8 => ?_
    have hm8 := hf8 p _ pa pc hm7
    simp only [DL.x_bnd, DL.x_ret, DL.x_req, DL.x_get, DL.x_opt, DL.x_seq, DL.x_on, DL.x_or, DL.x_ob, DL.x_oc, DL.x_nil, DL.x_rt, DL.x_rtN, DL.x_drop, DL.x_break, DL.x_cont, DL.x_if, DL.x_ift, DL.x_iff, DL.x_set, DL.x_asg, DL.x_par2, DL.x_par3, DL.x_for, DL.x_v0, DL.x_vS, DL.x_c, DL.x_bin, DL.x_un, DL.x_tbin, DL.x_tru, DL.x_trb, DL.x_not, DL.x_tand, DL.x_tor, DL.x_and, DL.x_orE, DL.x_notE, DL.x_ifE, DL.x_tup, DL.x_lst, DL.x_lstM, DL.x_anil, DL.x_acons, DL.x_call, DL.x_callD, DL.x_callK, DL.x_meth, DL.x_sl, DL.x_oN, DL.x_oS, DL.x_gn, DL.x_gt, DL.x_gc, DL.x_g0, DL.x_gi, DL.x_body, DL.x_yes, DL.x_add, DL.x_addS, DL.x_addT, DL.x_addL, DL.x_sub, DL.x_mul, DL.x_div, DL.x_mod, DL.x_pow, DL.x_neg, DL.x_cmp, DL.x_cmpS, DL.x_isN, DL.x_mmL, DL.x_mm2, DL.x_eqS, DL.x_eqI, DL.x_intb, DL.onB_bl, DL.onI_int, DL.onO_nx, DL.onO_rt, DL.onL_ml, DL.addD_ol, DL.isNon_non, DL.isNon_int, DL.isNon_str, DL.isNon_tup, DL.ix_tup, DL.ix_lst, DL.ix_str, DL.ix_obj, DL.atI_0, DL.atI_1, DL.atI_2, DL.atI_3, DL.len_tup, DL.len_lst, DL.len_str, DL.len_obj, DL.ty_obj, DL.ty_str, DL.ty_lst, DL.append_obj, DL.pop_obj, DL.set_obj, DL.ixN_3_2, DL.tuple_obj, DL.tuple_lst, DL.list_tup, DL.list_lst, DL.sl_str, DL.sl_tup, DL.sl_lst, DL.rev_tup, DL.revM_lst, DL.sum_lst, DL.put_same, DL.startD, DL.pick, List.map_cons, List.map_nil, List.replicate, List.cons_append, List.nil_append, List.append_nil, List.length_cons, List.length_nil, List.getElem?_cons_zero, List.getElem?_cons_succ, List.set_cons_zero, List.set_cons_succ, List.filterMap_cons, List.filterMap_nil, Nat.zero_add, Nat.add_zero, Nat.reduceAdd, Nat.reduceSub, true_and, and_true, id_eq, if_true, if_false, Bool.false_eq_true, Bool.not_true, Bool.not_false, hm8]
    refine ⟨by decide, by rw [List.length_append, hx]; exact Nat.lt_trans (show 2 * i + 1 < 100 by omega) (by decide), hR _ _ ⟨_, _, _, _, _, _, _, rfl, put_same, by rw [List.length_append, List.length_append, hx]; simp only [List.length_cons, List.length_nil]; omega, ?_, (hd8.put pa pc).mono (by omega)⟩⟩
    intro x hx'
    rcases List.mem_append.mp hx' with k | k
    · rcases List.mem_append.mp k with k | k
      · exact hp2 x k
      · rw [List.mem_singleton.mp k]
        exact ⟨_, _, _, _, _, rfl, by omega, sp, hts⟩
    · rw [List.mem_singleton.mp k]
      exact ⟨_, _, _, _, _, rfl, hk7, sp7, hts'⟩
  · rintro ρ μ2 ⟨xs, o3, o4, o5, o6, o7, o8, rfl, hm, hx, hp2, hd2⟩
    rw [hlen] at hx
    refine ⟨trivial, ?_⟩
    rw [x_on]
    simp only [DL.x_bnd, DL.x_ret, DL.x_req, DL.x_get, DL.x_opt, DL.x_seq, DL.x_on, DL.x_or, DL.x_ob, DL.x_oc, DL.x_nil, DL.x_rt, DL.x_rtN, DL.x_drop, DL.x_break, DL.x_cont, DL.x_if, DL.x_ift, DL.x_iff, DL.x_set, DL.x_asg, DL.x_par2, DL.x_par3, DL.x_for, DL.x_v0, DL.x_vS, DL.x_c, DL.x_bin, DL.x_un, DL.x_tbin, DL.x_tru, DL.x_trb, DL.x_not, DL.x_tand, DL.x_tor, DL.x_and, DL.x_orE, DL.x_notE, DL.x_ifE, DL.x_tup, DL.x_lst, DL.x_lstM, DL.x_anil, DL.x_acons, DL.x_call, DL.x_callD, DL.x_callK, DL.x_meth, DL.x_sl, DL.x_oN, DL.x_oS, DL.x_gn, DL.x_gt, DL.x_gc, DL.x_g0, DL.x_gi, DL.x_body, DL.x_yes, DL.x_add, DL.x_addS, DL.x_addT, DL.x_addL, DL.x_sub, DL.x_mul, DL.x_div, DL.x_mod, DL.x_pow, DL.x_neg, DL.x_cmp, DL.x_cmpS, DL.x_isN, DL.x_mmL, DL.x_mm2, DL.x_eqS, DL.x_eqI, DL.x_intb, DL.onB_bl, DL.onI_int, DL.onO_nx, DL.onO_rt, DL.onL_ml, DL.addD_ol, DL.isNon_non, DL.isNon_int, DL.isNon_str, DL.isNon_tup, DL.ix_tup, DL.ix_lst, DL.ix_str, DL.ix_obj, DL.atI_0, DL.atI_1, DL.atI_2, DL.atI_3, DL.len_tup, DL.len_lst, DL.len_str, DL.len_obj, DL.ty_obj, DL.ty_str, DL.ty_lst, DL.append_obj, DL.pop_obj, DL.set_obj, DL.ixN_3_2, DL.tuple_obj, DL.tuple_lst, DL.list_tup, DL.list_lst, DL.sl_str, DL.sl_tup, DL.sl_lst, DL.rev_tup, DL.revM_lst, DL.sum_lst, DL.put_same, DL.startD, DL.pick, List.map_cons, List.map_nil, List.replicate, List.cons_append, List.nil_append, List.append_nil, List.length_cons, List.length_nil, List.getElem?_cons_zero, List.getElem?_cons_succ, List.set_cons_zero, List.set_cons_succ, List.filterMap_cons, List.filterMap_nil, Nat.zero_add, Nat.add_zero, Nat.reduceAdd, Nat.reduceSub, true_and, and_true, id_eq, if_true, if_false, Bool.false_eq_true, Bool.not_true, Bool.not_false]
    rw [x_lcI, x_iseq]
    simp only [DL.x_bnd, DL.x_ret, DL.x_req, DL.x_get, DL.x_opt, DL.x_seq, DL.x_on, DL.x_or, DL.x_ob, DL.x_oc, DL.x_nil, DL.x_rt, DL.x_rtN, DL.x_drop, DL.x_break, DL.x_cont, DL.x_if, DL.x_ift, DL.x_iff, DL.x_set, DL.x_asg, DL.x_par2, DL.x_par3, DL.x_for, DL.x_v0, DL.x_vS, DL.x_c, DL.x_bin, DL.x_un, DL.x_tbin, DL.x_tru, DL.x_trb, DL.x_not, DL.x_tand, DL.x_tor, DL.x_and, DL.x_orE, DL.x_notE, DL.x_ifE, DL.x_tup, DL.x_lst, DL.x_lstM, DL.x_anil, DL.x_acons, DL.x_call, DL.x_callD, DL.x_callK, DL.x_meth, DL.x_sl, DL.x_oN, DL.x_oS, DL.x_gn, DL.x_gt, DL.x_gc, DL.x_g0, DL.x_gi, DL.x_body, DL.x_yes, DL.x_add, DL.x_addS, DL.x_addT, DL.x_addL, DL.x_sub, DL.x_mul, DL.x_div, DL.x_mod, DL.x_pow, DL.x_neg, DL.x_cmp, DL.x_cmpS, DL.x_isN, DL.x_mmL, DL.x_mm2, DL.x_eqS, DL.x_eqI, DL.x_intb, DL.onB_bl, DL.onI_int, DL.onO_nx, DL.onO_rt, DL.onL_ml, DL.addD_ol, DL.isNon_non, DL.isNon_int, DL.isNon_str, DL.isNon_tup, DL.ix_tup, DL.ix_lst, DL.ix_str, DL.ix_obj, DL.atI_0, DL.atI_1, DL.atI_2, DL.atI_3, DL.len_tup, DL.len_lst, DL.len_str, DL.len_obj, DL.ty_obj, DL.ty_str, DL.ty_lst, DL.append_obj, DL.pop_obj, DL.set_obj, DL.ixN_3_2, DL.tuple_obj, DL.tuple_lst, DL.list_tup, DL.list_lst, DL.sl_str, DL.sl_tup, DL.sl_lst, DL.rev_tup, DL.revM_lst, DL.sum_lst, DL.put_same, DL.startD, DL.pick, List.map_cons, List.map_nil, List.replicate, List.cons_append, List.nil_append, List.append_nil, List.length_cons, List.length_nil, List.getElem?_cons_zero, List.getElem?_cons_succ, List.set_cons_zero, List.set_cons_succ, List.filterMap_cons, List.filterMap_nil, Nat.zero_add, Nat.add_zero, Nat.reduceAdd, Nat.reduceSub, true_and, and_true, id_eq, if_true, if_false, Bool.false_eq_true, Bool.not_true, Bool.not_false, DL.sl_obj, hm, onIt_lst]
    have hc : ∀ x ∈ DL.cutD xs none (some 2), x ∈ xs := fun x h => by
      unfold DL.cutD at h
      exact List.mem_of_mem_drop (List.mem_of_mem_take h)
    have hcl : (DL.cutD xs none (some 2)).length ≤ xs.length := by
      unfold DL.cutD
      rw [List.length_take, List.length_drop]
      omega
    refine ⟨Nat.le_trans (show xs.length + (DL.cutD xs none (some 2)).length ≤ 100 by omega) (by decide), ?_⟩
    have hall : ∀ x ∈ xs ++ DL.cutD xs none (some 2), Pr x := fun x h => by
      rcases List.mem_append.mp h with k | k
      · exact hp2 x k
      · exact hp2 x (hc x k)
    refine elc_pr (items := xs ++ DL.cutD xs none (some 2)) (chk := fun _ => True) (fun _ => false) id (fun R h => h) (by rw [List.length_append]; exact Nat.lt_of_le_of_lt (show xs.length + (DL.cutD xs none (some 2)).length ≤ 100 by omega) (by decide)) (fun _ _ _ => trivial) (fun x hx => ?_) (fun a b hx p acc hp R hR => ?_) (fun a b hx e => nomatch e) ?_
    · obtain ⟨k, lo, hi, bl, tests, rfl, _⟩ := hall x hx
      exact ⟨_, _, rfl⟩
    · obtain ⟨k, lo, hi, bl, tests, e, hk, sp, hts⟩ := hall _ hx
      cases e
      simp only [DL.x_bnd, DL.x_ret, DL.x_req, DL.x_get, DL.x_opt, DL.x_seq, DL.x_on, DL.x_or, DL.x_ob, DL.x_oc, DL.x_nil, DL.x_rt, DL.x_rtN, DL.x_drop, DL.x_break, DL.x_cont, DL.x_if, DL.x_ift, DL.x_iff, DL.x_set, DL.x_asg, DL.x_par2, DL.x_par3, DL.x_for, DL.x_v0, DL.x_vS, DL.x_c, DL.x_bin, DL.x_un, DL.x_tbin, DL.x_tru, DL.x_trb, DL.x_not, DL.x_tand, DL.x_tor, DL.x_and, DL.x_orE, DL.x_notE, DL.x_ifE, DL.x_tup, DL.x_lst, DL.x_lstM, DL.x_anil, DL.x_acons, DL.x_call, DL.x_callD, DL.x_callK, DL.x_meth, DL.x_sl, DL.x_oN, DL.x_oS, DL.x_gn, DL.x_gt, DL.x_gc, DL.x_g0, DL.x_gi, DL.x_body, DL.x_yes, DL.x_add, DL.x_addS, DL.x_addT, DL.x_addL, DL.x_sub, DL.x_mul, DL.x_div, DL.x_mod, DL.x_pow, DL.x_neg, DL.x_cmp, DL.x_cmpS, DL.x_isN, DL.x_mmL, DL.x_mm2, DL.x_eqS, DL.x_eqI, DL.x_intb, DL.onB_bl, DL.onI_int, DL.onO_nx, DL.onO_rt, DL.onL_ml, DL.addD_ol, DL.isNon_non, DL.isNon_int, DL.isNon_str, DL.isNon_tup, DL.ix_tup, DL.ix_lst, DL.ix_str, DL.ix_obj, DL.atI_0, DL.atI_1, DL.atI_2, DL.atI_3, DL.len_tup, DL.len_lst, DL.len_str, DL.len_obj, DL.ty_obj, DL.ty_str, DL.ty_lst, DL.append_obj, DL.pop_obj, DL.set_obj, DL.ixN_3_2, DL.tuple_obj, DL.tuple_lst, DL.list_tup, DL.list_lst, DL.sl_str, DL.sl_tup, DL.sl_lst, DL.rev_tup, DL.revM_lst, DL.sum_lst, DL.put_same, DL.startD, DL.pick, List.map_cons, List.map_nil, List.replicate, List.cons_append, List.nil_append, List.append_nil, List.length_cons, List.length_nil, List.getElem?_cons_zero, List.getElem?_cons_succ, List.set_cons_zero, List.set_cons_succ, List.filterMap_cons, List.filterMap_nil, Nat.zero_add, Nat.add_zero, Nat.reduceAdd, Nat.reduceSub, true_and, and_true, id_eq, if_true, if_false, Bool.false_eq_true, Bool.not_true, Bool.not_false, wipeD]
      refine right_w sp hk hts ?_
      simp only [DL.x_bnd, DL.x_ret, DL.x_req, DL.x_get, DL.x_opt, DL.x_seq, DL.x_on, DL.x_or, DL.x_ob, DL.x_oc, DL.x_nil, DL.x_rt, DL.x_rtN, DL.x_drop, DL.x_break, DL.x_cont, DL.x_if, DL.x_ift, DL.x_iff, DL.x_set, DL.x_asg, DL.x_par2, DL.x_par3, DL.x_for, DL.x_v0, DL.x_vS, DL.x_c, DL.x_bin, DL.x_un, DL.x_tbin, DL.x_tru, DL.x_trb, DL.x_not, DL.x_tand, DL.x_tor, DL.x_and, DL.x_orE, DL.x_notE, DL.x_ifE, DL.x_tup, DL.x_lst, DL.x_lstM, DL.x_anil, DL.x_acons, DL.x_call, DL.x_callD, DL.x_callK, DL.x_meth, DL.x_sl, DL.x_oN, DL.x_oS, DL.x_gn, DL.x_gt, DL.x_gc, DL.x_g0, DL.x_gi, DL.x_body, DL.x_yes, DL.x_add, DL.x_addS, DL.x_addT, DL.x_addL, DL.x_sub, DL.x_mul, DL.x_div, DL.x_mod, DL.x_pow, DL.x_neg, DL.x_cmp, DL.x_cmpS, DL.x_isN, DL.x_mmL, DL.x_mm2, DL.x_eqS, DL.x_eqI, DL.x_intb, DL.onB_bl, DL.onI_int, DL.onO_nx, DL.onO_rt, DL.onL_ml, DL.addD_ol, DL.isNon_non, DL.isNon_int, DL.isNon_str, DL.isNon_tup, DL.ix_tup, DL.ix_lst, DL.ix_str, DL.ix_obj, DL.atI_0, DL.atI_1, DL.atI_2, DL.atI_3, DL.len_tup, DL.len_lst, DL.len_str, DL.len_obj, DL.ty_obj, DL.ty_str, DL.ty_lst, DL.append_obj, DL.pop_obj, DL.set_obj, DL.ixN_3_2, DL.tuple_obj, DL.tuple_lst, DL.list_tup, DL.list_lst, DL.sl_str, DL.sl_tup, DL.sl_lst, DL.rev_tup, DL.revM_lst, DL.sum_lst, DL.put_same, DL.startD, DL.pick, List.map_cons, List.map_nil, List.replicate, List.cons_append, List.nil_append, List.append_nil, List.length_cons, List.length_nil, List.getElem?_cons_zero, List.getElem?_cons_succ, List.set_cons_zero, List.set_cons_succ, List.filterMap_cons, List.filterMap_nil, Nat.zero_add, Nat.add_zero, Nat.reduceAdd, Nat.reduceSub, true_and, and_true, id_eq, if_true, if_false, Bool.false_eq_true, Bool.not_true, Bool.not_false]
      exact hR
    · have e : ∀ l : List D, (l.filter fun _ => false).map id = [] := fun l => by
        induction l with
        | nil => rfl
        | cons x r ih => exact ih
      rw [e]
      refine ⟨by decide, eq_nil_w rfl (by decide) ?_⟩
      rfl
end Lk10

open PySem PySem.W PyProof.Rows
set_option maxHeartbeats 0 in
theorem PySem.Challenge.cw_stillfiles_k10_which_tests_spans_may_mee_holds : PySem.Challenge.rw_stillfiles_k10_which_tests_spans_may_mee.Holds := by
  w_on; o_law; k_head; (case hw => w_witness2)
  k_fill
  refine DL.walkD (l := PySem.Challenge.rw_stillfiles_k10_which_tests_spans_may_mee) (n := 63) (k := 4) (x := "_law_script") (m := Lk10.m_law) rfl (by decide) rfl ⟨rfl, by decide, by decide⟩ (fun w h Y => PySem.W.kIn_of Y) ?F Lk10.law_true
  case F =>
    intro w mg fa h KX G hmg
    refine' Lk10.all_mk KX G hmg ?a0 ?l0 ?c0 ?k0 ?a1 ?l1 ?c1 ?k1 ?a2 ?l2 ?c2 ?k2 ?a3 ?l3 ?c3 ?k3 ?a4 ?l4 ?c4 ?k4 ?a5 ?l5 ?c5 ?k5 ?a6 ?l6 ?c6 ?k6 ?a7 ?l7 ?c7 ?k7 ?a8 ?l8 ?c8 ?k8 ?a9 ?l9 ?c9 ?k9 ?a10 ?l10 ?c10 ?k10 ?a11 ?l11 ?c11 ?k11 ?a12 ?l12 ?c12 ?k12 ?a13 ?l13 ?c13 ?k13 ?a14 ?l14 ?c14 ?k14 ?a15 ?l15 ?c15 ?k15 ?z0 ?z1 ?z2 ?z3 ?z4 ?z5 ?z6 ?z7 ?z8 ?z9 ?z10
    (case a0 => k_is); (case l0 => k_is); (case c0 => k_is); (case k0 => k_is); (case a1 => k_is); (case l1 => k_is); (case c1 => k_is); (case k1 => k_is); (case a2 => k_is); (case l2 => k_is); (case c2 => k_is); (case k2 => k_is); (case a3 => k_is); (case l3 => k_is); (case c3 => k_is); (case k3 => k_is); (case a4 => k_is); (case l4 => k_is); (case c4 => k_is); (case k4 => k_is); (case a5 => k_is); (case l5 => k_is); (case c5 => k_is); (case k5 => k_is); (case a6 => k_is); (case l6 => k_is); (case c6 => k_is); (case k6 => k_is); (case a7 => k_is); (case l7 => k_is); (case c7 => k_is); (case k7 => k_is); (case a8 => k_is); (case l8 => k_is); (case c8 => k_is); (case k8 => k_is); (case a9 => k_is); (case l9 => k_is); (case c9 => k_is); (case k9 => k_is); (case a10 => k_is); (case l10 => k_is); (case c10 => k_is); (case k10 => k_is); (case a11 => k_is); (case l11 => k_is); (case c11 => k_is); (case k11 => k_is); (case a12 => k_is); (case l12 => k_is); (case c12 => k_is); (case k12 => k_is); (case a13 => k_is); (case l13 => k_is); (case c13 => k_is); (case k13 => k_is); (case a14 => k_is); (case l14 => k_is); (case c14 => k_is); (case k14 => k_is); (case a15 => k_is); (case l15 => k_is); (case c15 => k_is); (case k15 => k_is); (case z0 => k_is); (case z1 => k_is); (case z2 => k_is); (case z3 => k_is); (case z4 => k_is); (case z5 => k_is); (case z6 => k_is); (case z7 => k_is); (case z8 => k_is); (case z9 => k_is); (case z10 => k_is)
