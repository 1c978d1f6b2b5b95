import PyProof.Rows.All
import Wide.All
import OpenK.AllK
import Wide.FinOn
import HandS.ForMost
import HandS.TupAny
import HandS.Wide
import HandS.Style
import HandS.Flow
import HandS.More
import HandS.TupLe
import HandS.IsInst
import HandS.Deep
import HandS.Small
import KE.DataMinMax
import PyProof.ReprRoads
import HandS.Dict
import HandS.Iter
import HandS.Zip
import HandS.WrittenGet
import HandS.DictComp
import PyProof.CollectIter
import HandS.SortKw
import KE.GoesEnumKw
import KE.GoesEnum
import HandS.SetBool
import HandS.SetKeys
import HandS.Conv
import HandS.Codes
import KE.SortKeyHeap
import PySem.Challenge.RW_stillfiles_k03_rows_rising
set_option Elab.async false
set_option linter.all false
set_option maxRecDepth 100000
set_option maxHeartbeats 4000000
/-! DL: Python data as trees (D), mutable objects apart (Mem), readings lifted to both. -/
namespace DL
open PySem PySem.Spec PyProof.Rows L2

inductive D where
  | non
  | bl (b : Bool)
  | int (i : Int)
  | str (s : Str)
  | tup (ds : List D)
  | lst (ds : List D)
  | dct (kvs : List (Key × D))
  | obj (a : Addr)
  | ty (n : String)

/-- what a mutable object holds -/
inductive MO where
  | ml (ds : List D)
  | md (kvs : List (Key × D))

abbrev Mem := Addr → Option MO
abbrev Rho := List (Option D)
/-- an exception: its class, its fields -/
structure Ex where
  cls : Value
  fs : List (Str × D)
abbrev XD := Ex → Mem → Prop
/-- what must hold ahead, by what is wanted behind -/
abbrev W (α : Type) := Mem → (α → Mem → Prop) → XD → Prop

namespace W
def ret {α : Type} (a : α) : W α := fun μ Q _ => Q a μ
def bnd {α β : Type} (m : W α) (f : α → W β) : W β := fun μ Q E => m μ (fun a μ' => f a μ' Q E) E
def req {α : Type} (P : Prop) (m : W α) : W α := fun μ Q E => P ∧ m μ Q E
def bad {α : Type} : W α := fun _ _ _ => False
def get : W Mem := fun μ Q _ => Q μ μ
def put (μ : Mem) : W Unit := fun _ Q _ => Q () μ
end W
instance : Monad W where
  pure := W.ret
  bind := W.bnd

theorem W.bind_def {α β : Type} (m : W α) (f : α → W β) : (m >>= f) = W.bnd m f := rfl
theorem W.pure_def {α : Type} (a : α) : (pure a : W α) = W.ret a := rfl
@[simp] theorem W.ret_bnd {α β : Type} (a : α) (f : α → W β) : W.bnd (W.ret a) f = f a := rfl
@[simp] theorem W.bnd_ret {α : Type} (m : W α) : W.bnd m W.ret = m := rfl
@[simp] theorem W.bnd_bnd {α β γ : Type} (m : W α) (f : α → W β) (g : β → W γ) : W.bnd (W.bnd m f) g = W.bnd m (fun a => W.bnd (f a) g) := rfl
theorem W.req_true {α : Type} {P : Prop} (h : P) (m : W α) : W.req P m = m := by
  funext μ Q E
  exact propext ⟨fun x => x.2, fun x => ⟨h, x⟩⟩

mutual
/-- the value v, over the part F of the heap that stays, is d -/
inductive Is (K : PySem.W.Frag) (F : Hp) : V → D → Prop
  | non : Is K F .non .non
  | bl (b : Bool) : Is K F (.bl b) (.bl b)
  | int (i : Int) : Is K F (.int i) (.int i)
  | str (s : Str) : Is K F (.str s) (.str s)
  | tup {a : Addr} {vs : List V} {ds : List D} : SqT K F a vs → IsL K F vs ds → Is K F (.ref a) (.tup ds)
  | lst {a : Addr} {vs : List V} {ds : List D} : SqL K F a vs → IsL K F vs ds → Is K F (.ref a) (.lst ds)
  | dct {a : Addr} {ks : List (Key × V)} {ds : List (Key × D)} : F a = some (.dK ks) → ks.map (·.1) = ds.map (·.1) → IsL K F (ks.map (·.2)) (ds.map (·.2)) → Is K F (.ref a) (.dct ds)
  | obj (a : Addr) : Is K F (.ref a) (.obj a)
  | ty (n : String) : Is K F (.ty n) (.ty n)
inductive IsL (K : PySem.W.Frag) (F : Hp) : List V → List D → Prop
  | nil : IsL K F [] []
  | cons {v : V} {d : D} {vs : List V} {ds : List D} : Is K F v d → IsL K F vs ds → IsL K F (v :: vs) (d :: ds)
end

theorem rd_up {F F' : Hp} {a : Addr} {u : HO} (e : Same F F') (h : Rd F a u) : Rd F' a u := by
  rcases h with h | ⟨o, h⟩
  · exact .inl (e _ _ h)
  · exact .inr ⟨o, e _ _ h⟩
theorem sqt_up {K : PySem.W.Frag} {F F' : Hp} {a : Addr} {xs : List V} (e : Same F F') (h : SqT K F a xs) : SqT K F' a xs := by
  rcases h with h | h
  · exact .inl (rd_up e h)
  · exact .inr h
theorem sql_up {K : PySem.W.Frag} {F F' : Hp} {a : Addr} {xs : List V} (e : Same F F') (h : SqL K F a xs) : SqL K F' a xs := by
  rcases h with h | h
  · exact .inl (rd_up e h)
  · exact .inr h

mutual
theorem Is.up {K : PySem.W.Frag} {F F' : Hp} (e : Same F F') : ∀ {v : V} {d : D}, Is K F v d → Is K F' v d
  | _, _, .non => .non
  | _, _, .bl b => .bl b
  | _, _, .int i => .int i
  | _, _, .str s => .str s
  | _, _, .tup h r => .tup (sqt_up e h) (r.up e)
  | _, _, .lst h r => .lst (sql_up e h) (r.up e)
  | _, _, .dct h k r => .dct (e _ _ h) k (r.up e)
  | _, _, .obj a => .obj a
  | _, _, .ty n => .ty n
theorem IsL.up {K : PySem.W.Frag} {F F' : Hp} (e : Same F F') : ∀ {vs : List V} {ds : List D}, IsL K F vs ds → IsL K F' vs ds
  | _, _, .nil => .nil
  | _, _, .cons h r => .cons (h.up e) (r.up e)
end

theorem IsL.length {K : PySem.W.Frag} {F : Hp} : ∀ {vs : List V} {ds : List D}, IsL K F vs ds → vs.length = ds.length
  | _, _, .nil => rfl
  | _, _, .cons _ r => by rw [List.length_cons, List.length_cons, r.length]
theorem IsL.get {K : PySem.W.Frag} {F : Hp} : ∀ {vs : List V} {ds : List D} {i : Nat} {d : D}, IsL K F vs ds → ds[i]? = some d → ∃ v, vs[i]? = some v ∧ Is K F v d
  | _, _, _, _, .nil, e => by simp at e
  | _, _, 0, _, .cons h _, e => by simp at e; subst e; exact ⟨_, rfl, h⟩
  | _, _, i + 1, d, .cons _ r, e => by
    obtain ⟨v, h1, h2⟩ := IsL.get (i := i) (d := d) r (by simpa using e)
    exact ⟨v, by simpa using h1, h2⟩
theorem IsL.getV {K : PySem.W.Frag} {F : Hp} {vs : List V} {ds : List D} {i : Nat} {v : V} (h : IsL K F vs ds) (e : vs[i]? = some v) : ∃ d, ds[i]? = some d ∧ Is K F v d := by
  have hl := h.length
  have hi : i < vs.length := by
    rcases Nat.lt_or_ge i vs.length with q | q
    · exact q
    · rw [List.getElem?_eq_none q] at e; cases e
  have hd : ds[i]? = some (ds[i]'(by omega)) := List.getElem?_eq_getElem (by omega)
  obtain ⟨v', e', r⟩ := h.get hd
  rw [e] at e'; cases e'
  exact ⟨_, hd, r⟩
theorem IsL.app {K : PySem.W.Frag} {F : Hp} : ∀ {vs us : List V} {ds es : List D}, IsL K F vs ds → IsL K F us es → IsL K F (vs ++ us) (ds ++ es)
  | _, _, _, _, .nil, r => r
  | _, _, _, _, .cons h q, r => .cons h (q.app r)
theorem IsL.take {K : PySem.W.Frag} {F : Hp} : ∀ (n : Nat) {vs : List V} {ds : List D}, IsL K F vs ds → IsL K F (vs.take n) (ds.take n)
  | 0, _, _, _ => .nil
  | _ + 1, _, _, .nil => .nil
  | n + 1, _, _, .cons h r => .cons h (r.take n)
theorem IsL.drop {K : PySem.W.Frag} {F : Hp} : ∀ (n : Nat) {vs : List V} {ds : List D}, IsL K F vs ds → IsL K F (vs.drop n) (ds.drop n)
  | 0, _, _, r => r
  | _ + 1, _, _, .nil => .nil
  | n + 1, _, _, .cons _ r => r.drop n
theorem IsL.rev {K : PySem.W.Frag} {F : Hp} : ∀ {vs : List V} {ds : List D}, IsL K F vs ds → IsL K F vs.reverse ds.reverse
  | _, _, .nil => .nil
  | _, _, .cons h r => by
    rw [List.reverse_cons, List.reverse_cons]
    exact r.rev.app (.cons h .nil)
theorem IsL.set {K : PySem.W.Frag} {F : Hp} {v : V} {d : D} (h : Is K F v d) : ∀ (n : Nat) {vs : List V} {ds : List D}, IsL K F vs ds → IsL K F (vs.set n v) (ds.set n d)
  | _, _, _, .nil => .nil
  | 0, _, _, .cons _ r => .cons h r
  | n + 1, _, _, .cons q r => .cons q (r.set h n)
theorem IsL.erase {K : PySem.W.Frag} {F : Hp} : ∀ (n : Nat) {vs : List V} {ds : List D}, IsL K F vs ds → IsL K F (vs.eraseIdx n) (ds.eraseIdx n)
  | _, _, _, .nil => .nil
  | 0, _, _, .cons _ r => r
  | n + 1, _, _, .cons q r => .cons q (r.erase n)

def MoIs (K : PySem.W.Frag) (F H : Hp) (a : Addr) : MO → Prop
  | .ml ds => ∃ vs, H a = some (.lst vs) ∧ IsL K F vs ds
  | .md kvs => ∃ ks, H a = some (.dK ks) ∧ ks.map (·.1) = kvs.map (·.1) ∧ IsL K F (ks.map (·.2)) (kvs.map (·.2))
/-- H is the part F that stays, and the mutable objects of μ beside it -/
structure Rep (K : PySem.W.Frag) (F H : Hp) (μ : Mem) : Prop where
  sub : Same F H
  mem : ∀ a mo, μ a = some mo → F a = none ∧ MoIs K F H a mo
structure EnvR (K : PySem.W.Frag) (F : Hp) (σ : L2.St) (ρ : Rho) : Prop where
  len : ρ.length = σ.length
  get : ∀ (i : Nat) (d : D), ρ[i]? = some (some d) → ∃ v, σ[i]? = some (some v) ∧ Is K F v d
theorem EnvR.up {K : PySem.W.Frag} {F F' : Hp} {σ : L2.St} {ρ : Rho} (h : EnvR K F σ ρ) (e : Same F F') : EnvR K F' σ ρ := ⟨h.len, fun i d q => by
  obtain ⟨v, h1, h2⟩ := h.get i d q
  exact ⟨v, h1, h2.up e⟩⟩
theorem EnvR.set {K : PySem.W.Frag} {F : Hp} {σ : L2.St} {ρ : Rho} {v : V} {d : D} (h : EnvR K F σ ρ) (n : Nat) (iv : Is K F v d) : EnvR K F (σ.set n (some v)) (ρ.set n (some d)) := by
  refine ⟨by rw [List.length_set, List.length_set]; exact h.len, fun i e q => ?_⟩
  have hl := h.len
  by_cases hi : n = i
  · subst hi
    by_cases hn : n < ρ.length
    · rw [List.getElem?_set_self hn] at q
      cases q
      exact ⟨v, List.getElem?_set_self (by omega), iv⟩
    · rw [List.getElem?_eq_none (by rw [List.length_set]; omega)] at q
      cases q
  · rw [List.getElem?_set_ne hi] at q
    obtain ⟨u, h1, h2⟩ := h.get i e q
    exact ⟨u, by rw [List.getElem?_set_ne hi]; exact h1, h2⟩
def ExIs (K : PySem.W.Frag) (F H : Hp) (x : Ex) (c : Value) (od : Option Addr) : Prop :=
  c = x.cls ∧ ((od = none ∧ x.fs = []) ∨ ∃ a kvs, od = some a ∧ H a = some (.xd kvs) ∧ kvs.map (·.1) = x.fs.map (·.1) ∧ IsL K F (kvs.map (·.2)) (x.fs.map (·.2)))
/-- nothing is wanted of exceptions: none comes -/
def NoX (ED : XD) : Prop := ∀ x μ, ¬ ED x μ
/-- what is wanted of exceptions, below and above -/
def Lnk (K : PySem.W.Frag) (Eh : Option XK) (F : Hp) (ED : XD) : Prop := match Eh with
  | none => NoX ED
  | some E => ∀ F' H' μ' x, Same F F' → Rep K F' H' μ' → ED x μ' → ∀ c od, ExIs K F' H' x c od → E c od H'
theorem Lnk.up {K : PySem.W.Frag} {Eh : Option XK} {F F' : Hp} {ED : XD} (h : Lnk K Eh F ED) (e : Same F F') : Lnk K Eh F' ED := by
  cases Eh with
  | none => exact h
  | some E => exact fun F1 H1 μ1 x s r q c od i => h F1 H1 μ1 x (e.trans s) r q c od i

/-- the ways behind a value -/
def Back (K : PySem.W.Frag) (F : Hp) {α β : Type} (R : Hp → β → α → Prop) (Q : α → Mem → Prop) (Qh : β → Hp → Prop) : Prop :=
  ∀ v H' d F' μ', Same F F' → Rep K F' H' μ' → R F' v d → Q d μ' → Qh v H'
def liftE (K : PySem.W.Frag) (Eh : Option XK) (m : Rho → W D) : TE := fun σ H Qh => ∃ F ρ μ Q ED, EnvR K F σ ρ ∧ Rep K F H μ ∧ Lnk K Eh F ED ∧ m ρ μ Q ED ∧ Back K F (Is K) Q Qh
def liftA (K : PySem.W.Frag) (Eh : Option XK) (m : Rho → W (List D)) : TA := fun σ H Qh => ∃ F ρ μ Q ED, EnvR K F σ ρ ∧ Rep K F H μ ∧ Lnk K Eh F ED ∧ m ρ μ Q ED ∧ Back K F (IsL K) Q Qh
def liftT (K : PySem.W.Frag) (Eh : Option XK) (m : Rho → W Bool) : TT := fun σ H Qh => ∃ F ρ μ Q ED, EnvR K F σ ρ ∧ Rep K F H μ ∧ Lnk K Eh F ED ∧ m ρ μ Q ED ∧ Back K F (fun _ (b : Bool) c => b = c) Q Qh
/-- how a statement ends -/
inductive Out where
  | nx (ρ : Rho)
  | rt (d : D)
  | bk (ρ : Rho)
  | ct (ρ : Rho)
def EndsOk (K : PySem.W.Frag) (F : Hp) (Q : Out → Mem → Prop) (De : Ends) : Prop :=
  (∀ F' H' μ' σ' ρ', Same F F' → Rep K F' H' μ' → EnvR K F' σ' ρ' → Q (.nx ρ') μ' → De.nx σ' H') ∧
  (∀ F' H' μ' v d, Same F F' → Rep K F' H' μ' → Is K F' v d → Q (.rt d) μ' → De.rt v H') ∧
  (∀ F' H' μ' σ' ρ', Same F F' → Rep K F' H' μ' → EnvR K F' σ' ρ' → Q (.bk ρ') μ' → De.bk σ' H') ∧
  (∀ F' H' μ' σ' ρ', Same F F' → Rep K F' H' μ' → EnvR K F' σ' ρ' → Q (.ct ρ') μ' → De.ct σ' H')
def liftS (K : PySem.W.Frag) (Eh : Option XK) (m : Rho → W Out) : TS := fun De σ H => ∃ F ρ μ Q ED, EnvR K F σ ρ ∧ Rep K F H μ ∧ Lnk K Eh F ED ∧ m ρ μ Q ED ∧ EndsOk K F Q De

theorem PE.imp {X : Cx} {e : Expr} {t t' : TE} (h : PE X e t) (i : ∀ σ H Q, t' σ H Q → t σ H Q) : PE X e t' := ⟨fun pins s σ H Q I q => h.run pins s σ H Q I (i _ _ _ q)⟩
theorem PT.imp {X : Cx} {e : Expr} {t t' : TT} (h : PT X e t) (i : ∀ σ H Q, t' σ H Q → t σ H Q) : PT X e t' := ⟨fun pins s σ H Q I q => h.run pins s σ H Q I (i _ _ _ q)⟩
theorem PW.imp {X : Cx} {e : Expr} {t t' : TT} (h : PW X e t) (i : ∀ σ H Q, t' σ H Q → t σ H Q) : PW X e t' := ⟨fun wh pins s σ H Q I q => h.run wh pins s σ H Q I (i _ _ _ q)⟩
theorem PA.imp {X : Cx} {e : List Expr} {t t' : TA} (h : PA X e t) (i : ∀ σ H Q, t' σ H Q → t σ H Q) : PA X e t' := ⟨fun pos pins s σ H Q I q => h.run pos pins s σ H Q I (i _ _ _ q)⟩
theorem PS.imp {X : Cx} {e : Stmt} {t t' : TS} (h : PS X e t) (i : ∀ D σ H, t' D σ H → t D σ H) : PS X e t' := ⟨fun pins s σ H D I q => h.run pins s σ H D I (i _ _ _ q)⟩
theorem PSs.imp {X : Cx} {e : List Stmt} {t t' : TS} (h : PSs X e t) (i : ∀ D σ H, t' D σ H → t D σ H) : PSs X e t' := ⟨fun pins s σ H D I q => h.run pins s σ H D I (i _ _ _ q)⟩

abbrev DE (X : Cx) (Eh : Option XK) (e : Expr) (m : Rho → W D) : Prop := PE X e (liftE X.K Eh m)
abbrev DA (X : Cx) (Eh : Option XK) (e : List Expr) (m : Rho → W (List D)) : Prop := PA X e (liftA X.K Eh m)
abbrev DT (X : Cx) (Eh : Option XK) (e : Expr) (m : Rho → W Bool) : Prop := PT X e (liftT X.K Eh m)
abbrev DW (X : Cx) (Eh : Option XK) (e : Expr) (m : Rho → W Bool) : Prop := PW X e (liftT X.K Eh m)
abbrev DS (X : Cx) (Eh : Option XK) (e : Stmt) (m : Rho → W Out) : Prop := PS X e (liftS X.K Eh m)
abbrev DSs (X : Cx) (Eh : Option XK) (e : List Stmt) (m : Rho → W Out) : Prop := PSs X e (liftS X.K Eh m)

/-! ### new objects -/
section
variable {K : PySem.W.Frag} {F H : Hp} {μ : Mem} {p : Addr} {o : HO}
theorem same_new (h : F p = none) : Same F (upd F p o) := fun b x e => by
  rw [upd_ne (ne_of_none e h)]
  exact e
theorem Rep.nn (r : Rep K F H μ) (h : H p = none) : F p = none := r.sub.free h
theorem MoIs.up {F' : Hp} {a : Addr} {mo : MO} (e : Same F F') (h : MoIs K F H a mo) : MoIs K F' H a mo := by
  cases mo with
  | ml ds => obtain ⟨vs, h1, h2⟩ := h; exact ⟨vs, h1, h2.up e⟩
  | md ds => obtain ⟨vs, h1, h2, h3⟩ := h; exact ⟨vs, h1, h2, h3.up e⟩
theorem MoIs.ne {a : Addr} {mo : MO} (h : MoIs K F H a mo) (hp : H p = none) : a ≠ p := by
  cases mo with
  | ml ds => obtain ⟨vs, h1, h2⟩ := h; exact ne_of_none h1 hp
  | md ds => obtain ⟨vs, h1, h2, h3⟩ := h; exact ne_of_none h1 hp
theorem MoIs.upd {a : Addr} {mo : MO} (h : MoIs K F H a mo) (hp : a ≠ p) : MoIs K F (L2.upd H p o) a mo := by
  cases mo with
  | ml ds => obtain ⟨vs, h1, h2⟩ := h; exact ⟨vs, by rw [upd_ne hp]; exact h1, h2⟩
  | md ds => obtain ⟨vs, h1, h2, h3⟩ := h; exact ⟨vs, by rw [upd_ne hp]; exact h1, h2, h3⟩
/-- a new object that stays -/
theorem Rep.new (r : Rep K F H μ) (h : H p = Option.none) : Rep K (L2.upd F p o) (L2.upd H p o) μ := by
  refine ⟨fun b x e => ?_, fun a mo e => ?_⟩
  · by_cases hb : b = p
    · subst hb; rw [upd_same] at e ⊢; exact e
    · rw [upd_ne hb] at e ⊢; exact r.sub _ _ e
  · obtain ⟨f, m⟩ := r.mem a mo e
    have ne := m.ne h
    exact ⟨by rw [upd_ne ne]; exact f, (m.upd ne).up (same_new (r.nn h))⟩
def put (μ : Mem) (a : Addr) (o : MO) : Mem := fun b => if b = a then some o else μ b
theorem put_same {μ : Mem} {a : Addr} {o : MO} : put μ a o a = some o := by unfold put; rw [if_pos rfl]
theorem put_ne {μ : Mem} {a b : Addr} {o : MO} (h : b ≠ a) : put μ a o b = μ b := by unfold put; rw [if_neg h]
/-- a new object that may change -/
theorem Rep.newM {mo : MO} (r : Rep K F H μ) (h : H p = Option.none) (hm : MoIs K F (L2.upd H p o) p mo) : Rep K F (L2.upd H p o) (put μ p mo) := by
  refine ⟨fun b x e => ?_, fun a mo' e => ?_⟩
  · rw [upd_ne (ne_of_none (r.sub _ _ e) h)]; exact r.sub _ _ e
  · by_cases hb : a = p
    · subst hb
      rw [put_same] at e; cases e
      exact ⟨r.nn h, hm⟩
    · rw [put_ne hb] at e
      obtain ⟨f, m⟩ := r.mem a mo' e
      exact ⟨f, m.upd hb⟩
/-- a mutable object changes -/
theorem Rep.write {mo mo' : MO} (r : Rep K F H μ) (h : μ p = some mo) (hm : MoIs K F (L2.upd H p o) p mo') : Rep K F (L2.upd H p o) (put μ p mo') := by
  have fp := (r.mem p mo h).1
  refine ⟨fun b x e => ?_, fun a mo' e => ?_⟩
  · rw [upd_ne (ne_of_none e fp)]; exact r.sub _ _ e
  · by_cases hb : a = p
    · subst hb
      rw [put_same] at e; cases e
      exact ⟨fp, hm⟩
    · rw [put_ne hb] at e
      obtain ⟨f, m⟩ := r.mem a _ e
      exact ⟨f, m.upd hb⟩
/-- a new object that nobody tells of -/
theorem Rep.lay (r : Rep K F H μ) (h : H p = Option.none) : Rep K F (L2.upd H p o) μ := by
  refine ⟨fun b x e => ?_, fun a mo' e => ?_⟩
  · rw [upd_ne (ne_of_none (r.sub _ _ e) h)]; exact r.sub _ _ e
  · obtain ⟨f, m⟩ := r.mem a _ e
    exact ⟨f, m.upd (m.ne h)⟩
/-- a mutable list stays from now on -/
theorem Rep.freeze {ds : List D} (r : Rep K F H μ) (h : μ p = some (.ml ds)) : ∃ F', Same F F' ∧ Rep K F' H (fun b => if b = p then none else μ b) ∧ Is K F' (.ref p) (.lst ds) := by
  obtain ⟨fp, vs, h1, h2⟩ := r.mem p _ h
  have e := same_new (o := .lst vs) fp
  refine ⟨L2.upd F p (.lst vs), e, ⟨fun b x q => ?_, fun a mo q => ?_⟩, .lst (.inl (.inl upd_same)) (h2.up e)⟩
  · by_cases hb : b = p
    · subst hb; rw [upd_same] at q; rw [h1]; exact q
    · rw [upd_ne hb] at q; exact r.sub _ _ q
  · by_cases hb : a = p
    · rw [if_pos hb] at q; cases q
    · rw [if_neg hb] at q
      obtain ⟨f, m⟩ := r.mem a mo q
      exact ⟨by rw [upd_ne hb]; exact f, m.up e⟩
theorem Rep.less {μ' : Mem} (r : Rep K F H μ) (h : ∀ a mo, μ' a = some mo → μ a = some mo) : Rep K F H μ' := ⟨r.sub, fun a mo q => r.mem a mo (h a mo q)⟩
end
end DL

namespace DL
open PySem PySem.Spec PyProof.Rows L2

def W.opt {α : Type} : Option α → W α
  | some a => W.ret a
  | none => W.bad
@[simp] theorem W.opt_some {α : Type} (a : α) : W.opt (some a) = W.ret a := rfl
@[simp] theorem W.opt_none {α : Type} : (W.opt none : W α) = W.bad := rfl

/-! ### names, constants -/
def eVar (i : Nat) (ρ : Rho) : W D := match ρ[i]? with
  | some (some d) => W.ret d
  | _ => W.bad
def eC (d : D) (_ : Rho) : W D := W.ret d
section
variable {X : Cx} {Eh : Option XK}
theorem de_var {i : Nat} {x : Str} {pos : Pos} (hN : X.N[i]? = some x) (hv : Vis X.env.scope x) (hd : (x == ("__debug__" : Str)) = false) (hcd : (x == ("__classdict__" : Str)) = false) : DE X Eh (.Name x pos) (eVar i) := by
  refine PE.imp (pe_var hN hv hd hcd) fun σ H Qh ⟨F, ρ, μ, Q, ED, env, rep, lnk, hm, bk⟩ => ?_
  unfold eVar at hm
  cases e : ρ[i]? with
  | none => rw [e] at hm; exact hm.elim
  | some o =>
    cases o with
    | none => rw [e] at hm; exact hm.elim
    | some d =>
      rw [e] at hm
      obtain ⟨v, h1, h2⟩ := env.get i d e
      exact ⟨v, h1, bk v H d F μ (Same.refl F) rep h2 hm⟩
theorem de_int {i j pos} : DE X Eh (.Constant (.int i) j pos) (eC (.int i)) :=
  PE.imp pe_int fun σ H Qh ⟨F, ρ, μ, Q, ED, env, rep, lnk, hm, bk⟩ => bk _ H _ F μ (Same.refl F) rep (.int i) hm
theorem de_bl {b j pos} : DE X Eh (.Constant (.bool b) j pos) (eC (.bl b)) :=
  PE.imp pe_bl fun σ H Qh ⟨F, ρ, μ, Q, ED, env, rep, lnk, hm, bk⟩ => bk _ H _ F μ (Same.refl F) rep (.bl b) hm
theorem de_non {j pos} : DE X Eh (.Constant .none j pos) (eC .non) :=
  PE.imp pe_non fun σ H Qh ⟨F, ρ, μ, Q, ED, env, rep, lnk, hm, bk⟩ => bk _ H _ F μ (Same.refl F) rep .non hm
theorem de_str {x j pos} : DE X Eh (.Constant (.str x) j pos) (eC (.str x)) :=
  PE.imp pe_str fun σ H Qh ⟨F, ρ, μ, Q, ED, env, rep, lnk, hm, bk⟩ => bk _ H _ F μ (Same.refl F) rep (.str x) hm
/-- a built-in class as a value -/
theorem de_ty {x : Str} {n : String} {pos : Pos} (hg : Gl X x) (hm : X.mg x = none) (hv : bootBuiltins x = some (.type n)) (hn : x ≠ "__name__") (hd : (x == ("__debug__" : Str)) = false) : DE X Eh (.Name x pos) (eC (.ty n)) :=
  PE.imp (pe_bltn (v := .ty n) hg hm hv rfl hn hd) fun σ H Qh ⟨F, ρ, μ, Q, ED, env, rep, lnk, hm, bk⟩ => bk _ H _ F μ (Same.refl F) rep (.ty n) hm
/-- a constant of the module -/
theorem de_glob {x : Str} {v : V} {u : Value} {d : D} {pos : Pos} (hg : Gl X x) (hm : X.mg x = some u) (r : RelV v u) (hi : ∀ F, Is X.K F v d) (hd : (x == ("__debug__" : Str)) = false) : DE X Eh (.Name x pos) (eC d) :=
  PE.imp (pe_glob hg hm r hd) fun σ H Qh ⟨F, ρ, μ, Q, ED, env, rep, lnk, hm, bk⟩ => bk _ H _ F μ (Same.refl F) rep (hi F) hm

/-! ### two operands -/
def OpD (K : PySem.W.Frag) (r : R2) (g : D → D → W D) : Prop := ∀ (F H : Hp) (μ : Mem) (x y : V) (dx dy : D) (Q : D → Mem → Prop) (ED : XD) (Qh : VK), Rep K F H μ → Is K F x dx → Is K F y dy → g dx dy μ Q ED → Back K F (Is K) Q Qh → r x y H Qh
def eBin (g : D → D → W D) (ma mb : Rho → W D) (ρ : Rho) : W D := W.bnd (ma ρ) fun x => W.bnd (mb ρ) fun y => g x y
theorem lift_bin {K : PySem.W.Frag} {r : R2} {g : D → D → W D} {ma mb : Rho → W D} (hg : OpD K r g) {σ : L2.St} {H : Hp} {Qh : VK} (h : liftE K Eh (eBin g ma mb) σ H Qh) : tOp r (liftE K Eh ma) (liftE K Eh mb) σ H Qh := by
  obtain ⟨F, ρ, μ, Q, ED, env, rep, lnk, hm, bk⟩ := h
  refine ⟨F, ρ, μ, _, ED, env, rep, lnk, hm, fun v1 H1 d1 F1 μ1 s1 r1 i1 q1 => ?_⟩
  refine ⟨F1, ρ, μ1, _, ED, env.up s1, r1, lnk.up s1, q1, fun v2 H2 d2 F2 μ2 s2 r2 i2 q2 => ?_⟩
  exact hg F2 H2 μ2 v1 v2 d1 d2 Q ED Qh r2 (i1.up s2) i2 q2 fun v3 H3 d3 F3 μ3 s3 r3 i3 q3 => bk v3 H3 d3 F3 μ3 ((s1.trans s2).trans s3) r3 i3 q3
theorem de_op {op : Operator} {r : R2} {g : D → D → W D} {a b : Expr} {ma mb : Rho → W D} {pos : Pos} (ho : OpR X (binaryOp op) r) (hg : OpD X.K r g) (ha : DE X Eh a ma) (hb : DE X Eh b mb) : DE X Eh (.BinOp a op b pos) (eBin g ma mb) :=
  PE.imp (pe_op ho ha hb) fun _ _ _ h => lift_bin hg h
theorem de_cmp {op : CmpOp} {r : R2} {g : D → D → W D} {a b : Expr} {ma mb : Rho → W D} {pos : Pos} (ho : OpR X (compareOp op) r) (hg : OpD X.K r g) (ha : DE X Eh a ma) (hb : DE X Eh b mb) (hm : behindInMarks op b = false) : DE X Eh (.Compare a [op] [b] pos) (eBin g ma mb) :=
  PE.imp (pe_cmpR ho ha hb hm) fun _ _ _ h => lift_bin hg h
theorem de_ix {r : R2} {g : D → D → W D} {a b : Expr} {ma mb : Rho → W D} {pos : Pos} (hr : IxR X r) (hg : OpD X.K r g) (ha : DE X Eh a ma) (hb : DE X Eh b mb) (hs : PlainIx b) : DE X Eh (.Subscript a b pos) (eBin g ma mb) :=
  PE.imp (pe_ix hr ha hb hs) fun _ _ _ h => lift_bin hg h
/-- .. as a test -/
def tBin (g : D → D → W D) (ma mb : Rho → W D) (ρ : Rho) : W Bool := W.bnd (eBin g ma mb ρ) fun d => match d with
  | .bl b => W.ret b
  | _ => W.bad
theorem is_bl {K : PySem.W.Frag} {F : Hp} {v : V} {b : Bool} (h : Is K F v (.bl b)) : v = .bl b := by
  cases h
  rfl
theorem is_int {K : PySem.W.Frag} {F : Hp} {v : V} {b : Int} (h : Is K F v (.int b)) : v = .int b := by
  cases h
  rfl
theorem is_str {K : PySem.W.Frag} {F : Hp} {v : V} {b : Str} (h : Is K F v (.str b)) : v = .str b := by
  cases h
  rfl
theorem is_obj {K : PySem.W.Frag} {F : Hp} {v : V} {a : Addr} (h : Is K F v (.obj a)) : v = .ref a := by
  cases h
  rfl
theorem dt_cmp {op : CmpOp} {r : R2} {g : D → D → W D} {a b : Expr} {ma mb : Rho → W D} {pos : Pos} (ho : OpR X (compareOp op) r) (hg : OpD X.K r g) (ha : DE X Eh a ma) (hb : DE X Eh b mb) (hm : behindInMarks op b = false) : DT X Eh (.Compare a [op] [b] pos) (tBin g ma mb) := by
  refine PT.imp (pt_cmpR ho ha hb hm) fun σ H Qh h => ?_
  obtain ⟨F, ρ, μ, Q, ED, env, rep, lnk, hm, bk⟩ := h
  refine lift_bin (Eh := Eh) hg ⟨F, ρ, μ, _, ED, env, rep, lnk, hm, fun v H' d F' μ' s' r' i' q' => ?_⟩
  cases d with
  | bl b =>
    cases is_bl i'
    exact ⟨b, rfl, bk b H' b F' μ' s' r' rfl q'⟩
  | _ => exact q'.elim
end

/-! ### what a value is, with the mutable objects -/
/-- the items of a list, a tuple -/
def lsOf (x : D) (μ : Mem) : Option (List D) := match x with
  | .lst ds => some ds
  | .obj a => (match μ a with
    | some (.ml ds) => some ds
    | _ => none)
  | _ => none
def sqOf (x : D) (μ : Mem) : Option (List D) := match x with
  | .tup ds => some ds
  | x => lsOf x μ
section
variable {K : PySem.W.Frag} {F H : Hp} {μ : Mem} {v : V} {d : D} {ds : List D}
theorem ls_of (r : Rep K F H μ) (i : Is K F v d) (h : lsOf d μ = some ds) : ∃ a vs, v = .ref a ∧ SqL K H a vs ∧ IsL K F vs ds := by
  cases i with
  | lst hr hl =>
    cases h
    exact ⟨_, _, rfl, sql_up r.sub hr, hl⟩
  | obj a =>
    unfold lsOf at h
    simp only at h
    split at h
    · rename_i es e
      cases h
      obtain ⟨_, vs, h1, h2⟩ := r.mem a _ e
      exact ⟨a, vs, rfl, .inl (.inl h1), h2⟩
    · cases h
  | _ => cases h
theorem sq_of (r : Rep K F H μ) (i : Is K F v d) (h : sqOf d μ = some ds) : ∃ a vs, v = .ref a ∧ IsL K F vs ds ∧ (SqL K H a vs ∨ SqT K H a vs) := by
  cases i with
  | tup hr hl =>
    cases h
    exact ⟨_, _, rfl, hl, .inr (sqt_up r.sub hr)⟩
  | lst hr hl =>
    obtain ⟨a, vs, e, h1, h2⟩ := ls_of r (.lst hr hl) h
    exact ⟨a, vs, e, h2, .inl h1⟩
  | obj a =>
    obtain ⟨a, vs, e, h1, h2⟩ := ls_of r (.obj a) h
    exact ⟨a, vs, e, h2, .inl h1⟩
  | _ => cases h
end

/-! ### a new list, a new tuple behind a value -/
section
variable {K : PySem.W.Frag} {F H : Hp} {μ : Mem} {Q : D → Mem → Prop} {Qh : VK} {vs : List V} {ds : List D} {p : Addr}
theorem back_lst (bk : Back K F (Is K) Q Qh) (r : Rep K F H μ) (hn : H p = none) (il : IsL K F vs ds) (q : Q (.lst ds) μ) : Qh (.ref p) (upd H p (.lst vs)) := by
  have e := same_new (o := .lst vs) (r.nn hn)
  exact bk _ _ _ _ _ e (r.new hn) (.lst (.inl (.inl upd_same)) (il.up e)) q
theorem back_tup (bk : Back K F (Is K) Q Qh) (r : Rep K F H μ) (hn : H p = none) (il : IsL K F vs ds) (q : Q (.tup ds) μ) : Qh (.ref p) (upd H p (.tup vs)) := by
  have e := same_new (o := .tup vs) (r.nn hn)
  exact bk _ _ _ _ _ e (r.new hn) (.tup (.inl (.inl upd_same)) (il.up e)) q
theorem back_mut (bk : Back K F (Is K) Q Qh) (r : Rep K F H μ) (hn : H p = none) (il : IsL K F vs ds) (q : Q (.obj p) (put μ p (.ml ds))) : Qh (.ref p) (upd H p (.lst vs)) :=
  bk _ _ _ _ _ (Same.refl F) (r.newM (mo := .ml ds) hn ⟨vs, upd_same, il⟩) (.obj p) q
theorem back_is {v : V} {d : D} (bk : Back K F (Is K) Q Qh) (r : Rep K F H μ) (i : Is K F v d) (q : Q d μ) : Qh v H := bk _ _ _ _ _ (Same.refl F) r i q
end

/-! ### + - * // % ** -/
def rCatR (K : PySem.W.Frag) : R2 := fun x y H Q => ∃ l b xs zs, x = .ref l ∧ y = .ref b ∧ SqL K H l xs ∧ SqL K H b zs ∧ xs.length + zs.length ≤ sizeLine ∧ ∀ p, H p = none → Q (.ref p) (upd H p (.lst (xs ++ zs)))
theorem op_catR {X : Cx} : OpR X (binaryOp .Add) (rCatR X.K) := by
  intro pins s σ H x y v u Q I rx ry h
  obtain ⟨l, b, xs, zs, rfl, rfl, hH, hB, hz, q⟩ := h
  cases rx
  cases ry
  obtain ⟨i1, v1, ⟨⟨c1, dd1, da1, sl1⟩, n1, g1, hc1, _, hd1⟩, z1⟩ := I.list hH
  obtain ⟨i2, v2, ⟨⟨c2, dd2, da2, sl2⟩, n2, g2, hc2, _, hd2⟩, z2⟩ := I.list hB
  simp only at hc1 hd1 hc2 hd2
  subst hc1 hd1 hc2 hd2
  have l1 := v1.length
  have l2 := v2.length
  have nw := I.lnew (t' := s.toks) (v1.append v2) (by rw [List.length_append]; omega)
  have fin : EP X pins σ Q (.ref s.heap.objs.size) { s with heap := s.heap.push { cls := .type "list", data := .seq (i1.toArray ++ i2.toArray) } } := by
    rw [show i1.toArray ++ i2.toArray = (i1 ++ i2).toArray by simp]
    exact ⟨.ref s.heap.objs.size, upd H s.heap.objs.size (.lst (xs ++ zs)), nw, rfl, q _ I.fresh⟩
  exact concat_meets ⟨_, g1, rfl⟩ ⟨_, g2, rfl⟩ noFill_list_add seq_list_add PySem.F.slot_list_add PySem.F.entry_list_add (PySem.F.args_list_add_2 _ _) (list_addW l b i1.toArray i2.toArray n1 n2 dd1 dd2 sl1 sl2 (by rw [List.size_toArray, List.size_toArray]; omega)) ⟨g1, g2, fin⟩
def addD : D → D → W D
  | .int i, .int j => W.ret (.int (i + j))
  | .str a, .str b => W.req (a.length + b.length ≤ sizeLine) (W.ret (.str (a ++ b)))
  | .tup a, .tup b => W.req (a.length + b.length ≤ sizeLine) (W.ret (.tup (a ++ b)))
  | x, y => W.bnd W.get fun μ => W.bnd (W.opt (lsOf x μ)) fun a => W.bnd (W.opt (lsOf y μ)) fun b => W.req (a.length + b.length ≤ sizeLine) (W.ret (.lst (a ++ b)))
def rAddA (K : PySem.W.Frag) : R2 := fun x y H Q => (rI0 fun i j => .int (i + j)) x y H Q ∨ ((∃ i j, x = .str i ∧ y = .str j ∧ i.length + j.length ≤ sizeLine ∧ Q (.str (i ++ j)) H) ∨ (rCatA K x y H Q ∨ rCatR K x y H Q))
theorem op_addA {X : Cx} : OpR X (binaryOp .Add) (rAddA X.K) := op_add.or (op_add_str.or (op_catA.or op_catR))
theorem opt_of {α : Type} {o : Option α} {μ : Mem} {Q : α → Mem → Prop} {E : XD} (h : W.opt o μ Q E) : ∃ a, o = some a ∧ Q a μ := by
  cases o with
  | none => exact h.elim
  | some a => exact ⟨a, rfl, h⟩
theorem cat_lists {K : PySem.W.Frag} {F H : Hp} {μ : Mem} {x y : V} {dx dy : D} {Q : D → Mem → Prop} {ED : XD} {Qh : VK} (r : Rep K F H μ) (ix : Is K F x dx) (iy : Is K F y dy)
    (h : W.bnd W.get (fun μ => W.bnd (W.opt (lsOf dx μ)) fun a => W.bnd (W.opt (lsOf dy μ)) fun b => W.req (a.length + b.length ≤ sizeLine) (W.ret (.lst (a ++ b)))) μ Q ED) (bk : Back K F (Is K) Q Qh) : rCatR K x y H Qh := by
  obtain ⟨a, ea, h⟩ := opt_of h
  obtain ⟨b, eb, h⟩ := opt_of h
  obtain ⟨hz, q⟩ := h
  obtain ⟨p1, v1, rfl, h1, l1⟩ := ls_of r ix ea
  obtain ⟨p2, v2, rfl, h2, l2⟩ := ls_of r iy eb
  exact ⟨p1, p2, v1, v2, rfl, rfl, h1, h2, by rw [l1.length, l2.length]; exact hz, fun p hn => back_lst bk r hn (l1.app l2) q⟩
theorem opd_add {K : PySem.W.Frag} : OpD K (rAddA K) addD := by
  intro F H μ x y dx dy Q ED Qh r ix iy h bk
  unfold addD at h
  split at h
  · cases ix; cases iy
    exact .inl ⟨_, _, rfl, rfl, back_is bk r (.int _) h⟩
  · cases ix; cases iy
    obtain ⟨hz, q⟩ := h
    exact .inr (.inl ⟨_, _, rfl, rfl, hz, back_is bk r (.str _) q⟩)
  · obtain ⟨hz, q⟩ := h
    cases ix with
    | tup s1 l1 =>
      cases iy with
      | tup s2 l2 =>
        refine .inr (.inr (.inl ⟨_, _, _, _, rfl, rfl, sqt_up r.sub s1, sqt_up r.sub s2, by rw [l1.length, l2.length]; exact hz, fun e => ?_, fun _ e => ?_, fun _ _ p hn => back_tup bk r hn (l1.app l2) q⟩))
        · subst e; cases l1
          exact back_is bk r (.tup s2 l2) q
        · subst e; cases l2
          rw [List.append_nil] at q
          exact back_is bk r (.tup s1 l1) q
  · exact .inr (.inr (.inr (cat_lists r ix iy h bk)))
def subD : D → D → W D
  | .int i, .int j => W.ret (.int (i - j))
  | _, _ => W.bad
theorem opd_sub {K : PySem.W.Frag} : OpD K (rI0 fun i j => .int (i - j)) subD := by
  intro F H μ x y dx dy Q ED Qh r ix iy h bk
  unfold subD at h
  split at h
  · cases ix; cases iy
    exact ⟨_, _, rfl, rfl, back_is bk r (.int _) h⟩
  · exact h.elim
def mulD : D → D → W D
  | .int i, .int j => W.req (CMulW i j) (W.ret (.int (i * j)))
  | _, _ => W.bad
theorem opd_mul {K : PySem.W.Frag} : OpD K (rI CMulW fun i j => .int (i * j)) mulD := by
  intro F H μ x y dx dy Q ED Qh r ix iy h bk
  unfold mulD at h
  split at h
  · cases ix; cases iy
    exact ⟨_, _, rfl, rfl, h.1, back_is bk r (.int _) h.2⟩
  · exact h.elim
def divD : D → D → W D
  | .int i, .int j => W.req (CDivW i j) (W.ret (.int (i / j)))
  | _, _ => W.bad
theorem opd_div {K : PySem.W.Frag} : OpD K (rI CDivW fun i j => .int (i / j)) divD := by
  intro F H μ x y dx dy Q ED Qh r ix iy h bk
  unfold divD at h
  split at h
  · cases ix; cases iy
    exact ⟨_, _, rfl, rfl, h.1, back_is bk r (.int _) h.2⟩
  · exact h.elim
def modD : D → D → W D
  | .int i, .int j => W.req (0 < j) (W.ret (.int (i % j)))
  | _, _ => W.bad
theorem opd_mod {K : PySem.W.Frag} : OpD K (rI (fun _ j => 0 < j) fun i j => .int (i % j)) modD := by
  intro F H μ x y dx dy Q ED Qh r ix iy h bk
  unfold modD at h
  split at h
  · cases ix; cases iy
    exact ⟨_, _, rfl, rfl, h.1, back_is bk r (.int _) h.2⟩
  · exact h.elim
def powD : D → D → W D
  | .int i, .int j => W.req (CPow i j) (W.ret (.int (i ^ j.toNat)))
  | _, _ => W.bad
theorem opd_pow {K : PySem.W.Frag} : OpD K (rI CPow fun i j => .int (i ^ j.toNat)) powD := by
  intro F H μ x y dx dy Q ED Qh r ix iy h bk
  unfold powD at h
  split at h
  · cases ix; cases iy
    exact ⟨_, _, rfl, rfl, h.1, back_is bk r (.int _) h.2⟩
  · exact h.elim

/-! ### one operand -/
def eUn (g : D → W D) (ma : Rho → W D) (ρ : Rho) : W D := W.bnd (ma ρ) g
def UnD (K : PySem.W.Frag) (r : V → Hp → VK → Prop) (g : D → W D) : Prop := ∀ (F H : Hp) (μ : Mem) (x : V) (dx : D) (Q : D → Mem → Prop) (ED : XD) (Qh : VK), Rep K F H μ → Is K F x dx → g dx μ Q ED → Back K F (Is K) Q Qh → r x H Qh
theorem lift_un {Eh : Option XK} {K : PySem.W.Frag} {r : V → Hp → VK → Prop} {g : D → W D} {ma : Rho → W D} (hg : UnD K r g) {σ : L2.St} {H : Hp} {Qh : VK} (h : liftE K Eh (eUn g ma) σ H Qh) : tUn r (liftE K Eh ma) σ H Qh := by
  obtain ⟨F, ρ, μ, Q, ED, env, rep, lnk, hm, bk⟩ := h
  refine ⟨F, ρ, μ, _, ED, env, rep, lnk, hm, fun v1 H1 d1 F1 μ1 s1 r1 i1 q1 => ?_⟩
  exact hg F1 H1 μ1 v1 d1 Q ED Qh r1 i1 q1 fun v3 H3 d3 F3 μ3 s3 r3 i3 q3 => bk v3 H3 d3 F3 μ3 (s1.trans s3) r3 i3 q3
def negD : D → W D
  | .int i => W.ret (.int (-i))
  | _ => W.bad
theorem de_neg {X : Cx} {Eh : Option XK} {a : Expr} {ma : Rho → W D} {pos : Pos} (ha : DE X Eh a ma) : DE X Eh (.UnaryOp .USub a pos) (eUn negD ma) :=
  PE.imp (pe_un un_neg ha) fun _ _ _ h => lift_un (by
    intro F H μ x dx Q ED Qh r ix h bk
    unfold negD at h
    split at h
    · cases ix
      exact ⟨_, rfl, back_is bk r (.int _) h⟩
    · exact h.elim) h

/-! ### comparisons -/
def cmpI (p : Int → Int → Bool) (q : List Nat → List Nat → Bool) : D → D → W D
  | .int i, .int j => W.ret (.bl (p i j))
  | .str a, .str b => W.ret (.bl (q a.cps.toList b.cps.toList))
  | _, _ => W.bad
abbrev ltD := cmpI (fun i j => decide (i < j)) (fun a b => decide (a < b))
abbrev leD := cmpI (fun i j => decide (i ≤ j)) (fun a b => !decide (b < a))
abbrev gtD := cmpI (fun i j => decide (j < i)) (fun a b => decide (b < a))
abbrev geD := cmpI (fun i j => decide (j ≤ i)) (fun a b => !decide (a < b))
def rCmpA (p : Int → Int → Bool) (q : List Nat → List Nat → Bool) : R2 := fun x y H Q => (rI0 fun i j => .bl (p i j)) x y H Q ∨ ∃ i j, x = .str i ∧ y = .str j ∧ Q (.bl (q i.cps.toList j.cps.toList)) H
theorem opd_cmp {K : PySem.W.Frag} {p : Int → Int → Bool} {q : List Nat → List Nat → Bool} : OpD K (rCmpA p q) (cmpI p q) := by
  intro F H μ x y dx dy Q ED Qh r ix iy h bk
  unfold cmpI at h
  split at h
  · cases ix; cases iy
    exact .inl ⟨_, _, rfl, rfl, back_is bk r (.bl _) h⟩
  · cases ix; cases iy
    exact .inr ⟨_, _, rfl, rfl, back_is bk r (.bl _) h⟩
  · exact h.elim
section
variable {X : Cx}
theorem op_ltA : OpR X (compareOp .Lt) (rCmpA (fun i j => decide (i < j)) (fun a b => decide (a < b))) := op_lt.or op_lt_str
theorem op_leA : OpR X (compareOp .LtE) (rCmpA (fun i j => decide (i ≤ j)) (fun a b => !decide (b < a))) := op_le.or op_le_str
theorem op_gtA : OpR X (compareOp .Gt) (rCmpA (fun i j => decide (j < i)) (fun a b => decide (b < a))) := op_gt.or op_gt_str
theorem op_geA : OpR X (compareOp .GtE) (rCmpA (fun i j => decide (j ≤ i)) (fun a b => !decide (a < b))) := op_ge.or op_ge_str
end
end DL

namespace DL
open PySem PySem.Spec PyProof.Rows L2

/-! ### data as the model has it -/
def keyPy : Key → PyData
  | .inl i => .int i
  | .inr x => .str x
mutual
def py : D → Option PyData
  | .non => some .none
  | .bl b => some (.bool b)
  | .int i => some (.int i)
  | .str s => some (.str s)
  | .tup ds => (pyL ds).map .tuple
  | .lst ds => (pyL ds).map .list
  | .dct kvs => (pyK kvs).map .dict
  | .obj _ => none
  | .ty _ => none
def pyL : List D → Option (List PyData)
  | [] => some []
  | d :: r => match py d, pyL r with
    | some x, some xs => some (x :: xs)
    | _, _ => none
def pyK : List (Key × D) → Option (List (PyData × PyData))
  | [] => some []
  | (k, d) :: r => match py d, pyK r with
    | some x, some xs => some ((keyPy k, x) :: xs)
    | _, _ => none
end
def pyM (μ : Mem) (d : D) : Option PyData := match d with
  | .obj a => (match μ a with
    | some (.ml ds) => (pyL ds).map .list
    | _ => none)
  | d => py d
theorem pyL_cons {d : D} {r : List D} {ps : List PyData} (h : pyL (d :: r) = some ps) : ∃ x xs, py d = some x ∧ pyL r = some xs ∧ ps = x :: xs := by
  unfold pyL at h
  split at h
  · rename_i x xs e1 e2
    cases h
    exact ⟨x, xs, e1, e2, rfl⟩
  · cases h
section
variable {K : PySem.W.Frag} {F H : Hp} (e : Same F H)
include e
mutual
theorem Is.dp : ∀ {v : V} {d : D} {p : PyData}, Is K F v d → py d = some p → p.canLay0 = true → Dp K H v p
  | _, _, _, .non, h, _ => by cases h; exact .non
  | _, _, _, .bl b, h, _ => by cases h; exact .bl b
  | _, _, _, .int i, h, _ => by cases h; exact .int i
  | _, _, _, .str s, h, _ => by cases h; exact .str s
  | _, _, _, .tup hs hl, h, c => by
    unfold py at h
    obtain ⟨ps, h1, h2⟩ := Option.map_eq_some_iff.mp h
    subst h2
    exact .tup (sqt_up e hs) (IsL.dp hl h1 c)
  | _, _, _, .lst hs hl, h, c => by
    unfold py at h
    obtain ⟨ps, h1, h2⟩ := Option.map_eq_some_iff.mp h
    subst h2
    exact .lst (sql_up e hs) (IsL.dp hl h1 c)
  | _, _, _, .dct hs hk hl, h, c => by
    unfold py at h
    obtain ⟨ps, h1, h2⟩ := Option.map_eq_some_iff.mp h
    subst h2
    cases c
  | _, _, _, .obj a, h, c => by cases h
  | _, _, _, .ty a, h, c => by cases h
theorem IsL.dp : ∀ {vs : List V} {ds : List D} {ps : List PyData}, IsL K F vs ds → pyL ds = some ps → PyData.canLayAll0 ps = true → DpAll K H vs ps
  | _, _, _, .nil, h, _ => by cases h; exact .nil
  | _, _, _, .cons i r, h, c => by
    obtain ⟨x, xs, h1, h2, rfl⟩ := pyL_cons h
    have c' := Bool.and_eq_true_iff.mp (show (x.canLay0 && PyData.canLayAll0 xs) = true from c)
    exact .cons (Is.dp i h1 c'.1) (IsL.dp r h2 c'.2)
end
end
theorem dp_of {K : PySem.W.Frag} {F H : Hp} {μ : Mem} {v : V} {d : D} {p : PyData} (r : Rep K F H μ) (i : Is K F v d) (h : pyM μ d = some p) (c : p.canLay0 = true) : Dp K H v p := by
  cases i with
  | obj a =>
    unfold pyM at h
    simp only at h
    split at h
    · rename_i ds e
      obtain ⟨ps, h1, h2⟩ := Option.map_eq_some_iff.mp h
      subst h2
      obtain ⟨_, vs, h3, h4⟩ := r.mem a _ e
      exact .lst (.inl (.inl h3)) (IsL.dp r.sub h4 h1 c)
    · cases h
  | non => exact Is.dp r.sub .non h c
  | bl b => exact Is.dp r.sub (.bl b) h c
  | int b => exact Is.dp r.sub (.int b) h c
  | str b => exact Is.dp r.sub (.str b) h c
  | tup a b => exact Is.dp r.sub (.tup a b) h c
  | lst a b => exact Is.dp r.sub (.lst a b) h c
  | dct a b c' => exact Is.dp r.sub (.dct a b c') h c
  | ty b => cases h

/-! ### == and != -/
def eqW (f : Bool → Bool) (x y : D) : W D := W.bnd W.get fun μ => W.bnd (W.opt (pyM μ x)) fun a => W.bnd (W.opt (pyM μ y)) fun b => W.req (SeqAt.shaped a = true ∧ SeqAt.shaped b = true) (W.ret (.bl (f (PyData.eqv a b))))
theorem eqw_of {K : PySem.W.Frag} {F H : Hp} {μ : Mem} {x y : V} {dx dy : D} {f : Bool → Bool} {Q : D → Mem → Prop} {ED : XD} {Qh : VK} (r : Rep K F H μ) (ix : Is K F x dx) (iy : Is K F y dy) (h : eqW f dx dy μ Q ED) (bk : Back K F (Is K) Q Qh) :
    ∃ a b, Dp K H x a ∧ Dp K H y b ∧ SeqAt.shaped a = true ∧ SeqAt.shaped b = true ∧ Qh (.bl (f (PyData.eqv a b))) H := by
  obtain ⟨a, ea, h⟩ := opt_of h
  obtain ⟨b, eb, h⟩ := opt_of h
  obtain ⟨⟨s1, s2⟩, q⟩ := h
  exact ⟨a, b, dp_of r ix ea (SeqAt.canLay_of_shaped s1), dp_of r iy eb (SeqAt.canLay_of_shaped s2), s1, s2, back_is bk r (.bl _) q⟩
/-- texts and numbers at once, all else by what it holds -/
def eqA (f : Bool → Bool) (x y : D) : W D := match x, y with
  | .str a, .str b => W.ret (.bl (f (a == b)))
  | .int a, .int b => W.ret (.bl (f (decide (a = b))))
  | x, y => eqW f x y
abbrev eqD := eqA id
abbrev neD := eqA not
def rEqA (K : PySem.W.Frag) : R2 := fun x y H Q => rEq x y H Q ∨ rEqD K x y H Q
def rNeA (K : PySem.W.Frag) : R2 := fun x y H Q => rNe x y H Q ∨ rNeD K x y H Q
theorem op_eqA {X : Cx} (hu : X.A.units + 64 < cLine) : OpR X (compareOp .Eq) (rEqA X.K) := op_eq.or (op_eqD hu)
theorem op_neA {X : Cx} (hu : X.A.units + 64 < cLine) : OpR X (compareOp .NotEq) (rNeA X.K) := op_ne.or (op_neD hu)
theorem opd_eq {K : PySem.W.Frag} : OpD K (rEqA K) eqD := fun F H μ x y dx dy Q ED Qh r ix iy h bk => by
  unfold eqD eqA at h
  split at h
  · cases ix; cases iy
    refine .inl ⟨rfl, ?_⟩
    rw [dec_str]
    exact back_is bk r (.bl _) h
  · cases ix; cases iy
    refine .inl ⟨rfl, ?_⟩
    have e : ∀ i j : Int, decide (V.int i = V.int j) = decide (i = j) := fun i j => by rw [Bool.eq_iff_iff]; simp
    rw [e]
    exact back_is bk r (.bl _) h
  · exact .inr (eqw_of r ix iy h bk)
theorem opd_ne {K : PySem.W.Frag} : OpD K (rNeA K) neD := fun F H μ x y dx dy Q ED Qh r ix iy h bk => by
  unfold neD eqA at h
  split at h
  · cases ix; cases iy
    refine .inl ⟨rfl, ?_⟩
    rw [dec_str]
    exact back_is bk r (.bl _) h
  · cases ix; cases iy
    refine .inl ⟨rfl, ?_⟩
    have e : ∀ i j : Int, decide (V.int i = V.int j) = decide (i = j) := fun i j => by rw [Bool.eq_iff_iff]; simp
    rw [e]
    exact back_is bk r (.bl _) h
  · exact .inr (eqw_of r ix iy h bk)
theorem eqA_of {f : Bool → Bool} {x y : D} {μ : Mem} {Q : D → Mem → Prop} {E : XD} (h : eqW f x y μ Q E) : eqA f x y μ Q E := by
  unfold eqA
  split
  · obtain ⟨_, q⟩ := h
    exact q
  · rename_i a b
    obtain ⟨_, q⟩ := h
    have q : Q (.bl (f (a == b))) μ := q
    have e : (a == b) = decide (a = b) := Bool.eq_iff_iff.mpr (by simp)
    rw [e] at q
    exact q
  · exact h

/-! ### is None -/
def isNon : D → Bool
  | .non => true
  | _ => false
def isND (f : Bool → Bool) (x y : D) : W D := match y with
  | .non => W.ret (.bl (f (isNon x)))
  | _ => W.bad
theorem non_iff {K : PySem.W.Frag} {F : Hp} {v : V} {d : D} (i : Is K F v d) : decide (v = .non) = isNon d := by
  cases i <;> first | rfl | exact decide_eq_false (fun e => nomatch e)
theorem opd_isN {K : PySem.W.Frag} : OpD K (fun x y H Q => y = .non ∧ Q (.bl (decide (x = .non))) H) (isND id) := by
  intro F H μ x y dx dy Q ED Qh r ix iy h bk
  unfold isND at h
  split at h
  · cases iy
    refine ⟨rfl, ?_⟩
    rw [non_iff ix]
    exact back_is bk r (.bl _) h
  · exact h.elim
theorem opd_notN {K : PySem.W.Frag} : OpD K (fun x y H Q => y = .non ∧ Q (.bl (!decide (x = .non))) H) (isND not) := by
  intro F H μ x y dx dy Q ED Qh r ix iy h bk
  unfold isND at h
  split at h
  · cases iy
    refine ⟨rfl, ?_⟩
    rw [non_iff ix]
    exact back_is bk r (.bl _) h
  · exact h.elim

/-! ### truth -/
def truD (x : D) : W Bool := match x with
  | .non => W.ret false
  | .bl b => W.ret b
  | .int i => W.ret (i != 0)
  | .str y => W.req (y.length ≤ sizeLine) (W.ret ((y.length : Int) != 0))
  | .dct kvs => W.ret (!kvs.isEmpty)
  | x => W.bnd W.get fun μ => W.bnd (W.opt (sqOf x μ)) fun ds => W.ret (!ds.isEmpty)
theorem isEmpty_isL {K : PySem.W.Frag} {F : Hp} {vs : List V} {ds : List D} (h : IsL K F vs ds) : ds.isEmpty = vs.isEmpty := by
  cases h <;> rfl
theorem tru_of {K : PySem.W.Frag} {F H : Hp} {μ : Mem} {x : V} {d : D} {Q : Bool → Mem → Prop} {ED : XD} (r : Rep K F H μ) (i : Is K F x d) (h : truD d μ Q ED) : ∃ k, TruV K x H k ∧ Q k μ := by
  have sq : ∀ {a : Addr} {d : D}, Is K F (.ref a) d → W.bnd W.get (fun μ => W.bnd (W.opt (sqOf d μ)) fun ds => W.ret (!ds.isEmpty)) μ Q ED → ∃ k, TruV K (.ref a) H k ∧ Q k μ := fun {a d} i h => by
    obtain ⟨ds, e, q⟩ := opt_of h
    obtain ⟨b, vs, ev, hl, hs⟩ := sq_of r i e
    cases ev
    refine ⟨_, ?_, q⟩
    rw [isEmpty_isL hl]
    rcases hs with hs | hs
    · exact .inl ⟨vs, hs, rfl⟩
    · exact .inr (.inl ⟨vs, hs, rfl⟩)
  cases i with
  | non => exact ⟨false, rfl, h⟩
  | bl b => exact ⟨b, rfl, h⟩
  | int b => exact ⟨_, rfl, h⟩
  | str b => exact ⟨_, ⟨h.1, rfl⟩, h.2⟩
  | tup a b => exact sq (.tup a b) h
  | lst a b => exact sq (.lst a b) h
  | obj a => exact sq (.obj a) h
  | @dct a ks ds h1 h2 h3 =>
    refine ⟨_, .inr (.inr ⟨ks, r.sub _ _ h1, rfl⟩), ?_⟩
    have e : ks.isEmpty = ds.isEmpty := by
      have := congrArg List.length h2
      rw [List.length_map, List.length_map] at this
      cases ks <;> cases ds <;> simp at this ⊢
    rw [e]
    exact h
  | ty n => exact False.elim h
section
variable {X : Cx} {Eh : Option XK} {a b c : Expr} {ma mb mc : Rho → W D} {ta tb tc : Rho → W Bool} {pos : Pos}
def tTru (ma : Rho → W D) (ρ : Rho) : W Bool := W.bnd (ma ρ) truD
theorem dt_truth (ha : DE X Eh a ma) (he : ∀ whole, isTrue a X.env whole = (do let v ← whole; standAt a.pos; holding [v] (truthy v))) : DT X Eh a (tTru ma) := by
  refine PT.imp (pt_truth ha he) fun σ H Qh h => ?_
  obtain ⟨F, ρ, μ, Q, ED, env, rep, lnk, hm, bk⟩ := h
  refine ⟨F, ρ, μ, _, ED, env, rep, lnk, hm, fun v1 H1 d1 F1 μ1 s1 r1 i1 q1 => ?_⟩
  obtain ⟨k, t, q⟩ := tru_of r1 i1 q1
  exact ⟨k, t, bk k H1 k F1 μ1 s1 r1 rfl q⟩
def tAndW (ta tb : Rho → W Bool) (ρ : Rho) : W Bool := W.bnd (ta ρ) fun k => if k = true then tb ρ else W.ret false
def tOrW (ta tb : Rho → W Bool) (ρ : Rho) : W Bool := W.bnd (ta ρ) fun k => if k = true then W.ret true else tb ρ
def tNotW (ta : Rho → W Bool) (ρ : Rho) : W Bool := W.bnd (ta ρ) fun k => W.ret (!k)
variable {rest : List Expr}
theorem dw_and (ha : DT X Eh a ta) (hb : DW X Eh (.BoolOp .And (b :: rest) pos) tb) : DW X Eh (.BoolOp .And (a :: b :: rest) pos) (tAndW ta tb) := by
  refine PW.imp (pw_and ha hb) fun σ H Qh h => ?_
  obtain ⟨F, ρ, μ, Q, ED, env, rep, lnk, hm, bk⟩ := h
  refine ⟨F, ρ, μ, _, ED, env, rep, lnk, hm, fun v1 H1 d1 F1 μ1 s1 r1 i1 q1 => ?_⟩
  subst i1
  cases v1 with
  | true => exact ⟨F1, ρ, μ1, _, ED, env.up s1, r1, lnk.up s1, q1, fun v2 H2 d2 F2 μ2 s2 r2 i2 q2 => bk v2 H2 d2 F2 μ2 (s1.trans s2) r2 i2 q2⟩
  | false => exact bk _ H1 _ F1 μ1 s1 r1 rfl q1
theorem dw_or (ha : DT X Eh a ta) (hb : DW X Eh (.BoolOp .Or (b :: rest) pos) tb) : DW X Eh (.BoolOp .Or (a :: b :: rest) pos) (tOrW ta tb) := by
  refine PW.imp (pw_or ha hb) fun σ H Qh h => ?_
  obtain ⟨F, ρ, μ, Q, ED, env, rep, lnk, hm, bk⟩ := h
  refine ⟨F, ρ, μ, _, ED, env, rep, lnk, hm, fun v1 H1 d1 F1 μ1 s1 r1 i1 q1 => ?_⟩
  subst i1
  cases v1 with
  | false => exact ⟨F1, ρ, μ1, _, ED, env.up s1, r1, lnk.up s1, q1, fun v2 H2 d2 F2 μ2 s2 r2 i2 q2 => bk v2 H2 d2 F2 μ2 (s1.trans s2) r2 i2 q2⟩
  | true => exact bk _ H1 _ F1 μ1 s1 r1 rfl q1
theorem dw_and1 (ha : DT X Eh a ta) : DW X Eh (.BoolOp .And [a] pos) ta := pw_and1 ha
theorem dw_or1 (ha : DT X Eh a ta) : DW X Eh (.BoolOp .Or [a] pos) ta := pw_or1 ha
theorem dt_not (ha : DT X Eh a ta) : DT X Eh (.UnaryOp .Not a pos) (tNotW ta) := by
  refine PT.imp (pt_not ha) fun σ H Qh h => ?_
  obtain ⟨F, ρ, μ, Q, ED, env, rep, lnk, hm, bk⟩ := h
  refine ⟨F, ρ, μ, _, ED, env, rep, lnk, hm, fun v1 H1 d1 F1 μ1 s1 r1 i1 q1 => ?_⟩
  subst i1
  exact bk _ H1 _ F1 μ1 s1 r1 rfl q1
/-- as values, by truth -/
def eAnd (ma mb : Rho → W D) (ρ : Rho) : W D := W.bnd (ma ρ) fun x => W.bnd (truD x) fun k => if k = true then mb ρ else W.ret x
def eOr (ma mb : Rho → W D) (ρ : Rho) : W D := W.bnd (ma ρ) fun x => W.bnd (truD x) fun k => if k = true then W.ret x else mb ρ
def eNot (ma : Rho → W D) (ρ : Rho) : W D := W.bnd (ma ρ) fun x => W.bnd (truD x) fun k => W.ret (.bl (!k))
theorem de_one {op} (ha : DE X Eh a ma) : DE X Eh (.BoolOp op [a] pos) ma := pe_one ha
theorem de_and (ha : DE X Eh a ma) (hb : DE X Eh (.BoolOp .And (b :: rest) pos) mb) : DE X Eh (.BoolOp .And (a :: b :: rest) pos) (eAnd ma mb) := by
  refine PE.imp (pe_andT ha hb) fun σ H Qh h => ?_
  obtain ⟨F, ρ, μ, Q, ED, env, rep, lnk, hm, bk⟩ := h
  refine ⟨F, ρ, μ, _, ED, env, rep, lnk, hm, fun v1 H1 d1 F1 μ1 s1 r1 i1 q1 => ?_⟩
  obtain ⟨k, t, q⟩ := tru_of r1 i1 q1
  refine ⟨k, t, ?_⟩
  cases k with
  | true => exact ⟨F1, ρ, μ1, _, ED, env.up s1, r1, lnk.up s1, q, fun v2 H2 d2 F2 μ2 s2 r2 i2 q2 => bk v2 H2 d2 F2 μ2 (s1.trans s2) r2 i2 q2⟩
  | false => exact bk _ H1 _ F1 μ1 s1 r1 i1 q
theorem de_or (ha : DE X Eh a ma) (hb : DE X Eh (.BoolOp .Or (b :: rest) pos) mb) : DE X Eh (.BoolOp .Or (a :: b :: rest) pos) (eOr ma mb) := by
  refine PE.imp (pe_orT ha hb) fun σ H Qh h => ?_
  obtain ⟨F, ρ, μ, Q, ED, env, rep, lnk, hm, bk⟩ := h
  refine ⟨F, ρ, μ, _, ED, env, rep, lnk, hm, fun v1 H1 d1 F1 μ1 s1 r1 i1 q1 => ?_⟩
  obtain ⟨k, t, q⟩ := tru_of r1 i1 q1
  refine ⟨k, t, ?_⟩
  cases k with
  | false => exact ⟨F1, ρ, μ1, _, ED, env.up s1, r1, lnk.up s1, q, fun v2 H2 d2 F2 μ2 s2 r2 i2 q2 => bk v2 H2 d2 F2 μ2 (s1.trans s2) r2 i2 q2⟩
  | true => exact bk _ H1 _ F1 μ1 s1 r1 i1 q
theorem de_not (ha : DE X Eh a ma) : DE X Eh (.UnaryOp .Not a pos) (eNot ma) := by
  refine PE.imp (pe_notT ha) fun σ H Qh h => ?_
  obtain ⟨F, ρ, μ, Q, ED, env, rep, lnk, hm, bk⟩ := h
  refine ⟨F, ρ, μ, _, ED, env, rep, lnk, hm, fun v1 H1 d1 F1 μ1 s1 r1 i1 q1 => ?_⟩
  obtain ⟨k, t, q⟩ := tru_of r1 i1 q1
  exact ⟨k, t, bk _ H1 _ F1 μ1 s1 r1 (.bl _) q⟩
def eIf (tc : Rho → W Bool) (ma mb : Rho → W D) (ρ : Rho) : W D := W.bnd (tc ρ) fun k => if k = true then ma ρ else mb ρ
theorem de_if (hc : DT X Eh c tc) (ha : DE X Eh a ma) (hb : DE X Eh b mb) : DE X Eh (.IfExp c a b pos) (eIf tc ma mb) := by
  refine PE.imp (pe_ifExp hc ha hb) fun σ H Qh h => ?_
  obtain ⟨F, ρ, μ, Q, ED, env, rep, lnk, hm, bk⟩ := h
  refine ⟨F, ρ, μ, _, ED, env, rep, lnk, hm, fun v1 H1 d1 F1 μ1 s1 r1 i1 q1 => ?_⟩
  subst i1
  cases v1 with
  | true => exact ⟨F1, ρ, μ1, _, ED, env.up s1, r1, lnk.up s1, q1, fun v2 H2 d2 F2 μ2 s2 r2 i2 q2 => bk v2 H2 d2 F2 μ2 (s1.trans s2) r2 i2 q2⟩
  | false => exact ⟨F1, ρ, μ1, _, ED, env.up s1, r1, lnk.up s1, q1, fun v2 H2 d2 F2 μ2 s2 r2 i2 q2 => bk v2 H2 d2 F2 μ2 (s1.trans s2) r2 i2 q2⟩
/-- a op b op' c -/
def eChain (g g' : D → D → W D) (ma mb mc : Rho → W D) (ρ : Rho) : W D := W.bnd (ma ρ) fun x => W.bnd (mb ρ) fun y => W.bnd (g x y) fun z => match z with
  | .bl true => W.bnd (mc ρ) fun u => g' y u
  | .bl false => W.ret (.bl false)
  | _ => W.bad
end

/-! ### displays -/
section
variable {X : Cx} {Eh : Option XK} {e : Expr} {es : List Expr} {me : Rho → W D} {ms : Rho → W (List D)} {pos : Pos}
def aNil (_ : Rho) : W (List D) := W.ret []
def aCons (me : Rho → W D) (ms : Rho → W (List D)) (ρ : Rho) : W (List D) := W.bnd (me ρ) fun x => W.bnd (ms ρ) fun xs => W.ret (x :: xs)
theorem da_nil : DA X Eh [] aNil := PA.imp pa_nil fun σ H Qh ⟨F, ρ, μ, Q, ED, env, rep, lnk, hm, bk⟩ => bk _ H _ F μ (Same.refl F) rep .nil hm
theorem da_cons (ha : DE X Eh e me) (hr : DA X Eh es ms) (hs : starEach (e :: es) X.env = (false, eval e X.env) :: starEach es X.env) : DA X Eh (e :: es) (aCons me ms) := by
  refine PA.imp (pa_cons ha hr hs) fun σ H Qh h => ?_
  obtain ⟨F, ρ, μ, Q, ED, env, rep, lnk, hm, bk⟩ := h
  refine ⟨F, ρ, μ, _, ED, env, rep, lnk, hm, fun v1 H1 d1 F1 μ1 s1 r1 i1 q1 => ?_⟩
  refine ⟨F1, ρ, μ1, _, ED, env.up s1, r1, lnk.up s1, q1, fun v2 H2 d2 F2 μ2 s2 r2 i2 q2 => ?_⟩
  exact bk _ H2 _ F2 μ2 (s1.trans s2) r2 (.cons (i1.up s2) i2) q2
def eTup (ms : Rho → W (List D)) (ρ : Rho) : W D := W.bnd (ms ρ) fun ds => W.req (ds.length ≤ sizeLine) (W.ret (.tup ds))
def eLst (ms : Rho → W (List D)) (ρ : Rho) : W D := W.bnd (ms ρ) fun ds => W.req (ds.length ≤ sizeLine) (W.ret (.lst ds))
/-- a list that will change: at any free place -/
def eLstM (ms : Rho → W (List D)) (ρ : Rho) : W D := W.bnd (ms ρ) fun ds => W.req (ds.length ≤ sizeLine) (fun μ Q _ => ∀ p, μ p = none → Q (.obj p) (put μ p (.ml ds)))
theorem de_tup {k} (h : DA X Eh es ms) : DE X Eh (.Tuple es k pos) (eTup ms) := by
  refine PE.imp (pe_tup h) fun σ H Qh h => ?_
  obtain ⟨F, ρ, μ, Q, ED, env, rep, lnk, hm, bk⟩ := h
  refine ⟨F, ρ, μ, _, ED, env, rep, lnk, hm, fun v1 H1 d1 F1 μ1 s1 r1 i1 q1 => ⟨by rw [i1.length]; exact q1.1, fun p hn => ?_⟩⟩
  exact back_tup (fun v2 H2 d2 F2 μ2 s2 r2 i2 q2 => bk v2 H2 d2 F2 μ2 (s1.trans s2) r2 i2 q2) r1 hn i1 q1.2
theorem de_lst (h : DA X Eh es ms) : DE X Eh (.List es pos) (eLst ms) := by
  refine PE.imp (pe_lst h) fun σ H Qh h => ?_
  obtain ⟨F, ρ, μ, Q, ED, env, rep, lnk, hm, bk⟩ := h
  refine ⟨F, ρ, μ, _, ED, env, rep, lnk, hm, fun v1 H1 d1 F1 μ1 s1 r1 i1 q1 => ⟨by rw [i1.length]; exact q1.1, fun p hn => ?_⟩⟩
  exact back_lst (fun v2 H2 d2 F2 μ2 s2 r2 i2 q2 => bk v2 H2 d2 F2 μ2 (s1.trans s2) r2 i2 q2) r1 hn i1 q1.2
theorem Rep.mfree {K : PySem.W.Frag} {F H : Hp} {μ : Mem} {p : Addr} (r : Rep K F H μ) (hn : H p = none) : μ p = none := by
  cases e : μ p with
  | none => rfl
  | some mo => exact absurd rfl ((r.mem p mo e).2.ne hn)
theorem de_lstM (h : DA X Eh es ms) : DE X Eh (.List es pos) (eLstM ms) := by
  refine PE.imp (pe_lst h) fun σ H Qh h => ?_
  obtain ⟨F, ρ, μ, Q, ED, env, rep, lnk, hm, bk⟩ := h
  refine ⟨F, ρ, μ, _, ED, env, rep, lnk, hm, fun v1 H1 d1 F1 μ1 s1 r1 i1 q1 => ⟨by rw [i1.length]; exact q1.1, fun p hn => ?_⟩⟩
  exact back_mut (fun v2 H2 d2 F2 μ2 s2 r2 i2 q2 => bk v2 H2 d2 F2 μ2 (s1.trans s2) r2 i2 q2) r1 hn i1 (q1.2 p (r1.mfree hn))
end
end DL

namespace DL
open PySem PySem.Spec PyProof.Rows L2

/-! ### a op b op' c -/
section
variable {X : Cx} {Eh : Option XK} {a b c : Expr} {ma mb mc : Rho → W D} {pos : Pos}
theorem lift_chain {K : PySem.W.Frag} {r r' : R2} {g g' : D → D → W D} (hg : OpD K r g) (hg' : OpD K r' g') {σ : L2.St} {H : Hp} {Qh : VK} (h : liftE K Eh (eChain g g' ma mb mc) σ H Qh) : tChain r r' (liftE K Eh ma) (liftE K Eh mb) (liftE K Eh mc) σ H Qh := by
  obtain ⟨F, ρ, μ, Q, ED, env, rep, lnk, hm, bk⟩ := h
  refine ⟨F, ρ, μ, _, ED, env, rep, lnk, hm, fun v1 H1 d1 F1 μ1 s1 r1 i1 q1 => ?_⟩
  refine ⟨F1, ρ, μ1, _, ED, env.up s1, r1, lnk.up s1, q1, fun v2 H2 d2 F2 μ2 s2 r2 i2 q2 => ?_⟩
  refine hg F2 H2 μ2 v1 v2 d1 d2 _ ED _ r2 (i1.up s2) i2 q2 fun v3 H3 d3 F3 μ3 s3 r3 i3 q3 => ?_
  cases d3 with
  | bl k =>
    cases is_bl i3
    refine ⟨k, rfl, ?_⟩
    cases k with
    | true =>
      refine ⟨F3, ρ, μ3, _, ED, env.up ((s1.trans s2).trans s3), r3, lnk.up ((s1.trans s2).trans s3), q3, fun v4 H4 d4 F4 μ4 s4 r4 i4 q4 => ?_⟩
      exact hg' F4 H4 μ4 v2 v4 d2 d4 Q ED Qh r4 ((i2.up s3).up s4) i4 q4 fun v5 H5 d5 F5 μ5 s5 r5 i5 q5 => bk v5 H5 d5 F5 μ5 ((((s1.trans s2).trans s3).trans s4).trans s5) r5 i5 q5
    | false => exact bk _ H3 _ F3 μ3 ((s1.trans s2).trans s3) r3 (.bl false) q3
  | _ => exact q3.elim
theorem de_chain {op op' : CmpOp} {r r' : R2} {g g' : D → D → W D} (ho : OpR X (compareOp op) r) (hg : OpD X.K r g) (ho' : OpR X (compareOp op') r') (hg' : OpD X.K r' g') (ha : DE X Eh a ma) (hb : DE X Eh b mb) (hc : DE X Eh c mc)
    (hm : lastMarks [op, op'] [b, c] = false) : DE X Eh (.Compare a [op, op'] [b, c] pos) (eChain g g' ma mb mc) :=
  PE.imp (pe_chain ho ho' ha hb hc hm) fun _ _ _ h => lift_chain hg hg' h
def tOfE (m : Rho → W D) (ρ : Rho) : W Bool := W.bnd (m ρ) fun d => match d with
  | .bl b => W.ret b
  | _ => W.bad
theorem dt_chain {op op' : CmpOp} {r r' : R2} {g g' : D → D → W D} (ho : OpR X (compareOp op) r) (hg : OpD X.K r g) (ho' : OpR X (compareOp op') r') (hg' : OpD X.K r' g') (ha : DE X Eh a ma) (hb : DE X Eh b mb) (hc : DE X Eh c mc)
    (hm : lastMarks [op, op'] [b, c] = false) : DT X Eh (.Compare a [op, op'] [b, c] pos) (tOfE (eChain g g' ma mb mc)) := by
  refine PT.imp (pt_chain ho ho' ha hb hc hm) fun σ H Qh h => ?_
  obtain ⟨F, ρ, μ, Q, ED, env, rep, lnk, hm, bk⟩ := h
  refine lift_chain (Eh := Eh) hg hg' ⟨F, ρ, μ, _, ED, env, rep, lnk, hm, fun v H' d F' μ' s' r' i' q' => ?_⟩
  cases d with
  | bl b =>
    cases is_bl i'
    exact ⟨b, rfl, bk b H' b F' μ' s' r' rfl q'⟩
  | _ => exact q'.elim
end

/-! ### a[i] -/
def ixD (x i : D) : W D := match i with
  | .int k => (match x with
    | .str s => W.req (s.length ≤ sizeLine) (W.bnd (W.opt (atI s.cps.toList k)) fun c => W.ret (.str ⟨#[c]⟩))
    | x => W.bnd W.get fun μ => W.bnd (W.opt (sqOf x μ)) fun ds => W.opt (atI ds k))
  | _ => W.bad
theorem atI_isL {K : PySem.W.Frag} {F : Hp} {vs : List V} {ds : List D} {k : Int} {d : D} (h : IsL K F vs ds) (e : atI ds k = some d) : ∃ v, atI vs k = some v ∧ Is K F v d := by
  unfold atI at e ⊢
  rw [h.length]
  cases q : ixN ds.length k with
  | none => rw [q] at e; cases e
  | some j =>
    rw [q] at e
    obtain ⟨v, h1, h2⟩ := h.get (i := j) (d := d) e
    exact ⟨v, h1, h2⟩
theorem opd_ix {K : PySem.W.Frag} : OpD K (rIx K) ixD := by
  intro F H μ x y dx dy Q ED Qh r ix iy h bk
  unfold ixD at h
  split at h
  · cases iy
    split at h
    · obtain ⟨hz, h⟩ := h
      obtain ⟨c, e, q⟩ := opt_of h
      cases ix
      exact .inr (.inr ⟨_, _, c, rfl, rfl, hz, e, back_is bk r (.str _) q⟩)
    · obtain ⟨ds, e, h⟩ := opt_of h
      obtain ⟨d, e2, q⟩ := opt_of h
      obtain ⟨a, vs, rfl, hl, hs⟩ := sq_of r ix e
      obtain ⟨v, e3, iv⟩ := atI_isL hl e2
      rcases hs with hs | hs
      · exact .inl ⟨a, vs, _, v, rfl, rfl, hs, e3, back_is bk r iv q⟩
      · exact .inr (.inl ⟨a, vs, _, v, rfl, rfl, hs, e3, back_is bk r iv q⟩)
  · exact h.elim

/-! ### a[i:j] -/
def liftO (K : PySem.W.Frag) (Eh : Option XK) (m : Rho → W (Option Int)) : TO := fun σ H Qh => ∃ F ρ μ Q ED, EnvR K F σ ρ ∧ Rep K F H μ ∧ Lnk K Eh F ED ∧ m ρ μ Q ED ∧ Back K F (fun _ (b : Option Int) c => b = c) Q Qh
abbrev DO (X : Cx) (Eh : Option XK) (e : Option Expr) (m : Rho → W (Option Int)) : Prop := PO X e (liftO X.K Eh m)
theorem PO.imp {X : Cx} {e : Option Expr} {t t' : TO} (h : PO X e t) (i : ∀ σ H Q, t' σ H Q → t σ H Q) : PO X e t' := ⟨fun pins s σ H Q I q => h.run pins s σ H Q I (i _ _ _ q)⟩
def oNone (_ : Rho) : W (Option Int) := W.ret none
def oSome (m : Rho → W D) (ρ : Rho) : W (Option Int) := W.bnd (m ρ) fun d => match d with
  | .int i => W.ret (some i)
  | _ => W.bad
def cutD {α : Type} (xs : List α) (lo hi : Option Int) : List α := (xs.drop (HT.sIx xs.length 0 lo)).take (HT.sIx xs.length xs.length hi - HT.sIx xs.length 0 lo)
def slD (x : D) (lo hi : Option Int) : W D := match x with
  | .str s => W.req (s.length ≤ sizeLine) (W.ret (.str (cutS s lo hi)))
  | .tup ds => W.ret (.tup (cutD ds lo hi))
  | x => W.bnd W.get fun μ => W.bnd (W.opt (lsOf x μ)) fun ds => W.ret (.lst (cutD ds lo hi))
def eSl (m : Rho → W D) (ml mh : Rho → W (Option Int)) (ρ : Rho) : W D := W.bnd (m ρ) fun x => W.bnd (ml ρ) fun lo => W.bnd (mh ρ) fun hi => slD x lo hi
theorem cut_isL {K : PySem.W.Frag} {F : Hp} {vs : List V} {ds : List D} (lo hi : Option Int) (h : IsL K F vs ds) : IsL K F (cutV vs lo hi) (cutD ds lo hi) := by
  unfold cutV cutD
  rw [h.length]
  exact (h.drop _).take _
theorem cut_whole {α : Type} {ds : List α} {lo hi : Option Int} (h : HT.sIx ds.length 0 lo = 0 ∧ HT.sIx ds.length ds.length hi = ds.length) : cutD ds lo hi = ds := by
  unfold cutD
  rw [h.1, h.2, List.drop_zero, Nat.sub_zero, List.take_length]
def rSlAll (K : PySem.W.Frag) : V → Option Int → Option Int → Hp → VK → Prop := fun x lo hi H Q => rSlS x lo hi H Q ∨ (rSlA K x lo hi H Q ∨ rSlL K x lo hi H Q)
theorem sl_all {X : Cx} : SlR X (rSlAll X.K) := sl_str.or (sl_tupA.or sl_list)
section
variable {X : Cx} {Eh : Option XK} {e : Expr} {lo hi : Option Expr} {m : Rho → W D} {ml mh : Rho → W (Option Int)} {pos p2 : Pos}
theorem do_none : DO X Eh none oNone := PO.imp po_none fun σ H Qh ⟨F, ρ, μ, Q, ED, env, rep, lnk, hm, bk⟩ => bk _ H _ F μ (Same.refl F) rep rfl hm
theorem do_some (h : DE X Eh e m) : DO X Eh (some e) (oSome m) := by
  refine PO.imp (po_some h) fun σ H Qh h => ?_
  obtain ⟨F, ρ, μ, Q, ED, env, rep, lnk, hm, bk⟩ := h
  refine ⟨F, ρ, μ, _, ED, env, rep, lnk, hm, fun v1 H1 d1 F1 μ1 s1 r1 i1 q1 => ?_⟩
  cases d1 with
  | int i =>
    cases is_int i1
    exact ⟨i, rfl, bk _ H1 _ F1 μ1 s1 r1 rfl q1⟩
  | _ => exact q1.elim
theorem de_slice (h : DE X Eh e m) (hl : DO X Eh lo ml) (hh : DO X Eh hi mh) : DE X Eh (.Subscript e (.Slice lo hi none p2) pos) (eSl m ml mh) := by
  refine PE.imp (pe_slice sl_all h hl hh) fun σ H Qh h => ?_
  obtain ⟨F, ρ, μ, Q, ED, env, rep, lnk, hm, bk⟩ := h
  refine ⟨F, ρ, μ, _, ED, env, rep, lnk, hm, fun v1 H1 d1 F1 μ1 s1 r1 i1 q1 => ?_⟩
  refine ⟨F1, ρ, μ1, _, ED, env.up s1, r1, lnk.up s1, q1, fun v2 H2 d2 F2 μ2 s2 r2 i2 q2 => ?_⟩
  refine ⟨F2, ρ, μ2, _, ED, (env.up s1).up s2, r2, (lnk.up s1).up s2, q2, fun v3 H3 d3 F3 μ3 s3 r3 i3 q3 => ?_⟩
  subst i2 i3
  have bk' : Back X.K F3 (Is X.K) Q Qh := fun v H' d F' μ' s' r' i' q' => bk v H' d F' μ' (((s1.trans s2).trans s3).trans s') r' i' q'
  have i1' := (i1.up s2).up s3
  unfold slD at q3
  split at q3
  · cases i1'
    exact .inl ⟨_, rfl, q3.1, back_is bk' r3 (.str _) q3.2⟩
  · cases i1' with
    | tup hs hl =>
      refine .inr (.inl ⟨_, _, rfl, sqt_up r3.sub hs, fun hw => ?_, fun _ p hn => back_tup bk' r3 hn (cut_isL _ _ hl) q3⟩)
      rw [hl.length] at hw
      have q : Q (.tup _) μ3 := q3
      rw [cut_whole hw] at q
      exact back_is bk' r3 (.tup hs hl) q
  · obtain ⟨ds, e1, q⟩ := opt_of q3
    obtain ⟨a, vs, rfl, h1, h2⟩ := ls_of r3 i1' e1
    exact .inr (.inr ⟨a, vs, rfl, h1, fun p hn => back_lst bk' r3 hn (cut_isL _ _ h2) q⟩)
/-- a[::-1] of a list -/
def revD (x : D) : W D := W.bnd W.get fun μ => W.bnd (W.opt (lsOf x μ)) fun ds => W.ret (.lst ds.reverse)
def revMD (x : D) : W D := W.bnd W.get fun μ => W.bnd (W.opt (lsOf x μ)) fun ds => (fun μ Q _ => ∀ p, μ p = none → Q (.obj p) (put μ p (.ml ds.reverse)))
theorem de_revL {k : Nat} {p1 p3 : Pos} (h : DE X Eh e m) : DE X Eh (.Subscript e (.Slice none none (some (.UnaryOp .USub (.Constant (.int 1) k p1) p2)) p3) pos) (eUn revD m) := by
  refine PE.imp (pe_revL h) fun σ H Qh h => ?_
  obtain ⟨F, ρ, μ, Q, ED, env, rep, lnk, hm, bk⟩ := h
  refine ⟨F, ρ, μ, _, ED, env, rep, lnk, hm, fun v1 H1 d1 F1 μ1 s1 r1 i1 q1 => ?_⟩
  obtain ⟨ds, e1, q⟩ := opt_of q1
  obtain ⟨a, vs, rfl, h1, h2⟩ := ls_of r1 i1 e1
  exact ⟨a, vs, rfl, h1, fun p hn => back_lst (fun v H' d F' μ' s' r' i' q' => bk v H' d F' μ' (s1.trans s') r' i' q') r1 hn h2.rev q⟩
theorem de_revM {k : Nat} {p1 p3 : Pos} (h : DE X Eh e m) : DE X Eh (.Subscript e (.Slice none none (some (.UnaryOp .USub (.Constant (.int 1) k p1) p2)) p3) pos) (eUn revMD m) := by
  refine PE.imp (pe_revL h) fun σ H Qh h => ?_
  obtain ⟨F, ρ, μ, Q, ED, env, rep, lnk, hm, bk⟩ := h
  refine ⟨F, ρ, μ, _, ED, env, rep, lnk, hm, fun v1 H1 d1 F1 μ1 s1 r1 i1 q1 => ?_⟩
  obtain ⟨ds, e1, q⟩ := opt_of q1
  obtain ⟨a, vs, rfl, h1, h2⟩ := ls_of r1 i1 e1
  exact ⟨a, vs, rfl, h1, fun p hn => back_mut (fun v H' d F' μ' s' r' i' q' => bk v H' d F' μ' (s1.trans s') r' i' q') r1 hn h2.rev (q p (r1.mfree hn))⟩
end

/-! ### calls of built-ins -/
def CallD (K : PySem.W.Frag) (r : List V → Hp → VK → Prop) (g : List D → W D) : Prop := ∀ (F H : Hp) (μ : Mem) (xs : List V) (ds : List D) (Q : D → Mem → Prop) (ED : XD) (Qh : VK), Rep K F H μ → IsL K F xs ds → g ds μ Q ED → Back K F (Is K) Q Qh → r xs H Qh
def eCall (g : List D → W D) (ms : Rho → W (List D)) (ρ : Rho) : W D := W.bnd (ms ρ) g
theorem lift_call {Eh : Option XK} {K : PySem.W.Frag} {r : List V → Hp → VK → Prop} {g : List D → W D} {ms : Rho → W (List D)} (hg : CallD K r g) {σ : L2.St} {H : Hp} {Qh : VK} (h : liftE K Eh (eCall g ms) σ H Qh) : tCB r (liftA K Eh ms) σ H Qh := by
  obtain ⟨F, ρ, μ, Q, ED, env, rep, lnk, hm, bk⟩ := h
  refine ⟨F, ρ, μ, _, ED, env, rep, lnk, hm, fun v1 H1 d1 F1 μ1 s1 r1 i1 q1 => ?_⟩
  exact hg F1 H1 μ1 v1 d1 Q ED Qh r1 i1 q1 fun v3 H3 d3 F3 μ3 s3 r3 i3 q3 => bk v3 H3 d3 F3 μ3 (s1.trans s3) r3 i3 q3
section
variable {X : Cx} {Eh : Option XK} {e o : Expr} {es : List Expr} {mo : Rho → W D} {ms : Rho → W (List D)} {x : Str} {p pos : Pos} {id T : String} {r : List V → Hp → VK → Prop} {g : List D → W D}
theorem de_callB (hc : CallR X (.builtin id) r) (hd : CallD X.K r g) (hg : Gl X x) (hm : X.mg x = none) (hv : bootBuiltins x = some (.builtin id)) (hn : x ≠ "__name__") (hdb : (x == ("__debug__" : Str)) = false) (ha : DA X Eh (e :: es) ms)
    (he : starEach (e :: es) X.env = (false, eval e X.env) :: starEach es X.env) (hpl : (backTo pos (starEach es X.env)).any (·.1) = false) : DE X Eh (.Call (.Name x p) (e :: es) [] pos) (eCall g ms) :=
  PE.imp (pe_callB hc hg hm hv ha hn hdb he hpl) fun _ _ _ h => lift_call hd h
theorem de_callTy (hc : CallR X (.type T) r) (hd : CallD X.K r g) (hg : Gl X x) (hm : X.mg x = none) (hv : bootBuiltins x = some (.type T)) (hn : x ≠ "__name__") (hdb : (x == ("__debug__" : Str)) = false) (ha : DA X Eh (e :: es) ms)
    (he : starEach (e :: es) X.env = (false, eval e X.env) :: starEach es X.env) (hpl : (backTo pos (starEach es X.env)).any (·.1) = false) : DE X Eh (.Call (.Name x p) (e :: es) [] pos) (eCall g ms) :=
  PE.imp (pe_callTy hc hg hm hv ha hn hdb he hpl) fun _ _ _ h => lift_call hd h
/-! methods of built-in types -/
def tyD (T : String) (x : D) (μ : Mem) : Prop := match x with
  | .str _ => T = "str"
  | .lst _ => T = "list"
  | .obj a => (match μ a with
    | some (.ml _) => T = "list"
    | some (.md _) => T = "dict"
    | none => False)
  | .dct _ => T = "dict"
  | _ => False
theorem ty_of {K : PySem.W.Frag} {F H : Hp} {μ : Mem} {v : V} {d : D} (r : Rep K F H μ) (i : Is K F v d) (h : tyD T d μ) : tyV K T v H := by
  cases i with
  | str s => exact h
  | lst hs hl => exact .inl ⟨h, _, sql_up r.sub hs⟩
  | dct hs hk hl => exact .inr (.inr (.inl ⟨h, .inl ⟨_, r.sub _ _ hs⟩⟩))
  | obj a =>
    unfold tyD at h
    simp only at h
    split at h
    · rename_i e
      obtain ⟨_, vs, h1, _⟩ := r.mem a _ e
      exact .inl ⟨h, vs, .inl (.inl h1)⟩
    · rename_i e
      obtain ⟨_, vs, h1, _⟩ := r.mem a _ e
      exact .inr (.inr (.inl ⟨h, .inl ⟨_, h1⟩⟩))
    · exact h.elim
  | _ => exact h.elim
def MtD (K : PySem.W.Frag) (r : V → List V → Hp → VK → Prop) (g : D → List D → W D) : Prop := ∀ (F H : Hp) (μ : Mem) (x : V) (dx : D) (xs : List V) (ds : List D) (Q : D → Mem → Prop) (ED : XD) (Qh : VK), Rep K F H μ → Is K F x dx → IsL K F xs ds → g dx ds μ Q ED → Back K F (Is K) Q Qh → r x xs H Qh
def eMeth (T : String) (g : D → List D → W D) (mo : Rho → W D) (ms : Rho → W (List D)) (ρ : Rho) : W D := W.bnd (mo ρ) fun o => W.bnd W.get fun μ => W.req (tyD T o μ) (W.bnd (ms ρ) fun as => g o as)
variable {rm : V → List V → Hp → VK → Prop} {gm : D → List D → W D} {name : Str} {apos cpos : Pos}
theorem de_bm0 (pa : PlainAttrs T) (slot : Slot T name id) (hty : typeOf (.builtin id) = pure (.type "method_descriptor")) (hm : MtR X id rm) (hd : MtD X.K rm gm) (ho : DE X Eh o mo)
    (hbase : attributeBase o name X.env (eval o X.env) = eval o X.env) (hline : (apos.endLine == cpos.line) = true) : DE X Eh (.Call (.Attribute o name apos) [] [] cpos) (eMeth T gm mo aNil) := by
  refine PE.imp (pe_bm0 pa slot hty hm ho hbase hline) fun σ H Qh h => ?_
  obtain ⟨F, ρ, μ, Q, ED, env, rep, lnk, hm, bk⟩ := h
  refine ⟨F, ρ, μ, _, ED, env, rep, lnk, hm, fun v1 H1 d1 F1 μ1 s1 r1 i1 q1 => ⟨ty_of r1 i1 q1.1, ?_⟩⟩
  exact hd F1 H1 μ1 v1 d1 [] [] Q ED Qh r1 i1 .nil q1.2 fun v3 H3 d3 F3 μ3 s3 r3 i3 q3 => bk v3 H3 d3 F3 μ3 (s1.trans s3) r3 i3 q3
theorem de_bm (pa : PlainAttrs T) (slot : Slot T name id) (hty : typeOf (.builtin id) = pure (.type "method_descriptor")) (hm : MtR X id rm) (hd : MtD X.K rm gm) (ho : DE X Eh o mo) (ha : DA X Eh (e :: es) ms)
    (hbase : attributeBase o name X.env (eval o X.env) = eval o X.env)
    (hfew : ((backTo cpos (starEach (e :: es) X.env)).all (fun x => !x.1) && (backToKw cpos (keywordEach [] X.env)).all (fun x => x.1.isSome) && decide ((e :: es).length + ([] : List Keyword).length + (if ([] : List Keyword).isEmpty then 0 else 1) < 30)) = true)
    (hline : (apos.endLine == cpos.line) = true) (hs : starEach (e :: es) X.env = (false, eval e X.env) :: starEach es X.env) (hplain : (backTo cpos (starEach es X.env)).any (·.1) = false) :
    DE X Eh (.Call (.Attribute o name apos) (e :: es) [] cpos) (eMeth T gm mo ms) := by
  refine PE.imp (pe_bm pa slot hty hm ho ha hbase hfew hline hs hplain) fun σ H Qh h => ?_
  obtain ⟨F, ρ, μ, Q, ED, env, rep, lnk, hm, bk⟩ := h
  refine ⟨F, ρ, μ, _, ED, env, rep, lnk, hm, fun v1 H1 d1 F1 μ1 s1 r1 i1 q1 => ⟨ty_of r1 i1 q1.1, ?_⟩⟩
  refine ⟨F1, ρ, μ1, _, ED, env.up s1, r1, lnk.up s1, q1.2, fun v2 H2 d2 F2 μ2 s2 r2 i2 q2 => ?_⟩
  exact hd F2 H2 μ2 v1 d1 v2 d2 Q ED Qh r2 (i1.up s2) i2 q2 fun v3 H3 d3 F3 μ3 s3 r3 i3 q3 => bk v3 H3 d3 F3 μ3 ((s1.trans s2).trans s3) r3 i3 q3
end

/-! ### the built-ins -/
theorem isL1 {K : PySem.W.Frag} {F : Hp} {vs : List V} {d : D} (h : IsL K F vs [d]) : ∃ v, vs = [v] ∧ Is K F v d := by
  cases h with
  | cons i r => cases r; exact ⟨_, rfl, i⟩
theorem isL2 {K : PySem.W.Frag} {F : Hp} {vs : List V} {d e : D} (h : IsL K F vs [d, e]) : ∃ v u, vs = [v, u] ∧ Is K F v d ∧ Is K F u e := by
  cases h with
  | cons i r =>
    obtain ⟨u, rfl, j⟩ := isL1 r
    exact ⟨_, _, rfl, i, j⟩
def lenD : List D → W D
  | [.str s] => W.req (s.length ≤ sizeLine) (W.ret (.int s.length))
  | [x] => W.bnd W.get fun μ => W.bnd (W.opt (sqOf x μ)) fun ds => W.ret (.int ds.length)
  | _ => W.bad
theorem cd_len {K : PySem.W.Frag} : CallD K (fun xs H Q => ∃ x n, xs = [x] ∧ LenV K x H n ∧ Q (.int n) H) lenD := by
  intro F H μ xs ds Q ED Qh r il h bk
  unfold lenD at h
  split at h
  · obtain ⟨v, rfl, i⟩ := isL1 il
    cases i
    exact ⟨_, _, rfl, ⟨h.1, rfl⟩, back_is bk r (.int _) h.2⟩
  · obtain ⟨v, rfl, i⟩ := isL1 il
    obtain ⟨es, e, q⟩ := opt_of h
    obtain ⟨a, vs, rfl, hl, hs⟩ := sq_of r i e
    refine ⟨_, es.length, rfl, ?_, back_is bk r (.int _) q⟩
    rw [← hl.length]
    rcases hs with hs | hs
    · exact .inl ⟨vs, hs, rfl⟩
    · exact .inr ⟨vs, hs, rfl⟩
  · exact h.elim
/-- list(x) | tuple(x) -/
def listD : List D → W D
  | [x] => W.bnd W.get fun μ => W.bnd (W.opt (sqOf x μ)) fun ds => W.ret (.lst ds)
  | _ => W.bad
def listMD : List D → W D
  | [x] => W.bnd W.get fun μ => W.bnd (W.opt (sqOf x μ)) fun ds => (fun μ Q _ => ∀ p, μ p = none → Q (.obj p) (put μ p (.ml ds)))
  | _ => W.bad
def tupleD : List D → W D
  | [x] => W.bnd W.get fun μ => W.bnd (W.opt (sqOf x μ)) fun ds => W.ret (.tup ds)
  | _ => W.bad
theorem cd_list {K : PySem.W.Frag} : CallD K (fun xs H Q => ∃ p ys, xs = [.ref p] ∧ (SqL K H p ys ∨ SqT K H p ys) ∧ ∀ l, H l = none → Q (.ref l) (upd H l (.lst ys))) listD := by
  intro F H μ xs ds Q ED Qh r il h bk
  unfold listD at h
  split at h
  · obtain ⟨v, rfl, i⟩ := isL1 il
    obtain ⟨es, e, q⟩ := opt_of h
    obtain ⟨a, vs, rfl, hl, hs⟩ := sq_of r i e
    exact ⟨a, vs, rfl, hs, fun l hn => back_lst bk r hn hl q⟩
  · exact h.elim
theorem cd_listM {K : PySem.W.Frag} : CallD K (fun xs H Q => ∃ p ys, xs = [.ref p] ∧ (SqL K H p ys ∨ SqT K H p ys) ∧ ∀ l, H l = none → Q (.ref l) (upd H l (.lst ys))) listMD := by
  intro F H μ xs ds Q ED Qh r il h bk
  unfold listMD at h
  split at h
  · obtain ⟨v, rfl, i⟩ := isL1 il
    obtain ⟨es, e, q⟩ := opt_of h
    obtain ⟨a, vs, rfl, hl, hs⟩ := sq_of r i e
    exact ⟨a, vs, rfl, hs, fun l hn => back_mut bk r hn hl (q l (r.mfree hn))⟩
  · exact h.elim
theorem cd_tuple {K : PySem.W.Frag} : CallD K (fun xs H Q => ∃ p ys, xs = [.ref p] ∧ ((SqL K H p ys ∧ ∀ l, H l = none → Q (.ref l) (upd H l (.tup ys))) ∨ (SqT K H p ys ∧ Q (.ref p) H))) tupleD := by
  intro F H μ xs ds Q ED Qh r il h bk
  unfold tupleD at h
  split at h
  · obtain ⟨v, rfl, i⟩ := isL1 il
    obtain ⟨es, e, q⟩ := opt_of h
    cases i with
    | tup hs hl =>
      cases e
      exact ⟨_, _, rfl, .inr ⟨sqt_up r.sub hs, back_is bk r (.tup hs hl) q⟩⟩
    | lst hs hl =>
      cases e
      exact ⟨_, _, rfl, .inl ⟨sql_up r.sub hs, fun l hn => back_tup bk r hn hl q⟩⟩
    | obj a =>
      obtain ⟨b, vs, e1, h1, h2⟩ := ls_of r (.obj a) e
      cases e1
      exact ⟨_, _, rfl, .inl ⟨h1, fun l hn => back_tup bk r hn h2 q⟩⟩
    | _ => cases e
  · exact h.elim
/-- sum of a list of ints -/
def intsOf : List D → Option (List Int)
  | [] => some []
  | .int i :: r => (intsOf r).map (i :: ·)
  | _ => none
theorem ints_isL {K : PySem.W.Frag} {F : Hp} : ∀ {vs : List V} {ds : List D} {ns : List Int}, IsL K F vs ds → intsOf ds = some ns → vs = ns.map V.int
  | _, _, _, .nil, e => by cases e; rfl
  | _, _, _, .cons (d := .int i) h r, e => by
    obtain ⟨ms, h1, h2⟩ := Option.map_eq_some_iff.mp (show (intsOf _).map (i :: ·) = some _ from e)
    subst h2
    cases h
    rw [ints_isL r h1]
    rfl
  | _, _, _, .cons (d := .non) _ _, e => by cases e
  | _, _, _, .cons (d := .bl _) _ _, e => by cases e
  | _, _, _, .cons (d := .str _) _ _, e => by cases e
  | _, _, _, .cons (d := .tup _) _ _, e => by cases e
  | _, _, _, .cons (d := .lst _) _ _, e => by cases e
  | _, _, _, .cons (d := .dct _) _ _, e => by cases e
  | _, _, _, .cons (d := .obj _) _ _, e => by cases e
  | _, _, _, .cons (d := .ty _) _ _, e => by cases e
def sumD : List D → W D
  | [x] => W.bnd W.get fun μ => W.bnd (W.opt (lsOf x μ)) fun ds => W.bnd (W.opt (intsOf ds)) fun ns => W.ret (.int ns.sum)
  | _ => W.bad
theorem cd_sum {K : PySem.W.Frag} : CallD K (rSum K) sumD := by
  intro F H μ xs ds Q ED Qh r il h bk
  unfold sumD at h
  split at h
  · obtain ⟨v, rfl, i⟩ := isL1 il
    obtain ⟨es, e, h⟩ := opt_of h
    obtain ⟨ns, e2, q⟩ := opt_of h
    obtain ⟨a, vs, rfl, h1, h2⟩ := ls_of r i e
    rw [ints_isL h2 e2] at h1
    exact ⟨a, ns, rfl, h1, back_is bk r (.int _) q⟩
  · exact h.elim
/-- int(n), int(flag) -/
def intD : List D → W D
  | [.int i] => W.ret (.int i)
  | [.bl b] => W.ret (.int (if b then 1 else 0))
  | _ => W.bad
theorem cd_int {K : PySem.W.Frag} : CallD K (fun xs H Q => (∃ i, xs = [.int i] ∧ Q (.int i) H) ∨ ∃ k, xs = [.bl k] ∧ Q (.int (if k then 1 else 0)) H) intD := by
  intro F H μ xs ds Q ED Qh r il h bk
  unfold intD at h
  split at h
  · obtain ⟨v, rfl, i⟩ := isL1 il
    cases i
    exact .inl ⟨_, rfl, back_is bk r (.int _) h⟩
  · obtain ⟨v, rfl, i⟩ := isL1 il
    cases i
    exact .inr ⟨_, rfl, back_is bk r (.int _) h⟩
  · exact h.elim
/-! methods that change a list -/
def mlOf (x : D) (μ : Mem) : Option (Addr × List D) := match x with
  | .obj a => (match μ a with
    | some (.ml ds) => some (a, ds)
    | _ => none)
  | _ => none
theorem ml_of {K : PySem.W.Frag} {F H : Hp} {μ : Mem} {v : V} {d : D} {a : Addr} {ds : List D} (r : Rep K F H μ) (i : Is K F v d) (h : mlOf d μ = some (a, ds)) : v = .ref a ∧ μ a = some (.ml ds) ∧ ∃ vs, H a = some (.lst vs) ∧ IsL K F vs ds := by
  cases i with
  | obj b =>
    unfold mlOf at h
    simp only at h
    split at h
    · rename_i es e
      cases h
      obtain ⟨_, vs, h1, h2⟩ := r.mem _ _ e
      exact ⟨rfl, e, vs, h1, h2⟩
    · cases h
  | _ => cases h
def W.setL {α : Type} (a : Addr) (ds : List D) (m : W α) : W α := fun μ Q E => m (DL.put μ a (.ml ds)) Q E
def appendD (o : D) : List D → W D
  | [x] => W.bnd W.get fun μ => W.bnd (W.opt (mlOf o μ)) fun p => W.req (p.2.length < sizeLine) (W.setL p.1 (p.2 ++ [x]) (W.ret .non))
  | _ => W.bad
theorem md_append {K : PySem.W.Frag} : MtD K rAppend appendD := by
  intro F H μ x dx xs ds Q ED Qh r ix il h bk
  unfold appendD at h
  split at h
  · obtain ⟨v, rfl, i⟩ := isL1 il
    obtain ⟨⟨a, es⟩, e, hz, q⟩ := opt_of h
    obtain ⟨rfl, e2, vs, h1, h2⟩ := ml_of r ix e
    refine ⟨a, vs, v, rfl, rfl, h1, by rw [h2.length]; exact hz, ?_⟩
    exact bk _ _ _ F _ (Same.refl F) (r.write (mo' := .ml (es ++ [_])) e2 ⟨_, upd_same, h2.app (.cons i .nil)⟩) .non q
  · exact h.elim
def popD (o : D) : List D → W D
  | [] => W.bnd W.get fun μ => W.bnd (W.opt (mlOf o μ)) fun p => W.bnd (W.opt p.2[p.2.length - 1]?) fun y => W.setL p.1 p.2.dropLast (W.ret y)
  | _ => W.bad
theorem dropLast_isL {K : PySem.W.Frag} {F : Hp} {vs : List V} {ds : List D} (h : IsL K F vs ds) : IsL K F vs.dropLast ds.dropLast := by
  rw [List.dropLast_eq_take, List.dropLast_eq_take, h.length]
  exact h.take _
theorem md_pop {K : PySem.W.Frag} : MtD K rPop popD := by
  intro F H μ x dx xs ds Q ED Qh r ix il h bk
  unfold popD at h
  split at h
  · cases il
    obtain ⟨⟨a, es⟩, e, h⟩ := opt_of h
    obtain ⟨y, ey, q⟩ := opt_of h
    obtain ⟨rfl, e2, vs, h1, h2⟩ := ml_of r ix e
    have ey' : es[vs.length - 1]? = some y := by rw [h2.length]; exact ey
    obtain ⟨v, ev, iv⟩ := h2.get ey'
    refine ⟨a, vs, v, rfl, rfl, h1, ev, ?_⟩
    exact bk _ _ _ F _ (Same.refl F) (r.write (mo' := .ml es.dropLast) e2 ⟨_, upd_same, dropLast_isL h2⟩) iv q
  · exact h.elim
/-- sep.join(texts) -/
def strsOf : List D → Option (List Str)
  | [] => some []
  | .str i :: r => (strsOf r).map (i :: ·)
  | _ => none
theorem strs_isL {K : PySem.W.Frag} {F : Hp} : ∀ {vs : List V} {ds : List D} {ns : List Str}, IsL K F vs ds → strsOf ds = some ns → vs = ns.map V.str
  | _, _, _, .nil, e => by cases e; rfl
  | _, _, _, .cons (d := .str i) h r, e => by
    obtain ⟨ms, h1, h2⟩ := Option.map_eq_some_iff.mp (show (strsOf _).map (i :: ·) = some _ from e)
    subst h2
    cases h
    rw [strs_isL r h1]
    rfl
  | _, _, _, .cons (d := .non) _ _, e => by cases e
  | _, _, _, .cons (d := .bl _) _ _, e => by cases e
  | _, _, _, .cons (d := .int _) _ _, e => by cases e
  | _, _, _, .cons (d := .tup _) _ _, e => by cases e
  | _, _, _, .cons (d := .lst _) _ _, e => by cases e
  | _, _, _, .cons (d := .dct _) _ _, e => by cases e
  | _, _, _, .cons (d := .obj _) _ _, e => by cases e
  | _, _, _, .cons (d := .ty _) _ _, e => by cases e
def joinD (o : D) : List D → W D
  | [x] => (match o with
    | .str sep => W.bnd W.get fun μ => W.bnd (W.opt (sqOf x μ)) fun ds => W.bnd (W.opt (strsOf ds)) fun ys => W.req ((ys.map (·.length)).sum + ys.length * sep.length ≤ 16777216) (W.ret (.str (Txt.join sep ys)))
    | _ => W.bad)
  | _ => W.bad
theorem md_join {K : PySem.W.Frag} : MtD K (fun x xs H Q => ∃ a p, ∃ ys : List Str, x = .str a ∧ xs = [.ref p] ∧ (SqL K H p (ys.map V.str) ∨ SqT K H p (ys.map V.str)) ∧ (ys.map (·.length)).sum + ys.length * a.length ≤ 16777216 ∧ Q (.str (Txt.join a ys)) H) joinD := by
  intro F H μ x dx xs ds Q ED Qh r ix il h bk
  unfold joinD at h
  split at h
  · split at h
    · obtain ⟨v, rfl, i⟩ := isL1 il
      obtain ⟨es, e, h⟩ := opt_of h
      obtain ⟨ys, e2, hz, q⟩ := opt_of h
      cases ix
      obtain ⟨a, vs, rfl, hl, hs⟩ := sq_of r i e
      cases strs_isL hl e2
      exact ⟨_, a, ys, rfl, rfl, hs, hz, back_is bk r (.str _) q⟩
    · exact h.elim
  · exact h.elim
end DL

namespace DL
open PySem PySem.Spec PyProof.Rows L2

/-! ### statements -/
theorem EndsOk.up {K : PySem.W.Frag} {F F' : Hp} {Q : Out → Mem → Prop} {De : Ends} (h : EndsOk K F Q De) (e : Same F F') : EndsOk K F' Q De :=
  ⟨fun F1 H1 μ1 σ1 ρ1 s r n q => h.1 F1 H1 μ1 σ1 ρ1 (e.trans s) r n q, fun F1 H1 μ1 v d s r n q => h.2.1 F1 H1 μ1 v d (e.trans s) r n q,
    fun F1 H1 μ1 σ1 ρ1 s r n q => h.2.2.1 F1 H1 μ1 σ1 ρ1 (e.trans s) r n q, fun F1 H1 μ1 σ1 ρ1 s r n q => h.2.2.2 F1 H1 μ1 σ1 ρ1 (e.trans s) r n q⟩
def outSeq (m : Rho → W Out) : Out → W Out
  | .nx ρ => m ρ
  | o => W.ret o
def sSeq (m1 m2 : Rho → W Out) (ρ : Rho) : W Out := W.bnd (m1 ρ) (outSeq m2)
def sNil (ρ : Rho) : W Out := W.ret (.nx ρ)
def sRet (m : Rho → W D) (ρ : Rho) : W Out := W.bnd (m ρ) fun d => W.ret (.rt d)
def sRetN (_ : Rho) : W Out := W.ret (.rt .non)
def sDrop (m : Rho → W D) (ρ : Rho) : W Out := W.bnd (m ρ) fun _ => W.ret (.nx ρ)
def sIf (t : Rho → W Bool) (m1 m2 : Rho → W Out) (ρ : Rho) : W Out := W.bnd (t ρ) fun k => if k = true then m1 ρ else m2 ρ
def sSet (i : Nat) (m : Rho → W D) (ρ : Rho) : W Out := W.bnd (m ρ) fun d => W.ret (.nx (ρ.set i (some d)))
section
variable {X : Cx} {Eh : Option XK} {st : Stmt} {rest a b : List Stmt} {e c : Expr} {m1 m2 : Rho → W Out} {m : Rho → W D} {t : Rho → W Bool} {pos : Pos}
theorem dss_nil : DSs X Eh [] sNil := PSs.imp pss_nil fun De σ H ⟨F, ρ, μ, Q, ED, env, rep, lnk, hm, en⟩ => en.1 F H μ σ ρ (Same.refl F) rep env hm
theorem dss_one (h : DS X Eh st m1) : DSs X Eh [st] m1 := pss_one h
theorem dss_cons (h1 : DS X Eh st m1) (h2 : DSs X Eh rest m2) : DSs X Eh (st :: rest) (sSeq m1 m2) := by
  refine PSs.imp (pss_cons h1 h2) fun De σ H h => ?_
  obtain ⟨F, ρ, μ, Q, ED, env, rep, lnk, hm, en⟩ := h
  refine ⟨F, ρ, μ, _, ED, env, rep, lnk, hm, fun F1 H1 μ1 σ1 ρ1 s1 r1 n1 q1 => ?_, fun F1 H1 μ1 v d s1 r1 i1 q1 => ?_, fun F1 H1 μ1 σ1 ρ1 s1 r1 n1 q1 => ?_, fun F1 H1 μ1 σ1 ρ1 s1 r1 n1 q1 => ?_⟩
  · exact ⟨F1, ρ1, μ1, Q, ED, n1, r1, lnk.up s1, q1, en.up s1⟩
  · exact en.2.1 F1 H1 μ1 v d s1 r1 i1 q1
  · exact en.2.2.1 F1 H1 μ1 σ1 ρ1 s1 r1 n1 q1
  · exact en.2.2.2 F1 H1 μ1 σ1 ρ1 s1 r1 n1 q1
theorem ds_ret (h : DE X Eh e m) : DS X Eh (.Return (some e) pos) (sRet m) := by
  refine PS.imp (ps_ret h) fun De σ H h => ?_
  obtain ⟨F, ρ, μ, Q, ED, env, rep, lnk, hm, en⟩ := h
  exact ⟨F, ρ, μ, _, ED, env, rep, lnk, hm, fun v1 H1 d1 F1 μ1 s1 r1 i1 q1 => en.2.1 F1 H1 μ1 v1 d1 s1 r1 i1 q1⟩
theorem ds_retN : DS X Eh (.Return none pos) sRetN := PS.imp ps_retN fun De σ H ⟨F, ρ, μ, Q, ED, env, rep, lnk, hm, en⟩ => en.2.1 F H μ _ _ (Same.refl F) rep .non hm
theorem ds_pass : DS X Eh (.Pass pos) sNil := PS.imp ps_pass fun De σ H ⟨F, ρ, μ, Q, ED, env, rep, lnk, hm, en⟩ => en.1 F H μ σ ρ (Same.refl F) rep env hm
def sBreak (ρ : Rho) : W Out := W.ret (.bk ρ)
def sCont (ρ : Rho) : W Out := W.ret (.ct ρ)
theorem ds_break : DS X Eh (.Break pos) sBreak := PS.imp ps_break fun De σ H ⟨F, ρ, μ, Q, ED, env, rep, lnk, hm, en⟩ => en.2.2.1 F H μ σ ρ (Same.refl F) rep env hm
theorem ds_cont : DS X Eh (.Continue pos) sCont := PS.imp ps_continue fun De σ H ⟨F, ρ, μ, Q, ED, env, rep, lnk, hm, en⟩ => en.2.2.2 F H μ σ ρ (Same.refl F) rep env hm
theorem ds_expr (h : DE X Eh e m) (hs : swapsWith e none pos.line X.env = pure false) : DS X Eh (.Expr e pos) (sDrop m) := by
  refine PS.imp (ps_expr h hs) fun De σ H h => ?_
  obtain ⟨F, ρ, μ, Q, ED, env, rep, lnk, hm, en⟩ := h
  exact ⟨F, ρ, μ, _, ED, env, rep, lnk, hm, fun v1 H1 d1 F1 μ1 s1 r1 i1 q1 => en.1 F1 H1 μ1 σ ρ s1 r1 (env.up s1) q1⟩
theorem ds_if (hc : DT X Eh c t) (ha : DSs X Eh a m1) (hb : DSs X Eh b m2) : DS X Eh (.If c a b pos) (sIf t m1 m2) := by
  refine PS.imp (ps_if hc ha hb) fun De σ H h => ?_
  obtain ⟨F, ρ, μ, Q, ED, env, rep, lnk, hm, en⟩ := h
  refine ⟨F, ρ, μ, _, ED, env, rep, lnk, hm, fun v1 H1 d1 F1 μ1 s1 r1 i1 q1 => ?_⟩
  subst i1
  cases v1 with
  | true => exact ⟨F1, ρ, μ1, Q, ED, env.up s1, r1, lnk.up s1, q1, en.up s1⟩
  | false => exact ⟨F1, ρ, μ1, Q, ED, env.up s1, r1, lnk.up s1, q1, en.up s1⟩
theorem ds_set {i : Nat} {x : Str} {pos' : Pos} (hN : X.N.Nodup) (hi : X.N[i]? = some x) (hx : Loc X.env.scope x) (hf : X.fn x = true ∨ X.env.scope.names.lookup x = some .local) (h : DE X Eh e m)
    (hs : swapsWith e (some (.Name x pos')) pos.line X.env = pure false) : DS X Eh (.Assign [.Name x pos'] e pos) (sSet i m) := by
  refine PS.imp (ps_set hN hi hx h hs hf) fun De σ H h => ?_
  obtain ⟨F, ρ, μ, Q, ED, env, rep, lnk, hm, en⟩ := h
  exact ⟨F, ρ, μ, _, ED, env, rep, lnk, hm, fun v1 H1 d1 F1 μ1 s1 r1 i1 q1 => en.1 F1 H1 μ1 _ _ s1 r1 ((env.up s1).set i i1) q1⟩
end

/-! ### targets -/
def Frm (ts : List Nat) (σ σ' : L2.St) : Prop := σ'.length = σ.length ∧ ∀ j, j ∉ ts → σ'[j]? = σ[j]?
theorem Frm.refl (ts : List Nat) (σ : L2.St) : Frm ts σ σ := ⟨rfl, fun _ _ => rfl⟩
def liftG (K : PySem.W.Frag) (Eh : Option XK) (ts : List Nat) (g : D → Rho → W Rho) : TG := fun v σ H Qh => ∃ F ρ μ d Q ED, EnvR K F σ ρ ∧ Rep K F H μ ∧ Lnk K Eh F ED ∧ Is K F v d ∧ g d ρ μ Q ED ∧
  ∀ σ' H' ρ' F' μ', Same F F' → Rep K F' H' μ' → EnvR K F' σ' ρ' → Frm ts σ σ' → Q ρ' μ' → Qh σ' H'
def liftGs (K : PySem.W.Frag) (Eh : Option XK) (ts : List Nat) (g : List D → Rho → W Rho) : TGs := fun v σ H Qh => ∃ F ρ μ d Q ED, EnvR K F σ ρ ∧ Rep K F H μ ∧ Lnk K Eh F ED ∧ IsL K F v d ∧ g d ρ μ Q ED ∧
  ∀ σ' H' ρ' F' μ', Same F F' → Rep K F' H' μ' → EnvR K F' σ' ρ' → Frm ts σ σ' → Q ρ' μ' → Qh σ' H'
theorem PG.imp {X : Cx} {e : Expr} {t t' : TG} (h : PG X e t) (i : ∀ v σ H Q, t' v σ H Q → t v σ H Q) : PG X e t' := ⟨fun pins s σ H v u Q I r q => h.run pins s σ H v u Q I r (i _ _ _ _ q)⟩
theorem PGs.imp {X : Cx} {e : List Expr} {t t' : TGs} (h : PGs X e t) (i : ∀ v σ H Q, t' v σ H Q → t v σ H Q) : PGs X e t' := ⟨fun pins s σ H v u Q I r q => h.run pins s σ H v u Q I r (i _ _ _ _ q)⟩
abbrev DG (X : Cx) (Eh : Option XK) (e : Expr) (ts : List Nat) (g : D → Rho → W Rho) : Prop := PG X e (liftG X.K Eh ts g)
abbrev DGs (X : Cx) (Eh : Option XK) (e : List Expr) (ts : List Nat) (g : List D → Rho → W Rho) : Prop := PGs X e (liftGs X.K Eh ts g)
def gNm (i : Nat) (d : D) (ρ : Rho) : W Rho := W.ret (ρ.set i (some d))
def gsNil (ds : List D) (ρ : Rho) : W Rho := match ds with
  | [] => W.ret ρ
  | _ => W.bad
def gsCons (g : D → Rho → W Rho) (gs : List D → Rho → W Rho) (ds : List D) (ρ : Rho) : W Rho := match ds with
  | d :: r => W.bnd (g d ρ) fun ρ' => gs r ρ'
  | _ => W.bad
def gTp (n : Nat) (gs : List D → Rho → W Rho) (d : D) (ρ : Rho) : W Rho := match d with
  | .tup ds => W.req (ds.length = n) (gs ds ρ)
  | _ => W.bad
theorem frm_set {i : Nat} {σ : L2.St} {v : Option V} : Frm [i] σ (σ.set i v) := ⟨List.length_set, fun j hj => List.getElem?_set_ne (fun e => hj (by simp [e]))⟩
theorem Frm.app {ts us : List Nat} {a b c : L2.St} (h : Frm ts a b) (k : Frm us b c) : Frm (ts ++ us) a c :=
  ⟨k.1.trans h.1, fun j hj => (k.2 j fun q => hj (List.mem_append_right _ q)).trans (h.2 j fun q => hj (List.mem_append_left _ q))⟩
section
variable {X : Cx} {Eh : Option XK} {pos : Pos}
theorem dg_name {i : Nat} {x : Str} (hN : X.N.Nodup) (hi : X.N[i]? = some x) (hx : Loc X.env.scope x) (hf : X.fn x = true ∨ X.env.scope.names.lookup x = some .local) : DG X Eh (.Name x pos) [i] (gNm i) :=
  PG.imp (pg_name hN hi hx hf) fun v σ H Qh ⟨F, ρ, μ, d, Q, ED, env, rep, lnk, iv, hm, bk⟩ => bk _ H _ F μ (Same.refl F) rep (env.set i iv) frm_set hm
theorem dgs_nil : DGs X Eh [] [] gsNil := by
  refine PGs.imp pgs_nil fun v σ H Qh ⟨F, ρ, μ, d, Q, ED, env, rep, lnk, iv, hm, bk⟩ => ?_
  cases iv with
  | nil => exact ⟨rfl, bk σ H ρ F μ (Same.refl F) rep env (Frm.refl _ _) hm⟩
  | cons _ _ => exact hm.elim
theorem dgs_cons {e : Expr} {es : List Expr} {ts us : List Nat} {g : D → Rho → W Rho} {gs : List D → Rho → W Rho} (h1 : DG X Eh e ts g) (h2 : DGs X Eh es us gs)
    (hs : (assignEach (e :: es) X.env).map (·.2) = assign e X.env :: (assignEach es X.env).map (·.2)) : DGs X Eh (e :: es) (ts ++ us) (gsCons g gs) := by
  refine PGs.imp (pgs_cons h1 h2 hs) fun v σ H Qh ⟨F, ρ, μ, d, Q, ED, env, rep, lnk, iv, hm, bk⟩ => ?_
  cases iv with
  | nil => exact hm.elim
  | cons i r =>
    refine ⟨_, _, rfl, F, ρ, μ, _, _, ED, env, rep, lnk, i, hm, fun σ1 H1 ρ1 F1 μ1 s1 r1 e1 f1 q1 => ?_⟩
    exact ⟨F1, ρ1, μ1, _, Q, ED, e1, r1, lnk.up s1, r.up s1, q1, fun σ2 H2 ρ2 F2 μ2 s2 r2 e2 f2 q2 => bk σ2 H2 ρ2 F2 μ2 (s1.trans s2) r2 e2 (f1.app f2) q2⟩
theorem dg_tup {es : List Expr} {k : Nat} {ts : List Nat} {gs : List D → Rho → W Rho} {n : Nat} (hc : X.calm = true) (h : DGs X Eh es ts gs)
    (hn : (assignEach es X.env).length = n) (hst : (assignEach es X.env).findIdx? (·.1) = none) : DG X Eh (.Tuple es k pos) ts (gTp n gs) := by
  refine PG.imp (pg_tup hc h hn hst) fun v σ H Qh ⟨F, ρ, μ, d, Q, ED, env, rep, lnk, iv, hm, bk⟩ => ?_
  cases iv with
  | tup hs hl => exact ⟨_, _, rfl, sqt_up rep.sub hs, by rw [hl.length]; exact hm.1, F, ρ, μ, _, Q, ED, env, rep, lnk, hl, hm.2, bk⟩
  | _ => exact hm.elim
/-- o[i] = v -/
def setD (o i v : D) : W Unit := W.bnd W.get fun μ => W.bnd (W.opt (mlOf o μ)) fun p => match i with
  | .int k => W.bnd (W.opt (ixN p.2.length k)) fun j => W.setL p.1 (p.2.set j v) (W.ret ())
  | _ => W.bad
def gIx (mo mi : Rho → W D) (d : D) (ρ : Rho) : W Rho := W.bnd (mo ρ) fun o => W.bnd (mi ρ) fun i => W.bnd (setD o i d) fun _ => W.ret ρ
theorem dg_ix {o i : Expr} {mo mi : Rho → W D} (ho : DE X Eh o mo) (hi : DE X Eh i mi)
    (ha : ∀ v, assign (.Subscript o i pos) X.env v = (do
      let ov ← holding [v] (eval o X.env)
      let iv ← holding [v, ov] (eval i X.env)
      standAt pos
      holding [v, ov, iv] (setItem ov iv v)
      release [v, ov, iv] [])) : DG X Eh (.Subscript o i pos) [] (gIx mo mi) := by
  refine PG.imp (pg_sub ho hi set_list ha) fun v σ H Qh ⟨F, ρ, μ, d, Q, ED, env, rep, lnk, iv, hm, bk⟩ => ?_
  refine ⟨F, ρ, μ, _, ED, env, rep, lnk, hm, fun v1 H1 d1 F1 μ1 s1 r1 i1 q1 => ?_⟩
  refine ⟨F1, ρ, μ1, _, ED, env.up s1, r1, lnk.up s1, q1, fun v2 H2 d2 F2 μ2 s2 r2 i2 q2 => ?_⟩
  obtain ⟨⟨a, es⟩, e, h⟩ := opt_of q2
  obtain ⟨rfl, e2, vs, h1, h2⟩ := ml_of r2 (i1.up s2) e
  cases d2 with
  | int k =>
    obtain ⟨j, ej, q⟩ := opt_of h
    cases is_int i2
    refine ⟨a, vs, k, j, rfl, rfl, h1, by rw [h2.length]; exact ej, ?_⟩
    exact bk σ _ ρ F2 _ (s1.trans s2) (r2.write (mo' := .ml (es.set j d)) e2 ⟨_, upd_same, h2.set ((iv.up s1).up s2) j⟩) ((env.up s1).up s2) (Frm.refl _ _) q
  | _ => exact h.elim
def sAsg (m : Rho → W D) (g : D → Rho → W Rho) (ρ : Rho) : W Out := W.bnd (m ρ) fun d => W.bnd (g d ρ) fun ρ' => W.ret (.nx ρ')
theorem ds_asg {tg e : Expr} {m : Rho → W D} {ts : List Nat} {g : D → Rho → W Rho} (he : DE X Eh e m) (hg : DG X Eh tg ts g) (hs : swapsWithSole [tg] e pos.line X.env = pure false) (hw : swappedStores [tg] e X.env = pure none)
    (h1 : (assignEach [tg] X.env).map (·.2) = [assign tg X.env]) : DS X Eh (.Assign [tg] e pos) (sAsg m g) := by
  refine PS.imp (ps_asg he hg hs hw h1) fun De σ H h => ?_
  obtain ⟨F, ρ, μ, Q, ED, env, rep, lnk, hm, en⟩ := h
  refine ⟨F, ρ, μ, _, ED, env, rep, lnk, hm, fun v1 H1 d1 F1 μ1 s1 r1 i1 q1 => ?_⟩
  exact ⟨F1, ρ, μ1, d1, _, ED, env.up s1, r1, lnk.up s1, i1, q1, fun σ2 H2 ρ2 F2 μ2 s2 r2 e2 f2 q2 => en.1 F2 H2 μ2 σ2 ρ2 (s1.trans s2) r2 e2 q2⟩
/-- a, b = x, y | a, b, c = x, y, z -/
def sPar2 (i j : Nat) (ms : Rho → W (List D)) (ρ : Rho) : W Out := W.bnd (ms ρ) fun ds => match ds with
  | [x, y] => W.ret (.nx ((ρ.set i (some x)).set j (some y)))
  | _ => W.bad
def sPar3 (i j l : Nat) (ms : Rho → W (List D)) (ρ : Rho) : W Out := W.bnd (ms ρ) fun ds => match ds with
  | [x, y, z] => W.ret (.nx (((ρ.set i (some x)).set j (some y)).set l (some z)))
  | _ => W.bad
theorem isL_cons {K : PySem.W.Frag} {F : Hp} {vs : List V} {d : D} {r : List D} (h : IsL K F vs (d :: r)) : ∃ v us, vs = v :: us ∧ Is K F v d ∧ IsL K F us r := by
  cases h with
  | cons i r => exact ⟨_, _, rfl, i, r⟩
theorem ds_par2 {i j : Nat} {x y : Str} {a b : Expr} {ms : Rho → W (List D)} {px py pt : Pos} {kt k2 pt2} (hc : X.calm = true) (hN : X.N.Nodup) (hi : X.N[i]? = some x) (hj : X.N[j]? = some y) (hij : i ≠ j)
    (hx : X.env.scope.names.lookup x = some .local) (hy : X.env.scope.names.lookup y = some .local) (ha : DA X Eh [a, b] ms)
    (hw : swappedStores [.Tuple [.Name x px, .Name y py] kt pt] (.Tuple [a, b] k2 pt2) X.env = pure (some [x, y]))
    (hs : swapsWithSole [.Tuple [.Name x px, .Name y py] kt pt] (.Tuple [a, b] k2 pt2) pos.line X.env = pure false) :
    DS X Eh (.Assign [.Tuple [.Name x px, .Name y py] kt pt] (.Tuple [a, b] k2 pt2) pos) (sPar2 i j ms) := by
  refine PS.imp (ps_par hc hN hi hj hij hx hy ha hw hs) fun De σ H h => ?_
  obtain ⟨F, ρ, μ, Q, ED, env, rep, lnk, hm, en⟩ := h
  refine ⟨F, ρ, μ, _, ED, env, rep, lnk, hm, fun v1 H1 d1 F1 μ1 s1 r1 i1 q1 => ?_⟩
  match d1, q1, i1 with
  | [dx, dy], q1, i1 =>
    obtain ⟨v, w', rfl, iv, iw⟩ := isL2 i1
    exact ⟨v, w', rfl, en.1 F1 H1 μ1 _ _ s1 r1 (((env.up s1).set i iv).set j iw) q1⟩
theorem ds_par3 {i j l : Nat} {x y z : Str} {a b c : Expr} {ms : Rho → W (List D)} {px py pz pt : Pos} {kt k2 pt2} (hc : X.calm = true) (hN : X.N.Nodup) (hi : X.N[i]? = some x) (hj : X.N[j]? = some y) (hl : X.N[l]? = some z) (hij : i ≠ j) (hil : i ≠ l) (hjl : j ≠ l)
    (hx : X.env.scope.names.lookup x = some .local) (hy : X.env.scope.names.lookup y = some .local) (hz : X.env.scope.names.lookup z = some .local) (ha : DA X Eh [a, b, c] ms)
    (hw : swappedStores [.Tuple [.Name x px, .Name y py, .Name z pz] kt pt] (.Tuple [a, b, c] k2 pt2) X.env = pure (some [x, y, z]))
    (hs : swapsWithSole [.Tuple [.Name x px, .Name y py, .Name z pz] kt pt] (.Tuple [a, b, c] k2 pt2) pos.line X.env = pure false) :
    DS X Eh (.Assign [.Tuple [.Name x px, .Name y py, .Name z pz] kt pt] (.Tuple [a, b, c] k2 pt2) pos) (sPar3 i j l ms) := by
  refine PS.imp (ps_par3 hc hN hi hj hl hij hil hjl hx hy hz ha hw hs) fun De σ H h => ?_
  obtain ⟨F, ρ, μ, Q, ED, env, rep, lnk, hm, en⟩ := h
  refine ⟨F, ρ, μ, _, ED, env, rep, lnk, hm, fun v1 H1 d1 F1 μ1 s1 r1 i1 q1 => ?_⟩
  match d1, q1, i1 with
  | [dx, dy, dz], q1, i1 =>
    obtain ⟨u, us, rfl, iu, i2⟩ := isL_cons i1
    obtain ⟨v, w', rfl, iv, iw⟩ := isL2 i2
    exact ⟨u, v, w', rfl, en.1 F1 H1 μ1 _ _ s1 r1 ((((env.up s1).set i iu).set j iv).set l iw) q1⟩
end

/-! ### what is walked -/
structure ItD where
  items : List D
  chk : Mem → Prop
/-- an iterator gives these items, as long as chk holds -/
structure ItIs (K : PySem.W.Frag) (F : Hp) (J : It) (it : ItD) : Prop where
  go : ∀ i F1 H1 μ1, Same F F1 → Rep K F1 H1 μ1 → it.chk μ1 → i < it.items.length → J.go i H1
  yld : ∀ i F1 H1 μ1 x H2, Same F F1 → Rep K F1 H1 μ1 → it.chk μ1 → i < it.items.length → J.yld i H1 x H2 → ∃ F2 d, Same F1 F2 ∧ Rep K F2 H2 μ1 ∧ it.items[i]? = some d ∧ Is K F2 x d
  stop : ∀ F1 H1 μ1, Same F F1 → Rep K F1 H1 μ1 → it.chk μ1 → J.stop it.items.length H1
theorem ItIs.up {K : PySem.W.Frag} {F F' : Hp} {J : It} {it : ItD} (h : ItIs K F J it) (e : Same F F') : ItIs K F' J it :=
  ⟨fun i F1 H1 μ1 s => h.go i F1 H1 μ1 (e.trans s), fun i F1 H1 μ1 x H2 s => h.yld i F1 H1 μ1 x H2 (e.trans s), fun F1 H1 μ1 s => h.stop F1 H1 μ1 (e.trans s)⟩
def liftI (K : PySem.W.Frag) (Eh : Option XK) (m : Rho → W ItD) : TI := fun σ H R => ∃ F ρ μ Q ED, EnvR K F σ ρ ∧ Rep K F H μ ∧ Lnk K Eh F ED ∧ m ρ μ Q ED ∧ ∀ J H' F' μ' it, Same F F' → Rep K F' H' μ' → ItIs K F' J it → Q it μ' → R J H'
abbrev DI (X : Cx) (Eh : Option XK) (tg e : Expr) (m : Rho → W ItD) : Prop := PI X tg e (liftI X.K Eh m)
theorem PI.imp {X : Cx} {tg e : Expr} {t t' : TI} (h : PI X tg e t) (i : ∀ σ H Q, t' σ H Q → t σ H Q) : PI X tg e t' := ⟨fun pins s σ H Q I q => h.run pins s σ H Q I (i _ _ _ q)⟩
def W.chk {α : Type} (c : Mem → Prop) (m : W α) : W α := fun μ Q E => c μ ∧ m μ Q E
/-- a list that stays, or a list object (then chk), or a tuple -/
def iLst (m : Rho → W D) (ρ : Rho) : W ItD := W.bnd (m ρ) fun d => match d with
  | .lst ds => W.ret ⟨ds, fun _ => True⟩
  | .obj a => W.bnd W.get fun μ => W.bnd (W.opt (lsOf (.obj a) μ)) fun ds => W.ret ⟨ds, fun μ' => μ' a = some (.ml ds)⟩
  | _ => W.bad
def iTpl (m : Rho → W D) (ρ : Rho) : W ItD := W.bnd (m ρ) fun d => match d with
  | .tup ds => W.ret ⟨ds, fun _ => True⟩
  | _ => W.bad
def rangeL (lo : Int) (n : Nat) : List D := (List.range n).map fun i => .int (lo + (i : Nat))
def iRg1 (ms : Rho → W (List D)) (ρ : Rho) : W ItD := W.bnd (ms ρ) fun ds => match ds with
  | [.int j] => W.req (-(2 ^ 62) ≤ j ∧ j < 2 ^ 62) (W.ret ⟨rangeL 0 j.toNat, fun _ => True⟩)
  | _ => W.bad
def iRg2 (ms : Rho → W (List D)) (ρ : Rho) : W ItD := W.bnd (ms ρ) fun ds => match ds with
  | [.int i, .int j] => W.req (-(2 ^ 62) ≤ i ∧ i < 2 ^ 62 ∧ -(2 ^ 62) ≤ j ∧ j < 2 ^ 62) (W.ret ⟨rangeL i (j - i).toNat, fun _ => True⟩)
  | _ => W.bad
theorem itIs_list {K : PySem.W.Frag} {F : Hp} {a : Addr} {vs : List V} {ds : List D} {c : Mem → Prop} (hs : ∀ F1 H1 μ1, Same F F1 → Rep K F1 H1 μ1 → c μ1 → SqL K H1 a vs) (hl : IsL K F vs ds) : ItIs K F (Itl K a) ⟨ds, c⟩ := by
  refine ⟨fun i F1 H1 μ1 s r hc hi => ?_, fun i F1 H1 μ1 x H2 s r hc hb y => ?_, fun F1 H1 μ1 s r hc => ?_⟩
  · have h := hl.length
    have hi' : i < ds.length := hi
    exact ⟨vs, vs[i]'(by omega), hs F1 H1 μ1 s r hc, List.getElem?_eq_getElem (by omega)⟩
  · obtain ⟨e, y⟩ := y
    subst e
    obtain ⟨d, h1, h2⟩ := hl.getV (y vs (hs F1 _ μ1 s r hc))
    exact ⟨F1, d, Same.refl _, r, h1, h2.up s⟩
  · exact ⟨vs, hs F1 H1 μ1 s r hc, by rw [hl.length]; exact Nat.le_refl _⟩
theorem itIs_tup {K : PySem.W.Frag} {F : Hp} {a : Addr} {vs : List V} {ds : List D} (hs : SqT K F a vs) (hl : IsL K F vs ds) : ItIs K F (Itt K a) ⟨ds, fun _ => True⟩ := by
  refine ⟨fun i F1 H1 μ1 s r hc hi => ?_, fun i F1 H1 μ1 x H2 s r hc hb y => ?_, fun F1 H1 μ1 s r hc => ?_⟩
  · have h := hl.length
    have hi' : i < ds.length := hi
    exact ⟨vs, vs[i]'(by omega), sqt_up r.sub (sqt_up s hs), List.getElem?_eq_getElem (by omega)⟩
  · obtain ⟨e, y⟩ := y
    subst e
    obtain ⟨d, h1, h2⟩ := hl.getV (y vs (sqt_up r.sub (sqt_up s hs)))
    exact ⟨F1, d, Same.refl _, r, h1, h2.up s⟩
  · exact ⟨vs, sqt_up r.sub (sqt_up s hs), by rw [hl.length]; exact Nat.le_refl _⟩
theorem rangeL_len (lo : Int) (n : Nat) : (rangeL lo n).length = n := by unfold rangeL; rw [List.length_map, List.length_range]
theorem rangeL_get {lo : Int} {n i : Nat} (h : i < n) : (rangeL lo n)[i]? = some (.int (lo + (i : Nat))) := by
  unfold rangeL
  rw [List.getElem?_map, List.getElem?_range h]
  rfl
theorem itIs_range {K : PySem.W.Frag} {F : Hp} {lo : Int} {n : Nat} : ItIs K F (Itr lo n) ⟨rangeL lo n, fun _ => True⟩ := by
  refine ⟨fun i F1 H1 μ1 s r hc hi => ?_, fun i F1 H1 μ1 x H2 s r hc hb y => ?_, fun F1 H1 μ1 s r hc => ?_⟩
  · have : i < (rangeL lo n).length := hi
    rw [rangeL_len] at this
    exact this
  · obtain ⟨e, y⟩ := y
    subst e y
    have hb' : i < (rangeL lo n).length := hb
    rw [rangeL_len] at hb'
    exact ⟨F1, _, Same.refl _, r, rangeL_get hb', .int _⟩
  · show n ≤ (rangeL lo n).length
    rw [rangeL_len]
    exact Nat.le_refl _
section
variable {X : Cx} {Eh : Option XK} {tg e : Expr} {m : Rho → W D}
theorem di_list (h : DE X Eh e m) : DI X Eh tg e (iLst m) := by
  refine PI.imp (pi_list h) fun σ H R h => ?_
  obtain ⟨F, ρ, μ, Q, ED, env, rep, lnk, hm, bk⟩ := h
  refine ⟨F, ρ, μ, _, ED, env, rep, lnk, hm, fun v1 H1 d1 F1 μ1 s1 r1 i1 q1 => ?_⟩
  cases i1 with
  | lst hs hl => exact ⟨_, rfl, ⟨_, sql_up r1.sub hs⟩, bk _ _ F1 μ1 _ s1 r1 (itIs_list (fun F2 H2 μ2 s2 r2 _ => sql_up r2.sub (sql_up s2 hs)) hl) q1⟩
  | obj a =>
    obtain ⟨ds, e1, q⟩ := opt_of q1
    obtain ⟨b, vs, eb, h1, h2⟩ := ls_of r1 (.obj a) e1
    cases eb
    refine ⟨_, rfl, ⟨_, h1⟩, bk _ _ F1 μ1 ⟨ds, fun μ' => μ' a = some (.ml ds)⟩ s1 r1 ?_ q⟩
    refine ⟨fun i F2 H2 μ2 s2 r2 hc hi => ?_, fun i F2 H2 μ2 x H3 s2 r2 hc hb y => ?_, fun F2 H2 μ2 s2 r2 hc => ?_⟩
    · obtain ⟨_, us, h3, h4⟩ := r2.mem a _ hc
      have hl := h4.length
      have hi' : i < ds.length := hi
      exact ⟨us, us[i]'(by omega), .inl (.inl h3), List.getElem?_eq_getElem (by omega)⟩
    · obtain ⟨_, us, h3, h4⟩ := r2.mem a _ hc
      obtain ⟨e, y⟩ := y
      subst e
      obtain ⟨d, h5, h6⟩ := h4.getV (y us (.inl (.inl h3)))
      exact ⟨F2, d, Same.refl _, r2, h5, h6⟩
    · obtain ⟨_, us, h3, h4⟩ := r2.mem a _ hc
      exact ⟨us, .inl (.inl h3), by rw [h4.length]; exact Nat.le_refl _⟩
  | _ => exact q1.elim
theorem di_tup (h : DE X Eh e m) : DI X Eh tg e (iTpl m) := by
  refine PI.imp (pi_tup h) fun σ H R h => ?_
  obtain ⟨F, ρ, μ, Q, ED, env, rep, lnk, hm, bk⟩ := h
  refine ⟨F, ρ, μ, _, ED, env, rep, lnk, hm, fun v1 H1 d1 F1 μ1 s1 r1 i1 q1 => ?_⟩
  cases i1 with
  | tup hs hl => exact ⟨_, rfl, ⟨_, sqt_up r1.sub hs⟩, bk _ _ F1 μ1 _ s1 r1 (itIs_tup hs hl) q1⟩
  | _ => exact q1.elim
theorem di_range1 {a : Expr} {ms : Rho → W (List D)} {p pos : Pos} (hg : Gl X "range") (hm : X.mg "range" = none) (ha : DA X Eh [a] ms) (hs : starEach [a] X.env = [(false, eval a X.env)]) : DI X Eh tg (.Call (.Name "range" p) [a] [] pos) (iRg1 ms) := by
  refine PI.imp (pi_range1 hg hm ha hs) fun σ H R h => ?_
  obtain ⟨F, ρ, μ, Q, ED, env, rep, lnk, hm, bk⟩ := h
  refine ⟨F, ρ, μ, _, ED, env, rep, lnk, hm, fun v1 H1 d1 F1 μ1 s1 r1 i1 q1 => ?_⟩
  match d1, q1, i1 with
  | [.int j], q1, i1 =>
    obtain ⟨v, rfl, iv⟩ := isL1 i1
    cases iv
    exact ⟨j, rfl, q1.1.1, q1.1.2, bk _ _ F1 μ1 _ s1 r1 itIs_range q1.2⟩
theorem di_range2 {a b : Expr} {ms : Rho → W (List D)} {p pos : Pos} (hg : Gl X "range") (hm : X.mg "range" = none) (ha : DA X Eh [a, b] ms) (hs : starEach [a, b] X.env = [(false, eval a X.env), (false, eval b X.env)]) (hs2 : starEach [b] X.env = [(false, eval b X.env)]) :
    DI X Eh tg (.Call (.Name "range" p) [a, b] [] pos) (iRg2 ms) := by
  refine PI.imp (pi_range2 hg hm ha hs hs2) fun σ H R h => ?_
  obtain ⟨F, ρ, μ, Q, ED, env, rep, lnk, hm, bk⟩ := h
  refine ⟨F, ρ, μ, _, ED, env, rep, lnk, hm, fun v1 H1 d1 F1 μ1 s1 r1 i1 q1 => ?_⟩
  match d1, q1, i1 with
  | [.int j, .int l], q1, i1 =>
    obtain ⟨v, u, rfl, iv, iu⟩ := isL2 i1
    cases iv
    cases iu
    exact ⟨j, l, rfl, q1.1, bk _ _ F1 μ1 _ s1 r1 itIs_range q1.2⟩
end

/-! ### for -/
def forW (chk : Mem → Prop) (g : D → Rho → W Rho) (body : Rho → W Out) : List D → Rho → W Out
  | [], ρ => W.chk chk (W.ret (.nx ρ))
  | x :: xs, ρ => W.chk chk (W.bnd (g x ρ) fun ρ1 => W.bnd (body ρ1) fun o => match o with
    | .nx ρ2 => forW chk g body xs ρ2
    | .ct ρ2 => forW chk g body xs ρ2
    | .bk ρ2 => W.ret (.nx ρ2)
    | .rt d => W.ret (.rt d))
def sFor (mi : Rho → W ItD) (g : D → Rho → W Rho) (body : Rho → W Out) (ρ : Rho) : W Out := W.bnd (mi ρ) fun it => forW it.chk g body it.items ρ
theorem ds_for {X : Cx} {Eh : Option XK} {tg iter : Expr} {body : List Stmt} {mi : Rho → W ItD} {g : D → Rho → W Rho} {ts : List Nat} {mb : Rho → W Out} {pos : Pos} (hp : PassesOwn (model X.prog X.w) X.A X.env X.xe) (hc : X.calm = true)
    (hi : DI X Eh tg iter mi) (hg : DG X Eh tg ts g) (hb : DSs X Eh body mb) (hs : ∀ x, foldedSetIterable iter X.env x = pure x) : DS X Eh (.For tg iter body [] pos) (sFor mi g mb) := by
  refine PS.imp (ps_for hp hc hi hg hb hs) fun De σ H h => ?_
  obtain ⟨F, ρ, μ, Q, ED, env, rep, lnk, hm, en⟩ := h
  refine ⟨F, ρ, μ, _, ED, env, rep, lnk, hm, fun J H1 F1 μ1 it s1 r1 ij q1 => ?_⟩
  refine ⟨fun i n σ2 H2 => i + n = it.items.length ∧ ∃ F2 ρ2 μ2, Same F1 F2 ∧ Rep X.K F2 H2 μ2 ∧ EnvR X.K F2 σ2 ρ2 ∧ forW it.chk g mb (it.items.drop i) ρ2 μ2 Q ED,
    ⟨it.items.length, by omega, F1, ρ, μ1, Same.refl _, r1, env.up s1, q1⟩, fun i n σ2 H2 hw => ?_⟩
  obtain ⟨hn, F2, ρ2, μ2, s2, r2, e2, q2⟩ := hw
  by_cases hi : i < it.items.length
  · rw [List.drop_eq_getElem_cons hi] at q2
    obtain ⟨hc2, q2⟩ := q2
    refine .inr ⟨ij.go i F2 H2 μ2 s2 r2 hc2 hi, fun σ3 H3 => ∃ F3 ρ3 μ3, Same F1 F3 ∧ Rep X.K F3 H3 μ3 ∧ EnvR X.K F3 σ3 ρ3 ∧ forW it.chk g mb (it.items.drop (i + 1)) ρ3 μ3 Q ED, fun σ3 H3 h3 => ⟨n - 1, by omega, by omega, h3⟩, fun x H3 hy => ?_⟩
    obtain ⟨F3, d, s3, r3, ed, iv⟩ := ij.yld i F2 H2 μ2 x H3 s2 r2 hc2 hi hy
    rw [List.getElem?_eq_getElem hi] at ed
    cases ed
    refine ⟨F3, ρ2, μ2, _, _, ED, e2.up s3, r3, (lnk.up s1).up (s2.trans s3), iv, q2, fun σ4 H4 ρ4 F4 μ4 s4 r4 e4 f4 q4 => ?_⟩
    refine ⟨F4, ρ4, μ4, _, ED, e4, r4, ((lnk.up s1).up (s2.trans s3)).up s4, q4, fun F5 H5 μ5 σ5 ρ5 s5 r5 e5 q5 => ?_, fun F5 H5 μ5 v d5 s5 r5 i5 q5 => ?_, fun F5 H5 μ5 σ5 ρ5 s5 r5 e5 q5 => ?_, fun F5 H5 μ5 σ5 ρ5 s5 r5 e5 q5 => ?_⟩
    · exact ⟨F5, ρ5, μ5, ((s2.trans s3).trans s4).trans s5, r5, e5, q5⟩
    · exact en.2.1 F5 H5 μ5 v d5 (s1.trans (((s2.trans s3).trans s4).trans s5)) r5 i5 q5
    · exact en.1 F5 H5 μ5 σ5 ρ5 (s1.trans (((s2.trans s3).trans s4).trans s5)) r5 e5 q5
    · exact ⟨F5, ρ5, μ5, ((s2.trans s3).trans s4).trans s5, r5, e5, q5⟩
  · have ei : i = it.items.length := by omega
    subst ei
    rw [List.drop_length] at q2
    obtain ⟨hc2, q2⟩ := q2
    exact .inl ⟨ij.stop F2 H2 μ2 s2 r2 hc2, en.1 F2 H2 μ2 σ2 ρ2 (s1.trans s2) r2 e2 q2⟩

/-! ### [e for x in xs if t] -/
def wipeD (ρ : Rho) : List Nat → Rho
  | [] => ρ
  | v :: vs => (wipeD ρ vs).set v none
theorem wipeD_len (ρ : Rho) : ∀ vs : List Nat, (wipeD ρ vs).length = ρ.length
  | [] => rfl
  | v :: vs => by unfold wipeD; rw [List.length_set, wipeD_len ρ vs]
theorem EnvR.unset {K : PySem.W.Frag} {F : Hp} {σ : L2.St} {ρ : Rho} (h : EnvR K F σ ρ) (n : Nat) : EnvR K F (σ.set n none) (ρ.set n none) := by
  refine ⟨by rw [List.length_set, List.length_set]; exact h.len, fun i e q => ?_⟩
  by_cases hi : n = i
  · subst hi
    by_cases hn : n < ρ.length
    · rw [List.getElem?_set_self hn] at q
      cases q
    · rw [List.getElem?_eq_none (by rw [List.length_set]; omega)] at q
      cases q
  · rw [List.getElem?_set_ne hi] at q
    obtain ⟨u, h1, h2⟩ := h.get i e q
    exact ⟨u, by rw [List.getElem?_set_ne hi]; exact h1, h2⟩
theorem EnvR.wipe {K : PySem.W.Frag} {F : Hp} {σ : L2.St} {ρ : Rho} (h : EnvR K F σ ρ) : ∀ vs : List Nat, EnvR K F (L2.wipe σ vs) (wipeD ρ vs)
  | [] => h
  | v :: vs => (EnvR.wipe h vs).unset v
theorem wipe_at {σ : L2.St} : ∀ {vs : List Nat} {j : Nat}, j ∉ vs → (L2.wipe σ vs)[j]? = σ[j]?
  | [], _, _ => rfl
  | v :: vs, j, h => by
    unfold L2.wipe
    rw [List.getElem?_set_ne (fun e => h (by simp [e]))]
    exact wipe_at fun q => h (List.mem_cons_of_mem _ q)
theorem wipe_in {σ : L2.St} : ∀ {vs : List Nat} {j : Nat}, j ∈ vs → j < σ.length → (L2.wipe σ vs)[j]? = some none
  | [], _, h, _ => by cases h
  | v :: vs, j, h, hl => by
    unfold L2.wipe
    by_cases e : v = j
    · subst e
      exact List.getElem?_set_self (by rw [wipe_length]; exact hl)
    · rw [List.getElem?_set_ne e]
      refine wipe_in ?_ hl
      rcases List.mem_cons.mp h with q | q
      · exact absurd q.symm e
      · exact q
theorem wipe_frm {ts vs : List Nat} {σ σ' : L2.St} (h : Frm ts (L2.wipe σ vs) σ') (hs : ∀ j ∈ ts, j ∈ vs) : L2.wipe σ' vs = L2.wipe σ vs := by
  apply List.ext_getElem?
  intro j
  have hl : σ'.length = σ.length := h.1.trans (wipe_length σ vs)
  by_cases hj : j ∈ vs
  · by_cases hb : j < σ.length
    · rw [wipe_in hj hb, wipe_in hj (by omega)]
    · rw [List.getElem?_eq_none (by rw [wipe_length]; omega), List.getElem?_eq_none (by rw [wipe_length]; omega)]
  · rw [wipe_at hj, h.2 j fun q => hj (hs j q)]
def del (μ : Mem) (p : Addr) : Mem := fun b => if b = p then none else μ b
/-- one more item of the list at p -/
def W.push (p : Addr) (d : D) : W Unit := W.bnd W.get fun μ => match μ p with
  | some (.ml acc) => W.req (acc.length < sizeLine) (W.setL p (acc ++ [d]) (W.ret ()))
  | _ => W.bad
def lcW (chk : Mem → Prop) (g : D → Rho → W Rho) (tt : Rho → W Bool) (te : Rho → W D) (p : Addr) (ρ : Rho) : List D → W Unit
  | [] => W.chk chk (W.ret ())
  | x :: xs => W.chk chk (W.bnd (g x ρ) fun ρ1 => W.bnd (tt ρ1) fun k => if k = true then W.bnd (te ρ1) fun d => W.bnd (W.push p d) fun _ => lcW chk g tt te p ρ xs else lcW chk g tt te p ρ xs)
/-- the list stays (frozen) | it will change -/
def eLc (mi : Rho → W ItD) (g : D → Rho → W Rho) (tt : Rho → W Bool) (te : Rho → W D) (vs : List Nat) (ρ : Rho) : W D := W.bnd (mi ρ) fun it => fun μ Q E => ∀ p, μ p = none →
  lcW it.chk g tt te p (wipeD ρ vs) it.items (put μ p (.ml [])) (fun _ μ' => ∃ ds, μ' p = some (.ml ds) ∧ Q (.lst ds) (del μ' p)) E
def eLcM (mi : Rho → W ItD) (g : D → Rho → W Rho) (tt : Rho → W Bool) (te : Rho → W D) (vs : List Nat) (ρ : Rho) : W D := W.bnd (mi ρ) fun it => fun μ Q E => ∀ p, μ p = none →
  lcW it.chk g tt te p (wipeD ρ vs) it.items (put μ p (.ml [])) (fun _ μ' => (∃ ds, μ' p = some (.ml ds)) ∧ Q (.obj p) μ') E
def liftTs := liftT
abbrev DTs (X : Cx) (Eh : Option XK) (e : List Expr) (m : Rho → W Bool) : Prop := PTs X e (liftT X.K Eh m)
def tsYes (_ : Rho) : W Bool := W.ret true
theorem dts_nil {X : Cx} {Eh : Option XK} : DTs X Eh [] tsYes := by
  refine ⟨fun pins s σ H Q I h => (pts_nil (X := X)).run pins s σ H Q I ?_⟩
  obtain ⟨F, ρ, μ, Qd, ED, env, rep, lnk, hm, bk⟩ := h
  exact bk _ H _ F μ (Same.refl F) rep rfl hm
theorem dts_one {X : Cx} {Eh : Option XK} {c : Expr} {m : Rho → W Bool} (h : DT X Eh c m) : DTs X Eh [c] m := pts_one h
theorem push_of {p : Addr} {d : D} {f : Unit → W Unit} {μ : Mem} {Q : Unit → Mem → Prop} {E : XD} (h : W.bnd (W.push p d) f μ Q E) : ∃ acc, μ p = some (.ml acc) ∧ acc.length < sizeLine ∧ f () (put μ p (.ml (acc ++ [d]))) Q E := by
  have h' : (match μ p with
    | some (.ml acc) => W.req (acc.length < sizeLine) (W.setL p (acc ++ [d]) (W.ret ()))
    | _ => W.bad) μ (fun a μ' => f a μ' Q E) E := h
  cases e : μ p with
  | none => rw [e] at h'; exact h'.elim
  | some mo =>
    cases mo with
    | ml acc => rw [e] at h'; exact ⟨acc, rfl, h'.1, h'.2⟩
    | md kvs => rw [e] at h'; exact h'.elim
theorem lc_turns {K : PySem.W.Frag} {mi : Rho → W ItD} {g : D → Rho → W Rho} {tt : Rho → W Bool} {te : Rho → W D} {ts vs : List Nat} (hsub : ∀ j ∈ ts, j ∈ vs) {σ : L2.St} {H : Hp} {Qh : VK} {Qe : D → Mem → Prop} {ED : XD} {F : Hp} {ρ : Rho} {μ : Mem} {Qf : Addr → Mem → Prop}
    (env : EnvR K F σ ρ) (rep : Rep K F H μ) (lnk : Lnk K none F ED)
    (hm : W.bnd (mi ρ) (fun it => fun μ (Q : D → Mem → Prop) E => ∀ p, μ p = none → lcW it.chk g tt te p (wipeD ρ vs) it.items (put μ p (.ml [])) (fun _ μ' => Qf p μ') E) μ Qe ED)
    (fin : ∀ p F' H' μ', Same F F' → Rep K F' H' μ' → Qf p μ' → Qh (.ref p) H') : tLc (liftI K none mi) (liftG K none ts g) (liftT K none tt) (liftE K none te) vs σ H Qh := by
  refine ⟨F, ρ, μ, _, ED, env, rep, lnk, hm, fun J H1 F1 μ1 it s1 r1 ij q1 => ?_⟩
  intro p hn
  have q1 := q1 p (r1.mfree hn)
  have r1' : Rep K F1 (upd H1 p (.lst [])) (put μ1 p (.ml [])) := r1.newM (mo := .ml []) hn ⟨[], upd_same, .nil⟩
  refine ⟨fun i n H2 => i + n = it.items.length ∧ ∃ F2 μ2, Same F1 F2 ∧ Rep K F2 H2 μ2 ∧ lcW it.chk g tt te p (wipeD ρ vs) (it.items.drop i) μ2 (fun _ μ' => Qf p μ') ED,
    ⟨it.items.length, by omega, F1, _, Same.refl _, r1', q1⟩, fun i n H2 hw => ?_⟩
  obtain ⟨hn2, F2, μ2, s2, r2, q2⟩ := hw
  by_cases hi : i < it.items.length
  · rw [List.drop_eq_getElem_cons hi] at q2
    obtain ⟨hc2, q2⟩ := q2
    refine .inr ⟨ij.go i F2 H2 μ2 s2 r2 hc2 hi, fun H3 => ∃ F3 μ3, Same F1 F3 ∧ Rep K F3 H3 μ3 ∧ lcW it.chk g tt te p (wipeD ρ vs) (it.items.drop (i + 1)) μ3 (fun _ μ' => Qf p μ') ED, fun H3 h3 => ⟨n - 1, by omega, by omega, h3⟩, fun x H3 hy => ?_⟩
    obtain ⟨F3, d, s3, r3, ed, iv⟩ := ij.yld i F2 H2 μ2 x H3 s2 r2 hc2 hi hy
    rw [List.getElem?_eq_getElem hi] at ed
    cases ed
    have envw : EnvR K F3 (L2.wipe σ vs) (wipeD ρ vs) := (env.wipe vs).up (s1.trans (s2.trans s3))
    refine ⟨F3, wipeD ρ vs, μ2, _, _, ED, envw, r3, lnk, iv, q2, fun σ4 H4 ρ4 F4 μ4 s4 r4 e4 f4 q4 => ⟨wipe_frm f4 hsub, ?_⟩⟩
    refine ⟨F4, ρ4, μ4, _, ED, e4, r4, lnk, q4, fun b H5 c F5 μ5 s5 r5 ibc q5 => ?_⟩
    subst ibc
    cases b with
    | false => exact ⟨F5, μ5, ((s2.trans s3).trans s4).trans s5, r5, q5⟩
    | true =>
      refine ⟨F5, ρ4, μ5, _, ED, e4.up s5, r5, lnk, q5, fun y H6 dy F6 μ6 s6 r6 iy q6 => ?_⟩
      have q6' : W.bnd (W.push p dy) (fun _ => lcW it.chk g tt te p (wipeD ρ vs) (it.items.drop (i + 1))) μ6 (fun _ μ' => Qf p μ') ED := q6
      obtain ⟨acc, ea, hz, q7⟩ := push_of q6'
      obtain ⟨_, us, h1, h2⟩ := r6.mem p _ ea
      exact ⟨us, h1, by rw [h2.length]; exact hz, F6, _, ((((s2.trans s3).trans s4).trans s5).trans s6), r6.write (mo' := .ml (acc ++ [dy])) ea ⟨_, upd_same, h2.app (.cons iy .nil)⟩, q7⟩
  · have ei : i = it.items.length := by omega
    subst ei
    rw [List.drop_length] at q2
    obtain ⟨hc2, q2⟩ := q2
    exact .inl ⟨ij.stop F2 H2 μ2 s2 r2 hc2, fin p F2 H2 μ2 (s1.trans s2) r2 q2⟩
section
variable {X : Cx} {elt tg iter : Expr} {ifs : List Expr} {scope : Scope} {own : List (Str × Nat)} {pos : Pos} {mi : Rho → W ItD} {g : D → Rho → W Rho} {tt : Rho → W Bool} {te : Rho → W D} {ts : List Nat}
theorem de_lc (hc : X.calm = true) (hN : X.N.Nodup) (hi : DI X none tg iter mi) (ok : BlkOk X.N X.env.scope scope own) (hsub : ∀ j ∈ ts, j ∈ own.map (·.2))
    (hg : ∀ (s : Shared) (H : Hp) (C : Addr) (cl : List (Str × Addr)) (fp : List Addr), DG (X.blk s H scope (compEnvC scope cl C X.env) fp) none tg ts g)
    (ht : ∀ (s : Shared) (H : Hp) (C : Addr) (cl : List (Str × Addr)) (fp : List Addr), DTs (X.blk s H scope (compEnvC scope cl C X.env) fp) none ifs tt)
    (he : ∀ (s : Shared) (H : Hp) (C : Addr) (cl : List (Str × Addr)) (fp : List Addr), DE (X.blk s H scope (compEnvC scope cl C X.env) fp) none elt te) (hs : ∀ x, foldedSetIterable iter X.env x = pure x) :
    DE X none (.ListComp elt [⟨tg, iter, ifs, 0⟩] scope pos) (eLc mi g tt te (own.map (·.2))) := by
  refine PE.imp (pe_lc (g := liftG X.K none ts g) (tt := liftT X.K none tt) (te := liftE X.K none te) hc hN hi ok hg ht he hs) fun σ H Qh h => ?_
  obtain ⟨F, ρ, μ, Q, ED, env, rep, lnk, hm, bk⟩ := h
  refine lc_turns (Qe := Q) (Qf := fun p μ' => ∃ ds, μ' p = some (.ml ds) ∧ Q (.lst ds) (del μ' p)) hsub env rep lnk hm fun p F' H' μ' s' r' q' => ?_
  obtain ⟨ds, e, q⟩ := q'
  obtain ⟨F2, s2, r2, i2⟩ := r'.freeze e
  exact bk _ H' _ F2 _ (s'.trans s2) r2 i2 q
theorem de_lcM (hc : X.calm = true) (hN : X.N.Nodup) (hi : DI X none tg iter mi) (ok : BlkOk X.N X.env.scope scope own) (hsub : ∀ j ∈ ts, j ∈ own.map (·.2))
    (hg : ∀ (s : Shared) (H : Hp) (C : Addr) (cl : List (Str × Addr)) (fp : List Addr), DG (X.blk s H scope (compEnvC scope cl C X.env) fp) none tg ts g)
    (ht : ∀ (s : Shared) (H : Hp) (C : Addr) (cl : List (Str × Addr)) (fp : List Addr), DTs (X.blk s H scope (compEnvC scope cl C X.env) fp) none ifs tt)
    (he : ∀ (s : Shared) (H : Hp) (C : Addr) (cl : List (Str × Addr)) (fp : List Addr), DE (X.blk s H scope (compEnvC scope cl C X.env) fp) none elt te) (hs : ∀ x, foldedSetIterable iter X.env x = pure x) :
    DE X none (.ListComp elt [⟨tg, iter, ifs, 0⟩] scope pos) (eLcM mi g tt te (own.map (·.2))) := by
  refine PE.imp (pe_lc (g := liftG X.K none ts g) (tt := liftT X.K none tt) (te := liftE X.K none te) hc hN hi ok hg ht he hs) fun σ H Qh h => ?_
  obtain ⟨F, ρ, μ, Q, ED, env, rep, lnk, hm, bk⟩ := h
  refine lc_turns (Qe := Q) (Qf := fun p μ' => (∃ ds, μ' p = some (.ml ds)) ∧ Q (.obj p) μ') hsub env rep lnk hm fun p F' H' μ' s' r' q' => ?_
  exact bk _ H' _ F' _ s' r' (.obj p) q'.2
/-- y = [..] on one line -/
theorem ds_setLc {i : Nat} {y : Str} {py spos : Pos} (hc : X.calm = true) (hN : X.N.Nodup) (hy : X.N[i]? = some y) (hyl : X.env.scope.names.lookup y = some .local)
    (hsw : swapsWith (.ListComp elt [⟨tg, iter, ifs, 0⟩] scope pos) (some (.Name y py)) spos.line X.env = pure true) (hi : DI X none tg iter mi) (ok : BlkOk X.N X.env.scope scope own) (hsub : ∀ j ∈ ts, j ∈ own.map (·.2))
    (hg : ∀ (s : Shared) (H : Hp) (C : Addr) (cl : List (Str × Addr)) (fp : List Addr), DG (X.blk s H scope (compEnvC scope cl C X.env) fp) none tg ts g)
    (ht : ∀ (s : Shared) (H : Hp) (C : Addr) (cl : List (Str × Addr)) (fp : List Addr), DTs (X.blk s H scope (compEnvC scope cl C X.env) fp) none ifs tt)
    (he : ∀ (s : Shared) (H : Hp) (C : Addr) (cl : List (Str × Addr)) (fp : List Addr), DE (X.blk s H scope (compEnvC scope cl C X.env) fp) none elt te) (hs : ∀ x, foldedSetIterable iter X.env x = pure x) :
    DS X none (.Assign [.Name y py] (.ListComp elt [⟨tg, iter, ifs, 0⟩] scope pos) spos) (sSet i (eLc mi g tt te (own.map (·.2)))) := by
  refine PS.imp (ps_setLc (g := liftG X.K none ts g) (tt := liftT X.K none tt) (te := liftE X.K none te) hc hN hy hyl hsw hi ok hg ht he hs) fun De σ H h => ?_
  obtain ⟨F, ρ, μ, Q, ED, env, rep, lnk, hm, en⟩ := h
  refine lc_turns (Qe := fun d μ' => Q (.nx (ρ.set i (some d))) μ') (Qf := fun p μ' => ∃ ds, μ' p = some (.ml ds) ∧ Q (.nx (ρ.set i (some (.lst ds)))) (del μ' p)) hsub env rep lnk hm fun p F' H' μ' s' r' q' => ?_
  obtain ⟨ds, e, q⟩ := q'
  obtain ⟨F2, s2, r2, i2⟩ := r'.freeze e
  exact en.1 F2 H' _ _ _ (s'.trans s2) r2 ((env.up (s'.trans s2)).set i i2) q
theorem ds_setLcM {i : Nat} {y : Str} {py spos : Pos} (hc : X.calm = true) (hN : X.N.Nodup) (hy : X.N[i]? = some y) (hyl : X.env.scope.names.lookup y = some .local)
    (hsw : swapsWith (.ListComp elt [⟨tg, iter, ifs, 0⟩] scope pos) (some (.Name y py)) spos.line X.env = pure true) (hi : DI X none tg iter mi) (ok : BlkOk X.N X.env.scope scope own) (hsub : ∀ j ∈ ts, j ∈ own.map (·.2))
    (hg : ∀ (s : Shared) (H : Hp) (C : Addr) (cl : List (Str × Addr)) (fp : List Addr), DG (X.blk s H scope (compEnvC scope cl C X.env) fp) none tg ts g)
    (ht : ∀ (s : Shared) (H : Hp) (C : Addr) (cl : List (Str × Addr)) (fp : List Addr), DTs (X.blk s H scope (compEnvC scope cl C X.env) fp) none ifs tt)
    (he : ∀ (s : Shared) (H : Hp) (C : Addr) (cl : List (Str × Addr)) (fp : List Addr), DE (X.blk s H scope (compEnvC scope cl C X.env) fp) none elt te) (hs : ∀ x, foldedSetIterable iter X.env x = pure x) :
    DS X none (.Assign [.Name y py] (.ListComp elt [⟨tg, iter, ifs, 0⟩] scope pos) spos) (sSet i (eLcM mi g tt te (own.map (·.2)))) := by
  refine PS.imp (ps_setLc (g := liftG X.K none ts g) (tt := liftT X.K none tt) (te := liftE X.K none te) hc hN hy hyl hsw hi ok hg ht he hs) fun De σ H h => ?_
  obtain ⟨F, ρ, μ, Q, ED, env, rep, lnk, hm, en⟩ := h
  refine lc_turns (Qe := fun d μ' => Q (.nx (ρ.set i (some d))) μ') (Qf := fun p μ' => (∃ ds, μ' p = some (.ml ds)) ∧ Q (.nx (ρ.set i (some (.obj p)))) μ') hsub env rep lnk hm fun p F' H' μ' s' r' q' => ?_
  exact en.1 F' H' _ _ _ s' r' ((env.up s').set i (.obj p)) q'.2
end
end DL

namespace DL
open PySem PySem.Spec PyProof.Rows L2

/-! ### repr -/
def rRepr (K : PySem.W.Frag) : List V → Hp → VK → Prop := fun xs H Q => ∃ x d, xs = [x] ∧ Dp K H x d ∧ d.canLay0 = true ∧ d.showable = true ∧ d.depth ≤ 60 ∧ d.shown.length ≤ sizeLine ∧ Q (.str d.shown) H
theorem call_repr {X : Cx} (hg : X.A.guards = some []) (hu : X.A.units + 64 < cLine) : CallR X (.builtin "repr") (rRepr X.K) := by
  intro pins s σ H xs us Q I r h
  obtain ⟨x, d, rfl, hd, hc, hs, hdp, hz, q⟩ := h
  obtain ⟨u, rfl, ru⟩ := vals1 r
  have fin : ∀ h' t tk, (∀ b o, s.heap.get? b = some o → h'.get? b = some o) → EP X pins σ Q (.str d.shown t) { s with heap := h', toks := tk } := fun h' t tk hk => ⟨.str d.shown, H, I.kept (t' := tk) hk, ⟨_, rfl⟩, q⟩
  cases hd with
  | non => cases ru; exact PySem.P.repr_of_none (fin s.heap _ _ fun _ _ e => e)
  | bl b => cases ru; exact PySem.P.repr_of_bool (fin s.heap _ _ fun _ _ e => e)
  | int i => obtain ⟨t, rfl⟩ := ru; exact PySem.P.repr_of_int (by simpa [PyData.showable] using hs) (fin s.heap _ _ fun _ _ e => e)
  | str z => obtain ⟨t, rfl⟩ := ru; exact PySem.P.repr_of_str (fin s.heap _ _ fun _ _ e => e) hz
  | lst hl ha =>
    cases ru
    obtain ⟨as, rd⟩ := Dp.reads I _ _ _ (.lst hl ha) rfl
    exact repr_of_reads' rd hs (PyData.noDict_hsm (PyData.hasDict_of_canLay _ hc)) hg (by omega) (fun _ _ e => e) (fun h' t tk hk => fin h' t tk hk) hz
  | tup hl ha =>
    cases ru
    obtain ⟨as, rd⟩ := Dp.reads I _ _ _ (.tup hl ha) rfl
    exact repr_of_reads' rd hs (PyData.noDict_hsm (PyData.hasDict_of_canLay _ hc)) hg (by omega) (fun _ _ e => e) (fun h' t tk hk => fin h' t tk hk) hz
/-- what repr asks of data -/
def ShowOk (p : PyData) : Prop := p.canLay0 = true ∧ p.showable = true ∧ p.depth ≤ 60 ∧ p.shown.length ≤ sizeLine
def reprD : List D → W D
  | [x] => W.bnd W.get fun μ => W.bnd (W.opt (pyM μ x)) fun p => W.req (ShowOk p) (W.ret (.str p.shown))
  | _ => W.bad
theorem cd_repr {K : PySem.W.Frag} : CallD K (rRepr K) reprD := by
  intro F H μ xs ds Q ED Qh r il h bk
  unfold reprD at h
  split at h
  · obtain ⟨v, rfl, i⟩ := isL1 il
    obtain ⟨p, e, ⟨h1, h2, h3, h4⟩, q⟩ := opt_of h
    exact ⟨v, p, rfl, dp_of r i e h1, h1, h2, h3, h4, back_is bk r (.str _) q⟩
  · exact h.elim

/-! ### min, max -/
def ltS : D → D → Bool
  | .int i, .int j => decide (i < j)
  | .str a, .str b => decide (a.cps.toList < b.cps.toList)
  | _, _ => false
def minL (x : D) (xs : List D) : D := xs.foldl (fun a y => if ltS y a then y else a) x
def maxL (x : D) (xs : List D) : D := xs.foldl (fun a y => if ltS a y then y else a) x
/-- all numbers, or all texts -/
def OneSort (xs : List D) : Prop := (∃ ns : List Int, xs = ns.map .int) ∨ ∃ ss : List Str, xs = ss.map .str
def flatP : D → PyData
  | .int i => .int i
  | .str a => .str a
  | _ => .none
theorem lt_flat {x y : D} (h : OneSort [x, y]) : PySem.W.dataLt (flatP x) (flatP y) = ltS x y := by
  rcases h with ⟨ns, h⟩ | ⟨ns, h⟩
  · match ns, h with
    | [i, j], h => cases h; exact PySem.W.dataLt_int i j
  · match ns, h with
    | [i, j], h => cases h; exact PySem.W.dataLt_str i j
theorem sort_sub {x : D} {xs : List D} (h : OneSort (x :: xs)) : ∀ y ∈ x :: xs, ∀ z ∈ x :: xs, OneSort [y, z] := by
  rcases h with ⟨ns, h⟩ | ⟨ns, h⟩
  · rw [h]
    intro y hy z hz
    obtain ⟨i, _, rfl⟩ := List.mem_map.mp hy
    obtain ⟨j, _, rfl⟩ := List.mem_map.mp hz
    exact .inl ⟨[i, j], rfl⟩
  · rw [h]
    intro y hy z hz
    obtain ⟨i, _, rfl⟩ := List.mem_map.mp hy
    obtain ⟨j, _, rfl⟩ := List.mem_map.mp hz
    exact .inr ⟨[i, j], rfl⟩
theorem min_flat : ∀ (xs : List D) (x : D), OneSort (x :: xs) → PySem.W.minD (flatP x) (xs.map flatP) = flatP (minL x xs) ∧ minL x xs ∈ x :: xs
  | [], x, _ => ⟨rfl, by simp [minL]⟩
  | y :: ys, x, h => by
    have hs := sort_sub h
    have e : PySem.W.dataLt (flatP y) (flatP x) = ltS y x := lt_flat (hs y (by simp) x (by simp))
    have sub : ∀ z, z = x ∨ z = y → OneSort (z :: ys) := fun z hz => by
      rcases h with ⟨ns, h⟩ | ⟨ns, h⟩
      · match ns, h with
        | i :: j :: r, h =>
          cases h
          rcases hz with rfl | rfl
          · exact .inl ⟨i :: r, rfl⟩
          · exact .inl ⟨j :: r, rfl⟩
      · match ns, h with
        | i :: j :: r, h =>
          cases h
          rcases hz with rfl | rfl
          · exact .inr ⟨i :: r, rfl⟩
          · exact .inr ⟨j :: r, rfl⟩
    have st : PySem.W.minD (flatP x) ((y :: ys).map flatP) = PySem.W.minD (flatP (if ltS y x then y else x)) (ys.map flatP) := by
      unfold PySem.W.minD
      rw [List.map_cons, List.foldl_cons, e]
      cases ltS y x <;> rfl
    have sl : minL x (y :: ys) = minL (if ltS y x then y else x) ys := rfl
    rw [st, sl]
    cases hb : ltS y x with
    | true =>
      obtain ⟨h1, h2⟩ := min_flat ys y (sub y (.inr rfl))
      exact ⟨h1, List.mem_cons_of_mem _ h2⟩
    | false =>
      obtain ⟨h1, h2⟩ := min_flat ys x (sub x (.inl rfl))
      refine ⟨h1, ?_⟩
      rcases List.mem_cons.mp h2 with q | q
      · exact List.mem_cons.mpr (.inl q)
      · exact List.mem_cons_of_mem _ (List.mem_cons_of_mem _ q)
theorem max_flat : ∀ (xs : List D) (x : D), OneSort (x :: xs) → PySem.W.maxD (flatP x) (xs.map flatP) = flatP (maxL x xs) ∧ maxL x xs ∈ x :: xs
  | [], x, _ => ⟨rfl, by simp [maxL]⟩
  | y :: ys, x, h => by
    have hs := sort_sub h
    have e : PySem.W.dataLt (flatP x) (flatP y) = ltS x y := lt_flat (hs x (by simp) y (by simp))
    have sub : ∀ z, z = x ∨ z = y → OneSort (z :: ys) := fun z hz => by
      rcases h with ⟨ns, h⟩ | ⟨ns, h⟩
      · match ns, h with
        | i :: j :: r, h =>
          cases h
          rcases hz with rfl | rfl
          · exact .inl ⟨i :: r, rfl⟩
          · exact .inl ⟨j :: r, rfl⟩
      · match ns, h with
        | i :: j :: r, h =>
          cases h
          rcases hz with rfl | rfl
          · exact .inr ⟨i :: r, rfl⟩
          · exact .inr ⟨j :: r, rfl⟩
    have st : PySem.W.maxD (flatP x) ((y :: ys).map flatP) = PySem.W.maxD (flatP (if ltS x y then y else x)) (ys.map flatP) := by
      unfold PySem.W.maxD
      rw [List.map_cons, List.foldl_cons, e]
      cases ltS x y <;> rfl
    have sl : maxL x (y :: ys) = maxL (if ltS x y then y else x) ys := rfl
    rw [st, sl]
    cases hb : ltS x y with
    | true =>
      obtain ⟨h1, h2⟩ := max_flat ys y (sub y (.inr rfl))
      exact ⟨h1, List.mem_cons_of_mem _ h2⟩
    | false =>
      obtain ⟨h1, h2⟩ := max_flat ys x (sub x (.inl rfl))
      refine ⟨h1, ?_⟩
      rcases List.mem_cons.mp h2 with q | q
      · exact List.mem_cons.mpr (.inl q)
      · exact List.mem_cons_of_mem _ (List.mem_cons_of_mem _ q)
/-- the values of such -/
def flatV1 : D → V
  | .int i => .int i
  | .str a => .str a
  | _ => .non
theorem sort_py {xs : List D} (h : OneSort xs) : PySem.W.AlikeAll (xs.map flatP) ∧ PyData.depthAll (xs.map flatP) = 0 := by
  have dz : ∀ ys : List D, PyData.depthAll (ys.map flatP) = 0 := fun ys => by
    induction ys with
    | nil => rfl
    | cons y r ih =>
      rw [List.map_cons, PyData.depthAll, ih]
      cases y <;> simp [flatP, PyData.depth]
  refine ⟨?_, dz xs⟩
  rcases h with ⟨ns, rfl⟩ | ⟨ns, rfl⟩
  · refine ⟨fun x hx y hy => ?_, fun x hx => ?_⟩
    · obtain ⟨a, ha, rfl⟩ := List.mem_map.mp hx
      obtain ⟨b, hb, rfl⟩ := List.mem_map.mp hy
      obtain ⟨i, _, rfl⟩ := List.mem_map.mp ha
      obtain ⟨j, _, rfl⟩ := List.mem_map.mp hb
      simp [flatP, PySem.W.alike]
    · obtain ⟨a, ha, rfl⟩ := List.mem_map.mp hx
      obtain ⟨i, _, rfl⟩ := List.mem_map.mp ha
      simp [flatP]
  · refine ⟨fun x hx y hy => ?_, fun x hx => ?_⟩
    · obtain ⟨a, ha, rfl⟩ := List.mem_map.mp hx
      obtain ⟨b, hb, rfl⟩ := List.mem_map.mp hy
      obtain ⟨i, _, rfl⟩ := List.mem_map.mp ha
      obtain ⟨j, _, rfl⟩ := List.mem_map.mp hb
      simp [flatP, PySem.W.alike]
    · obtain ⟨a, ha, rfl⟩ := List.mem_map.mp hx
      obtain ⟨i, _, rfl⟩ := List.mem_map.mp ha
      simp [flatP]
theorem flat_reads {h : Heap} {v : Value} {d : D} {as : List Addr} (r : Reads h v (flatP d) as) (hd : OneSort [d]) : RelV (flatV1 d) v := by
  rcases hd with ⟨ns, hd⟩ | ⟨ns, hd⟩
  · match ns, hd with
    | [i], hd =>
      cases hd
      cases r
      exact ⟨_, rfl⟩
  · match ns, hd with
    | [i], hd =>
      cases hd
      cases r
      exact ⟨_, rfl⟩
theorem flat_vals {K : PySem.W.Frag} {F : Hp} {vs : List V} {ds : List D} (h : IsL K F vs ds) (hs : OneSort ds) : vs = ds.map flatV1 := by
  rcases hs with ⟨ns, rfl⟩ | ⟨ns, rfl⟩
  · induction ns generalizing vs with
    | nil => cases h; rfl
    | cons n r ih =>
      obtain ⟨v, us, rfl, i, l⟩ := isL_cons h
      cases i
      rw [ih l]
      rfl
  · induction ns generalizing vs with
    | nil => cases h; rfl
    | cons n r ih =>
      obtain ⟨v, us, rfl, i, l⟩ := isL_cons h
      cases i
      rw [ih l]
      rfl
theorem vals_reads {h : Heap} : ∀ {ds : List D} {us : List Value}, (∀ d ∈ ds, OneSort [d]) → Vals (ds.map flatV1) us → ∃ as, ReadsAll h us (ds.map flatP) as
  | [], _, _, r => by cases r; exact ⟨_, .nil⟩
  | d :: ds, _, hs, r => by
    cases r with
    | cons r1 r2 =>
      obtain ⟨as, q⟩ := vals_reads (h := h) (fun e he => hs e (List.mem_cons_of_mem _ he)) r2
      rcases hs d List.mem_cons_self with ⟨ns, e⟩ | ⟨ns, e⟩
      · match ns, e with
        | [i], e =>
          cases e
          obtain ⟨t, rfl⟩ := r1
          exact ⟨_, .cons (.int i t) q⟩
      · match ns, e with
        | [i], e =>
          cases e
          obtain ⟨t, rfl⟩ := r1
          exact ⟨_, .cons (.str i t) q⟩
def rMM (K : PySem.W.Frag) (f : D → List D → D) : List V → Hp → VK → Prop := fun vs H Q => ∃ (a : Addr) (x : D) (xs : List D), vs = [.ref a] ∧ SqL K H a ((x :: xs).map flatV1) ∧ OneSort (x :: xs) ∧ Q (flatV1 (f x xs)) H
theorem sort_one {x : D} {xs : List D} (h : OneSort (x :: xs)) : ∀ d ∈ x :: xs, OneSort [d] := fun d hd => by
  rcases sort_sub h d hd d hd with ⟨ns, e⟩ | ⟨ns, e⟩
  · match ns, e with
    | [i, j], e => cases e; exact .inl ⟨[i], rfl⟩
  · match ns, e with
    | [i, j], e => cases e; exact .inr ⟨[i], rfl⟩
theorem call_minL {X : Cx} (hc : X.calm = true) (hu : X.A.units + 64 < cLine) : CallR X (.builtin "min") (rMM X.K minL) := by
  intro pins s σ H xs us Q I r h
  obtain ⟨a, x, ds, rfl, hs, ho, q⟩ := h
  obtain ⟨u, rfl, ru⟩ := vals1 r
  cases ru
  obtain ⟨its, rv, p, _⟩ := I.list hs
  obtain ⟨as, rd⟩ := vals_reads (h := s.heap) (sort_one ho) rv
  obtain ⟨al, dz⟩ := sort_py ho
  have mf := min_flat ds x ho
  refine PySem.W.min_list_data (x := flatP x) (xs := ds.map flatP) (I.ok.hd hc) p.isList (by simpa using rd) al (by rw [show PyData.depthAll (flatP x :: ds.map flatP) = 0 from dz]; omega) fun i v h' tk bs hv rv' hk => ?_
  rw [mf.1] at rv'
  exact ⟨_, H, I.kept (t' := tk) hk, flat_reads rv' (sort_one ho _ mf.2), q⟩
theorem call_maxL {X : Cx} (hc : X.calm = true) (hu : X.A.units + 64 < cLine) : CallR X (.builtin "max") (rMM X.K maxL) := by
  intro pins s σ H xs us Q I r h
  obtain ⟨a, x, ds, rfl, hs, ho, q⟩ := h
  obtain ⟨u, rfl, ru⟩ := vals1 r
  cases ru
  obtain ⟨its, rv, p, _⟩ := I.list hs
  obtain ⟨as, rd⟩ := vals_reads (h := s.heap) (sort_one ho) rv
  obtain ⟨al, dz⟩ := sort_py ho
  have mf := max_flat ds x ho
  refine PySem.W.max_list_data (x := flatP x) (xs := ds.map flatP) (I.ok.hd hc) p.isList (by simpa using rd) al (by rw [show PyData.depthAll (flatP x :: ds.map flatP) = 0 from dz]; omega) fun i v h' tk bs hv rv' hk => ?_
  rw [mf.1] at rv'
  exact ⟨_, H, I.kept (t' := tk) hk, flat_reads rv' (sort_one ho _ mf.2), q⟩
/-- two texts -/
def txt2 (a b : Str) (i : Nat) : Str := if i = 0 then a else b
theorem two_strs {prog : Program} {w : World} {A : Around} {E : Value → Shared → Prop} {s : Shared} {a b : Str} {t u : Tok} {Q : Value → Shared → Prop} (hh : A.handled = none)
    (h : ∀ h' tk, (∀ c o, s.heap.get? c = some o → h'.get? c = some o) → Q (if b.cps.toList < a.cps.toList then .str b u else .str a t) { s with heap := h', toks := tk }) : wpAny (model prog w) A (call (.builtin "min") [.str a t, .str b u]) Q E s := by
  have hT : (s.heap.push { cls := .type "tuple", data := .seq #[.str a t, .str b u] }).IsTuple s.heap.objs.size #[.str a t, .str b u] := ⟨_, Heap.get?_push_size _ rfl, rfl, 0, rfl⟩
  have hz : (s.heap.push { cls := .type "tuple", data := .seq #[.str a t, .str b u] }).objs.size = s.heap.objs.size + 1 := Heap.size_push ..
  have at2 : ∀ (i : Nat) (v : Value), (#[Value.str a t, .str b u])[i]? = some v → (i = 0 ∧ v = .str a t) ∨ (i = 1 ∧ v = .str b u) := fun i v e => by
    match i, e with
    | 0, e => cases e; exact .inl ⟨rfl, rfl⟩
    | 1, e => cases e; exact .inr ⟨rfl, rfl⟩
    | i + 2, e => simp at e
  refine call_min_two (wpAny_pyIter_tuple hT ?_)
  refine ⟨_, [_, s.heap.objs.size], [_], _, _, _, fun i j => decide ((txt2 a b i).cps.toList < (txt2 a b j).cps.toList), rfl, Walks.tuple (A := A.in1) hh _ s.heap.objs.size (by rw [hz]; exact Nat.ne_of_lt (Nat.lt_succ_self _)) #[.str a t, .str b u],
    ⟨⟨_, Heap.get?_push_size _ rfl, rfl, rfl⟩, hT.push _⟩, fun c hc => ?_, by simp, fun i j vi vj s' Q' E' hi hj q => ?_, fun v h' tk hP hk => ?_⟩
  · show c < ((s.heap.push _).push _).objs.size
    rw [Heap.size_push, hz]
    simp only [List.mem_cons, List.not_mem_nil, or_false] at hc
    rcases hc with rfl | rfl
    · rw [hz]; exact Nat.lt_succ_self _
    · exact Nat.lt_succ_of_lt (Nat.lt_succ_self _)
  · rcases at2 i vi hi with ⟨rfl, rfl⟩ | ⟨rfl, rfl⟩ <;> rcases at2 j vj hj with ⟨rfl, rfl⟩ | ⟨rfl, rfl⟩ <;> exact PyProof.Rows.lt_str q
  · have hold : ∀ c o, s.heap.get? c = some o → h'.get? c = some o := fun c o e => by
      refine hk c o (fun hm => ?_) (Heap.get?_push_of_some _ (Heap.get?_push_of_some _ e))
      simp only [List.mem_cons, List.not_mem_nil, or_false] at hm
      have := Heap.lt_size e
      rw [hm, hz] at this
      exact Nat.lt_irrefl _ (Nat.lt_of_succ_lt this)
    have q := h h' tk hold
    have e1 : argBest (fun i j => decide ((txt2 a b i).cps.toList < (txt2 a b j).cps.toList)) 1 = if b.cps.toList < a.cps.toList then 1 else 0 := by
      simp [argBest, txt2]
    have hP' : (#[Value.str a t, .str b u])[if b.cps.toList < a.cps.toList then 1 else 0]? = some v := by
      rw [← e1]; exact hP
    by_cases hb : b.cps.toList < a.cps.toList
    · rw [if_pos hb] at q hP'
      cases hP'
      exact q
    · rw [if_neg hb] at q hP'
      cases hP'
      exact q
theorem two_strsX {prog : Program} {w : World} {A : Around} {E : Value → Shared → Prop} {s : Shared} {a b : Str} {t u : Tok} {Q : Value → Shared → Prop} (hh : A.handled = none)
    (h : ∀ h' tk, (∀ c o, s.heap.get? c = some o → h'.get? c = some o) → Q (if a.cps.toList < b.cps.toList then .str b u else .str a t) { s with heap := h', toks := tk }) : wpAny (model prog w) A (call (.builtin "max") [.str a t, .str b u]) Q E s := by
  have hT : (s.heap.push { cls := .type "tuple", data := .seq #[.str a t, .str b u] }).IsTuple s.heap.objs.size #[.str a t, .str b u] := ⟨_, Heap.get?_push_size _ rfl, rfl, 0, rfl⟩
  have hz : (s.heap.push { cls := .type "tuple", data := .seq #[.str a t, .str b u] }).objs.size = s.heap.objs.size + 1 := Heap.size_push ..
  have at2 : ∀ (i : Nat) (v : Value), (#[Value.str a t, .str b u])[i]? = some v → (i = 0 ∧ v = .str a t) ∨ (i = 1 ∧ v = .str b u) := fun i v e => by
    match i, e with
    | 0, e => cases e; exact .inl ⟨rfl, rfl⟩
    | 1, e => cases e; exact .inr ⟨rfl, rfl⟩
    | i + 2, e => simp at e
  refine call_max_two (wpAny_pyIter_tuple hT ?_)
  refine ⟨_, [_, s.heap.objs.size], [_], _, _, _, fun i j => decide ((txt2 a b j).cps.toList < (txt2 a b i).cps.toList), rfl, Walks.tuple (A := A.in1) hh _ s.heap.objs.size (by rw [hz]; exact Nat.ne_of_lt (Nat.lt_succ_self _)) #[.str a t, .str b u],
    ⟨⟨_, Heap.get?_push_size _ rfl, rfl, rfl⟩, hT.push _⟩, fun c hc => ?_, by simp, fun i j vi vj s' Q' E' hi hj q => ?_, fun v h' tk hP hk => ?_⟩
  · show c < ((s.heap.push _).push _).objs.size
    rw [Heap.size_push, hz]
    simp only [List.mem_cons, List.not_mem_nil, or_false] at hc
    rcases hc with rfl | rfl
    · rw [hz]; exact Nat.lt_succ_self _
    · exact Nat.lt_succ_of_lt (Nat.lt_succ_self _)
  · have gt : ∀ {x y : Str} {t1 t2 : Tok}, Q' (.bool (decide (y.cps.toList < x.cps.toList))) s' → wpAny (model prog w) A.in1 (richCompare .Gt (.str x t1) (.str y t2)) Q' E' s' := fun q => PySem.P.gt_str q
    rcases at2 i vi hi with ⟨rfl, rfl⟩ | ⟨rfl, rfl⟩ <;> rcases at2 j vj hj with ⟨rfl, rfl⟩ | ⟨rfl, rfl⟩ <;> exact gt q
  · have hold : ∀ c o, s.heap.get? c = some o → h'.get? c = some o := fun c o e => by
      refine hk c o (fun hm => ?_) (Heap.get?_push_of_some _ (Heap.get?_push_of_some _ e))
      simp only [List.mem_cons, List.not_mem_nil, or_false] at hm
      have := Heap.lt_size e
      rw [hm, hz] at this
      exact Nat.lt_irrefl _ (Nat.lt_of_succ_lt this)
    have q := h h' tk hold
    have e1 : argBest (fun i j => decide ((txt2 a b j).cps.toList < (txt2 a b i).cps.toList)) 1 = if a.cps.toList < b.cps.toList then 1 else 0 := by
      simp [argBest, txt2]
    have hP' : (#[Value.str a t, .str b u])[if a.cps.toList < b.cps.toList then 1 else 0]? = some v := by
      rw [← e1]; exact hP
    by_cases hb : a.cps.toList < b.cps.toList
    · rw [if_pos hb] at q hP'
      cases hP'
      exact q
    · rw [if_neg hb] at q hP'
      cases hP'
      exact q
def r2S (f : Str → Str → Str) : List V → Hp → VK → Prop := fun xs H Q => ∃ a b, xs = [.str a, .str b] ∧ Q (.str (f a b)) H
theorem call_min2S {X : Cx} (hc : X.calm = true) : CallR X (.builtin "min") (r2S fun a b => if b.cps.toList < a.cps.toList then b else a) := by
  intro pins s σ H xs us Q I r h
  obtain ⟨a, b, rfl, q⟩ := h
  obtain ⟨u, w', rfl, ⟨t, rfl⟩, ⟨t', rfl⟩⟩ := vals2 r
  refine two_strs (I.ok.hd hc) fun h' tk k => ⟨_, H, I.kept (t' := tk) k, ?_, q⟩
  dsimp only
  by_cases hb : b.cps.toList < a.cps.toList
  · rw [if_pos hb, if_pos hb]; exact ⟨_, rfl⟩
  · rw [if_neg hb, if_neg hb]; exact ⟨_, rfl⟩
theorem call_max2S {X : Cx} (hc : X.calm = true) : CallR X (.builtin "max") (r2S fun a b => if a.cps.toList < b.cps.toList then b else a) := by
  intro pins s σ H xs us Q I r h
  obtain ⟨a, b, rfl, q⟩ := h
  obtain ⟨u, w', rfl, ⟨t, rfl⟩, ⟨t', rfl⟩⟩ := vals2 r
  refine two_strsX (I.ok.hd hc) fun h' tk k => ⟨_, H, I.kept (t' := tk) k, ?_, q⟩
  dsimp only
  by_cases hb : a.cps.toList < b.cps.toList
  · rw [if_pos hb, if_pos hb]; exact ⟨_, rfl⟩
  · rw [if_neg hb, if_neg hb]; exact ⟨_, rfl⟩
def mmD (f : D → List D → D) : List D → W D
  | [x] => W.bnd W.get fun μ => W.bnd (W.opt (lsOf x μ)) fun ds => match ds with
    | d :: r => W.req (OneSort (d :: r)) (W.ret (f d r))
    | [] => W.bad
  | [x, y] => W.req (OneSort [x, y]) (W.ret (f x [y]))
  | _ => W.bad
abbrev minD := mmD minL
abbrev maxD := mmD maxL
theorem is_flat {K : PySem.W.Frag} {F : Hp} {d : D} (h : OneSort [d]) : Is K F (flatV1 d) d := by
  rcases h with ⟨ns, e⟩ | ⟨ns, e⟩
  · match ns, e with
    | [i], e => cases e; exact .int i
  · match ns, e with
    | [i], e => cases e; exact .str i
def rMinA (K : PySem.W.Frag) : List V → Hp → VK → Prop := fun xs H Q => rMM K minL xs H Q ∨ ((∃ i j, xs = [.int i, .int j] ∧ Q (.int (if j < i then j else i)) H) ∨ r2S (fun a b => if b.cps.toList < a.cps.toList then b else a) xs H Q)
def rMaxA (K : PySem.W.Frag) : List V → Hp → VK → Prop := fun xs H Q => rMM K maxL xs H Q ∨ ((∃ i j, xs = [.int i, .int j] ∧ Q (.int (if j > i then j else i)) H) ∨ r2S (fun a b => if a.cps.toList < b.cps.toList then b else a) xs H Q)
theorem call_minA {X : Cx} (hc : X.calm = true) (hu : X.A.units + 64 < cLine) : CallR X (.builtin "min") (rMinA X.K) := (call_minL hc hu).or ((call_min2 hc).or (call_min2S hc))
theorem call_maxA {X : Cx} (hc : X.calm = true) (hu : X.A.units + 64 < cLine) : CallR X (.builtin "max") (rMaxA X.K) := (call_maxL hc hu).or ((call_max2 hc).or (call_max2S hc))
theorem one_sub {d : D} {r : List D} (h : OneSort (d :: r)) {e : D} (he : e ∈ d :: r) : OneSort [e] := sort_one h e he
theorem cd_min {K : PySem.W.Frag} : CallD K (rMinA K) minD := by
  intro F H μ xs ds Q ED Qh r il h bk
  unfold minD mmD at h
  split at h
  · obtain ⟨v, rfl, i⟩ := isL1 il
    obtain ⟨es, e, h⟩ := opt_of h
    match es, h with
    | d :: rs, h =>
      obtain ⟨ho, q⟩ := h
      obtain ⟨a, vs, rfl, h1, h2⟩ := ls_of r i e
      rw [flat_vals h2 ho] at h1
      exact .inl ⟨a, d, rs, rfl, h1, ho, back_is bk r (is_flat (sort_one ho _ (min_flat rs d ho).2)) q⟩
  · obtain ⟨v, u, rfl, iv, iu⟩ := isL2 il
    obtain ⟨ho, q⟩ := h
    rcases ho with ⟨ns, e⟩ | ⟨ns, e⟩
    · match ns, e with
      | [i, j], e =>
        cases e
        cases iv
        cases iu
        refine .inr (.inl ⟨i, j, rfl, ?_⟩)
        have q' : Q (if decide (j < i) = true then .int j else .int i) μ := q
        by_cases hb : j < i
        · rw [if_pos hb]; rw [if_pos (by simpa using hb)] at q'; exact back_is bk r (.int _) q'
        · rw [if_neg hb]; rw [if_neg (by simpa using hb)] at q'; exact back_is bk r (.int _) q'
    · match ns, e with
      | [i, j], e =>
        cases e
        cases iv
        cases iu
        refine .inr (.inr ⟨i, j, rfl, ?_⟩)
        dsimp only
        have q' : Q (if decide (j.cps.toList < i.cps.toList) = true then .str j else .str i) μ := q
        by_cases hb : j.cps.toList < i.cps.toList
        · rw [if_pos hb]; rw [if_pos (by simpa using hb)] at q'; exact back_is bk r (.str _) q'
        · rw [if_neg hb]; rw [if_neg (by simpa using hb)] at q'; exact back_is bk r (.str _) q'
  · exact h.elim
theorem cd_max {K : PySem.W.Frag} : CallD K (rMaxA K) maxD := by
  intro F H μ xs ds Q ED Qh r il h bk
  unfold maxD mmD at h
  split at h
  · obtain ⟨v, rfl, i⟩ := isL1 il
    obtain ⟨es, e, h⟩ := opt_of h
    match es, h with
    | d :: rs, h =>
      obtain ⟨ho, q⟩ := h
      obtain ⟨a, vs, rfl, h1, h2⟩ := ls_of r i e
      rw [flat_vals h2 ho] at h1
      exact .inl ⟨a, d, rs, rfl, h1, ho, back_is bk r (is_flat (sort_one ho _ (max_flat rs d ho).2)) q⟩
  · obtain ⟨v, u, rfl, iv, iu⟩ := isL2 il
    obtain ⟨ho, q⟩ := h
    rcases ho with ⟨ns, e⟩ | ⟨ns, e⟩
    · match ns, e with
      | [i, j], e =>
        cases e
        cases iv
        cases iu
        refine .inr (.inl ⟨i, j, rfl, ?_⟩)
        have q' : Q (if decide (i < j) = true then .int j else .int i) μ := q
        by_cases hb : i < j
        · rw [if_pos hb]; rw [if_pos (by simpa using hb)] at q'; exact back_is bk r (.int _) q'
        · rw [if_neg hb]; rw [if_neg (by simpa using hb)] at q'; exact back_is bk r (.int _) q'
    · match ns, e with
      | [i, j], e =>
        cases e
        cases iv
        cases iu
        refine .inr (.inr ⟨i, j, rfl, ?_⟩)
        dsimp only
        have q' : Q (if decide (i.cps.toList < j.cps.toList) = true then .str j else .str i) μ := q
        by_cases hb : i.cps.toList < j.cps.toList
        · rw [if_pos hb]; rw [if_pos (by simpa using hb)] at q'; exact back_is bk r (.str _) q'
        · rw [if_neg hb]; rw [if_neg (by simpa using hb)] at q'; exact back_is bk r (.str _) q'
  · exact h.elim
end DL

namespace DL
open PySem PySem.Spec PyProof.Rows L2

/-! ### defs, where no repr is under way -/
structure FnG (P : Program) (w : World) (K : PySem.W.Frag) (mg : Str → Option Value) (base : Heap) (CX : CXT) (k : Nat) (f : Addr) (fd : FuncData) (ps : List Str) (sp : Sp) : Prop where
  len : ∀ vs H Q E, sp vs H Q E → vs.length = ps.length
  go : ∀ (A : Around) (outer : List Env) (s : Shared) (H : Hp) (args : Args) (us : List Value) (vs : List V) (Q : VK) (E : XK), A.guards = some [] → Room k A → Env0 P w K mg base A outer s H → BindsTo s fd args (ps.zip us) → Vals vs us → sp vs H Q E →
    codeAny (model P w) A (.call (.ref f) args) (CR CX outer P w H s Q E) s
section
variable {P : Program} {w : World} {K : PySem.W.Frag} {mg : Str → Option Value} {base : Heap} {CX : CXT} {k : Nat}
/-- a def by its body -/
theorem fng_of {x qual : Str} {st : Stmt} {f : Addr} {fd : FuncData} {N ps : List Str} {sp : Sp} (Fn : Fun K x qual st f fd) (S : FnScope N ps (defScope st)) (len : ∀ vs H Q E, sp vs H Q E → vs.length = ps.length)
    (hbody : ∀ (cdv : Value) (A : Around) (outer : List Env) (s : Shared) (H : Hp) (vs : List V) (Q : VK) (E : XK), A.guards = some [] → Room k (A.deeper (envOfC qual (defScope st) s.heap.objs.size f cdv)) → sp vs H Q E →
      ∃ t, PSs (cxOf CX P w K mg base N qual (defScope st) f cdv A outer s H E) (defBody st) t ∧ t { nx := fun _ H' => Q .non H', rt := Q } (start N vs) H) : FnG P w K mg base CX (k + 1) f fd ps sp := by
  obtain ⟨oc, od, kV, doc, pm, an, cdv, ct, osl, rfl, lk, hcd⟩ := Fn.ex
  refine ⟨len, fun A outer s H args us vs Q E hg hr e0 hb rv hsp => ?_⟩
  have keepB : ∀ b o, base.get? b = some o → s.heap.get? b = some o := fun b o e => (e0.bs b o e).1
  have inK : K.In s.heap := e0.mod.kin.keeps keepB
  have kinds : ∀ y ∈ ps.zip us, (defScope st).names.lookup y.1 = some .local ∨ ((defScope st).names.lookup y.1 = some .cell ∧ ((cellsFrom (s.heap.objs.size + 1) (defScope st).names []).lookup y.1).isSome = true) := by
    rintro ⟨n, v⟩ hy
    cases S.par n (List.of_mem_zip hy).1 with
    | inl q => exact .inl q
    | inr q => exact .inr ⟨q, PySem.W.cellsFrom_some _ _ _ (.inl q)⟩
  refine codeAny_call_function hr.depth (inK _ _ lk) rfl S.co S.gen rfl (PySem.W.codeRec_of inK hcd) (hb _ _ _ _ ?_)
  refine wpAny_newFunctionEnv_cells S.kind kinds fun env he s1 hx => ?_
  subst he
  refine ⟨(e0.mod.nolimit.keeps keepB).keeps hx.toInCall.keep, codeAny_func ?_⟩
  obtain ⟨t, ht, hq⟩ := hbody cdv A outer s H vs Q E hg (hr.deeper _) hsp
  have inv := inv_start (CX := CX) (E := E) S hr.hd e0 (len _ _ _ _ hsp) rv hx
  refine wpAny_mono (ht.run [] s1 (start N vs) H _ inv hq) (fun fl s' hs => ?_) fun e s' hs => hs
  cases fl with
  | ret u => obtain ⟨v, σ', H', J, r, q⟩ := hs; exact ⟨v, H', J.os, J.bare, J.base, J.hok, r, q⟩
  | next => obtain ⟨σ', H', J, q⟩ := hs; exact ⟨V.non, H', J.os, J.bare, J.base, J.hok, rfl, q⟩
  | brk => exact hs.choose_spec.choose_spec.2.elim
  | cont => exact hs.choose_spec.choose_spec.2.elim
end
section
variable {X : Cx} {CX : CXT} {k : Nat} {f : Addr} {fd : FuncData} {ps ks : List Str} {sp : Sp} {E : XK} {x : Str} {p pos : Pos} {e : Expr} {es : List Expr} {kws : List Keyword} {t tk : TA} {g : List Value → List Value → List Value} {gV : List V → List V → List V}
theorem run_fng {pins : List (Addr × Obj)} {σ : L2.St} {H : Hp} {s : Shared} {Q : VK} {us ws : List Value} {vs zs : List V} (Fn : FnG X.prog X.w X.K X.mg X.base CX k f fd ps sp) (hg : X.A.guards = some []) (hr : Room k X.A) (hb : KBinds X.K fd ps ks g gV) (hx : Passes CX X E)
    (I : Inv X pins σ H s) (rv : Vals vs us) (rz : Vals zs ws) (h : sp (gV vs zs) H Q E) : wpAny (model X.prog X.w) X.A (call (.ref f) us (ks.zip ws)) (EP X pins σ Q) X.xe s := by
  have rr := hb.rel rv rz
  refine wpAny_call (codeAny_mono (Fn.go X.A X.stack s H ⟨us, ks.zip ws⟩ (g us ws) (gV vs zs) Q E hg hr I.env0 (hb.to s us ws I.kIn (by rw [← rr.length]; exact Fn.len _ _ _ _ h)) rr h) fun r s' hq => ?_)
  cases r with
  | error e => exact hx pins σ H s e s' I hq
  | ok fl =>
    cases fl with
    | ret u => exact I.after hq
    | _ => exact False.elim hq
/-- every parameter by its place -/
theorem kbinds_pos {K : PySem.W.Frag} (h : ∀ us : List Value, us.length = ps.length → bindArgs fd ⟨us, []⟩ = pure (ps.zip us)) : KBinds K fd ps [] (fun us _ => us) (fun vs _ => vs) :=
  ⟨fun s us ws _ hl => .of_eq (h us hl), fun rv _ => rv⟩
theorem pe_callG (Fn : FnG X.prog X.w X.K X.mg X.base CX k f fd ps sp) (hgd : X.A.guards = some []) (hr : Room k X.A) (hg : Gl X x) (hm : X.mg x = some (.ref f)) (hk : PySem.W.keepIn X.K (.ref f) = true) (hb : KBinds X.K fd ps [] g gV) (hx : Passes CX X E)
    (ha : PA X (e :: es) t) (hdb : (x == ("__debug__" : Str)) = false) (he : starEach (e :: es) X.env = (false, eval e X.env) :: starEach es X.env) (hpl : (backTo pos (starEach es X.env)).any (·.1) = false) :
    PE X (.Call (.Name x p) (e :: es) [] pos) (fun σ H Q => t σ H fun vs H1 => sp (gV vs []) H1 Q E) := by
  refine ⟨fun pins s σ H Q I h => ?_⟩
  refine wpAny_Call_Name_kw (ld_glob I hg hm ?_ hdb)
  refine PySem.W.callWith_K (h₀ := X.base) I.ok.mod.kin hk (thn (ha.run pos pins s σ H _ I h) fun us s1 ⟨vs, H1, I1, r, q⟩ => ⟨I1.kIn, ?_⟩) he hpl
  exact run_fng (ws := []) Fn hgd hr hb hx I1 r .nil q
theorem pe_callG0 (Fn : FnG X.prog X.w X.K X.mg X.base CX k f fd ps sp) (hgd : X.A.guards = some []) (hr : Room k X.A) (hg : Gl X x) (hm : X.mg x = some (.ref f)) (hk : PySem.W.keepIn X.K (.ref f) = true) (hb : KBinds X.K fd ps [] g gV) (hx : Passes CX X E)
    (hdb : (x == ("__debug__" : Str)) = false) : PE X (.Call (.Name x p) [] [] pos) (fun σ H Q => sp (gV [] []) H Q E) := by
  refine ⟨fun pins s σ H Q I h => ?_⟩
  refine wpAny_Call_Name_kw (ld_glob I hg hm ?_ hdb)
  exact PySem.W.callWith_K0 I.kIn hk (run_fng (us := []) (ws := []) Fn hgd hr hb hx I .nil .nil h)
/-- f(k = v, ..) -/
theorem pe_callGK (Fn : FnG X.prog X.w X.K X.mg X.base CX k f fd ps sp) (hgd : X.A.guards = some []) (hr : Room k X.A) (hg : Gl X x) (hm : X.mg x = some (.ref f)) (hk : PySem.W.keepIn X.K (.ref f) = true) (hb : KBinds X.K fd ps ks g gV) (hx : Passes CX X E)
    (hkw : PK X kws tk) (hdb : (x == ("__debug__" : Str)) = false)
    (hall : (backToKw pos (keywordEach kws X.env)).all (·.1.isSome) = true) (hks : (backToKw pos (keywordEach kws X.env)).filterMap (·.1) = ks)
    (hpl : ((backTo pos (starEach [] X.env)).any (·.1) || (backToKw pos (keywordEach kws X.env)).any (·.1.isNone)) = false) :
    PE X (.Call (.Name x p) [] kws pos) (fun σ H Q => tk σ H fun zs H1 => sp (gV [] zs) H1 Q E) := by
  refine ⟨fun pins s σ H Q I h => ?_⟩
  refine wpAny_Call_Name_kw (ld_glob I hg hm ?_ hdb)
  refine PySem.W.callWith_KW0 (h₀ := X.base) I.ok.mod.kin hk hall (thn (hkw.run pos pins s σ H _ I h) fun ws s2 ⟨zs, H2, I2, rz, q2⟩ => ⟨I2.kIn, ?_⟩) hpl
  rw [hks]
  exact run_fng (us := []) Fn hgd hr hb hx I2 .nil rz q2
end

/-! ### the promise of a def over data -/
def eCallD (n : Nat) (m : List D → W D) (ms : Rho → W (List D)) (ρ : Rho) : W D := W.bnd (ms ρ) fun ds => W.req (ds.length = n) (m ds)
def pick {α : Type} (is : List Nat) (xs : List α) : List α := is.filterMap fun i => xs[i]?
def eCallK (is : List Nat) (n : Nat) (m : List D → W D) (ms : Rho → W (List D)) (ρ : Rho) : W D := W.bnd (ms ρ) fun ds => W.req ((pick is ds).length = n) (m (pick is ds))
def spD (K : PySem.W.Frag) (n : Nat) (m : List D → W D) : Sp := fun vs H Qh _ => vs.length = n ∧ ∃ F ds μ Q ED, IsL K F vs ds ∧ Rep K F H μ ∧ NoX ED ∧ m ds μ Q ED ∧ Back K F (Is K) Q Qh
def startD (n : Nat) (ds : List D) : Rho := ds.map some ++ List.replicate (n - ds.length) none
theorem env_start {K : PySem.W.Frag} {F : Hp} {N : List Str} {vs : List V} {ds : List D} (h : IsL K F vs ds) : EnvR K F (start N vs) (startD N.length ds) := by
  have hl := h.length
  refine ⟨by simp [L2.start, startD, hl], fun i d e => ?_⟩
  unfold startD at e
  unfold L2.start
  by_cases hi : i < ds.length
  · rw [List.getElem?_append_left (by simpa using hi), List.getElem?_map] at e
    rw [List.getElem?_append_left (by simpa [hl] using hi), List.getElem?_map]
    cases q : ds[i]? with
    | none => rw [q] at e; cases e
    | some d' =>
      rw [q] at e
      cases e
      obtain ⟨v, h1, h2⟩ := h.get q
      exact ⟨v, by rw [h1]; rfl, h2⟩
  · rw [List.getElem?_append_right (by simpa using hi), List.getElem?_replicate] at e
    split at e <;> cases e
/-- what a def is: its body from its arguments -/
def bodyD (n : Nat) (m : Rho → W Out) (ds : List D) : W D := W.bnd (m (startD n ds)) fun o => match o with
  | .nx _ => W.ret .non
  | .rt d => W.ret d
  | _ => W.bad
section
variable {P : Program} {w : World} {K : PySem.W.Frag} {mg : Str → Option Value} {base : Heap} {k : Nat}
theorem fnd_of {x qual : Str} {st : Stmt} {f : Addr} {fd : FuncData} {N ps : List Str} {m : Rho → W Out} (Fn : Fun K x qual st f fd) (S : FnScope N ps (defScope st))
    (hbody : ∀ (cdv : Value) (A : Around) (outer : List Env) (s : Shared) (H : Hp) (E : XK), A.guards = some [] → Room k (A.deeper (envOfC qual (defScope st) s.heap.objs.size f cdv)) →
      DSs (cxOf CX0 P w K mg base N qual (defScope st) f cdv A outer s H E).nox none (defBody st) m) : FnG P w K mg base CX0 (k + 1) f fd ps (spD K ps.length (bodyD N.length m)) := by
  refine fng_of Fn S (fun vs H Q E h => h.1) fun cdv A outer s H vs Qh E hg hr h => ?_
  obtain ⟨_, F, ds, μ, Q, ED, il, rep, nox, hm, bk⟩ := h
  refine ⟨_, (hbody cdv A outer s H E hg hr).nox, ?_⟩
  refine ⟨F, startD N.length ds, μ, _, ED, env_start il, rep, nox, hm, fun F1 H1 μ1 σ1 ρ1 s1 r1 n1 q1 => bk _ _ _ F1 μ1 s1 r1 .non q1, fun F1 H1 μ1 v d s1 r1 i1 q1 => bk _ _ _ F1 μ1 s1 r1 i1 q1, fun F1 H1 μ1 σ1 ρ1 s1 r1 n1 q1 => q1, fun F1 H1 μ1 σ1 ρ1 s1 r1 n1 q1 => q1⟩
end
section
variable {X : Cx} {k : Nat} {f : Addr} {fd : FuncData} {ps ks : List Str} {x : Str} {p pos : Pos} {e : Expr} {es : List Expr} {kws : List Keyword} {m : List D → W D} {n : Nat} {ms : Rho → W (List D)}
theorem de_call (Fn : FnG X.prog X.w X.K X.mg X.base CX0 k f fd ps (spD X.K n m)) (hgd : X.A.guards = some []) (hr : Room k X.A) (hg : Gl X x) (hm : X.mg x = some (.ref f)) (hk : PySem.W.keepIn X.K (.ref f) = true) (hb : KBinds X.K fd ps [] (fun us _ => us) (fun vs _ => vs))
    (hdb : (x == ("__debug__" : Str)) = false) (ha : DA X none (e :: es) ms) (he : starEach (e :: es) X.env = (false, eval e X.env) :: starEach es X.env) (hpl : (backTo pos (starEach es X.env)).any (·.1) = false) :
    DE X none (.Call (.Name x p) (e :: es) [] pos) (eCallD n m ms) := by
  refine PE.imp (pe_callG Fn hgd hr hg hm hk hb (pass0 (X := X)) ha hdb he hpl) fun σ H Qh h => ?_
  obtain ⟨F, ρ, μ, Q, ED, env, rep, lnk, hm, bk⟩ := h
  refine ⟨F, ρ, μ, _, ED, env, rep, lnk, hm, fun v1 H1 d1 F1 μ1 s1 r1 i1 q1 => ⟨by rw [i1.length]; exact q1.1, ?_⟩⟩
  exact ⟨F1, d1, μ1, Q, ED, i1, r1, lnk, q1.2, fun v2 H2 d2 F2 μ2 s2 r2 i2 q2 => bk v2 H2 d2 F2 μ2 (s1.trans s2) r2 i2 q2⟩
/-- keywords in an order of their own: g puts them in the parameters' order -/
def liftK := liftA
abbrev DK (X : Cx) (Eh : Option XK) (e : List Keyword) (m : Rho → W (List D)) : Prop := PK X e (liftA X.K Eh m)
theorem PK.imp {X : Cx} {e : List Keyword} {t t' : TA} (h : PK X e t) (i : ∀ σ H Q, t' σ H Q → t σ H Q) : PK X e t' := ⟨fun pos pins s σ H Q I q => h.run pos pins s σ H Q I (i _ _ _ q)⟩
theorem dk_nil {Eh : Option XK} : DK X Eh [] aNil := PK.imp pk_nil fun σ H Qh ⟨F, ρ, μ, Q, ED, env, rep, lnk, hm, bk⟩ => bk _ H _ F μ (Same.refl F) rep .nil hm
theorem dk_cons {Eh : Option XK} {nm : Option Str} {kpos : Pos} {me : Rho → W D} (ha : DE X Eh e me) (hr : DK X Eh kws ms) : DK X Eh (⟨nm, e, kpos⟩ :: kws) (aCons me ms) := by
  refine PK.imp (pk_cons ha hr) fun σ H Qh h => ?_
  obtain ⟨F, ρ, μ, Q, ED, env, rep, lnk, hm, bk⟩ := h
  refine ⟨F, ρ, μ, _, ED, env, rep, lnk, hm, fun v1 H1 d1 F1 μ1 s1 r1 i1 q1 => ?_⟩
  refine ⟨F1, ρ, μ1, _, ED, env.up s1, r1, lnk.up s1, q1, fun v2 H2 d2 F2 μ2 s2 r2 i2 q2 => ?_⟩
  exact bk _ H2 _ F2 μ2 (s1.trans s2) r2 (.cons (i1.up s2) i2) q2
/-- a permutation of the keywords' values, by places -/
theorem pick_vals {is : List Nat} {vs : List V} {us : List Value} (h : Vals vs us) : Vals (pick is vs) (pick is us) := by
  unfold pick
  induction is with
  | nil => exact .nil
  | cons i r ih =>
    rw [List.filterMap_cons, List.filterMap_cons]
    cases e : vs[i]? with
    | none => rw [h.none_of e]; exact ih
    | some v =>
      obtain ⟨u, e2, r2⟩ := h.get e
      rw [e2]
      exact .cons r2 ih
theorem pick_isL {K : PySem.W.Frag} {F : Hp} {is : List Nat} {vs : List V} {ds : List D} (h : IsL K F vs ds) : IsL K F (pick is vs) (pick is ds) := by
  unfold pick
  induction is with
  | nil => exact .nil
  | cons i r ih =>
    rw [List.filterMap_cons, List.filterMap_cons]
    cases e : ds[i]? with
    | none =>
      have : vs[i]? = none := List.getElem?_eq_none (by rw [h.length]; exact List.getElem?_eq_none_iff.mp e)
      rw [this]
      exact ih
    | some d =>
      obtain ⟨v, e2, i2⟩ := h.get e
      rw [e2]
      exact .cons i2 ih
/-- by keywords alone -/
def gKw {α : Type} (is : List Nat) (us ws : List α) : List α := match us with
  | [] => pick is ws
  | _ => []
theorem kbinds_kw {K : PySem.W.Frag} {is : List Nat} (h0 : ps ≠ []) (h : ∀ ws : List Value, (pick is ws).length = ps.length → bindArgs fd ⟨[], ks.zip ws⟩ = pure (ps.zip (pick is ws))) : KBinds K fd ps ks (gKw is) (gKw is) := by
  refine ⟨fun s us ws _ hl => ?_, fun {vs us zs ws} rv rz => ?_⟩
  · cases us with
    | nil => exact .of_eq (h ws hl)
    | cons u r => exact absurd (List.length_eq_zero_iff.mp hl.symm) h0
  · cases rv with
    | nil => exact pick_vals rz
    | cons _ _ => exact .nil
theorem de_callK {is : List Nat} (Fn : FnG X.prog X.w X.K X.mg X.base CX0 k f fd ps (spD X.K n m)) (hgd : X.A.guards = some []) (hr : Room k X.A) (hg : Gl X x) (hm : X.mg x = some (.ref f)) (hk : PySem.W.keepIn X.K (.ref f) = true) (hb : KBinds X.K fd ps ks (gKw is) (gKw is))
    (hdb : (x == ("__debug__" : Str)) = false) (ha : DK X none kws ms) (hall : (backToKw pos (keywordEach kws X.env)).all (·.1.isSome) = true) (hks : (backToKw pos (keywordEach kws X.env)).filterMap (·.1) = ks)
    (hpl : ((backTo pos (starEach [] X.env)).any (·.1) || (backToKw pos (keywordEach kws X.env)).any (·.1.isNone)) = false) :
    DE X none (.Call (.Name x p) [] kws pos) (eCallK is n m ms) := by
  refine PE.imp (pe_callGK Fn hgd hr hg hm hk hb (pass0 (X := X)) ha hdb hall hks hpl) fun σ H Qh h => ?_
  obtain ⟨F, ρ, μ, Q, ED, env, rep, lnk, hm, bk⟩ := h
  refine ⟨F, ρ, μ, _, ED, env, rep, lnk, hm, fun v1 H1 d1 F1 μ1 s1 r1 i1 q1 => ⟨by show (pick is v1).length = n; rw [(pick_isL i1).length]; exact q1.1, ?_⟩⟩
  exact ⟨F1, pick is d1, μ1, Q, ED, pick_isL i1, r1, lnk, q1.2, fun v2 H2 d2 F2 μ2 s2 r2 i2 q2 => bk v2 H2 d2 F2 μ2 (s1.trans s2) r2 i2 q2⟩
theorem de_call0 (Fn : FnG X.prog X.w X.K X.mg X.base CX0 k f fd ps (spD X.K 0 m)) (hgd : X.A.guards = some []) (hr : Room k X.A) (hg : Gl X x) (hm : X.mg x = some (.ref f)) (hk : PySem.W.keepIn X.K (.ref f) = true) (hb : KBinds X.K fd ps [] (fun us _ => us) (fun vs _ => vs))
    (hdb : (x == ("__debug__" : Str)) = false) : DE X none (.Call (.Name x p) [] [] pos) (fun _ => m []) := by
  refine PE.imp (pe_callG0 Fn hgd hr hg hm hk hb (pass0 (X := X)) hdb) fun σ H Qh h => ?_
  obtain ⟨F, ρ, μ, Q, ED, env, rep, lnk, hm, bk⟩ := h
  exact ⟨rfl, F, [], μ, Q, ED, .nil, rep, lnk, hm, bk⟩
end
/-- how the arguments of a def of the text bind -/
theorem Fun.kpos {K : PySem.W.Frag} {x qual : Str} {st : Stmt} {f : Addr} {fd : FuncData} {ps : List Str} (Fn : Fun K x qual st f fd)
    (h : ∀ (kV doc pm : Value) (an : Option Addr) (cdv ct : Value) (us : List Value), us.length = ps.length → bindArgs (PySem.W.fnOf x qual (defArgs st) (defBody st) (defScope st) .none kV doc pm an cdv ct) ⟨us, []⟩ = pure (ps.zip us)) : KBinds K fd ps [] (fun us _ => us) (fun vs _ => vs) := by
  obtain ⟨oc, od, kV, doc, pm, an, cdv, ct, osl, rfl, lk, hcd⟩ := Fn.ex
  exact kbinds_pos (h kV doc pm an cdv ct)
theorem Fun.kkw {K : PySem.W.Frag} {x qual : Str} {st : Stmt} {f : Addr} {fd : FuncData} {ps : List Str} (ks : List Str) (is : List Nat) (Fn : Fun K x qual st f fd) (h0 : ps ≠ [])
    (h : ∀ (kV doc pm : Value) (an : Option Addr) (cdv ct : Value) (ws : List Value), (pick is ws).length = ps.length → bindArgs (PySem.W.fnOf x qual (defArgs st) (defBody st) (defScope st) .none kV doc pm an cdv ct) ⟨[], ks.zip ws⟩ = pure (ps.zip (pick is ws))) : KBinds K fd ps ks (gKw is) (gKw is) := by
  obtain ⟨oc, od, kV, doc, pm, an, cdv, ct, osl, rfl, lk, hcd⟩ := Fn.ex
  exact kbinds_kw h0 (h kV doc pm an cdv ct)

/-! ### the law's end -/
/-- from an abstract heap that tells of the script alone -/
theorem law_run {P : Program} {w : World} {K : PySem.W.Frag} {mg mb : Str → Option Value} {k : Nat} {fa a : Addr} {fd : FuncData} {x : Str} {m : List D → W D} {s : Shared} {ns : List Int} {H : Hp} {ob : Obj}
    (inK : K.In s.heap) (gl : s.heap.Ns mainGlobals mg) (bl : s.heap.Ns builtinsNs mb) (bb : ∀ x : Str, x ≠ "__name__" → mb x = bootBuiltins x) (lim : s.heap.NoLimit) (gens : s.gens = #[])
    (ho : s.heap.get? a = some ob) (hnd : ∀ es ep, ob.data ≠ .dict es ep) (hr : Room k callerA)
    (Fn : ∀ base : Heap, K.In base → base.Ns mainGlobals mg → FnG P w K mg base CX0 k fa fd [x] (spD K 1 m)) (hb : ∀ (s : Shared) (u : Value), BindsTo s fd ⟨[u], []⟩ [(x, u)])
    (hm : ∀ μ : Mem, (∀ b, μ b = none) → m [.lst (ns.map .int)] μ (fun d _ => d = .bl true) (fun _ _ => False))
    (hS : SqL K H a (ns.map V.int)) (hH : HOk P w H s.heap) (one : ∀ b, H b ≠ none → b = a ∧ K.lookup a = none ∧ ∃ xs, H b = some (.frz ob (.lst xs))) :
    codeAny (model P w) callerA (.call (.ref fa) ⟨[.ref a], []⟩) (fun r s' => r = .ok (.ret (.bool true)) ∧ OldK s.heap s'.heap ∧ s'.os = s.os ∧ AllBare s'.gens) s := by
  have out : ∀ {b : Addr} {o : Obj}, s.heap.get? b = some o → (b ≠ a ∨ K.lookup a ≠ none) → H b = none := fun {b o} e hb => by
    cases q : H b with
    | none => rfl
    | some u =>
      obtain ⟨h1, h2, _⟩ := one b (by rw [q]; exact Option.some_ne_none u)
      exact hb.elim (fun z => absurd h1 z) fun z => absurd h2 z
  have dic : ∀ {b : Addr} {mm : Str → Option Value}, s.heap.Ns b mm → (hidT s.heap H).Ns b mm := fun {b mm} ⟨o, es, ep, e, d, r⟩ => by
    refine ⟨o, es, ep, hidT_get e (out e (.inl fun z => ?_)), d, r⟩
    rw [z, ho] at e
    cases e
    exact hnd es ep d
  have inB : K.In (hidT s.heap H) := fun b o e => hidT_get (inK b o e) (by
    by_cases z : b = a
    · exact out (inK b o e) (.inr (by rw [← z, e]; exact Option.some_ne_none o))
    · exact out (inK b o e) (.inl z))
  have md : Mod K mg (hidT s.heap H) := ⟨inB, dic gl, ⟨mb, dic bl, bb⟩, by
    obtain ⟨mc, h1, h2⟩ := lim
    exact ⟨mc, dic h1, h2⟩⟩
  have e0 : Env0 P w K mg (hidT s.heap H) callerA [] s H := ⟨rfl, md, fun b o e => of_hidT e, Nat.le_of_eq (hidT_size _ _), trivial, fun b hb => (nomatch (show b ∈ ([] : List Addr) from hb)), hH, .of_eq gens⟩
  have isInts : ∀ (l : List Int), IsL K H (l.map V.int) (l.map .int) := fun l => by
    induction l with
    | nil => exact .nil
    | cons n r ih => exact .cons (.int n) ih
  have pr : spD K 1 m [.ref a] H (fun v _ => v = .bl true) fun _ _ _ => False :=
    ⟨rfl, H, [.lst (ns.map .int)], fun _ => none, _, _, .cons (.lst hS (isInts ns)) .nil, ⟨Same.refl H, fun _ _ e => nomatch e⟩, fun _ _ z => z, hm _ fun _ => rfl, fun v H' d F' μ' _ _ i q => by
      subst q
      exact is_bl i⟩
  refine codeAny_mono ((Fn _ inB (dic gl)).go callerA [] s H ⟨[.ref a], []⟩ [.ref a] [.ref a] _ _ rfl hr e0 (hb s (.ref a)) (.cons rfl .nil) pr) fun r s' hq => ?_
  match r, hq with
  | .ok (.ret u), ⟨v, H', os, bare, un, hok, rv, q⟩ =>
    have q' : v = .bl true := q
    subst q'
    cases rv
    refine ⟨rfl, OldK.of_keep fun b o e => ?_, os, bare⟩
    cases z : H b with
    | none => exact un.keep b o e z (fun hb => (nomatch (show b ∈ ([] : List Addr) from hb))) (fun hb => nomatch hb)
    | some u =>
      obtain ⟨_, _, xs, z2⟩ := one b (by rw [z]; exact Option.some_ne_none u)
      have e1 := (hH b _ z2).1
      have e2 := (hok b _ (un.frzs b _ _ z2)).1
      rw [e] at e1
      cases e1
      exact e2
theorem law_go {P : Program} {w : World} {K : PySem.W.Frag} {mg mb : Str → Option Value} {k : Nat} {fa a : Addr} {fd : FuncData} {x : Str} {m : List D → W D} {s : Shared} {vs : List Value} {ns : List Int}
    (inK : K.In s.heap) (gl : s.heap.Ns mainGlobals mg) (bl : s.heap.Ns builtinsNs mb) (bb : ∀ x : Str, x ≠ "__name__" → mb x = bootBuiltins x) (lim : s.heap.NoLimit) (gens : s.gens = #[])
    (ho : s.heap.get? a = some { cls := .type "list", data := .seq vs.toArray }) (hi : IntsAre vs ns) (hl : ns.length ≤ sizeLine) (hr : Room k callerA)
    (Fn : ∀ base : Heap, K.In base → base.Ns mainGlobals mg → FnG P w K mg base CX0 k fa fd [x] (spD K 1 m)) (hb : ∀ (s : Shared) (u : Value), BindsTo s fd ⟨[u], []⟩ [(x, u)])
    (hm : ∀ μ : Mem, (∀ b, μ b = none) → m [.lst (ns.map .int)] μ (fun d _ => d = .bl true) (fun _ _ => False)) :
    codeAny (model P w) callerA (.call (.ref fa) ⟨[.ref a], []⟩) (fun r s' => r = .ok (.ret (.bool true)) ∧ OldK s.heap s'.heap ∧ s'.os = s.os ∧ AllBare s'.gens) s := by
  have vals := vals_ints hi
  have hlen := hi.length
  cases hk : K.lookup a with
  | some o =>
    have e := inK a o hk
    rw [ho] at e
    cases e
    refine law_run (H := fun _ => none) inK gl bl bb lim gens ho (fun _ _ z => nomatch z) hr Fn hb hm (.inr ⟨_, vs.toArray, _, hk, rfl, rfl, rfl, ?_, by simpa using vals⟩) (fun b u z => nomatch z) fun b z => absurd rfl z
    rw [List.size_toArray, hlen]
    exact hl
  | none =>
    refine law_run (H := fun b => if b = a then some (.frz { cls := .type "list", data := .seq vs.toArray } (.lst (ns.map V.int))) else none) inK gl bl bb lim gens ho (fun _ _ z => nomatch z) hr Fn hb hm (.inl (.inr ⟨_, if_pos rfl⟩)) (fun b u z => ?_) fun b z => ?_
    · by_cases hba : b = a
      · have z' := (if_pos hba).symm.trans z
        cases z'
        subst hba
        exact ⟨ho, by rw [List.length_map]; exact hl, vs, _, vals, ho⟩
      · exact nomatch (if_neg hba).symm.trans z
    · by_cases hba : b = a
      · exact ⟨hba, hk, _, if_pos hba⟩
      · exact absurd (if_neg hba) z
/-- the goal that k_head leaves -/
theorem walkD {l : PySem.W.OpenLaw} {n k : Nat} {q : Program} {loose : List Str} {XP : (Str → Option Value) → Heap → Prop} {YP : World → Heap → Prop} {d : DefRec} {K : Params → PySem.W.Frag} {x : Str} {m : List D → W D}
    (hn : l.most = some n) (hn2 : n ≤ sizeLine) (hdf : d.params.defaults = []) (hr : Room k callerA) (hY : ∀ (w : World) (h : Heap), YP w h → (K w.params).In h)
    (Fn : ∀ (w : World) (mg : Str → Option Value) (fa : Addr) (h : Heap), (K w.params).In h → h.Ns mainGlobals mg → mg d.name = some (.ref fa) →
      ∃ fd : FuncData, (∀ (s : Shared) (u : Value), BindsTo s fd ⟨[u], []⟩ [(x, u)]) ∧ ∀ base : Heap, (K w.params).In base → base.Ns mainGlobals mg → FnG l.prog w (K w.params) mg base CX0 k fa fd [x] (spD (K w.params) 1 m))
    (hm : ∀ (ns : List Int) (μ : Mem), ns.length ≤ n → (∀ b, μ b = none) → m [.lst (ns.map .int)] μ (fun d _ => d = .bl true) (fun _ _ => False)) :
    PySem.W.WalkO q loose XP YP l.row.toRowW d [] (fun f vs => PySem.call f vs) := by
  refine Att.attach_call hn hdf fun w s₀ s₁ mg mb fa o pm cd doc a vs ns G Y ho hd hcd hmg hobj hints hlen hg => ?_
  have KX := hY w _ Y
  obtain ⟨fd, hb, hF⟩ := Fn w mg fa _ KX G.T.g hmg
  exact law_go KX G.T.g G.T.b G.T.builtins G.T.nolimit hg hobj hints (Nat.le_trans hlen hn2) hr hF hb fun μ h0 => hm ns μ hlen h0
end DL

namespace DL
open PySem PySem.Spec PyProof.Rows L2

/-! ### t[::-1] of a tuple -/
section
variable {prog : Program} {w : World} {A : Around} {E : Value → Shared → Prop} {s : Shared}
theorem back_pick (xs : Array Value) : ((List.range xs.size).filterMap fun (m : Nat) => xs[((xs.size : Int) - 1 + (m : Int) * -1).toNat]?).toArray = xs.toList.reverse.toArray := by
  have e : ((List.range xs.size).filterMap fun (m : Nat) => xs[((xs.size : Int) - 1 + (m : Int) * -1).toNat]?) = (List.range xs.size).filterMap ((fun i => xs[i]?) ∘ fun m => xs.size - 1 - m) := by
    have go : ∀ l : List Nat, (∀ m ∈ l, m < xs.size) → (l.filterMap fun (m : Nat) => xs[((xs.size : Int) - 1 + (m : Int) * -1).toNat]?) = l.filterMap ((fun i => xs[i]?) ∘ fun m => xs.size - 1 - m) := fun l => by
      induction l with
      | nil => intro _; rfl
      | cons m r ih =>
        intro hl
        have hm := hl m List.mem_cons_self
        have e1 : ((xs.size : Int) - 1 + (m : Int) * -1).toNat = xs.size - 1 - m := by omega
        rw [List.filterMap_cons, List.filterMap_cons, ih fun z hz => hl z (List.mem_cons_of_mem _ hz), e1]
        rfl
    exact go _ fun m hm => List.mem_range.mp hm
  rw [e, ← List.filterMap_map, PySem.W.krv_range, List.filterMap_reverse, PySem.W.krv_all]
theorem back_applied {sl : Addr} {vl vu vk : Value} {n : Nat} {Q : Int × Int × Nat → Shared → Prop} (hs : s.heap.IsSliceOf sl vl vu vk) (pl : IsPart vl none) (pu : IsPart vu none) (pk : IsPart vk (some (-1)))
    (h : Q ((n : Int) - 1, -1, n) s) : wpAny (model prog w) A (Builtin.Slice.sliceApplied (.ref sl) (pure (n : Int))) Q E s := by
  obtain ⟨os, hos, hcs, hds⟩ := id hs
  unfold Builtin.Slice.sliceApplied Builtin.Slice.sliceFields
  refine wpAny_bind (wpAny_bind (wpAny_field hos hds (x := vl) rfl (wpAny_bind (wpAny_field hos hds (x := vu) rfl (wpAny_bind (wpAny_field hos hds (x := vk) rfl (wpAny_pure ?_)))))))
  refine wpAny_bind (HT.slicePart_ pk ?_)
  show wpAny _ _ (if ((-1 : Int) == 0) = true then _ else _) _ _ s
  rw [if_neg (by decide)]
  refine wpAny_bind (HT.slicePart_ pl (wpAny_bind (HT.slicePart_ pu (wpAny_bind (wpAny_pure ?_)))))
  have pc : Builtin.Slice.slicePlaces ((n : Int) - 1) (-1) (-1) = n := by
    unfold Builtin.Slice.slicePlaces
    rw [if_neg (by decide), show (-(-1 : Int)) = 1 from rfl, Int.ediv_one]
    split <;> omega
  show wpAny _ _ (pure ((n : Int) - 1, (-1 : Int), Builtin.Slice.slicePlaces ((n : Int) - 1) (-1) (-1))) _ _ s
  rw [pc]
  exact wpAny_pure h
theorem tup_back {t sl : Addr} {items : Array Value} {vl vu vk : Value} {Q : Value → Shared → Prop} (ht : IsTup s.heap t items) (hs : s.heap.IsSliceOf sl vl vu vk) (pl : IsPart vl none) (pu : IsPart vu none) (pk : IsPart vk (some (-1)))
    (h : Q (.ref s.heap.objs.size) { s with heap := s.heap.push { cls := .type "tuple", data := .seq items.toList.reverse.toArray } }) (hz : items.size ≤ sizeLine) : wpAny (model prog w) A (getItem (.ref t) (.ref sl)) Q E s := by
  have hok : sizeOk (.seq items.toList.reverse.toArray) := by
    show items.toList.reverse.toArray.size ≤ sizeLine
    rw [List.size_toArray, List.length_reverse, Array.length_toList]
    exact hz
  obtain ⟨os, hos, hcs, hds⟩ := id hs
  unfold getItem
  try with_reducible refine wpAny_holding ?_
  first | refine wpAny_bind (wpAny_pure ?_) | skip
  refine wpAny_bind (wpAny_sequenceKey ht.typeIs (by decide) ?_)
  refine wpAny_bind (wpAny_callSpecial?_slot (name := Str.ofString "__getitem__") ht.typeIs PyProof.Rows.slot_tuple_getitem (wpAny_call_entry PyProof.Rows.slot_tuple_getitem ht.typeIs entry_tuple_getitem ?_ (args_tuple_getitem _ _)))
  show wpAny _ _ (Builtin.Tuple.tupleItemsOf (.ref t) >>= _) _ _ s
  refine wpAny_bind (tupleItemsOf_ ht (wpAny_bind (wpAny_typeOf ⟨os, hos, hcs⟩ ?_)))
  rw [if_pos (by decide)]
  refine wpAny_bind (back_applied hs pl pu pk ?_)
  show wpAny _ _ (if (((items.size : Int) - 1) == 0 && (-1 : Int) == 1 && items.size == items.size) = true then _ else _) _ _ s
  rw [if_neg (by rw [show ((-1 : Int) == 1) = false from by decide, Bool.and_false, Bool.false_and]; exact Bool.false_ne_true), back_pick]
  first
    | exact wpAny_bind (m := Builtin.Tuple.tupleExact _) (wpAny_newObj_type (wpAny_pure ⟨_, rfl, wpAny_pure h⟩) hok)
    | exact wpAny_bind (m := Builtin.Tuple.tupleExact _) (wpAny_newObj_type (wpAny_bind (wpAny_pure (wpAny_pure ⟨_, rfl, wpAny_pure h⟩))) hok)
    | exact wpAny_bind (wpAny_bind (m := Builtin.Tuple.tupleExact _) (wpAny_newObj_type (wpAny_pure (wpAny_pure ⟨_, rfl, wpAny_pure h⟩)) hok))
    | exact wpAny_bind (wpAny_bind (m := Builtin.Tuple.tupleExact _) (wpAny_newObj_type (wpAny_pure ⟨_, rfl, wpAny_pure h⟩) hok))
end
def tRevT (K : PySem.W.Frag) (te : TE) : TE := fun σ H Q => te σ H fun x H1 => ∃ a xs, x = .ref a ∧ ((SqL K H1 a xs ∧ ∀ p, H1 p = none → Q (.ref p) (upd H1 p (.lst xs.reverse))) ∨ (SqT K H1 a xs ∧ ∀ p, H1 p = none → Q (.ref p) (upd H1 p (.tup xs.reverse))))
theorem pe_revT {X : Cx} {e : Expr} {te : TE} {k : Nat} {p1 p2 p3 pos : Pos} (he : PE X e te) : PE X (.Subscript e (.Slice none none (some (.UnaryOp .USub (.Constant (.int 1) k p1) p2)) p3) pos) (tRevT X.K te) := by
  refine ⟨fun pins s σ H Q I h => ?_⟩
  refine Subscript_ (thn (he.run pins s σ H _ I h) fun v s1 ⟨x, H1, I1, r1, q1⟩ => ?_)
  obtain ⟨a, xs, rfl, hx⟩ := q1
  cases r1
  have step : PO X (some (.UnaryOp .USub (.Constant (.int 1) k p1) p2)) (tPart (tUn (rU fun i => .int (-i)) (tC (.int 1)))) := po_some (pe_un un_neg pe_int)
  refine wpAny_Slice (thn (po_none.run pins s1 σ H1 (fun o H2 => o = none ∧ H2 = H1) I1 ⟨rfl, rfl⟩) fun vl s2 ⟨l, H2, I2, pl, el, e2⟩ => ?_)
  subst el e2
  refine thn (po_none.run pins s2 σ H2 (fun o H3 => o = none ∧ H3 = H2) I2 ⟨rfl, rfl⟩) fun vu s3 ⟨u, H3, I3, pu, eu, e3⟩ => ?_
  subst eu e3
  refine thn (step.run pins s3 σ H3 (fun o H4 => o = some (-1) ∧ H4 = H3) I3 ⟨1, rfl, -1, rfl, rfl, rfl⟩) fun vs s4 ⟨o, H4, I4, pk, eo, e4⟩ => ?_
  subst eo e4
  have I5 : Inv X pins σ H4 { s4 with heap := s4.heap.push { cls := .type "slice", data := .fields #[vl, vu, vs] } } := I4.kept (t' := s4.toks) fun b ob q => Heap.get?_push_of_some _ q
  show wpAny (model X.prog X.w) X.A (subscriptTail e (.Slice none none (some (.UnaryOp .USub (.Constant (.int 1) k p1) p2)) p3) (.ref a) (.ref s4.heap.objs.size)) (EP X pins σ Q) X.xe { s4 with heap := s4.heap.push { cls := .type "slice", data := .fields #[vl, vu, vs] } }
  rcases hx with ⟨hx, q⟩ | ⟨hx, q⟩
  · obtain ⟨its, r, ht, hz⟩ := I5.list hx
    have hlen := r.length
    refine tail_any (ops := [.ref a, .ref s4.heap.objs.size]) ht.isList.typeIs PySem.slot_list_getitem.lookup ?_ (by with_unfolding_all rfl)
    refine wpAny_getItem_list_slice ht.isList (Heap.IsSliceOf.new _ vl vu vs) pl pu pk (by decide) ?_ (by rw [List.size_toArray]; omega)
    rw [PySem.W.krv_pick]
    refine ⟨.ref _, _, I5.laid (t' := s4.toks) (o := .lst xs.reverse) (fun b ob q => Heap.get?_push_of_some _ q) (Nat.le_refl _) ?_, rfl, q _ (I5.hok.fresh (Nat.le_refl _))⟩
    exact ⟨by rw [List.length_reverse]; exact hz, _, 0, r.reverse, Heap.get?_push_size _ rfl⟩
  · obtain ⟨its, r, ht, hz⟩ := I5.tuple hx
    have hlen := r.length
    refine tail_any (ops := [.ref a, .ref s4.heap.objs.size]) ht.typeIs PyProof.Rows.slot_tuple_getitem.lookup ?_ (by with_unfolding_all rfl)
    refine tup_back ht (Heap.IsSliceOf.new _ vl vu vs) pl pu pk ?_ (by rw [List.size_toArray]; omega)
    refine ⟨.ref _, _, I5.laid (t' := s4.toks) (o := .tup xs.reverse) (fun b ob q => Heap.get?_push_of_some _ q) (Nat.le_refl _) ?_, rfl, q _ (I5.hok.fresh (Nat.le_refl _))⟩
    exact ⟨by rw [List.length_reverse]; exact hz, _, r.reverse, IsTup.new _ _⟩
def revTD (x : D) : W D := match x with
  | .tup ds => W.ret (.tup ds.reverse)
  | x => revD x
theorem de_rev {X : Cx} {Eh : Option XK} {e : Expr} {m : Rho → W D} {k : Nat} {p1 p2 p3 pos : Pos} (h : DE X Eh e m) : DE X Eh (.Subscript e (.Slice none none (some (.UnaryOp .USub (.Constant (.int 1) k p1) p2)) p3) pos) (eUn revTD m) := by
  refine PE.imp (pe_revT h) fun σ H Qh h => ?_
  obtain ⟨F, ρ, μ, Q, ED, env, rep, lnk, hm, bk⟩ := h
  refine ⟨F, ρ, μ, _, ED, env, rep, lnk, hm, fun v1 H1 d1 F1 μ1 s1 r1 i1 q1 => ?_⟩
  have bk' : Back X.K F1 (Is X.K) Q Qh := fun v H' d F' μ' s' r' i' q' => bk v H' d F' μ' (s1.trans s') r' i' q'
  unfold revTD at q1
  split at q1
  · cases i1 with
    | tup hs hl => exact ⟨_, _, rfl, .inr ⟨sqt_up r1.sub hs, fun p hn => back_tup bk' r1 hn hl.rev q1⟩⟩
  · obtain ⟨ds, e1, q⟩ := opt_of q1
    obtain ⟨a, vs, rfl, h1, h2⟩ := ls_of r1 i1 e1
    exact ⟨a, vs, rfl, .inl ⟨h1, fun p hn => back_lst bk' r1 hn h2.rev q⟩⟩

/-! ### for over a list or a tuple -/
def iSeqH (K : PySem.W.Frag) (tl : TE) : TI := fun σ H R => tl σ H fun x H1 => ∃ a, x = .ref a ∧ (((∃ xs, SqL K H1 a xs) ∧ R (Itl K a) H1) ∨ ((∃ xs, SqT K H1 a xs) ∧ R (Itt K a) H1))
theorem pi_seq {X : Cx} {tg l : Expr} {tl : TE} (hl : PE X l tl) : PI X tg l (iSeqH X.K tl) := by
  refine ⟨fun pins s σ H R I h => ?_⟩
  refine thn (hl.run pins s σ H _ I h) fun v s1 ⟨x, H1, I1, r1, q1⟩ => ?_
  obtain ⟨a, rfl, q1⟩ := q1
  cases r1
  have fp1 : ∀ b ∈ [s1.heap.objs.size], FpOk X pins H1 b := fun b hb => by
    cases List.mem_singleton.mp hb
    exact I1.fpOk (Nat.le_refl _) (I1.hok.fresh (Nat.le_refl _))
  rcases q1 with ⟨⟨xs, hq⟩, q⟩ | ⟨⟨xs, hq⟩, q⟩
  · obtain ⟨its, rv, p, hz⟩ := I1.list hq
    exact wpAny_pyIter_list p.isList ⟨_, [s1.heap.objs.size], _, Itl X.K a, H1, rfl, I1.kept (t' := s1.toks) fun b o e => Heap.get?_push_of_some _ e, turn_list a _, ⟨_, Heap.get?_push_size _ rfl, rfl, rfl⟩, fp1, q⟩
  · obtain ⟨its, rv, p, hz⟩ := I1.tuple hq
    exact wpAny_pyIter_tuple (show s1.heap.IsTuple a its.toArray from p) ⟨_, [s1.heap.objs.size], _, Itt X.K a, H1, rfl, I1.kept (t' := s1.toks) fun b o e => Heap.get?_push_of_some _ e, turn_tuple a _, ⟨_, Heap.get?_push_size _ rfl, rfl, rfl⟩, fp1, q⟩
def iSeq (m : Rho → W D) (ρ : Rho) : W ItD := W.bnd (m ρ) fun d => match d with
  | .lst ds => W.ret ⟨ds, fun _ => True⟩
  | .tup ds => W.ret ⟨ds, fun _ => True⟩
  | .obj a => W.bnd W.get fun μ => W.bnd (W.opt (lsOf (.obj a) μ)) fun ds => W.ret ⟨ds, fun μ' => μ' a = some (.ml ds)⟩
  | _ => W.bad
theorem itIs_obj {K : PySem.W.Frag} {F : Hp} {a : Addr} {ds : List D} : ItIs K F (Itl K a) ⟨ds, fun μ' => μ' a = some (.ml ds)⟩ := by
  refine ⟨fun i F2 H2 μ2 s2 r2 hc hi => ?_, fun i F2 H2 μ2 x H3 s2 r2 hc hb y => ?_, fun F2 H2 μ2 s2 r2 hc => ?_⟩
  · obtain ⟨_, us, h3, h4⟩ := r2.mem a _ hc
    have hl := h4.length
    have hi' : i < ds.length := hi
    exact ⟨us, us[i]'(by omega), .inl (.inl h3), List.getElem?_eq_getElem (by omega)⟩
  · obtain ⟨_, us, h3, h4⟩ := r2.mem a _ hc
    obtain ⟨e, y⟩ := y
    subst e
    obtain ⟨d, h5, h6⟩ := h4.getV (y us (.inl (.inl h3)))
    exact ⟨F2, d, Same.refl _, r2, h5, h6⟩
  · obtain ⟨_, us, h3, h4⟩ := r2.mem a _ hc
    exact ⟨us, .inl (.inl h3), by rw [h4.length]; exact Nat.le_refl _⟩
theorem di_seq {X : Cx} {Eh : Option XK} {tg e : Expr} {m : Rho → W D} (h : DE X Eh e m) : DI X Eh tg e (iSeq m) := by
  refine PI.imp (pi_seq h) fun σ H R h => ?_
  obtain ⟨F, ρ, μ, Q, ED, env, rep, lnk, hm, bk⟩ := h
  refine ⟨F, ρ, μ, _, ED, env, rep, lnk, hm, fun v1 H1 d1 F1 μ1 s1 r1 i1 q1 => ?_⟩
  cases i1 with
  | lst hs hl => exact ⟨_, rfl, .inl ⟨⟨_, sql_up r1.sub hs⟩, bk _ _ F1 μ1 _ s1 r1 (itIs_list (fun F2 H2 μ2 s2 r2 _ => sql_up r2.sub (sql_up s2 hs)) hl) q1⟩⟩
  | tup hs hl => exact ⟨_, rfl, .inr ⟨⟨_, sqt_up r1.sub hs⟩, bk _ _ F1 μ1 _ s1 r1 (itIs_tup hs hl) q1⟩⟩
  | obj a =>
    obtain ⟨ds, e1, q⟩ := opt_of q1
    obtain ⟨b, vs, eb, h1, h2⟩ := ls_of r1 (.obj a) e1
    cases eb
    exact ⟨_, rfl, .inl ⟨⟨_, h1⟩, bk _ _ F1 μ1 _ s1 r1 itIs_obj q⟩⟩
  | _ => exact q1.elim

/-! ### the built-ins' names -/
theorem bt_len : bootBuiltins "len" = some (.builtin "len") := by decide +kernel
theorem bt_sum : bootBuiltins "sum" = some (.builtin "sum") := by decide +kernel
theorem bt_min : bootBuiltins "min" = some (.builtin "min") := by decide +kernel
theorem bt_max : bootBuiltins "max" = some (.builtin "max") := by decide +kernel
theorem bt_repr : bootBuiltins "repr" = some (.builtin "repr") := by decide +kernel
theorem bt_all : bootBuiltins "all" = some (.builtin "all") := by decide +kernel
theorem bt_any : bootBuiltins "any" = some (.builtin "any") := by decide +kernel
theorem bt_sorted : bootBuiltins "sorted" = some (.builtin "sorted") := by decide +kernel
theorem bt_isinstance : bootBuiltins "isinstance" = some (.builtin "isinstance") := by decide +kernel
theorem bt_list : bootBuiltins "list" = some (.type "list") := by decide +kernel
theorem bt_tuple : bootBuiltins "tuple" = some (.type "tuple") := by decide +kernel
theorem bt_int : bootBuiltins "int" = some (.type "int") := by decide +kernel
theorem bt_str : bootBuiltins "str" = some (.type "str") := by decide +kernel
theorem bt_bool : bootBuiltins "bool" = some (.type "bool") := by decide +kernel
theorem bt_dict : bootBuiltins "dict" = some (.type "dict") := by decide +kernel
end DL

/-! DLi: a list times a number, isinstance -/
namespace DL
open PySem PySem.Spec PyProof.Rows L2

theorem IsL.rep {K : PySem.W.Frag} {F : Hp} {vs : List V} {ds : List D} (h : IsL K F vs ds) : ∀ k : Nat, IsL K F (List.replicate k vs).flatten (List.replicate k ds).flatten
  | 0 => .nil
  | k + 1 => by
    rw [List.replicate_succ, List.replicate_succ, List.flatten_cons, List.flatten_cons]
    exact h.app (h.rep k)
def rRepR (K : PySem.W.Frag) : R2 := fun x y H Q => ∃ l k xs, x = .ref l ∧ y = .int k ∧ SqL K H l xs ∧ -(2 ^ 62) ≤ k ∧ k < 2 ^ 62 ∧ xs.length * k.toNat ≤ sizeLine ∧ ∀ p, H p = none → Q (.ref p) (upd H p (.lst (List.replicate k.toNat xs).flatten))
theorem op_repR {X : Cx} : OpR X (binaryOp .Mult) (rRepR X.K) := by
  intro pins s σ H x y v u Q I rx ry h
  obtain ⟨l, k, xs, rfl, rfl, hs, h1, h2, hz, q⟩ := h
  obtain rfl : v = Value.ref l := rx
  obtain ⟨t, rfl⟩ : ∃ t, u = Value.int k t := ry
  obtain ⟨its, rv, ⟨⟨cls, dd, data, sl⟩, n, ho, hc, hdn, hd⟩, hlen⟩ := I.list hs
  have hc1 : cls = Value.type "list" := hc
  have hd1 : data = Data.seq its.toArray n := hd
  subst hc1 hd1
  have hl := rv.length
  have hz' : its.length * k.toNat ≤ 2 ^ 24 := by rw [← hl]; exact hz
  have hz2 : its.toArray.size * k.toNat ≤ 2 ^ 24 := by rw [List.size_toArray]; exact hz'
  refine wpAny_binaryOp_repeat_ref (T := "list") (U := "int") (by decide) ⟨_, ho, rfl⟩ (fun s' => typeIs_int s' k t) noFill_list_mul F.fills_int_mul F.slot_int_rmul repeat_list F.slot_int_index.lookup
    (call_meets F.slot_int_rmul (typeIs_int s k t) F.entry_int_rmul (F.args_int_rmul_2 _ _) (lm_int_rmul_list_any k t l its.toArray n dd sl)
      ⟨ho, rfl, ⟨_, ho, rfl⟩, call_meets F.slot_list_mul ⟨_, ho, rfl⟩ F.entry_list_mul (F.args_list_mul_2 _ _)
        (lm_list_mul_any l its.toArray n dd sl k t (by simp [Builtin.List.listFitsIndex]; omega) (by omega) (by simp [Builtin.List.listTooLong, sizeLine]; omega))
        ⟨ho, ?_⟩⟩)
  have e : List.foldl (fun x1 x2 => x1 ++ x2) #[] (List.replicate (if its.toArray.isEmpty = true then 0 else k.toNat) its.toArray) = (List.replicate k.toNat its).flatten.toArray := by
    rw [listMul_foldl_if]
  rw [e]
  exact ⟨.ref s.heap.objs.size, _, I.lnew (t' := s.toks) (rv.rep k.toNat) (by rw [lm_len_rep_flat, Nat.mul_comm]; exact hz), rfl, q _ I.fresh⟩
/-- a text so many times -/
def strRep (s : Str) (k : Int) : Str := ⟨(List.replicate k.toNat s.cps.toList).flatten.toArray⟩
theorem foldl_arr : ∀ (m : Nat) (a b : Array Nat), ((List.replicate m a).foldl (· ++ ·) b).toList = b.toList ++ (List.replicate m a.toList).flatten
  | 0, a, b => by simp
  | m + 1, a, b => by
    rw [List.replicate_succ, List.foldl_cons, foldl_arr m a (b ++ a), List.replicate_succ, List.flatten_cons, Array.toList_append, List.append_assoc]
theorem strRep_mul (s : Str) (k : Int) : Txt.mul s k = strRep s k := by
  obtain ⟨⟨l⟩⟩ := s
  unfold Txt.mul strRep
  split
  · rename_i h
    have : k.toNat = 0 := by omega
    rw [this]
    rfl
  · split
    · rename_i h1 h2
      rw [Bool.or_eq_true] at h2
      rcases h2 with h2 | h2
      · rw [eq_of_beq h2]
        simp
      · have : l = [] := by
          have := eq_of_beq h2
          exact List.eq_nil_of_length_eq_zero (by simpa [Str.length] using this)
        subst this
        have e : (List.replicate k.toNat ([] : List Nat)).flatten = [] := by simp
        simp only [e]
    · congr 1
      apply Array.ext'
      rw [foldl_arr]
      simp
def rRepS : R2 := fun x y H Q => ∃ (s : Str) (k : Int), x = .str s ∧ y = .int k ∧ (-(2 ^ 62) ≤ k ∧ k < 2 ^ 31 ∧ s.length * k.toNat ≤ 1000000 ∧ s.length ≤ 1000000) ∧ Q (.str (strRep s k)) H
theorem op_repS {X : Cx} : OpR X (binaryOp .Mult) rRepS := by
  intro pins s σ H x y v u Q I rx ry h
  obtain ⟨a, k, rfl, rfl, ⟨h1, h2, h3, h4⟩, q⟩ := h
  obtain ⟨t, rfl⟩ := rx
  obtain ⟨t', rfl⟩ := ry
  refine SB.mul ⟨?_, fun hk _ => ?_, fun hk _ => ?_⟩ fun t' k' => ⟨.str (strRep a k), H, I.tok _, by rw [strRep_mul]; exact ⟨_, rfl⟩, q⟩
  · rw [Bool.or_eq_false_iff]
    exact ⟨decide_eq_false (by omega), decide_eq_false (by omega)⟩
  · have hd : (4294967296 : Int) ≤ (2 ^ 63 - 1) / k := by
      rw [Int.le_ediv_iff_mul_le (by omega)]
      have : 4294967296 * k ≤ 4294967296 * 2147483647 := Int.mul_le_mul_of_nonneg_left (by omega) (by decide)
      omega
    omega
  · unfold Builtin.Str.tooLong
    simp only [decide_eq_false_iff_not]
    have : sizeLine = 16777216 := by first | rfl | decide
    omega
def mulAD : D → D → W D
  | .int i, .int j => W.req (CMul i j) (W.ret (.int (i * j)))
  | .str s, .int k => W.req (-(2 ^ 62) ≤ k ∧ k < 2 ^ 31 ∧ s.length * k.toNat ≤ 1000000 ∧ s.length ≤ 1000000) (W.ret (.str (strRep s k)))
  | .lst xs, .int k => W.req (-(2 ^ 62) ≤ k ∧ k < 2 ^ 62 ∧ xs.length * k.toNat ≤ sizeLine) (W.ret (.lst (List.replicate k.toNat xs).flatten))
  | _, _ => W.bad
def rMulA (K : PySem.W.Frag) : R2 := fun x y H Q => (rI CMul fun i j => .int (i * j)) x y H Q ∨ (rRepS x y H Q ∨ rRepR K x y H Q)
theorem op_mulA {X : Cx} : OpR X (binaryOp .Mult) (rMulA X.K) := op_mul.or (op_repS.or op_repR)
theorem opd_mulA {K : PySem.W.Frag} : OpD K (rMulA K) mulAD := by
  intro F H μ x y dx dy Q ED Qh r ix iy h bk
  unfold mulAD at h
  split at h
  · cases ix; cases iy
    exact .inl ⟨_, _, rfl, rfl, h.1, back_is bk r (.int _) h.2⟩
  · cases ix; cases iy
    exact .inr (.inl ⟨_, _, rfl, rfl, h.1, back_is bk r (.str _) h.2⟩)
  · cases iy
    obtain ⟨⟨h1, h2, h3⟩, q⟩ := h
    cases ix with
    | lst hs hl => exact .inr <| .inr ⟨_, _, _, rfl, rfl, sql_up r.sub hs, h1, h2, by rw [hl.length]; exact h3, fun p hn => back_lst bk r hn (hl.rep _) q⟩
  · exact h.elim

/-! ### isinstance(x, c), c a built-in class -/
def tyM (μ : Mem) : D → Option String
  | .non => some "NoneType"
  | .bl _ => some "bool"
  | .int _ => some "int"
  | .str _ => some "str"
  | .tup _ => some "tuple"
  | .lst _ => some "list"
  | .dct _ => some "dict"
  | .obj a => (match μ a with
    | some (.ml _) => some "list"
    | some (.md _) => some "dict"
    | none => none)
  | .ty _ => none
def isiD : List D → W D
  | [x, .ty n] => W.bnd W.get fun μ => W.bnd (W.opt (tyM μ x)) fun t => W.bnd (W.opt (kitB t n)) fun b => W.ret (.bl b)
  | _ => W.bad
theorem tyX_of {K : PySem.W.Frag} {F H : Hp} {μ : Mem} {v : V} {d : D} {t : String} (r : Rep K F H μ) (i : Is K F v d) (h : tyM μ d = some t) : TyX K H v (.type t) := by
  cases i with
  | non => cases h; exact .base .non
  | bl b => cases h; exact .base (.bl b)
  | int b => cases h; exact .base (.int b)
  | str b => cases h; exact .base (.str b)
  | tup hs hl =>
    cases h
    rcases sqt_up r.sub hs with (e | ⟨o, e⟩) | ⟨o, its, n, e, c, _⟩
    · exact .base (.tup e)
    · exact .fTuple e
    · exact .kTuple e c
  | lst hs hl =>
    cases h
    rcases sql_up r.sub hs with (e | ⟨o, e⟩) | ⟨o, its, n, e, c, _⟩
    · exact .base (.lst e)
    · exact .base (.frz e)
    · exact .kList e c
  | dct hs hk hl => cases h; exact .base (.dK (r.sub _ _ hs))
  | obj a =>
    unfold tyM at h
    simp only at h
    split at h
    · rename_i ds e
      cases h
      obtain ⟨_, vs, h3, h4⟩ := r.mem a _ e
      exact .base (.lst h3)
    · rename_i ds e
      cases h
      obtain ⟨_, vs, h3, h4⟩ := r.mem a _ e
      exact .base (.dK h3)
    · cases h
  | ty n => cases h
theorem is_ty {K : PySem.W.Frag} {F : Hp} {v : V} {n : String} (h : Is K F v (.ty n)) : v = .ty n := by
  cases h
  rfl
theorem cd_isi {K : PySem.W.Frag} : CallD K (rIsi K) isiD := by
  intro F H μ xs ds Q ED Qh r il h bk
  unfold isiD at h
  split at h
  · obtain ⟨v, us, rfl, i, il'⟩ := isL_cons il
    obtain ⟨w, us', rfl, j, il''⟩ := isL_cons il'
    cases il''
    cases is_ty j
    obtain ⟨t, et, h⟩ := opt_of h
    obtain ⟨b, eb, q⟩ := opt_of h
    exact ⟨v, _, _, _, b, rfl, .ty _, tyX_of r i et, kit_ty eb, back_is bk r (.bl _) q⟩
  · exact h.elim
end DL

/-! DLj: dicts with keys of numbers and texts; insert, pop at a place -/
namespace DL
open PySem PySem.Spec PyProof.Rows L2

def keyOf : D → Option Key
  | .int i => some (.inl i)
  | .str s => some (.inr s)
  | _ => none
theorem key_is {K : PySem.W.Frag} {F : Hp} {v : V} {d : D} {k : Key} (i : Is K F v d) (h : keyOf d = some k) : v = kV k := by
  cases i with
  | int j => cases h; rfl
  | str j => cases h; rfl
  | _ => cases h
def valD (kvs : List (Key × D)) (k : Key) : Option D := (kvs.find? fun kv => decide (kv.1 = k)).map (·.2)
def putD (kvs : List (Key × D)) (k : Key) (v : D) : List (Key × D) := if kvs.any (fun kv => decide (kv.1 = k)) then kvs.map fun kv => if kv.1 = k then (kv.1, v) else kv else kvs ++ [(k, v)]
/-- the pairs ks are the pairs kvs -/
inductive KvIs (K : PySem.W.Frag) (F : Hp) : List (Key × V) → List (Key × D) → Prop
  | nil : KvIs K F [] []
  | cons {k : Key} {v : V} {d : D} {ks : List (Key × V)} {ds : List (Key × D)} : Is K F v d → KvIs K F ks ds → KvIs K F ((k, v) :: ks) ((k, d) :: ds)
theorem kvIs_of {K : PySem.W.Frag} {F : Hp} : ∀ {ks : List (Key × V)} {ds : List (Key × D)}, ks.map (·.1) = ds.map (·.1) → IsL K F (ks.map (·.2)) (ds.map (·.2)) → KvIs K F ks ds
  | [], [], _, _ => .nil
  | [], _ :: _, h, _ => by cases h
  | _ :: _, [], h, _ => by cases h
  | (k, v) :: ks, (k', d) :: ds, h, hl => by
    rw [List.map_cons, List.map_cons] at h
    obtain ⟨h1, h2⟩ := List.cons.inj h
    cases h1
    rw [List.map_cons, List.map_cons] at hl
    cases hl with
    | cons i r => exact .cons i (kvIs_of h2 r)
theorem KvIs.back {K : PySem.W.Frag} {F : Hp} : ∀ {ks : List (Key × V)} {ds : List (Key × D)}, KvIs K F ks ds → ks.map (·.1) = ds.map (·.1) ∧ IsL K F (ks.map (·.2)) (ds.map (·.2))
  | _, _, .nil => ⟨rfl, .nil⟩
  | _, _, .cons i r => ⟨by rw [List.map_cons, List.map_cons, r.back.1], .cons i r.back.2⟩
theorem KvIs.up {K : PySem.W.Frag} {F F' : Hp} (e : Same F F') : ∀ {ks : List (Key × V)} {ds : List (Key × D)}, KvIs K F ks ds → KvIs K F' ks ds
  | _, _, .nil => .nil
  | _, _, .cons i r => .cons (i.up e) (r.up e)
theorem KvIs.length {K : PySem.W.Frag} {F : Hp} {ks : List (Key × V)} {ds : List (Key × D)} (h : KvIs K F ks ds) : ks.length = ds.length := by
  have := congrArg List.length h.back.1
  rwa [List.length_map, List.length_map] at this
theorem KvIs.val {K : PySem.W.Frag} {F : Hp} {k : Key} : ∀ {ks : List (Key × V)} {ds : List (Key × D)}, KvIs K F ks ds → (valD ds k = none ∧ valV ks k = none) ∨ ∃ v d, valD ds k = some d ∧ valV ks k = some v ∧ Is K F v d
  | _, _, .nil => .inl ⟨rfl, rfl⟩
  | _, _, .cons (k := j) (v := v) (d := d) (ks := ks) (ds := ds) i r => by
    by_cases e : j = k
    · refine .inr ⟨v, d, ?_, valV_pos e, i⟩
      simp [valD, List.find?_cons, e]
    · have h1 : valD ((j, d) :: ds) k = valD ds k := by simp [valD, List.find?_cons, e]
      have h2 : valV ((j, v) :: ks) k = valV ks k := valV_neg e
      rw [h1, h2]
      exact r.val
theorem KvIs.any {K : PySem.W.Frag} {F : Hp} {k : Key} : ∀ {ks : List (Key × V)} {ds : List (Key × D)}, KvIs K F ks ds → (ks.any fun kv => decide (kv.1 = k)) = (ds.any fun kv => decide (kv.1 = k))
  | _, _, .nil => rfl
  | _, _, .cons i r => by rw [List.any_cons, List.any_cons, r.any]
theorem KvIs.repl {K : PySem.W.Frag} {F : Hp} {k : Key} {v : V} {d : D} (iv : Is K F v d) : ∀ {ks : List (Key × V)} {ds : List (Key × D)}, KvIs K F ks ds → KvIs K F (ks.map fun kv => if kv.1 = k then (kv.1, v) else kv) (ds.map fun kv => if kv.1 = k then (kv.1, d) else kv)
  | _, _, .nil => .nil
  | _, _, .cons (k := j) i r => by
    rw [List.map_cons, List.map_cons]
    by_cases e : j = k
    · rw [if_pos e, if_pos e]; exact .cons iv (r.repl iv)
    · rw [if_neg e, if_neg e]; exact .cons i (r.repl iv)
theorem KvIs.snoc {K : PySem.W.Frag} {F : Hp} {k : Key} {v : V} {d : D} (iv : Is K F v d) : ∀ {ks : List (Key × V)} {ds : List (Key × D)}, KvIs K F ks ds → KvIs K F (ks ++ [(k, v)]) (ds ++ [(k, d)])
  | _, _, .nil => .cons iv .nil
  | _, _, .cons i r => .cons i (r.snoc iv)
theorem KvIs.put {K : PySem.W.Frag} {F : Hp} {k : Key} {v : V} {d : D} {ks : List (Key × V)} {ds : List (Key × D)} (h : KvIs K F ks ds) (iv : Is K F v d) : KvIs K F (putK ks k v) (putD ds k d) := by
  unfold putK putD
  rw [h.any]
  split
  · exact h.repl iv
  · exact h.snoc iv
def dOf (x : D) (μ : Mem) : Option (List (Key × D)) := match x with
  | .dct kvs => some kvs
  | .obj a => (match μ a with
    | some (.md kvs) => some kvs
    | _ => none)
  | _ => none
theorem d_of {K : PySem.W.Frag} {F H : Hp} {μ : Mem} {v : V} {d : D} {kvs : List (Key × D)} (r : Rep K F H μ) (i : Is K F v d) (h : dOf d μ = some kvs) : ∃ a ks, v = .ref a ∧ H a = some (.dK ks) ∧ KvIs K F ks kvs := by
  cases i with
  | dct e hk hl =>
    cases h
    exact ⟨_, _, rfl, r.sub _ _ e, kvIs_of hk hl⟩
  | obj a =>
    unfold dOf at h
    simp only at h
    split at h
    · rename_i es e
      cases h
      obtain ⟨_, ks, h1, h2, h3⟩ := r.mem a _ e
      exact ⟨a, ks, rfl, h1, kvIs_of h2 h3⟩
    · cases h
  | _ => cases h
/-- d[k] -/
def dgetD (x i : D) : W D := W.bnd W.get fun μ => W.bnd (W.opt (dOf x μ)) fun kvs => W.bnd (W.opt (keyOf i)) fun k => W.opt (valD kvs k)
theorem de_dget {X : Cx} {Eh : Option XK} {a b : Expr} {ma mb : Rho → W D} {pos : Pos} (hu : X.A.units + 1 < cLine) (ha : DE X Eh a ma) (hb : DE X Eh b mb) (hs : NoSl b) : DE X Eh (.Subscript a b pos) (eBin dgetD ma mb) := by
  refine PE.imp (pe_dget hu ha hb hs) fun σ H Qh h => ?_
  obtain ⟨F, ρ, μ, Q, ED, env, rep, lnk, hm, bk⟩ := h
  refine ⟨F, ρ, μ, _, ED, env, rep, lnk, hm, fun v1 H1 d1 F1 μ1 s1 r1 i1 q1 => ?_⟩
  refine ⟨F1, ρ, μ1, _, ED, env.up s1, r1, lnk.up s1, q1, fun v2 H2 d2 F2 μ2 s2 r2 i2 q2 => ?_⟩
  obtain ⟨kvs, e1, q2⟩ := opt_of q2
  obtain ⟨k, e2, q2⟩ := opt_of q2
  obtain ⟨d, e3, q2⟩ := opt_of q2
  obtain ⟨a, ks, rfl, h1, h2⟩ := d_of r2 (i1.up s2) e1
  cases key_is i2 e2
  rcases h2.val (k := k) with ⟨n, _⟩ | ⟨v, d', e4, e5, i5⟩
  · rw [n] at e3; cases e3
  · rw [e4] at e3; cases e3
    exact ⟨a, v, rfl, .inl ⟨ks, k, .inl h1, rfl, e5.symm⟩, bk v H2 _ F2 μ2 (s1.trans s2) r2 i5 q2⟩
/-- d[k] = v -/
def mdOf (x : D) (μ : Mem) : Option (Addr × List (Key × D)) := match x with
  | .obj a => (match μ a with
    | some (.md kvs) => some (a, kvs)
    | _ => none)
  | _ => none
def dsetD (o i v : D) : W Unit := W.bnd W.get fun μ => W.bnd (W.opt (mdOf o μ)) fun p => W.bnd (W.opt (keyOf i)) fun k => W.req (p.2.length < sizeLine) (fun μ Q _ => Q () (put μ p.1 (.md (putD p.2 k v))))
def gDix (mo mi : Rho → W D) (d : D) (ρ : Rho) : W Rho := W.bnd (mo ρ) fun o => W.bnd (mi ρ) fun i => W.bnd (dsetD o i d) fun _ => W.ret ρ
theorem dg_dix {X : Cx} {Eh : Option XK} {pos : Pos} {o i : Expr} {mo mi : Rho → W D} (hu : X.A.units + 1 < cLine) (ho : DE X Eh o mo) (hi : DE X Eh i mi)
    (ha : ∀ v, assign (.Subscript o i pos) X.env v = (do
      let ov ← holding [v] (eval o X.env)
      let iv ← holding [v, ov] (eval i X.env)
      standAt pos
      holding [v, ov, iv] (setItem ov iv v)
      release [v, ov, iv] [])) : DG X Eh (.Subscript o i pos) [] (gDix mo mi) := by
  refine PG.imp (pg_sub ho hi (set_dict hu) ha) fun v σ H Qh ⟨F, ρ, μ, d, Q, ED, env, rep, lnk, iv, hm, bk⟩ => ?_
  refine ⟨F, ρ, μ, _, ED, env, rep, lnk, hm, fun v1 H1 d1 F1 μ1 s1 r1 i1 q1 => ?_⟩
  refine ⟨F1, ρ, μ1, _, ED, env.up s1, r1, lnk.up s1, q1, fun v2 H2 d2 F2 μ2 s2 r2 i2 q2 => ?_⟩
  obtain ⟨⟨a, kvs⟩, e1, q3⟩ := opt_of q2
  obtain ⟨k, e2, q4⟩ := opt_of q3
  obtain ⟨hz, q5⟩ := q4
  have ek := key_is i2 e2
  subst ek
  cases d1 with
  | obj b =>
    have eb := is_obj i1
    subst eb
    unfold mdOf at e1
    simp only at e1
    split at e1
    · rename_i es e
      cases e1
      obtain ⟨fp, ks, h1, h2, h3⟩ := r2.mem _ _ e
      have kv := kvIs_of h2 h3
      have iv' := iv.up (s1.trans s2)
      refine ⟨_, _, rfl, .inl ⟨ks, k, h1, rfl, by rw [kv.length]; exact hz, rfl⟩, ?_⟩
      have nk := (kv.put (k := k) iv').back
      exact bk σ _ ρ F2 _ (s1.trans s2) (r2.write (mo' := .md (putD kvs k d)) e ⟨_, upd_same, nk.1, nk.2⟩) (env.up (s1.trans s2)) (Frm.refl [] σ) q5
    · cases e1
  | _ => cases e1

/-! ### displays -/
/-- the pairs of a display -/
def pNil (_ : Rho) : W (List (D × D)) := W.ret []
def pCons (mk mv : Rho → W D) (mr : Rho → W (List (D × D))) (ρ : Rho) : W (List (D × D)) := W.bnd (mk ρ) fun k => W.bnd (mv ρ) fun v => W.bnd (mr ρ) fun r => W.ret ((k, v) :: r)
inductive PpIs (K : PySem.W.Frag) (F : Hp) : List (V × V) → List (D × D) → Prop
  | nil : PpIs K F [] []
  | cons {x y : V} {dx dy : D} {vs : List (V × V)} {ds : List (D × D)} : Is K F x dx → Is K F y dy → PpIs K F vs ds → PpIs K F ((x, y) :: vs) ((dx, dy) :: ds)
theorem PpIs.up {K : PySem.W.Frag} {F F' : Hp} (e : Same F F') : ∀ {vs : List (V × V)} {ds : List (D × D)}, PpIs K F vs ds → PpIs K F' vs ds
  | _, _, .nil => .nil
  | _, _, .cons i j r => .cons (i.up e) (j.up e) (r.up e)
/-- the readings of the pairs, lifted -/
structure DPs (X : Cx) (Eh : Option XK) (pos : Pos) (keys : List (Option Expr)) (values : List Expr) (m : Rho → W (List (D × D))) : Prop where
  ex : ∃ trs, PPs X pos keys values trs ∧ ∀ σ H Qh F ρ μ Q ED, EnvR X.K F σ ρ → Rep X.K F H μ → Lnk X.K Eh F ED → m ρ μ Q ED → Back X.K F (PpIs X.K) Q Qh → tPairs trs σ H Qh
theorem dp_nil {X : Cx} {Eh : Option XK} {pos : Pos} : DPs X Eh pos [] [] pNil := ⟨[], pps_nil, fun σ H Qh F ρ μ Q ED env rep lnk hm bk => bk [] H [] F μ (Same.refl F) rep .nil hm⟩
theorem dp_cons {X : Cx} {Eh : Option XK} {pos : Pos} {k v : Expr} {ks : List (Option Expr)} {vs : List Expr} {mk mv : Rho → W D} {mr : Rho → W (List (D × D))} (hk : DE X Eh k mk) (hv : DE X Eh v mv) (hr : DPs X Eh pos ks vs mr) : DPs X Eh pos (some k :: ks) (v :: vs) (pCons mk mv mr) := by
  obtain ⟨trs, h1, h2⟩ := hr.ex
  refine ⟨_, pps_cons hk hv h1, fun σ H Qh F ρ μ Q ED env rep lnk hm bk => ?_⟩
  refine ⟨F, ρ, μ, _, ED, env, rep, lnk, hm, fun v1 H1 d1 F1 μ1 s1 r1 i1 q1 => ?_⟩
  refine ⟨F1, ρ, μ1, _, ED, env.up s1, r1, lnk.up s1, q1, fun v2 H2 d2 F2 μ2 s2 r2 i2 q2 => ?_⟩
  refine h2 σ H2 _ F2 ρ μ2 _ ED (env.up (s1.trans s2)) r2 (lnk.up (s1.trans s2)) q2 fun v3 H3 d3 F3 μ3 s3 r3 i3 q3 => ?_
  exact bk _ H3 _ F3 μ3 ((s1.trans s2).trans s3) r3 (.cons (i1.up (s2.trans s3)) (i2.up s3) i3) q3
def keysOf : List (D × D) → Option (List (Key × D))
  | [] => some []
  | (k, v) :: r => match keyOf k, keysOf r with
    | some k, some r => some ((k, v) :: r)
    | _, _ => none
def mergeD (kvs more : List (Key × D)) : List (Key × D) := more.foldl (fun acc kv => putD acc kv.1 kv.2) kvs
theorem keys_is {K : PySem.W.Frag} {F : Hp} : ∀ {vs : List (V × V)} {ds : List (D × D)} {kvs : List (Key × D)}, PpIs K F vs ds → keysOf ds = some kvs → ∃ ks : List (Key × V), vs = ks.map (fun kv => (kV kv.1, kv.2)) ∧ KvIs K F ks kvs
  | _, _, _, .nil, h => by cases h; exact ⟨[], rfl, .nil⟩
  | _, _, _, .cons i j r, h => by
    unfold keysOf at h
    split at h
    · rename_i k r' e1 e2
      cases h
      obtain ⟨ks, rfl, kv⟩ := keys_is r e2
      cases key_is i e1
      exact ⟨(k, _) :: ks, rfl, .cons j kv⟩
    · cases h
theorem KvIs.merge {K : PySem.W.Frag} {F : Hp} : ∀ {more : List (Key × V)} {md : List (Key × D)} {ks : List (Key × V)} {ds : List (Key × D)}, KvIs K F more md → KvIs K F ks ds → KvIs K F (mergeK ks more) (mergeD ds md)
  | _, _, _, _, .nil, h => h
  | _, _, _, _, .cons (k := j) i r, h => by
    have q := KvIs.merge r (h.put (k := j) i)
    exact q
/-- {k: v, ..}, to be changed: at any free place -/
def eDisM (mp : Rho → W (List (D × D))) (ρ : Rho) : W D := fun μ Q E => ∀ p, μ p = none → mp ρ (put μ p (.md [])) (fun ps μ' => μ' p = some (.md []) ∧ ∃ kvs, keysOf ps = some kvs ∧ kvs.length ≤ 15 ∧ Q (.obj p) (put μ' p (.md (mergeD [] kvs)))) E
/-- {k: v, ..} that stays -/
def eDis (mp : Rho → W (List (D × D))) (ρ : Rho) : W D := fun μ Q E => ∀ p, μ p = none → mp ρ (put μ p (.md [])) (fun ps μ' => μ' p = some (.md []) ∧ ∃ kvs, keysOf ps = some kvs ∧ kvs.length ≤ 15 ∧ Q (.dct (mergeD [] kvs)) (del μ' p)) E
theorem pd_free {K : PySem.W.Frag} {F H : Hp} {μ : Mem} {p : Addr} (r : Rep K F H μ) (h : H p = none) : μ p = none := by
  cases e : μ p with
  | none => rfl
  | some mo =>
    obtain ⟨_, m⟩ := r.mem p mo e
    exact absurd rfl (m.ne h)
/-- a mutable dict stays from now on -/
theorem Rep.freezeD {K : PySem.W.Frag} {F H : Hp} {μ : Mem} {p : Addr} {kvs : List (Key × D)} (r : Rep K F H μ) (h : μ p = some (.md kvs)) : ∃ F', Same F F' ∧ Rep K F' H (del μ p) ∧ Is K F' (.ref p) (.dct kvs) := by
  obtain ⟨fp, ks, h1, h2, h3⟩ := r.mem p _ h
  have e := same_new (o := .dK ks) fp
  refine ⟨L2.upd F p (.dK ks), e, ⟨fun b x q => ?_, fun a mo q => ?_⟩, .dct upd_same h2 (h3.up e)⟩
  · by_cases hb : b = p
    · subst hb; rw [upd_same] at q; rw [h1]; exact q
    · rw [upd_ne hb] at q; exact r.sub _ _ q
  · unfold del at q
    by_cases hb : a = p
    · rw [if_pos hb] at q; cases q
    · rw [if_neg hb] at q
      obtain ⟨f, m⟩ := r.mem a mo q
      exact ⟨by rw [upd_ne hb]; exact f, m.up e⟩
section
variable {X : Cx} {Eh : Option XK} {pos : Pos} {keys : List (Option Expr)} {values : List Expr} {mp : Rho → W (List (D × D))}
theorem de_disM (h : DPs X Eh pos keys values mp) (hall : keys.all (·.isSome) = true) (hl : keys.length = values.length) (h0 : keys ≠ []) (h15 : keys.length ≤ 15) : DE X Eh (.Dict keys values pos) (eDisM mp) := by
  obtain ⟨trs, h1, h2⟩ := h.ex
  refine PE.imp (pe_disp h1 hall hl h0 h15) fun σ H Qh h => ?_
  obtain ⟨F, ρ, μ, Q, ED, env, rep, lnk, hm, bk⟩ := h
  intro p hn
  refine h2 σ _ _ F ρ _ _ ED env (rep.newM (mo := .md []) hn ⟨[], upd_same, rfl, .nil⟩) lnk (hm p (pd_free rep hn)) fun v1 H1 d1 F1 μ1 s1 r1 i1 q1 => ?_
  obtain ⟨em, kvs, ek, hz, q⟩ := q1
  obtain ⟨fp, ks0, g1, g2, g3⟩ := r1.mem p _ em
  have e0 : ks0 = [] := by
    cases ks0 with
    | nil => rfl
    | cons a r => cases g2
  subst e0
  obtain ⟨ks, rfl, kv⟩ := keys_is i1 ek
  refine ⟨g1, ks, rfl, by rw [kv.length]; exact hz, ?_⟩
  have nk := (KvIs.merge kv (KvIs.nil (K := X.K) (F := F1))).back
  exact bk _ _ _ F1 _ s1 (r1.write (mo' := .md (mergeD [] kvs)) em ⟨_, upd_same, nk.1, nk.2⟩) (.obj p) q
theorem de_dis (h : DPs X Eh pos keys values mp) (hall : keys.all (·.isSome) = true) (hl : keys.length = values.length) (h0 : keys ≠ []) (h15 : keys.length ≤ 15) : DE X Eh (.Dict keys values pos) (eDis mp) := by
  obtain ⟨trs, h1, h2⟩ := h.ex
  refine PE.imp (pe_disp h1 hall hl h0 h15) fun σ H Qh h => ?_
  obtain ⟨F, ρ, μ, Q, ED, env, rep, lnk, hm, bk⟩ := h
  intro p hn
  refine h2 σ _ _ F ρ _ _ ED env (rep.newM (mo := .md []) hn ⟨[], upd_same, rfl, .nil⟩) lnk (hm p (pd_free rep hn)) fun v1 H1 d1 F1 μ1 s1 r1 i1 q1 => ?_
  obtain ⟨em, kvs, ek, hz, q⟩ := q1
  obtain ⟨fp, ks0, g1, g2, g3⟩ := r1.mem p _ em
  have e0 : ks0 = [] := by
    cases ks0 with
    | nil => rfl
    | cons a r => cases g2
  subst e0
  obtain ⟨ks, rfl, kv⟩ := keys_is i1 ek
  refine ⟨g1, ks, rfl, by rw [kv.length]; exact hz, ?_⟩
  have nk := (KvIs.merge kv (KvIs.nil (K := X.K) (F := F1))).back
  obtain ⟨F2, s2, r2, i2⟩ := Rep.freezeD (r1.write (mo' := .md (mergeD [] kvs)) em ⟨_, upd_same, nk.1, nk.2⟩) put_same
  refine bk _ _ _ F2 _ (s1.trans s2) (Rep.less r2 fun a mo e => ?_) i2 q
  unfold del at e ⊢
  by_cases hb : a = p
  · rw [if_pos hb] at e; cases e
  · rw [if_neg hb] at e ⊢; rw [put_ne hb]; exact e
end
end DL

/-! DLk: in, not in; .get; insert, pop at a place -/
namespace DL
open PySem PySem.Spec PyProof.Rows L2

def rInAll (K : PySem.W.Frag) (f : Bool → Bool) : R2 := fun x y H Q =>
  (∃ d ds, Dp K H x d ∧ Dp K H y (.list ds) ∧ SeqAt.shaped d = true ∧ PyData.canLayAll0 ds = true ∧ Q (.bl (f (ds.any fun z => PyData.eqv z d))) H) ∨
  ((∃ d ds, Dp K H x d ∧ Dp K H y (.tuple ds) ∧ SeqAt.shaped d = true ∧ PyData.canLayAll0 ds = true ∧ Q (.bl (f (ds.any fun z => PyData.eqv z d))) H) ∨
  ((∃ a o, y = .ref a ∧ DGet H a x o ∧ Q (.bl (f o.isSome)) H) ∨
  (∃ (c : Nat) (z : Str), x = .str ⟨#[c]⟩ ∧ y = .str z ∧ Q (.bl (f (decide (c ∈ z.cps.toList)))) H)))
section
variable {X : Cx}
theorem op_inAll (hu : X.A.units + 65 < cLine) : OpR X (compareOp .In) (rInAll X.K id) := by
  intro pins s σ H x y v u Q I rx ry h
  rcases h with ⟨d, ds, hd, he, sd, se, q⟩ | ⟨d, ds, hd, he, sd, se, q⟩ | ⟨a, o, rfl, g, q⟩ | h
  · obtain ⟨as, r1⟩ := Dp.reads I d x v hd rx
    obtain ⟨bs, r2⟩ := Dp.reads I (.list ds) y u he ry
    exact SeqAt.in_list_reads r2 r1 se (SeqAt.canLay_of_shaped sd) (room_in_shaped sd hu) ⟨.bl _, H, I, rfl, q⟩
  · obtain ⟨as, r1⟩ := Dp.reads I d x v hd rx
    obtain ⟨bs, r2⟩ := Dp.reads I (.tuple ds) y u he ry
    exact SeqAt.in_tuple_reads r2 r1 se (SeqAt.canLay_of_shaped sd) (room_in_shaped sd hu) ⟨.bl _, H, I, rfl, q⟩
  · cases (show u = Value.ref a from ry)
    exact d_in (by omega) I g rx fun s' I' => ⟨.bl _, H, I', rfl, q⟩
  · exact op_in_sign pins s σ H x y v u Q I rx ry h
theorem op_notInAll (hu : X.A.units + 65 < cLine) : OpR X (compareOp .NotIn) (rInAll X.K not) := by
  intro pins s σ H x y v u Q I rx ry h
  rcases h with ⟨d, ds, hd, he, sd, se, q⟩ | ⟨d, ds, hd, he, sd, se, q⟩ | ⟨a, o, rfl, g, q⟩ | h
  · obtain ⟨as, r1⟩ := Dp.reads I d x v hd rx
    obtain ⟨bs, r2⟩ := Dp.reads I (.list ds) y u he ry
    exact SeqAt.notIn_list_reads r2 r1 se (SeqAt.canLay_of_shaped sd) (room_in_shaped sd hu) ⟨.bl _, H, I, rfl, q⟩
  · obtain ⟨as, r1⟩ := Dp.reads I d x v hd rx
    obtain ⟨bs, r2⟩ := Dp.reads I (.tuple ds) y u he ry
    exact SeqAt.notIn_tuple_reads r2 r1 se (SeqAt.canLay_of_shaped sd) (room_in_shaped sd hu) ⟨.bl _, H, I, rfl, q⟩
  · cases (show u = Value.ref a from ry)
    exact d_notIn (by omega) I g rx fun s' I' => ⟨.bl _, H, I', rfl, q⟩
  · exact op_notIn_sign pins s σ H x y v u Q I rx ry h
end
/-- x in y, y no text -/
def inC (f : Bool → Bool) (μ : Mem) (x y : D) : W D := match dOf y μ with
  | some kvs => W.bnd (W.opt (keyOf x)) fun k => W.ret (D.bl (f (valD kvs k).isSome))
  | none => W.bnd (W.opt (pyM μ x)) fun d => W.bnd (W.opt (pyM μ y)) fun p => match p with
    | .list ds => W.req (SeqAt.shaped d = true ∧ PyData.canLayAll0 ds = true) (W.ret (D.bl (f (ds.any fun z => PyData.eqv z d))))
    | .tuple ds => W.req (SeqAt.shaped d = true ∧ PyData.canLayAll0 ds = true) (W.ret (D.bl (f (ds.any fun z => PyData.eqv z d))))
    | _ => W.bad
/-- one sign in a text -/
def inS (f : Bool → Bool) (x : D) (z : Str) : W D := match x with
  | .str s => (match s.cps.toList with
    | [c] => W.ret (D.bl (f (decide (c ∈ z.cps.toList))))
    | _ => W.bad)
  | _ => W.bad
def inW (f : Bool → Bool) (x y : D) : W D := match y with
  | .str z => inS f x z
  | y => W.bnd W.get fun μ => inC f μ x y
abbrev inD := inW id
abbrev notInD := inW not
theorem inC_of {K : PySem.W.Frag} {f : Bool → Bool} {F H : Hp} {μ : Mem} {x y : V} {dx dy : D} {Q : D → Mem → Prop} {ED : XD} {Qh : VK} (r : Rep K F H μ) (ix : Is K F x dx) (iy : Is K F y dy) (h : inC f μ dx dy μ Q ED) (bk : Back K F (Is K) Q Qh) : rInAll K f x y H Qh := by
  unfold inC at h
  cases ed : dOf dy μ with
  | some kvs =>
    rw [ed] at h
    obtain ⟨k, ek, q⟩ := opt_of h
    obtain ⟨a, ks, rfl, h1, h2⟩ := d_of r iy ed
    have e := key_is ix ek
    subst e
    refine .inr (.inr (.inl ⟨a, valV ks k, rfl, .inl ⟨ks, k, .inl h1, rfl, rfl⟩, ?_⟩))
    rcases h2.val (k := k) with ⟨n, m⟩ | ⟨v, d', e4, e5, i5⟩
    · rw [m]; rw [n] at q; exact back_is bk r (.bl _) q
    · rw [e5]; rw [e4] at q; exact back_is bk r (.bl _) q
  | none =>
    rw [ed] at h
    obtain ⟨d, ed, h⟩ := opt_of h
    obtain ⟨p, ep, h⟩ := opt_of h
    cases p with
    | list ds =>
      obtain ⟨⟨s1, s2⟩, q⟩ := h
      exact .inl ⟨d, _, dp_of r ix ed (SeqAt.canLay_of_shaped s1), dp_of r iy ep s2, s1, s2, back_is bk r (.bl _) q⟩
    | tuple ds =>
      obtain ⟨⟨s1, s2⟩, q⟩ := h
      exact .inr (.inl ⟨d, _, dp_of r ix ed (SeqAt.canLay_of_shaped s1), dp_of r iy ep s2, s1, s2, back_is bk r (.bl _) q⟩)
    | _ => exact h.elim
theorem opd_inW {K : PySem.W.Frag} {f : Bool → Bool} : OpD K (rInAll K f) (inW f) := by
  intro F H μ x y dx dy Q ED Qh r ix iy h bk
  unfold inW at h
  split at h
  · rename_i z
    cases dx with
    | str s =>
      obtain ⟨⟨l⟩⟩ := s
      match l, h, ix with
      | [c], h, ix =>
        cases ix; cases iy
        exact .inr (.inr (.inr ⟨c, z, rfl, rfl, back_is bk r (.bl _) h⟩))
      | [], h, _ => exact h.elim
      | _ :: _ :: _, h, _ => exact h.elim
    | _ => exact h.elim
  · exact inC_of r ix iy h bk
/-! ### insert, pop at a place -/
def insertD (o : D) : List D → W D
  | [.int i, x] => W.bnd W.get fun μ => W.bnd (W.opt (mlOf o μ)) fun p => W.req (p.2.length < sizeLine ∧ 0 ≤ i ∧ i < 2 ^ 62) (W.setL p.1 (p.2.take i.toNat ++ [x] ++ p.2.drop i.toNat) (W.ret .non))
  | _ => W.bad
theorem md_insert {K : PySem.W.Frag} : MtD K (fun x vs H Q => ∃ (l : Addr) (xs : List V) (i : Int) (y : V), x = .ref l ∧ vs = [.int i, y] ∧ H l = some (.lst xs) ∧ xs.length < sizeLine ∧ 0 ≤ i ∧ i < 2 ^ 63 ∧ Q .non (upd H l (.lst (xs.take i.toNat ++ [y] ++ xs.drop i.toNat)))) insertD := by
  intro F H μ x dx xs ds Q ED Qh r ix il h bk
  unfold insertD at h
  split at h
  · obtain ⟨v, us, rfl, i, il'⟩ := isL_cons il
    obtain ⟨w, us', rfl, j, il''⟩ := isL_cons il'
    cases il''
    cases is_int i
    obtain ⟨⟨a, es⟩, e, ⟨hz, h0, h1⟩, q⟩ := opt_of h
    obtain ⟨rfl, e2, vs, h3, h4⟩ := ml_of r ix e
    refine ⟨a, vs, _, w, rfl, rfl, h3, by rw [h4.length]; exact hz, h0, by omega, ?_⟩
    exact bk _ _ _ F _ (Same.refl F) (r.write (mo' := .ml (es.take _ ++ [_] ++ es.drop _)) e2 ⟨_, upd_same, ((h4.take _).app (.cons j .nil)).app (h4.drop _)⟩) .non q
  · exact h.elim
def popAtD (o : D) : List D → W D
  | [.int i] => W.bnd W.get fun μ => W.bnd (W.opt (mlOf o μ)) fun p => W.req (-(2 ^ 62) ≤ i ∧ i < 2 ^ 62) (W.bnd (W.opt (seqIndex? i p.2.length)) fun k => W.bnd (W.opt p.2[k]?) fun y => W.setL p.1 (p.2.eraseIdx k) (W.ret y))
  | _ => W.bad
theorem md_popAt {K : PySem.W.Frag} : MtD K rPopAt popAtD := by
  intro F H μ x dx xs ds Q ED Qh r ix il h bk
  unfold popAtD at h
  split at h
  · obtain ⟨v, us, rfl, i, il'⟩ := isL_cons il
    cases il'
    cases is_int i
    obtain ⟨⟨a, es⟩, e, ⟨h0, h1⟩, h⟩ := opt_of h
    obtain ⟨k, ek, h⟩ := opt_of h
    obtain ⟨y, ey, q⟩ := opt_of h
    obtain ⟨rfl, e2, vs, h3, h4⟩ := ml_of r ix e
    obtain ⟨v, ev, iv⟩ := h4.get ey
    refine ⟨a, vs, _, k, v, rfl, rfl, h3, by omega, by omega, by rw [h4.length]; exact ek, ev, ?_⟩
    exact bk _ _ _ F _ (Same.refl F) (r.write (mo' := .ml (es.eraseIdx k)) e2 ⟨_, upd_same, h4.erase k⟩) iv q
  · exact h.elim
theorem hu65 {k : Nat} {A : Around} (r : Room k A) : A.units + 65 < cLine := by have := r.un; omega
theorem hu1 {k : Nat} {A : Around} (r : Room k A) : A.units + 1 < cLine := by have := r.un; omega
end DL

/-! DLl: walks over texts, enumerate of lists -/
namespace DL
open PySem PySem.Spec PyProof.Rows L2 RZ

def signsD (x : Str) : List D := x.cps.toList.map fun c => .str ⟨#[c]⟩
theorem signsD_len (x : Str) : (signsD x).length = x.cps.size := by unfold signsD; rw [List.length_map, Array.length_toList]
theorem itIs_str {K : PySem.W.Frag} {F : Hp} {x : Str} : ItIs K F (Its x) ⟨signsD x, fun _ => True⟩ := by
  refine ⟨fun i F1 H1 μ1 s r hc hi => ?_, fun i F1 H1 μ1 v H2 s r hc hb y => ?_, fun F1 H1 μ1 s r hc => ?_⟩
  · have hi' : i < (signsD x).length := hi
    rw [signsD_len] at hi'
    exact hi'
  · obtain ⟨e, c, hc', rfl⟩ := y
    subst e
    refine ⟨F1, .str ⟨#[c]⟩, Same.refl _, r, ?_, .str _⟩
    show (x.cps.toList.map fun c => D.str ⟨#[c]⟩)[i]? = _
    rw [List.getElem?_map, Array.getElem?_toList, hc']
    rfl
  · show x.cps.size ≤ (signsD x).length
    rw [signsD_len]
    exact Nat.le_refl _
def iStrD (m : Rho → W D) (ρ : Rho) : W ItD := W.bnd (m ρ) fun d => match d with
  | .str x => W.ret ⟨signsD x, fun _ => True⟩
  | _ => W.bad
theorem di_str {X : Cx} {Eh : Option XK} {tg e : Expr} {m : Rho → W D} (h : DE X Eh e m) : DI X Eh tg e (iStrD m) := by
  refine PI.imp (pi_str h) fun σ H R h => ?_
  obtain ⟨F, ρ, μ, Q, ED, env, rep, lnk, hm, bk⟩ := h
  refine ⟨F, ρ, μ, _, ED, env, rep, lnk, hm, fun v1 H1 d1 F1 μ1 s1 r1 i1 q1 => ?_⟩
  cases d1 with
  | str x =>
    have e := is_str i1
    subst e
    exact ⟨x, rfl, bk _ H1 F1 μ1 _ s1 r1 itIs_str q1⟩
  | _ => exact q1.elim
/-! enumerate -/
def enumL (n : Nat) : List D → List D
  | [] => []
  | d :: r => .tup [.int n, d] :: enumL (n + 1) r
theorem enumL_len : ∀ (ds : List D) (n : Nat), (enumL n ds).length = ds.length
  | [], _ => rfl
  | d :: r, n => by unfold enumL; rw [List.length_cons, List.length_cons, enumL_len r]
theorem enumL_get : ∀ (ds : List D) (n i : Nat) (d : D), ds[i]? = some d → (enumL n ds)[i]? = some (.tup [.int ((n + i : Nat) : Int), d])
  | [], n, i, d, h => by simp at h
  | e :: r, n, 0, d, h => by simp at h; subst h; rfl
  | e :: r, n, i + 1, d, h => by
    have := enumL_get r (n + 1) i d (by simpa using h)
    unfold enumL
    rw [List.getElem?_cons_succ, this, show n + 1 + i = n + (i + 1) by omega]
theorem itIs_enum {K : PySem.W.Frag} {F : Hp} {a : Addr} {vs : List V} {ds : List D} {c : Mem → Prop} (hs : ∀ F1 H1 μ1, Same F F1 → Rep K F1 H1 μ1 → c μ1 → SqL K H1 a vs) (hl : IsL K F vs ds) : ItIs K F (Ite K a) ⟨enumL 0 ds, c⟩ := by
  refine ⟨fun i F1 H1 μ1 s r hc hi => ?_, fun i F1 H1 μ1 x H2 s r hc hb y => ?_, fun F1 H1 μ1 s r hc => ?_⟩
  · have h := hl.length
    have hi' : i < (enumL 0 ds).length := hi
    rw [enumL_len] at hi'
    exact ⟨vs, vs[i]'(by omega), hs F1 H1 μ1 s r hc, List.getElem?_eq_getElem (by omega)⟩
  · obtain ⟨T, z, rfl, hn, rfl, y⟩ := y
    obtain ⟨d, h1, h2⟩ := hl.getV (y vs (hs F1 _ μ1 s r hc))
    have e := same_new (o := .tup [.int (i : Nat), z]) (r.nn hn)
    refine ⟨_, .tup [.int (i : Nat), d], e, r.new hn, ?_, .tup (.inl (.inl upd_same)) (.cons (.int _) (.cons ((h2.up s).up e) .nil))⟩
    have := enumL_get ds 0 i d h1
    rw [Nat.zero_add] at this
    exact this
  · exact ⟨vs, hs F1 H1 μ1 s r hc, by show vs.length ≤ (enumL 0 ds).length; rw [enumL_len, hl.length]; exact Nat.le_refl _⟩
/-- enumerate(list) -/
def iEnumD (ms : Rho → W (List D)) (ρ : Rho) : W ItD := W.bnd (ms ρ) fun as => match as with
  | [.lst ds] => W.ret ⟨enumL 0 ds, fun _ => True⟩
  | [.obj a] => W.bnd W.get fun μ => W.bnd (W.opt (lsOf (.obj a) μ)) fun ds => W.ret ⟨enumL 0 ds, fun μ' => μ' a = some (.ml ds)⟩
  | _ => W.bad
theorem itIs_enumO {K : PySem.W.Frag} {F : Hp} {a : Addr} {ds : List D} : ItIs K F (Ite K a) ⟨enumL 0 ds, fun μ' => μ' a = some (.ml ds)⟩ := by
  refine ⟨fun i F1 H1 μ1 s r hc hi => ?_, fun i F1 H1 μ1 x H2 s r hc hb y => ?_, fun F1 H1 μ1 s r hc => ?_⟩
  · obtain ⟨_, us, h3, h4⟩ := r.mem a _ hc
    have h := h4.length
    have hi' : i < (enumL 0 ds).length := hi
    rw [enumL_len] at hi'
    exact ⟨us, us[i]'(by omega), .inl (.inl h3), List.getElem?_eq_getElem (by omega)⟩
  · obtain ⟨_, us, h3, h4⟩ := r.mem a _ hc
    obtain ⟨T, z, rfl, hn, rfl, y⟩ := y
    obtain ⟨d, h1, h2⟩ := h4.getV (y us (.inl (.inl h3)))
    have e := same_new (o := .tup [.int (i : Nat), z]) (r.nn hn)
    refine ⟨_, .tup [.int (i : Nat), d], e, r.new hn, ?_, .tup (.inl (.inl upd_same)) (.cons (.int _) (.cons (h2.up e) .nil))⟩
    have := enumL_get ds 0 i d h1
    rw [Nat.zero_add] at this
    exact this
  · obtain ⟨_, us, h3, h4⟩ := r.mem a _ hc
    exact ⟨us, .inl (.inl h3), by show us.length ≤ (enumL 0 ds).length; rw [enumL_len, h4.length]; exact Nat.le_refl _⟩
theorem di_enum {X : Cx} {Eh : Option XK} {e : Expr} {ms : Rho → W (List D)} {p pos tpos : Pos} {elts : List Expr} {kk : Nat} (hg : Gl X "enumerate") (hm : X.mg "enumerate" = none) (ha : DA X Eh [e] ms) (hs : starEach [e] X.env = [(false, eval e X.env)]) :
    DI X Eh (.Tuple elts kk tpos) (.Call (.Name "enumerate" p) [e] [] pos) (iEnumD ms) := by
  refine PI.imp (pi_enum hg hm ha hs) fun σ H R h => ?_
  obtain ⟨F, ρ, μ, Q, ED, env, rep, lnk, hm, bk⟩ := h
  refine ⟨F, ρ, μ, _, ED, env, rep, lnk, hm, fun v1 H1 d1 F1 μ1 s1 r1 i1 q1 => ?_⟩
  match d1, q1, i1 with
  | [.lst ds], q1, i1 =>
    obtain ⟨v, rfl, i⟩ := isL1 i1
    cases i with
    | lst hs hl => exact ⟨_, _, rfl, sql_up r1.sub hs, bk _ H1 F1 μ1 _ s1 r1 (itIs_enum (fun F2 H2 μ2 s2 r2 _ => sql_up r2.sub (sql_up s2 hs)) hl) q1⟩
  | [.obj a], q1, i1 =>
    obtain ⟨v, rfl, i⟩ := isL1 i1
    obtain ⟨ds, e, q⟩ := opt_of q1
    obtain ⟨a', vs, ev, hs, hl⟩ := ls_of r1 i e
    have eo := is_obj i
    subst eo
    cases ev
    exact ⟨_, vs, rfl, hs, bk _ H1 F1 μ1 _ s1 r1 itIs_enumO q⟩
/-! zip of two lists that stay, of two tuples -/
def zipL : List D → List D → List D
  | a :: r, b :: t => .tup [a, b] :: zipL r t
  | _, _ => []
theorem zipL_len : ∀ (a b : List D), (zipL a b).length = min a.length b.length
  | [], _ => by simp [zipL]
  | _ :: _, [] => by simp [zipL]
  | x :: r, y :: t => by
    have := zipL_len r t
    simp only [zipL, List.length_cons, this]
    omega
theorem zipL_get : ∀ (a b : List D) (i : Nat) (x y : D), a[i]? = some x → b[i]? = some y → (zipL a b)[i]? = some (.tup [x, y])
  | [], _, i, x, y, h, _ => by simp at h
  | _ :: _, [], i, x, y, _, h => by simp at h
  | e :: r, f :: t, 0, x, y, h, k => by simp at h k; subst h; subst k; rfl
  | e :: r, f :: t, i + 1, x, y, h, k => zipL_get r t i x y (by simpa using h) (by simpa using k)
theorem itIs_zipT {K : PySem.W.Frag} {F : Hp} {a b : Addr} {vs us : List V} {ds es : List D} (hs : SqT K F a vs) (hl : IsL K F vs ds) (hs' : SqT K F b us) (hl' : IsL K F us es) : ItIs K F (ItzT K a b) ⟨zipL ds es, fun _ => True⟩ := by
  have h := hl.length
  have h' := hl'.length
  refine ⟨fun i F1 H1 μ1 s r hc hi => ?_, fun i F1 H1 μ1 x H2 s r hc hb y => ?_, fun F1 H1 μ1 s r hc => ?_⟩
  · have hi' : i < (zipL ds es).length := hi
    rw [zipL_len] at hi'
    exact ⟨vs, us, vs[i]'(by omega), us[i]'(by omega), sqt_up r.sub (sqt_up s hs), sqt_up r.sub (sqt_up s hs'), List.getElem?_eq_getElem (by omega), List.getElem?_eq_getElem (by omega)⟩
  · obtain ⟨T, z, z', rfl, hn, rfl, y, y'⟩ := y
    obtain ⟨d, h1, h2⟩ := hl.getV (y vs (sqt_up r.sub (sqt_up s hs)))
    obtain ⟨d', h1', h2'⟩ := hl'.getV (y' us (sqt_up r.sub (sqt_up s hs')))
    have e := same_new (o := .tup [z, z']) (r.nn hn)
    exact ⟨_, .tup [d, d'], e, r.new hn, zipL_get ds es i d d' h1 h1', .tup (.inl (.inl upd_same)) (.cons ((h2.up s).up e) (.cons ((h2'.up s).up e) .nil))⟩
  · refine ⟨vs, us, sqt_up r.sub (sqt_up s hs), sqt_up r.sub (sqt_up s hs'), ?_⟩
    show vs.length ≤ (zipL ds es).length ∨ us.length ≤ (zipL ds es).length
    rw [zipL_len]
    omega
theorem itIs_zip {K : PySem.W.Frag} {F : Hp} {a b : Addr} {vs us : List V} {ds es : List D} (hs : SqL K F a vs) (hl : IsL K F vs ds) (hs' : SqL K F b us) (hl' : IsL K F us es) : ItIs K F (Itz K a b) ⟨zipL ds es, fun _ => True⟩ := by
  have h := hl.length
  have h' := hl'.length
  refine ⟨fun i F1 H1 μ1 s r hc hi => ?_, fun i F1 H1 μ1 x H2 s r hc hb y => ?_, fun F1 H1 μ1 s r hc => ?_⟩
  · have hi' : i < (zipL ds es).length := hi
    rw [zipL_len] at hi'
    exact ⟨vs, us, vs[i]'(by omega), us[i]'(by omega), sql_up r.sub (sql_up s hs), sql_up r.sub (sql_up s hs'), List.getElem?_eq_getElem (by omega), List.getElem?_eq_getElem (by omega)⟩
  · obtain ⟨T, z, z', rfl, hn, rfl, y, y'⟩ := y
    obtain ⟨d, h1, h2⟩ := hl.getV (y vs (sql_up r.sub (sql_up s hs)))
    obtain ⟨d', h1', h2'⟩ := hl'.getV (y' us (sql_up r.sub (sql_up s hs')))
    have e := same_new (o := .tup [z, z']) (r.nn hn)
    exact ⟨_, .tup [d, d'], e, r.new hn, zipL_get ds es i d d' h1 h1', .tup (.inl (.inl upd_same)) (.cons ((h2.up s).up e) (.cons ((h2'.up s).up e) .nil))⟩
  · refine ⟨vs, us, sql_up r.sub (sql_up s hs), sql_up r.sub (sql_up s hs'), ?_⟩
    show vs.length ≤ (zipL ds es).length ∨ us.length ≤ (zipL ds es).length
    rw [zipL_len]
    omega
def iZipD (ms : Rho → W (List D)) (ρ : Rho) : W ItD := W.bnd (ms ρ) fun as => match as with
  | [.lst ds, .lst es] => W.ret ⟨zipL ds es, fun _ => True⟩
  | [.tup ds, .tup es] => W.ret ⟨zipL ds es, fun _ => True⟩
  | _ => W.bad
theorem di_zip {X : Cx} {Eh : Option XK} {e e2 : Expr} {ms : Rho → W (List D)} {p pos tpos : Pos} {elts : List Expr} {kk : Nat} (hg : Gl X "zip") (hm : X.mg "zip" = none) (ha : DA X Eh [e, e2] ms)
    (hs : starEach [e, e2] X.env = (false, eval e X.env) :: starEach [e2] X.env) (hpl : (backTo pos (starEach [e2] X.env)).any (·.1) = false) :
    DI X Eh (.Tuple elts kk tpos) (.Call (.Name "zip" p) [e, e2] [] pos) (iZipD ms) := by
  refine PI.imp (pi_zipA hg hm ha hs hpl) fun σ H R h => ?_
  obtain ⟨F, ρ, μ, Q, ED, env, rep, lnk, hm, bk⟩ := h
  refine ⟨F, ρ, μ, _, ED, env, rep, lnk, hm, fun v1 H1 d1 F1 μ1 s1 r1 i1 q1 => ?_⟩
  match d1, q1, i1 with
  | [.lst ds, .lst es], q1, i1 =>
    obtain ⟨v, us, rfl, i, i2⟩ := isL_cons i1
    obtain ⟨w, us', rfl, j, i3⟩ := isL_cons i2
    cases i3
    cases i with
    | lst hs hl =>
      cases j with
      | lst hs' hl' => exact ⟨_, _, _, _, rfl, .inl ⟨sql_up r1.sub hs, sql_up r1.sub hs', bk _ H1 F1 μ1 _ s1 r1 (itIs_zip hs hl hs' hl') q1⟩⟩
  | [.tup ds, .tup es], q1, i1 =>
    obtain ⟨v, us, rfl, i, i2⟩ := isL_cons i1
    obtain ⟨w, us', rfl, j, i3⟩ := isL_cons i2
    cases i3
    cases i with
    | tup hs hl =>
      cases j with
      | tup hs' hl' => exact ⟨_, _, _, _, rfl, .inr ⟨sqt_up r1.sub hs, sqt_up r1.sub hs', bk _ H1 F1 μ1 _ s1 r1 (itIs_zipT hs hl hs' hl') q1⟩⟩
end DL

/-! DLm: constants of the module; dicts of the module; .get -/
namespace DL
open PySem PySem.Spec PyProof.Rows L2

/-- the value u of the module is d -/
def GV (K : PySem.W.Frag) (u : Value) (d : D) : Prop := ∃ v, RelV v u ∧ ∀ F, Is K F v d
theorem de_gv {X : Cx} {Eh : Option XK} {x : Str} {u : Value} {d : D} {pos : Pos} (hg : Gl X x) (hm : X.mg x = some u) (h : GV X.K u d) (hd : (x == ("__debug__" : Str)) = false) : DE X Eh (.Name x pos) (eC d) := by
  obtain ⟨v, r, i⟩ := h
  exact de_glob hg hm r i hd

mutual
/-- u, read off the module's objects, is d -/
def valOk (K : PySem.W.Frag) (u : Value) (d : D) : Bool := match d with
  | .non => (match u with
    | .none => true
    | _ => false)
  | .bl c => (match u with
    | .bool b => b == c
    | _ => false)
  | .int j => (match u with
    | .int i _ => decide (i = j)
    | _ => false)
  | .str t => (match u with
    | .str s _ => s == t
    | _ => false)
  | .tup ds => (match u with
    | .ref a => (match K.lookup a with
      | some ⟨.type "tuple", _, .seq its _, _⟩ => decide (its.size ≤ sizeLine) && valsOk K its.toList ds
      | _ => false)
    | _ => false)
  | _ => false
termination_by structural d
def valsOk (K : PySem.W.Frag) (us : List Value) (ds : List D) : Bool := match ds with
  | [] => us.isEmpty
  | d :: r => (match us with
    | u :: t => valOk K u d && valsOk K t r
    | [] => false)
termination_by structural ds
end
mutual
theorem valOk_gv {K : PySem.W.Frag} : ∀ (d : D) (u : Value), valOk K u d = true → GV K u d
  | .non, u, h => by
    cases u <;> first | exact ⟨.non, rfl, fun _ => .non⟩ | (exact absurd h (by unfold valOk; exact Bool.false_ne_true))
  | .bl c, u, h => by
    cases u with
    | bool b =>
      unfold valOk at h
      rw [eq_of_beq h]
      exact ⟨.bl c, rfl, fun _ => .bl c⟩
    | _ => exact absurd h (by unfold valOk; exact Bool.false_ne_true)
  | .int j, u, h => by
    cases u with
    | int i t =>
      unfold valOk at h
      rw [of_decide_eq_true h]
      exact ⟨.int j, ⟨t, rfl⟩, fun _ => .int j⟩
    | _ => exact absurd h (by unfold valOk; exact Bool.false_ne_true)
  | .str t, u, h => by
    cases u with
    | str s k =>
      unfold valOk at h
      rw [eq_of_beq h]
      exact ⟨.str t, ⟨k, rfl⟩, fun _ => .str t⟩
    | _ => exact absurd h (by unfold valOk; exact Bool.false_ne_true)
  | .tup ds, u, h => by
    cases u with
    | ref a =>
      unfold valOk at h
      simp only at h
      split at h
      · rename_i x1 x2 its x3 x4 e
        rw [Bool.and_eq_true] at h
        obtain ⟨vs, r, i⟩ := valsOk_gv ds its.toList h.2
        exact ⟨.ref a, rfl, fun F => .tup (.inr ⟨_, its, _, e, rfl, rfl, of_decide_eq_true h.1, r⟩) (i F)⟩
      · cases h
    | _ => exact absurd h (by unfold valOk; exact Bool.false_ne_true)
  | .lst _, u, h => absurd h (by unfold valOk; exact Bool.false_ne_true)
  | .dct _, u, h => absurd h (by unfold valOk; exact Bool.false_ne_true)
  | .obj _, u, h => absurd h (by unfold valOk; exact Bool.false_ne_true)
  | .ty _, u, h => absurd h (by unfold valOk; exact Bool.false_ne_true)
theorem valsOk_gv {K : PySem.W.Frag} : ∀ (ds : List D) (us : List Value), valsOk K us ds = true → ∃ vs, Vals vs us ∧ ∀ F, IsL K F vs ds
  | [], us, h => by
    unfold valsOk at h
    cases us with
    | nil => exact ⟨[], .nil, fun _ => .nil⟩
    | cons _ _ => cases h
  | d :: r, us, h => by
    unfold valsOk at h
    cases us with
    | nil => cases h
    | cons u t =>
      simp only [Bool.and_eq_true] at h
      obtain ⟨v, r1, i1⟩ := valOk_gv d u h.1
      obtain ⟨vs, r2, i2⟩ := valsOk_gv r t h.2
      exact ⟨v :: vs, .cons r1 r2, fun F => .cons (i1 F) (i2 F)⟩
end
def keyStr (v : Value) (k : Str) : Bool := match v with
  | .str x _ => x == k
  | _ => false
def entOk (K : PySem.W.Frag) : List DictEntry → List (Str × D) → Bool
  | [], [] => true
  | e :: r, (k, d) :: t => keyStr e.key k && (valOk K e.val d && entOk K r t)
  | _, _ => false
def kfind : List (Str × D) → Str → Option D
  | [], _ => none
  | (k, d) :: r, z => if (k == z) = true then some d else kfind r z
theorem ent_find {K : PySem.W.Frag} {z : Str} : ∀ {l : List DictEntry} {kvs : List (Str × D)}, entOk K l kvs = true → (kfind kvs z = none ∧ l.find? (·.key.isStr z) = none) ∨ ∃ e d, kfind kvs z = some d ∧ l.find? (·.key.isStr z) = some e ∧ GV K e.val d
  | [], [], _ => .inl ⟨rfl, rfl⟩
  | [], _ :: _, h => by cases h
  | _ :: _, [], h => by cases h
  | e :: r, (k, d) :: t, h => by
    unfold entOk at h
    simp only [Bool.and_eq_true] at h
    obtain ⟨h1, h2, h3⟩ := h
    have hk : e.key.isStr z = (k == z) := by
      unfold keyStr at h1
      split at h1
      · rename_i x _ q
        rw [q, ← eq_of_beq h1]
        rfl
      · cases h1
    unfold kfind
    rw [List.find?_cons, hk]
    cases hz : (k == z) with
    | true => exact .inr ⟨e, d, rfl, rfl, valOk_gv d _ h2⟩
    | false => exact ent_find h3
theorem ent_ref {K : PySem.W.Frag} : ∀ {l : List DictEntry} {kvs : List (Str × D)}, entOk K l kvs = true → l.any (·.refKey) = false
  | [], [], _ => rfl
  | [], _ :: _, h => by cases h
  | _ :: _, [], h => by cases h
  | e :: r, (k, d) :: t, h => by
    unfold entOk at h
    simp only [Bool.and_eq_true] at h
    obtain ⟨h1, h2, h3⟩ := h
    rw [List.any_cons, ent_ref h3, Bool.or_false]
    unfold keyStr at h1
    split at h1
    · rename_i x _ q
      unfold DictEntry.refKey
      rw [q]
    · cases h1
/-- u is a dict of the module, with these pairs -/
structure KD (K : PySem.W.Frag) (w : World) (u : Value) (kvs : List (Str × D)) : Prop where
  ex : ∃ a es n, u = .ref a ∧ K.lookup a = some ⟨.type "dict", none, .dict es n, #[]⟩ ∧ PySem.W.KeysLit w.params es.toList ∧ (a == sysModules) = false ∧ entOk K es.toList kvs = true
theorem kd_ns {K : PySem.W.Frag} {a : Addr} {es : Array DictEntry} {n : Nat} {kvs : List (Str × D)} (hl : K.lookup a = some ⟨.type "dict", none, .dict es n, #[]⟩) (he : entOk K es.toList kvs = true) (z : Str) :
    (kfind kvs z = none ∧ PySem.W.nsIn K a z = some none) ∨ ∃ u d, kfind kvs z = some d ∧ PySem.W.nsIn K a z = some (some u) ∧ GV K u d := by
  unfold PySem.W.nsIn
  rw [hl]
  dsimp only
  rcases ent_find (z := z) he with ⟨h1, h2⟩ | ⟨e, d, h1, h2, h3⟩
  · rw [h2, ent_ref he]
    exact .inl ⟨h1, rfl⟩
  · rw [h2]
    exact .inr ⟨_, d, h1, rfl, h3⟩
def kixD (kvs : List (Str × D)) (d : D) : W D := match d with
  | .str z => W.opt (kfind kvs z)
  | _ => W.bad
def kinD (f : Bool → Bool) (kvs : List (Str × D)) (d : D) : W D := match d with
  | .str z => W.ret (.bl (f (kfind kvs z).isSome))
  | _ => W.bad
def kgtD (kvs : List (Str × D)) (d : D) : W D := match d with
  | .str z => W.ret ((kfind kvs z).getD .non)
  | _ => W.bad
section
variable {X : Cx} {Eh : Option XK} {x : Str} {u : Value} {kvs : List (Str × D)} {e : Expr} {me : Rho → W D} {p pos apos cpos : Pos}
theorem de_kix (hg : Gl X x) (hm : X.mg x = some u) (hk : KD X.K X.w u kvs) (hd : (x == ("__debug__" : Str)) = false) (he : DE X Eh e me) (hs : PlainIx e) : DE X Eh (.Subscript (.Name x p) e pos) (eUn (kixD kvs) me) := by
  obtain ⟨a, es, n, rfl, hl, hlit, low, ent⟩ := hk.ex
  refine PE.imp (pe_ix ix_kdict (pe_glob (v := .ref a) hg hm rfl hd) he hs) fun σ H Qh h => ?_
  obtain ⟨F, ρ, μ, Q, ED, env, rep, lnk, hm, bk⟩ := h
  refine ⟨F, ρ, μ, _, ED, env, rep, lnk, hm, fun v1 H1 d1 F1 μ1 s1 r1 i1 q1 => ?_⟩
  cases d1 with
  | str z =>
    have e1 := is_str i1
    subst e1
    obtain ⟨d, e2, q⟩ := opt_of q1
    rcases kd_ns hl ent z with ⟨n1, _⟩ | ⟨u', d', n1, n2, v, n3, n4⟩
    · rw [n1] at e2; cases e2
    · rw [n1] at e2; cases e2
      exact ⟨a, z, v, rfl, rfl, ⟨es, n, u', hl, hlit, n2, n3⟩, bk v H1 _ F1 μ1 s1 r1 (n4 F1) q⟩
  | _ => exact q1.elim
theorem de_kin (hg : Gl X x) (hm : X.mg x = some u) (hk : KD X.K X.w u kvs) (hd : (x == ("__debug__" : Str)) = false) (he : DE X Eh e me) (hb : behindInMarks .In (.Name x p) = false) : DE X Eh (.Compare e [.In] [.Name x p] pos) (eUn (kinD id kvs) me) := by
  obtain ⟨a, es, n, rfl, hl, hlit, low, ent⟩ := hk.ex
  refine PE.imp (pe_cmpR (op_in_kd ⟨hl, hlit, low⟩) he (pe_glob (v := .ref a) hg hm rfl hd) hb) fun σ H Qh h => ?_
  obtain ⟨F, ρ, μ, Q, ED, env, rep, lnk, hm, bk⟩ := h
  refine ⟨F, ρ, μ, _, ED, env, rep, lnk, hm, fun v1 H1 d1 F1 μ1 s1 r1 i1 q1 => ?_⟩
  cases d1 with
  | str z =>
    have e1 := is_str i1
    subst e1
    rcases kd_ns hl ent z with ⟨n1, n2⟩ | ⟨u', d', n1, n2, _⟩
    · exact ⟨z, none, rfl, rfl, n2, bk _ H1 _ F1 μ1 s1 r1 (.bl _) (by have q2 : Q (D.bl (id (kfind kvs z).isSome)) μ1 := q1; rw [n1] at q2; exact q2)⟩
    · exact ⟨z, some u', rfl, rfl, n2, bk _ H1 _ F1 μ1 s1 r1 (.bl _) (by have q2 : Q (D.bl (id (kfind kvs z).isSome)) μ1 := q1; rw [n1] at q2; exact q2)⟩
  | _ => exact q1.elim
theorem de_knin (hg : Gl X x) (hm : X.mg x = some u) (hk : KD X.K X.w u kvs) (hd : (x == ("__debug__" : Str)) = false) (he : DE X Eh e me) (hb : behindInMarks .NotIn (.Name x p) = false) : DE X Eh (.Compare e [.NotIn] [.Name x p] pos) (eUn (kinD not kvs) me) := by
  obtain ⟨a, es, n, rfl, hl, hlit, low, ent⟩ := hk.ex
  refine PE.imp (pe_cmpR (op_notIn_kd ⟨hl, hlit, low⟩) he (pe_glob (v := .ref a) hg hm rfl hd) hb) fun σ H Qh h => ?_
  obtain ⟨F, ρ, μ, Q, ED, env, rep, lnk, hm, bk⟩ := h
  refine ⟨F, ρ, μ, _, ED, env, rep, lnk, hm, fun v1 H1 d1 F1 μ1 s1 r1 i1 q1 => ?_⟩
  cases d1 with
  | str z =>
    have e1 := is_str i1
    subst e1
    rcases kd_ns hl ent z with ⟨n1, n2⟩ | ⟨u', d', n1, n2, _⟩
    · exact ⟨z, none, rfl, rfl, n2, bk _ H1 _ F1 μ1 s1 r1 (.bl _) (by have q2 : Q (D.bl (not (kfind kvs z).isSome)) μ1 := q1; rw [n1] at q2; exact q2)⟩
    · exact ⟨z, some u', rfl, rfl, n2, bk _ H1 _ F1 μ1 s1 r1 (.bl _) (by have q2 : Q (D.bl (not (kfind kvs z).isSome)) μ1 := q1; rw [n1] at q2; exact q2)⟩
  | _ => exact q1.elim
/-- .. as a test -/
def tOf (m : Rho → W D) (ρ : Rho) : W Bool := W.bnd (m ρ) fun d => match d with
  | .bl b => W.ret b
  | _ => W.bad
theorem dt_kin (hg : Gl X x) (hm : X.mg x = some u) (hk : KD X.K X.w u kvs) (hd : (x == ("__debug__" : Str)) = false) (he : DE X Eh e me) (hb : behindInMarks .In (.Name x p) = false) : DT X Eh (.Compare e [.In] [.Name x p] pos) (tOf (eUn (kinD id kvs) me)) := by
  obtain ⟨a, es, n, rfl, hl, hlit, low, ent⟩ := hk.ex
  refine PT.imp (pt_cmpR (op_in_kd ⟨hl, hlit, low⟩) he (pe_glob (v := .ref a) hg hm rfl hd) hb) fun σ H Qh h => ?_
  obtain ⟨F, ρ, μ, Q, ED, env, rep, lnk, hm, bk⟩ := h
  refine ⟨F, ρ, μ, _, ED, env, rep, lnk, hm, fun v1 H1 d1 F1 μ1 s1 r1 i1 q1 => ?_⟩
  cases d1 with
  | str z =>
    have e1 := is_str i1
    subst e1
    rcases kd_ns hl ent z with ⟨n1, n2⟩ | ⟨u', d', n1, n2, _⟩
    · exact ⟨z, none, rfl, rfl, n2, _, rfl, bk _ H1 _ F1 μ1 s1 r1 rfl (by have q2 : Q (id (kfind kvs z).isSome) μ1 := q1; rw [n1] at q2; exact q2)⟩
    · exact ⟨z, some u', rfl, rfl, n2, _, rfl, bk _ H1 _ F1 μ1 s1 r1 rfl (by have q2 : Q (id (kfind kvs z).isSome) μ1 := q1; rw [n1] at q2; exact q2)⟩
  | _ => exact q1.elim
theorem dt_knin (hg : Gl X x) (hm : X.mg x = some u) (hk : KD X.K X.w u kvs) (hd : (x == ("__debug__" : Str)) = false) (he : DE X Eh e me) (hb : behindInMarks .NotIn (.Name x p) = false) : DT X Eh (.Compare e [.NotIn] [.Name x p] pos) (tOf (eUn (kinD not kvs) me)) := by
  obtain ⟨a, es, n, rfl, hl, hlit, low, ent⟩ := hk.ex
  refine PT.imp (pt_cmpR (op_notIn_kd ⟨hl, hlit, low⟩) he (pe_glob (v := .ref a) hg hm rfl hd) hb) fun σ H Qh h => ?_
  obtain ⟨F, ρ, μ, Q, ED, env, rep, lnk, hm, bk⟩ := h
  refine ⟨F, ρ, μ, _, ED, env, rep, lnk, hm, fun v1 H1 d1 F1 μ1 s1 r1 i1 q1 => ?_⟩
  cases d1 with
  | str z =>
    have e1 := is_str i1
    subst e1
    rcases kd_ns hl ent z with ⟨n1, n2⟩ | ⟨u', d', n1, n2, _⟩
    · exact ⟨z, none, rfl, rfl, n2, _, rfl, bk _ H1 _ F1 μ1 s1 r1 rfl (by have q2 : Q (not (kfind kvs z).isSome) μ1 := q1; rw [n1] at q2; exact q2)⟩
    · exact ⟨z, some u', rfl, rfl, n2, _, rfl, bk _ H1 _ F1 μ1 s1 r1 rfl (by have q2 : Q (not (kfind kvs z).isSome) μ1 := q1; rw [n1] at q2; exact q2)⟩
  | _ => exact q1.elim
theorem de_kgt (hg : Gl X x) (hm : X.mg x = some u) (hk : KD X.K X.w u kvs) (hd : (x == ("__debug__" : Str)) = false) (he : DE X Eh e me) (m : M1 X (.Name x p) "get" apos e cpos) : DE X Eh (.Call (.Attribute (.Name x p) "get" apos) [e] [] cpos) (eUn (kgtD kvs) me) := by
  obtain ⟨a, es, n, rfl, hl, hlit, low, ent⟩ := hk.ex
  refine ⟨fun pins s σ H Qh I h => ?_⟩
  have pg := pe_glob (X := X) (pos := p) (v := .ref a) hg hm rfl hd
  refine wpAny_Call_method m.base m.few m.line PySem.F.plainAttrs_dict PySem.F.slot_dict_get PySem.F.type_dict_get
    (thn (pg.run pins s σ H (fun y H1 => y = .ref a ∧ liftE X.K Eh (eUn (kgtD kvs) me) σ H1 Qh) I ⟨rfl, h⟩) fun v s1 ⟨y, H1, I1, ry, ey, q1⟩ => ?_)
  subst ey
  obtain rfl : v = Value.ref a := ry
  have mo := PySem.W.mapOf_K (prog := X.prog) (w := X.w) I1.kIn hl hlit
  refine ⟨mo.typeIs, fun b q => ?_, ?_⟩
  · cases q
    exact ⟨_, I1.kIn _ _ hl, rfl⟩
  · rw [m.trees]
    obtain ⟨F, ρ, μ, Q, ED, env, rep, lnk, hme, bk⟩ := q1
    refine Calls.callWith_builtin rfl (Calls.evalArgs_plain (Calls.spliced_cons (thn (he.run pins s1 σ H1 (fun y H2 => ∃ z, y = .str z ∧ (∀ v, (∀ F', Is X.K F' v ((kfind kvs z).getD .non)) → Qh v H2)) I1
      ⟨F, ρ, μ, _, ED, env, rep, lnk, hme, fun v1 H2 d1 F1 μ1 s2 r1 i1 q2 => ?_⟩) fun iv s2 ⟨y, H2, I2, ry, z, ez, q2⟩ => Calls.spliced_nil ?_)))
    · cases d1 with
      | str z =>
        have e1 := is_str i1
        subst e1
        exact ⟨z, rfl, fun v hv => bk v H2 _ F1 μ1 s2 r1 (hv F1) q2⟩
      | _ => exact q2.elim
    · subst ez
      obtain ⟨t, rfl⟩ := ry
      have mo2 := PySem.W.mapOf_K (prog := X.prog) (w := X.w) I2.kIn hl hlit
      refine call_meetsIn PySem.F.slot_dict_get mo2.typeIs PySem.F.entry_dict_get (PySem.F.args_dict_get_2 _ _) (meets_dict_get (PySem.strKind X.prog X.w) a (PySem.strKind_is X.prog X.w z t) low) ⟨_, mo2, ?_⟩
      rcases kd_ns hl ent z with ⟨n1, n2⟩ | ⟨u', d', n1, n2, v, n3, n4⟩
      · rw [PySem.W.find_K hl n2]
        exact ⟨.non, H2, I2.tok _, rfl, q2 _ (fun F' => by rw [n1]; exact .non)⟩
      · rw [PySem.W.find_K hl n2]
        exact ⟨v, H2, I2.tok _, n3, q2 _ (fun F' => by rw [n1]; exact n4 F')⟩
end

/-! ### d.get(k), d.get(k, x) -/
def rDGetM : V → List V → Hp → VK → Prop := fun x xs H Q => ∃ a y o, x = .ref a ∧ DGet H a y o ∧ ((xs = [y] ∧ Q (o.getD .non) H) ∨ ∃ z, xs = [y, z] ∧ Q (o.getD z) H)
theorem mt_dget {X : Cx} (hu : X.A.units + 1 < cLine) : MtR X "dict.get" rDGetM := by
  intro pins s σ H x xs v us Q I rx rv h
  obtain ⟨a, y, o, rfl, g, ⟨rfl, q⟩ | ⟨z, rfl, q⟩⟩ := h
  · cases rx
    obtain ⟨u, rfl, ru⟩ := rv.one
    exact d_get1 hu I g ru fun w' s3 I3 rw' => ⟨_, H, I3, rw', q⟩
  · cases rx
    cases rv with
    | cons r1 rr =>
      cases rr with
      | cons ru rn =>
        cases rn
        exact d_get2 hu I g r1 ru fun w' s3 I3 rw' => ⟨_, H, I3, rw', q⟩
def dgetMD (o : D) : List D → W D
  | [k] => W.bnd W.get fun μ => W.bnd (W.opt (dOf o μ)) fun kvs => W.bnd (W.opt (keyOf k)) fun k => W.ret ((valD kvs k).getD .non)
  | [k, z] => W.bnd W.get fun μ => W.bnd (W.opt (dOf o μ)) fun kvs => W.bnd (W.opt (keyOf k)) fun k => W.ret ((valD kvs k).getD z)
  | _ => W.bad
theorem md_dget {K : PySem.W.Frag} : MtD K rDGetM dgetMD := by
  intro F H μ x dx xs ds Q ED Qh r ix il h bk
  unfold dgetMD at h
  split at h
  · obtain ⟨y, rfl, i⟩ := isL1 il
    obtain ⟨kvs, e1, q2⟩ := opt_of h
    obtain ⟨k, e2, q3⟩ := opt_of q2
    obtain ⟨a, ks, rfl, h1, h2⟩ := d_of r ix e1
    cases key_is i e2
    refine ⟨a, _, valV ks k, rfl, .k h1, .inl ⟨rfl, ?_⟩⟩
    rcases h2.val (k := k) with ⟨n, n'⟩ | ⟨v, d', e4, e5, i5⟩
    · rw [n']; rw [n] at q3; exact back_is bk r .non q3
    · rw [e5]; rw [e4] at q3; exact back_is bk r i5 q3
  · obtain ⟨y, z, rfl, i, j⟩ := isL2 il
    obtain ⟨kvs, e1, q2⟩ := opt_of h
    obtain ⟨k, e2, q3⟩ := opt_of q2
    obtain ⟨a, ks, rfl, h1, h2⟩ := d_of r ix e1
    cases key_is i e2
    refine ⟨a, _, valV ks k, rfl, .k h1, .inr ⟨z, rfl, ?_⟩⟩
    rcases h2.val (k := k) with ⟨n, n'⟩ | ⟨v, d', e4, e5, i5⟩
    · rw [n']; rw [n] at q3; exact back_is bk r j q3
    · rw [e5]; rw [e4] at q3; exact back_is bk r i5 q3
  · exact h.elim

/-! ### {} -/
theorem de_dis0 {X : Cx} {Eh : Option XK} {pos : Pos} : DE X Eh (.Dict [] [] pos) (eC (.dct [])) := by
  refine PE.imp pe_dnewK fun σ H Qh h => ?_
  obtain ⟨F, ρ, μ, Q, ED, env, rep, lnk, hm, bk⟩ := h
  intro p hn
  have e := same_new (o := .dK []) (rep.nn hn)
  exact bk _ _ _ _ _ e (rep.new hn) (.dct upd_same rfl .nil) hm
def eDis0M (_ : Rho) : W D := fun μ Q E => ∀ p, μ p = none → Q (.obj p) (put μ p (.md []))
theorem de_dis0M {X : Cx} {Eh : Option XK} {pos : Pos} : DE X Eh (.Dict [] [] pos) eDis0M := by
  refine PE.imp pe_dnewK fun σ H Qh h => ?_
  obtain ⟨F, ρ, μ, Q, ED, env, rep, lnk, hm, bk⟩ := h
  intro p hn
  exact bk _ _ _ F _ (Same.refl F) (rep.newM (mo := .md []) hn ⟨[], upd_same, rfl, .nil⟩) (.obj p) (hm p (pd_free rep hn))
end DL

/-! DLn: all, any; a, *b = t; dict comprehensions -/
namespace DL
open PySem PySem.Spec PyProof.Rows L2

/-! ### all, any -/
def boolsOf : List D → Option (List Bool)
  | [] => some []
  | .bl b :: r => (boolsOf r).map (b :: ·)
  | _ => none
theorem bools_isL {K : PySem.W.Frag} {F : Hp} : ∀ {vs : List V} {ds : List D} {bs : List Bool}, IsL K F vs ds → boolsOf ds = some bs → vs = bs.map V.bl
  | _, [], bs, .nil, h => by cases h; rfl
  | _, d :: r, bs, .cons i il, h => by
    cases d with
    | bl b =>
      unfold boolsOf at h
      cases e : boolsOf r with
      | none => rw [e] at h; cases h
      | some cs =>
        rw [e] at h
        cases h
        have e1 := is_bl i
        subst e1
        rw [bools_isL il e]
        rfl
    | _ => cases h
def allD : List D → W D
  | [x] => W.bnd W.get fun μ => W.bnd (W.opt (lsOf x μ)) fun ds => W.bnd (W.opt (boolsOf ds)) fun bs => W.ret (.bl (bs.all id))
  | _ => W.bad
def anyD : List D → W D
  | [x] => W.bnd W.get fun μ => W.bnd (W.opt (lsOf x μ)) fun ds => W.bnd (W.opt (boolsOf ds)) fun bs => W.ret (.bl (bs.any id))
  | _ => W.bad
theorem cd_all {K : PySem.W.Frag} : CallD K (rAll K) allD := by
  intro F H μ xs ds Q ED Qh r il h bk
  match ds, h, il with
  | [x], h, il =>
    obtain ⟨v, rfl, i⟩ := isL1 il
    obtain ⟨es, e1, h⟩ := opt_of h
    obtain ⟨bs, e2, q⟩ := opt_of h
    obtain ⟨a, vs, rfl, h1, h2⟩ := ls_of r i e1
    have e3 := bools_isL h2 e2
    subst e3
    exact ⟨a, bs, rfl, h1, back_is bk r (.bl _) q⟩
theorem cd_any {K : PySem.W.Frag} : CallD K (rAny K) anyD := by
  intro F H μ xs ds Q ED Qh r il h bk
  match ds, h, il with
  | [x], h, il =>
    obtain ⟨v, rfl, i⟩ := isL1 il
    obtain ⟨es, e1, h⟩ := opt_of h
    obtain ⟨bs, e2, q⟩ := opt_of h
    obtain ⟨a, vs, rfl, h1, h2⟩ := ls_of r i e1
    have e3 := bools_isL h2 e2
    subst e3
    exact ⟨a, bs, rfl, h1, back_is bk r (.bl _) q⟩

/-! ### a, *b = t -/
theorem walks_tupIt {prog : Program} {w : World} {A : Around} {it t : Addr} {items : Array Value} {i0 : Nat} (hne : t ≠ it) (hh : A.handled = none) (hi : i0 ≤ items.size) :
    WalksS prog w A it [it, t] [it] (fun a b => a = b) (items.size - i0) (fun j v => items[i0 + j]? = some v) (fun j s => IsTupIter s.heap it t (i0 + j) ∧ IsTup s.heap t items) where
  sub := fun b hb => by simp at hb; simp [hb]
  grefl := fun _ => rfl
  gtrans := fun _ _ _ e f => e.trans f
  frame := fun i s h' tk st _ k => by
    obtain ⟨⟨o, ho, hc, hd⟩, ⟨o2, ho2, hc2, n, hd2⟩⟩ := st
    exact ⟨⟨o, k it (by simp) o ho, hc, hd⟩, ⟨o2, k t (by simp) o2 ho2, hc2, n, hd2⟩⟩
  item := fun i s Q E hlt st hQ => by
    have hx : i0 + i < items.size := by omega
    refine next_tuple_item st.1 st.2 (x := items[i0 + i]) (by simp [hx]) fun h' hit hs => ?_
    refine hQ _ _ (by simp [hx]) ⟨by rw [show i0 + (i + 1) = i0 + i + 1 by omega]; exact hit, st.2.extBut hs.extBut hne⟩ ⟨fun b o hb e => hs.extBut b o (by simpa using hb) e, rfl, rfl, rfl, Nat.le_refl _⟩
  done := fun s Q E st hQ => next_tuple_end hh st.1 st.2 (by rw [show i0 + (items.size - i0) = items.size by omega]; simp) fun h' he => hQ _ ⟨fun b o hb e => he b o (by simpa using hb) e, rfl, rfl, rfl, Nat.le_refl _⟩
  self := fun i s Q E st q => wpAny_pyIter_tupleiter st.1 q
theorem items_drop {items : Array Value} {i0 : Nat} (hi : i0 ≤ items.size) {acc : Array Value} (h : ItemsOf (fun j v => items[i0 + j]? = some v) acc (items.size - i0)) : acc.toList = items.toList.drop i0 := by
  apply List.ext_getElem?
  intro j
  rw [List.getElem?_drop, Array.getElem?_toList, Array.getElem?_toList]
  by_cases hj : j < acc.size
  · have e : acc[j]? = some acc[j] := by simp [hj]
    rw [e, h.2 j _ e]
  · have h1 := h.1
    rw [Array.getElem?_eq_none (by omega), Array.getElem?_eq_none (by omega)]
theorem unpack_star {prog : Program} {w : World} {A : Around} {E : Value → Shared → Prop} {s : Shared} {t : Addr} {items : Array Value} {i0 : Nat} {Q : List Value → Shared → Prop} (hh : A.handled = none) (ht : IsTup s.heap t items) (hi : i0 ≤ items.size) (hz : items.size ≤ sizeLine)
    (hQ : ∀ (h1 : Heap) (tk : Nat), (∀ b o, s.heap.get? b = some o → h1.get? b = some o) → s.toks ≤ tk → Q (items.toList.take i0 ++ [.ref h1.objs.size]) { s with heap := h1.push { cls := .type "list", data := .seq (items.toList.drop i0).toArray }, toks := tk }) :
    wpAny (model prog w) A (unpackItems (.ref t) (i0 + 1) (some i0)) Q E s := by
  have hlt : t < s.heap.objs.size := by obtain ⟨o, ho, _⟩ := ht; exact Heap.lt_size ho
  have hne : t ≠ s.heap.objs.size := Nat.ne_of_lt hlt
  unfold unpackItems notIterableAtAll
  refine wpAny_bind (wpAny_bind (wpAny_specialOf ht.typeIs slot_tuple_iter.lookup (wpAny_pure ?_)))
  simp only [Bool.false_eq_true, if_false]
  refine wpAny_bind (wpAny_holding (iter_tuple ht (wpAny_bind (wpAny_holding (draw_tuple hne i0 0 _ _ ⟨_, Heap.get?_push_size _ rfl, rfl, rfl⟩ (ht.push _) (by omega) fun h₁ hit₁ hs₁ => ?_)))))
  have hf : (List.take i0 (List.drop 0 items.toList)) = items.toList.take i0 := by rw [List.drop_zero]
  have hfl : (items.toList.take i0).length = i0 := by rw [List.length_take, Array.length_toList]; omega
  rw [hf]
  rw [if_neg (by rw [hfl]; omega)]
  have ht₁ : IsTup h₁ t items := (ht.push _).extBut hs₁.extBut hne
  have hsz : s.heap.objs.size < h₁.objs.size := by rw [hs₁.1, Heap.size_push]; omega
  refine wpAny_bind (wpAny_holding (wpAny_collect_iter (T := "tuple_iterator") (.inr (.inr (.inr rfl))) (walks_tupIt (i0 := i0) hne hh hi) (fun i s st => st.1.typeIs) ⟨by rw [Nat.zero_add] at hit₁; exact hit₁, ht₁⟩ ?_ (by simp) (fun s' acc hm hacc => ?_) (by omega)))
  · intro b hb
    have hb' : b = s.heap.objs.size ∨ b = t := by simpa using hb
    rcases hb' with e | e
    · rw [e]; exact hsz
    · rw [e]; exact Nat.lt_trans hlt hsz
  · have ea := items_drop hi hacc
    rw [ea]
    have hl0 : i0 + 1 - 1 - i0 = 0 := by omega
    simp only [hl0, Nat.not_lt_zero, if_false, Nat.sub_zero]
    rw [List.take_length, List.drop_length]
    simp only [List.append_nil]
    refine wpAny_bind (wpAny_newList (wpAny_pure ?_) (by rw [List.length_drop, Array.length_toList]; omega))
    obtain ⟨mh, mg, md, mo, mt⟩ := hm
    obtain ⟨hp', g', d', tk', os'⟩ := s'
    cases mg; cases md; cases mo
    refine hQ hp' tk' (fun b o e => mh b o (fun hb => ?_) (hs₁.extBut b o (Nat.ne_of_lt (Heap.lt_size e)) (Heap.get?_push_of_some _ e))) mt
    have hb' : b = s.heap.objs.size := by simpa using hb
    have hlt' := Heap.lt_size e
    rw [hb'] at hlt'
    exact absurd hlt' (Nat.lt_irrefl _)
section
variable {X : Cx} {Eh : Option XK} {pos : Pos}
def gStarH (K : PySem.W.Frag) (i : Nat) (t : TGs) : TG := fun v σ H Q => ∃ a xs, v = .ref a ∧ SqT K H a xs ∧ i ≤ xs.length ∧ ∀ p, H p = none → t (xs.take i ++ [.ref p]) σ (upd H p (.lst (xs.drop i))) Q
theorem vals_take : ∀ (n : Nat) {vs : List V} {us : List Value}, Vals vs us → Vals (vs.take n) (us.take n)
  | 0, _, _, _ => .nil
  | _ + 1, _, _, .nil => .nil
  | n + 1, _, _, .cons h r => .cons h (vals_take n r)
theorem vals_drop : ∀ (n : Nat) {vs : List V} {us : List Value}, Vals vs us → Vals (vs.drop n) (us.drop n)
  | 0, _, _, r => r
  | _ + 1, _, _, .nil => .nil
  | n + 1, _, _, .cons _ r => vals_drop n r
theorem pg_star {es : List Expr} {k : Nat} {t : TGs} {i : Nat} (hc : X.calm = true) (h : PGs X es t) (hn : (assignEach es X.env).length = i + 1) (hst : (assignEach es X.env).findIdx? (·.1) = some i) : PG X (.Tuple es k pos) (gStarH X.K i t) := by
  refine ⟨fun pins s σ H v u Q I r hw => ?_⟩
  obtain ⟨a, xs, e1, hq, hl, hw⟩ := hw
  subst e1
  cases r
  obtain ⟨its, rv, ht, hz⟩ := I.tuple hq
  rw [assign_Tuple]
  refine wpAny_bind (wpAny_standAt ?_)
  unfold unpack
  rw [hn, hst]
  refine wpAny_bind (wpAny_holding (unpack_star (I.ok.hd hc) ht (by rw [List.size_toArray, ← rv.length]; exact hl) (by rw [List.size_toArray, ← rv.length]; exact hz) fun h1 tk k1 htk => ?_))
  have I1 : Inv X pins σ H { s with heap := h1, toks := tk } := I.kept k1
  have rd := vals_drop i rv
  have I2 : Inv X pins σ (upd H h1.objs.size (.lst (xs.drop i))) { s with heap := h1.push { cls := .type "list", data := .seq (its.drop i).toArray }, toks := tk } :=
    I1.lnew (t' := tk) rd (by rw [List.length_drop]; omega)
  refine h.run pins _ σ _ (xs.take i ++ [.ref h1.objs.size]) _ Q ?_ ?_ (hw _ (I1.hok.fresh (Nat.le_refl _)))
  · simpa using I2
  · have e : (its.toArray.toList.take i ++ [Value.ref h1.objs.size]) = its.take i ++ [Value.ref h1.objs.size] := by simp
    rw [e]
    exact (vals_take i rv).append (.cons rfl .nil)
theorem pgs_star1 {e : Expr} {t : TG} {p : Pos} (h1 : PG X e t) (hs : (assignEach [.Starred e p] X.env).map (·.2) = [assign e X.env]) : PGs X [.Starred e p] (gCons t gNil) := by
  refine ⟨fun pins s σ H vs us Q I r h => ?_⟩
  obtain ⟨v, vr, e1, h⟩ := h
  subst e1
  rw [hs]
  cases r with
  | cons r rr =>
    refine assignInOrder_cons (thn (h1.run pins s σ H _ _ _ I r h) fun _ s1 ⟨σ1, H1, I1, q1⟩ => ?_)
    obtain ⟨e2, q1⟩ := q1
    subst e2
    cases rr
    exact assignInOrder_nil ⟨σ1, H1, I1, q1⟩
theorem dgs_star1 {e : Expr} {ts : List Nat} {g : D → Rho → W Rho} {p : Pos} (h1 : DG X Eh e ts g) (hs : (assignEach [.Starred e p] X.env).map (·.2) = [assign e X.env]) : DGs X Eh [.Starred e p] ts (gsCons g gsNil) := by
  refine PGs.imp (pgs_star1 h1 hs) fun v σ H Qh ⟨F, ρ, μ, d, Q, ED, env, rep, lnk, iv, hm, bk⟩ => ?_
  cases iv with
  | nil => exact hm.elim
  | cons i r =>
    refine ⟨_, _, rfl, F, ρ, μ, _, _, ED, env, rep, lnk, i, hm, fun σ1 H1 ρ1 F1 μ1 s1 r1 e1 f1 q1 => ?_⟩
    cases r with
    | nil => exact ⟨rfl, bk σ1 H1 ρ1 F1 μ1 s1 r1 e1 f1 q1⟩
    | cons _ _ => exact q1.elim
/-- the rest is a list that stays -/
def gSt (i : Nat) (gs : List D → Rho → W Rho) (d : D) (ρ : Rho) : W Rho := match d with
  | .tup ds => W.req (i ≤ ds.length) (gs (ds.take i ++ [.lst (ds.drop i)]) ρ)
  | _ => W.bad
theorem dg_star {es : List Expr} {k : Nat} {ts : List Nat} {gs : List D → Rho → W Rho} {i : Nat} (hc : X.calm = true) (h : DGs X Eh es ts gs) (hn : (assignEach es X.env).length = i + 1) (hst : (assignEach es X.env).findIdx? (·.1) = some i) : DG X Eh (.Tuple es k pos) ts (gSt i gs) := by
  refine PG.imp (pg_star hc h hn hst) fun v σ H Qh ⟨F, ρ, μ, d, Q, ED, env, rep, lnk, iv, hm, bk⟩ => ?_
  cases iv with
  | @tup a vs ds hs hl =>
    refine ⟨_, _, rfl, sqt_up rep.sub hs, by rw [hl.length]; exact hm.1, fun p hp => ?_⟩
    have e := same_new (o := .lst (vs.drop i)) (rep.nn hp)
    exact ⟨_, ρ, μ, _, Q, ED, env.up e, rep.new hp, lnk.up e, ((hl.take i).up e).app (.cons (.lst (.inl (.inl upd_same)) ((hl.drop i).up e)) .nil), hm.2, fun σ1 H1 ρ1 F1 μ1 s1 r1 e1 f1 q1 => bk σ1 H1 ρ1 F1 μ1 (e.trans s1) r1 e1 f1 q1⟩
  | _ => exact hm.elim
end

/-! ### {k: v for ..} -/
/-- one more pair of the dict at p -/
def W.dput (p : Addr) (k v : D) : W Unit := W.bnd W.get fun μ => match μ p with
  | some (.md kvs) => W.bnd (W.opt (keyOf k)) fun k => W.req (kvs.length < sizeLine) (fun μ Q _ => Q () (DL.put μ p (.md (putD kvs k v))))
  | _ => W.bad
def dcW (chk : Mem → Prop) (g : D → Rho → W Rho) (tt : Rho → W Bool) (tk tv : Rho → W D) (p : Addr) (ρ : Rho) : List D → W Unit
  | [] => W.chk chk (W.ret ())
  | x :: xs => W.chk chk (W.bnd (g x ρ) fun ρ1 => W.bnd (tt ρ1) fun k => if k = true then W.bnd (tk ρ1) fun dk => W.bnd (tv ρ1) fun dv => W.bnd (W.dput p dk dv) fun _ => dcW chk g tt tk tv p ρ xs else dcW chk g tt tk tv p ρ xs)
/-- the dict stays (frozen) -/
def eDc (mi : Rho → W ItD) (g : D → Rho → W Rho) (tt : Rho → W Bool) (tk tv : Rho → W D) (vs : List Nat) (ρ : Rho) : W D := W.bnd (mi ρ) fun it => fun μ Q E => ∀ p, μ p = none →
  dcW it.chk g tt tk tv p (wipeD ρ vs) it.items (put μ p (.md [])) (fun _ μ' => ∃ kvs, μ' p = some (.md kvs) ∧ Q (.dct kvs) (del μ' p)) E
theorem dput_of {p : Addr} {k v : D} {f : Unit → W Unit} {μ : Mem} {Q : Unit → Mem → Prop} {E : XD} (h : W.bnd (W.dput p k v) f μ Q E) : ∃ kvs j, μ p = some (.md kvs) ∧ keyOf k = some j ∧ kvs.length < sizeLine ∧ f () (put μ p (.md (putD kvs j v))) Q E := by
  have h' : (match μ p with
    | some (.md kvs) => W.bnd (W.opt (keyOf k)) fun k => W.req (kvs.length < sizeLine) (fun μ Q _ => Q () (put μ p (.md (putD kvs k v))))
    | _ => W.bad) μ (fun a μ' => f a μ' Q E) E := h
  cases e : μ p with
  | none => rw [e] at h'; exact h'.elim
  | some mo =>
    cases mo with
    | ml acc => rw [e] at h'; exact h'.elim
    | md kvs =>
      rw [e] at h'
      obtain ⟨j, ej, hz, q⟩ := opt_of h'
      exact ⟨kvs, j, rfl, ej, hz, q⟩
theorem dc_turns {K : PySem.W.Frag} {mi : Rho → W ItD} {g : D → Rho → W Rho} {tt : Rho → W Bool} {tk tv : Rho → W D} {ts vs : List Nat} (hsub : ∀ j ∈ ts, j ∈ vs) {σ : L2.St} {H : Hp} {Qh : VK} {Qe : D → Mem → Prop} {ED : XD} {F : Hp} {ρ : Rho} {μ : Mem} {Qf : Addr → Mem → Prop}
    (env : EnvR K F σ ρ) (rep : Rep K F H μ) (lnk : Lnk K none F ED)
    (hm : W.bnd (mi ρ) (fun it => fun μ (Q : D → Mem → Prop) E => ∀ p, μ p = none → dcW it.chk g tt tk tv p (wipeD ρ vs) it.items (put μ p (.md [])) (fun _ μ' => Qf p μ') E) μ Qe ED)
    (fin : ∀ p F' H' μ', Same F F' → Rep K F' H' μ' → Qf p μ' → Qh (.ref p) H') : tDc (liftI K none mi) (liftG K none ts g) (liftT K none tt) (liftE K none tk) (liftE K none tv) vs σ H Qh := by
  refine ⟨F, ρ, μ, _, ED, env, rep, lnk, hm, fun J H1 F1 μ1 it s1 r1 ij q1 => ?_⟩
  intro p hn
  have q1 := q1 p (r1.mfree hn)
  have r1' : Rep K F1 (upd H1 p (.dK [])) (put μ1 p (.md [])) := r1.newM (mo := .md []) hn ⟨[], upd_same, rfl, .nil⟩
  refine ⟨fun i n H2 => i + n = it.items.length ∧ ∃ F2 μ2, Same F1 F2 ∧ Rep K F2 H2 μ2 ∧ dcW it.chk g tt tk tv p (wipeD ρ vs) (it.items.drop i) μ2 (fun _ μ' => Qf p μ') ED,
    ⟨it.items.length, by omega, F1, _, Same.refl _, r1', q1⟩, fun i n H2 hw => ?_⟩
  obtain ⟨hn2, F2, μ2, s2, r2, q2⟩ := hw
  by_cases hi : i < it.items.length
  · rw [List.drop_eq_getElem_cons hi] at q2
    obtain ⟨hc2, q2⟩ := q2
    refine .inr ⟨ij.go i F2 H2 μ2 s2 r2 hc2 hi, fun H3 => ∃ F3 μ3, Same F1 F3 ∧ Rep K F3 H3 μ3 ∧ dcW it.chk g tt tk tv p (wipeD ρ vs) (it.items.drop (i + 1)) μ3 (fun _ μ' => Qf p μ') ED, fun H3 h3 => ⟨n - 1, by omega, by omega, h3⟩, fun x H3 hy => ?_⟩
    obtain ⟨F3, d, s3, r3, ed, iv⟩ := ij.yld i F2 H2 μ2 x H3 s2 r2 hc2 hi hy
    rw [List.getElem?_eq_getElem hi] at ed
    cases ed
    have envw : EnvR K F3 (L2.wipe σ vs) (wipeD ρ vs) := (env.wipe vs).up (s1.trans (s2.trans s3))
    refine ⟨F3, wipeD ρ vs, μ2, _, _, ED, envw, r3, lnk, iv, q2, fun σ4 H4 ρ4 F4 μ4 s4 r4 e4 f4 q4 => ⟨wipe_frm f4 hsub, ?_⟩⟩
    refine ⟨F4, ρ4, μ4, _, ED, e4, r4, lnk, q4, fun b H5 c F5 μ5 s5 r5 ibc q5 => ?_⟩
    subst ibc
    cases b with
    | false => exact ⟨F5, μ5, ((s2.trans s3).trans s4).trans s5, r5, q5⟩
    | true =>
      refine ⟨F5, ρ4, μ5, _, ED, e4.up s5, r5, lnk, q5, fun y H6 dy F6 μ6 s6 r6 iy q6 => ?_⟩
      refine ⟨F6, ρ4, μ6, _, ED, e4.up (s5.trans s6), r6, lnk, q6, fun z H7 dz F7 μ7 s7 r7 iz q7 => ?_⟩
      have q7' : W.bnd (W.dput p dy dz) (fun _ => dcW it.chk g tt tk tv p (wipeD ρ vs) (it.items.drop (i + 1))) μ7 (fun _ μ' => Qf p μ') ED := q7
      obtain ⟨kvs, j, ea, ej, hz, q8⟩ := dput_of q7'
      obtain ⟨_, us, h1, h2, h3⟩ := r7.mem p _ ea
      have kv := kvIs_of h2 h3
      have ey := key_is (iy.up s7) ej
      have nk := (kv.put (k := j) iz).back
      exact ⟨us, j, ey, h1, by rw [kv.length]; exact hz, F7, _, (((((s2.trans s3).trans s4).trans s5).trans s6).trans s7), r7.write (mo' := .md (putD kvs j dz)) ea ⟨_, upd_same, nk.1, nk.2⟩, q8⟩
  · have ei : i = it.items.length := by omega
    subst ei
    rw [List.drop_length] at q2
    obtain ⟨hc2, q2⟩ := q2
    exact .inl ⟨ij.stop F2 H2 μ2 s2 r2 hc2, fin p F2 H2 μ2 (s1.trans s2) r2 q2⟩
section
variable {X : Cx} {kx vx tg iter : Expr} {ifs : List Expr} {scope : Scope} {own : List (Str × Nat)} {pos : Pos} {mi : Rho → W ItD} {g : D → Rho → W Rho} {tt : Rho → W Bool} {tk tv : Rho → W D} {ts : List Nat}
theorem de_dc (hc : X.calm = true) (hN : X.N.Nodup) (hi : DI X none tg iter mi) (ok : BlkOk X.N X.env.scope scope own) (hsub : ∀ j ∈ ts, j ∈ own.map (·.2))
    (hg : ∀ (s : Shared) (H : Hp) (C : Addr) (cl : List (Str × Addr)) (fp : List Addr), DG (X.blk s H scope (compEnvC scope cl C X.env) fp) none tg ts g)
    (ht : ∀ (s : Shared) (H : Hp) (C : Addr) (cl : List (Str × Addr)) (fp : List Addr), DTs (X.blk s H scope (compEnvC scope cl C X.env) fp) none ifs tt)
    (hk : ∀ (s : Shared) (H : Hp) (C : Addr) (cl : List (Str × Addr)) (fp : List Addr), DE (X.blk s H scope (compEnvC scope cl C X.env) fp) none kx tk)
    (he : ∀ (s : Shared) (H : Hp) (C : Addr) (cl : List (Str × Addr)) (fp : List Addr), DE (X.blk s H scope (compEnvC scope cl C X.env) fp) none vx tv) (hs : ∀ x, foldedSetIterable iter X.env x = pure x) :
    DE X none (.DictComp kx vx [⟨tg, iter, ifs, 0⟩] scope pos) (eDc mi g tt tk tv (own.map (·.2))) := by
  refine PE.imp (pe_dc (g := liftG X.K none ts g) (tt := liftT X.K none tt) (tk := liftE X.K none tk) (tv := liftE X.K none tv) hc hN hi ok hg ht hk he hs) fun σ H Qh h => ?_
  obtain ⟨F, ρ, μ, Q, ED, env, rep, lnk, hm, bk⟩ := h
  refine dc_turns (Qe := Q) (Qf := fun p μ' => ∃ kvs, μ' p = some (.md kvs) ∧ Q (.dct kvs) (del μ' p)) hsub env rep lnk hm fun p F' H' μ' s' r' q' => ?_
  obtain ⟨kvs, e, q⟩ := q'
  obtain ⟨F2, s2, r2, i2⟩ := r'.freezeD e
  exact bk _ H' _ F2 _ (s'.trans s2) r2 i2 q
end
end DL

/-! DLo: zip(a, b, strict=True) of two tuples of one length -/
namespace DL
open PySem PySem.Spec PyProof.Rows L2 RZ

abbrev IsZipS (h : Heap) (z TI TO : Addr) (f0 : Value) : Prop :=
  h.get? z = some { cls := .type "zip", dict := none, data := .fields #[f0, .bool false, .bool true, .ref TI, .ref TO], slots := #[] }
section
variable {prog : Program} {w : World} {A : Around} {E : Value → Shared → Prop} {s : Shared}
theorem noe_item {it l : Addr} {i : Nat} {items} {x : Value} {Q : Option Value → Shared → Prop} (c1 : s.heap.IsTupleIter it l i) (c2 : s.heap.IsTuple l items) (c3 : items[i]? = some x)
    (q : ∀ h', h'.IsTupleIter it l (i + 1) → Heap.SameBut it s.heap h' → Q (some x) { s with heap := h' }) : wpAny (model prog w) A (Builtin.SmallTypes.nextOrEnd (.ref it)) Q E s := by
  unfold Builtin.SmallTypes.nextOrEnd
  exact wpAny_bind (wpAny_attempt (RZ.nextOf_tuple_item c1 c2 c3 fun h' a b => wpAny_pure (q h' a b)))
theorem noe_end {it l : Addr} {i : Nat} {items} {Q : Option Value → Shared → Prop} (hh : A.handled = none) (c1 : s.heap.IsTupleIter it l i) (c2 : s.heap.IsTuple l items) (c3 : items[i]? = none)
    (q : ∀ h', Heap.ExtBut it s.heap h' → Q none { s with heap := h' }) : wpAny (model prog w) A (Builtin.SmallTypes.nextOrEnd (.ref it)) Q E s := by
  unfold Builtin.SmallTypes.nextOrEnd
  refine wpAny_bind (wpAny_attempt (RZ.nextOf_tuple_end hh c1 c2 c3 fun h' e hs he => ?_))
  obtain ⟨o, ho, hc⟩ := he
  exact wpAny_bind (wpAny_isInstance (T := "StopIteration") (b := true) ⟨o, ho, hc⟩ isSubtype_stop (wpAny_pure (q h' hs)))
theorem stop_w {Q : PySem.Fin → Shared → Prop} (hh : A.handled = none) (hE : ∀ h' e, (∀ b o, s.heap.get? b = some o → h'.get? b = some o) → (∃ o, h'.get? e = some o ∧ o.cls = .type "StopIteration") → E (.ref e) { s with heap := h' }) :
    wpAny (model prog w) A (Builtin.SmallTypes.stopIteration) Q E s := by
  show wpAny _ _ (newExc (.type "StopIteration") [] >>= _) _ _ _
  simp only [newExc, newTuple]
  refine wpAny_bind (wpAny_bind (wpAny_newObj_type (wpAny_bind (m := firstArgMember _ _) (wpAny_of_eq (a := Value.none) (by first | rfl | (simp only [firstArgMember]; rfl)) (wpAny_newObj_type ?_ (by size_fits)))) (by size_fits)))
  simp only [raiseNew]
  refine wpAny_bind (wpAny_handled ?_)
  first | rw [hh] | rw [show A.in1.handled = none from hh]
  exact wpAny_bind (wpAny_pure (wpAny_throw (hE _ _ (fun b o e => Heap.get?_push_of_some _ (Heap.get?_push_of_some _ e)) ⟨_, Heap.get?_push_size _ rfl, rfl⟩)))
theorem zipS_item {z TI TO i1 i2 l1 l2 : Addr} {k1 k2 : Nat} {xs ys : Array Value} {x y a b : Value} {Q : Value → Shared → Prop} (D : ZipApart z TI TO i1 i2 l1 l2)
    (zz : IsZipS s.heap z TI TO .none) (zi : IsPair s.heap TI (.ref i1) (.ref i2)) (zo : IsPair s.heap TO a b)
    (p1 : s.heap.IsTupleIter i1 l1 k1) (p2 : s.heap.IsTupleIter i2 l2 k2) (t1 : s.heap.IsTuple l1 xs) (t2 : s.heap.IsTuple l2 ys) (ex : xs[k1]? = some x) (ey : ys[k2]? = some y)
    (q : ∀ h', IsZipS h' z TI TO (rawInt s.heap.objs.size) → IsPair h' TO x y → h'.IsTupleIter i1 l1 (k1 + 1) → h'.IsTupleIter i2 l2 (k2 + 1) → IsPair h' s.heap.objs.size x y → h'.objs.size = s.heap.objs.size + 1 →
      (∀ c o, c ≠ z → c ≠ TO → c ≠ i1 → c ≠ i2 → s.heap.get? c = some o → h'.get? c = some o) → Q (.ref s.heap.objs.size) { s with heap := h' }) :
    wpAny (model prog w) A (Builtin.«zip.__next__» ⟨[.ref z], []⟩) (fun fin s' => ∃ v, fin = .done (.ret v) ∧ Q v s') E s := by
  show wpAny _ _ (field (.ref z) 2 >>= _) _ _ _
  refine wpAny_bind (wpAny_field zz rfl (x := .bool true) rfl ?_)
  show wpAny _ _ (field (.ref z) 3 >>= _) _ _ _
  refine wpAny_bind (wpAny_field zz rfl (x := .ref TI) rfl (wpAny_bind (wpAny_seqItems zi rfl ?_)))
  show wpAny _ _ (Builtin.SmallTypes.ownedTupleIsFree (.ref z) >>= _) _ _ _
  refine wpAny_bind ?_
  unfold Builtin.SmallTypes.ownedTupleIsFree
  refine wpAny_bind (wpAny_field zz rfl (x := .none) rfl (wpAny_pure ?_))
  simp only [if_true]
  refine wpAny_bind (wpAny_rule (wpAny_bind (wpAny_field zz rfl (x := .ref TO) rfl (wpAny_bind (wpAny_setField_rec zz (by simp) fun h₁ zz₁ s₁ => ?_)))))
  replace zz₁ : IsZipS h₁ z TI TO .ellipsis := zz₁
  refine wpAny_bind ?_
  simp only [List.zipIdx_cons, List.zipIdx_nil, List.forIn_cons, List.forIn_nil]
  refine wpAny_bind (wpAny_bind (wpAny_onRaise ?_))
  show wpAny _ _ (Builtin.SmallTypes.nextOrEnd (.ref i1)) _ _ _
  refine noe_item (p1.extBut s₁.extBut D.i1z) (t1.extBut s₁.extBut D.l1z) ex fun h₂ p1₂ s₂ => ?_
  have zo₂ : IsPair h₂ TO a b := s₂.extBut _ _ D.TOi1 (s₁.extBut _ _ D.TOz zo)
  refine wpAny_bind (wpAny_seqItems zo₂ rfl (wpAny_bind (wpAny_updateSeq_pair zo₂ fun h₃ zo₃ s₃ => ?_)))
  replace zo₃ : IsPair h₃ TO x b := zo₃
  refine wpAny_bind (wpAny_letGo (wpAny_pure (wpAny_bind (wpAny_bind (wpAny_onRaise ?_)))))
  show wpAny _ _ (Builtin.SmallTypes.nextOrEnd (.ref i2)) _ _ _
  refine noe_item (((p2.extBut s₁.extBut D.i2z).extBut s₂.extBut D.i12.symm).extBut s₃.extBut D.TOi2.symm) (((t2.extBut s₁.extBut D.l2z).extBut s₂.extBut D.l2i1).extBut s₃.extBut D.l2TO) ey fun h₄ p2₄ s₄ => ?_
  have zo₄ : IsPair h₄ TO x b := s₄.extBut _ _ D.TOi2 zo₃
  refine wpAny_bind (wpAny_seqItems zo₄ rfl (wpAny_bind (wpAny_updateSeq_pair zo₄ fun h₅ zo₅ s₅ => ?_)))
  replace zo₅ : IsPair h₅ TO x y := zo₅
  refine wpAny_bind (wpAny_letGo (wpAny_pure (wpAny_pure (wpAny_bind (wpAny_seqItems zo₅ rfl (wpAny_bind (wpAny_newTuple ?_)))))))
  have zs : h₅.objs.size = s.heap.objs.size := by rw [s₅.1, s₄.1, s₃.1, s₂.1, s₁.1]
  have zz₅ : IsZipS h₅ z TI TO .ellipsis := s₅.extBut _ _ D.TOz.symm (s₄.extBut _ _ D.i2z.symm (s₃.extBut _ _ D.TOz.symm (s₂.extBut _ _ D.i1z.symm zz₁)))
  have k₅ : ∀ c o, c ≠ z → c ≠ TO → c ≠ i1 → c ≠ i2 → s.heap.get? c = some o → h₅.get? c = some o := fun c o c1 c2 c3 c4 e =>
    s₅.extBut _ _ c2 (s₄.extBut _ _ c4 (s₃.extBut _ _ c2 (s₂.extBut _ _ c3 (s₁.extBut _ _ c1 e))))
  have p1₅ : h₅.IsTupleIter i1 l1 (k1 + 1) := ((p1₂.extBut s₃.extBut D.TOi1.symm).extBut s₄.extBut D.i12).extBut s₅.extBut D.TOi1.symm
  have p2₅ : h₅.IsTupleIter i2 l2 (k2 + 1) := p2₄.extBut s₅.extBut D.TOi2.symm
  have zlt : z < h₅.objs.size := Heap.lt_size zz₅
  show wpAny _ _ (Builtin.SmallTypes.ownedTupleHandOut (.ref z) (.ref h₅.objs.size) >>= _) _ _ _
  refine wpAny_bind ?_
  unfold Builtin.SmallTypes.ownedTupleHandOut
  have zz₆ : IsZipS (h₅.push { cls := .type "tuple", data := .seq #[x, y] }) z TI TO .ellipsis := Heap.get?_push_of_some _ zz₅
  refine wpAny_bind (wpAny_setField_rec zz₆ (by simp) fun h₇ zz₇ s₇ => ?_)
  replace zz₇ : IsZipS h₇ z TI TO (rawInt h₅.objs.size) := zz₇
  refine wpAny_setField_rec zz₇ (by simp) fun h₈ zz₈ s₈ => ?_
  replace zz₈ : IsZipS h₈ z TI TO (rawInt h₅.objs.size) := zz₈
  have up : ∀ c o, c ≠ z → h₅.get? c = some o → h₈.get? c = some o := fun c o c1 e => s₈.extBut _ _ c1 (s₇.extBut _ _ c1 (Heap.get?_push_of_some _ e))
  have nt : IsPair h₈ h₅.objs.size x y := s₈.extBut _ _ (Nat.ne_of_gt zlt) (s₇.extBut _ _ (Nat.ne_of_gt zlt) (Heap.get?_push_size _ rfl))
  have z8 : h₈.objs.size = h₅.objs.size + 1 := by rw [s₈.1, s₇.1, Heap.size_push]
  rw [zs] at zz₈ nt z8
  refine wpAny_pure ⟨_, rfl, ?_⟩
  show Q (.ref h₅.objs.size) _
  rw [zs]
  exact q h₈ zz₈ (up _ _ D.TOz zo₅) (p1₅.at fun o e => up _ o D.i1z e) (p2₅.at fun o e => up _ o D.i2z e) nt z8 fun c o c1 c2 c3 c4 e => up c o c1 (k₅ c o c1 c2 c3 c4 e)
theorem zipS_end {z TI TO i1 i2 l1 l2 : Addr} {k1 k2 : Nat} {xs ys : Array Value} {a b : Value} {Q : PySem.Fin → Shared → Prop} (hh : A.handled = none) (D : ZipApart z TI TO i1 i2 l1 l2)
    (zz : IsZipS s.heap z TI TO .none) (zi : IsPair s.heap TI (.ref i1) (.ref i2)) (zo : IsPair s.heap TO a b)
    (p1 : s.heap.IsTupleIter i1 l1 k1) (p2 : s.heap.IsTupleIter i2 l2 k2) (t1 : s.heap.IsTuple l1 xs) (t2 : s.heap.IsTuple l2 ys) (ex : xs[k1]? = none) (ey : ys[k2]? = none)
    (q : ∀ h' e, (∀ c o, c ≠ z → c ≠ TO → c ≠ i1 → c ≠ i2 → s.heap.get? c = some o → h'.get? c = some o) → (∃ o, h'.get? e = some o ∧ o.cls = .type "StopIteration") → E (.ref e) { s with heap := h' }) :
    wpAny (model prog w) A (Builtin.«zip.__next__» ⟨[.ref z], []⟩) Q E s := by
  show wpAny _ _ (field (.ref z) 2 >>= _) _ _ _
  refine wpAny_bind (wpAny_field zz rfl (x := .bool true) rfl ?_)
  show wpAny _ _ (field (.ref z) 3 >>= _) _ _ _
  refine wpAny_bind (wpAny_field zz rfl (x := .ref TI) rfl (wpAny_bind (wpAny_seqItems zi rfl ?_)))
  show wpAny _ _ (Builtin.SmallTypes.ownedTupleIsFree (.ref z) >>= _) _ _ _
  refine wpAny_bind ?_
  unfold Builtin.SmallTypes.ownedTupleIsFree
  refine wpAny_bind (wpAny_field zz rfl (x := .none) rfl (wpAny_pure ?_))
  simp only [if_true]
  refine wpAny_bind (wpAny_rule (wpAny_bind (wpAny_field zz rfl (x := .ref TO) rfl (wpAny_bind (wpAny_setField_rec zz (by simp) fun h₁ zz₁ s₁ => ?_)))))
  replace zz₁ : IsZipS h₁ z TI TO .ellipsis := zz₁
  refine wpAny_bind ?_
  simp only [List.zipIdx_cons, List.zipIdx_nil, List.forIn_cons, List.forIn_nil]
  refine wpAny_bind (wpAny_bind (wpAny_onRaise ?_))
  show wpAny _ _ (Builtin.SmallTypes.nextOrEnd (.ref i1)) _ _ _
  refine noe_end hh (p1.extBut s₁.extBut D.i1z) (t1.extBut s₁.extBut D.l1z) ex fun h₂ s₂ => ?_
  have zz₂ : IsZipS h₂ z TI TO .ellipsis := s₂ _ _ D.i1z.symm zz₁
  refine wpAny_bind (wpAny_setField_rec zz₂ (by simp) fun h₃ zz₃ s₃ => ?_)
  refine wpAny_bind ?_
  wp_delta
  rw [if_neg (by decide)]
  dsimp only
  simp only [List.drop_succ_cons, List.drop_zero, List.zipIdx_cons, List.zipIdx_nil, List.forIn_cons, List.forIn_nil]
  have sb : ∀ c o, c ≠ z → c ≠ i1 → s.heap.get? c = some o → h₃.get? c = some o := fun c o c1 c3 x => s₃.extBut _ _ c1 (s₂ _ _ c3 (s₁.extBut _ _ c1 x))
  have p2₃ : h₃.IsTupleIter i2 l2 k2 := p2.at fun o e => sb _ o D.i2z D.i12.symm e
  have t2₃ : h₃.IsTuple l2 ys := by
    obtain ⟨o, ho, hr⟩ := t2
    exact ⟨o, sb _ o D.l2z D.l2i1 ho, hr⟩
  refine wpAny_bind (wpAny_bind (wpAny_bind (noe_end hh p2₃ t2₃ ey fun h₄ s₄ => ?_)))
  simp only [Option.isSome_none, Bool.false_eq_true, if_false]
  refine wpAny_pure (wpAny_pure (wpAny_bind (wpAny_rule (stop_w hh fun h' e kp he => ?_))))
  exact q h' e (fun c o c1 c2 c3 c4 x => kp _ _ (s₄ _ _ c4 (sb c o c1 c3 x))) he
theorem pyNext_zipS_item {z TI TO i1 i2 l1 l2 : Addr} {k1 k2 : Nat} {xs ys : Array Value} {x y a b : Value} {Q : Option Value → Shared → Prop} (D : ZipApart z TI TO i1 i2 l1 l2)
    (zz : IsZipS s.heap z TI TO .none) (zi : IsPair s.heap TI (.ref i1) (.ref i2)) (zo : IsPair s.heap TO a b)
    (p1 : s.heap.IsTupleIter i1 l1 k1) (p2 : s.heap.IsTupleIter i2 l2 k2) (t1 : s.heap.IsTuple l1 xs) (t2 : s.heap.IsTuple l2 ys) (ex : xs[k1]? = some x) (ey : ys[k2]? = some y)
    (q : ∀ h', IsZipS h' z TI TO (rawInt s.heap.objs.size) → IsPair h' TO x y → h'.IsTupleIter i1 l1 (k1 + 1) → h'.IsTupleIter i2 l2 (k2 + 1) → IsPair h' s.heap.objs.size x y → h'.objs.size = s.heap.objs.size + 1 →
      (∀ c o, c ≠ z → c ≠ TO → c ≠ i1 → c ≠ i2 → s.heap.get? c = some o → h'.get? c = some o) → Q (some (.ref s.heap.objs.size)) { s with heap := h' }) :
    wpAny (model prog w) A (pyNext (.ref z)) Q E s := by
  have ty : s.TypeIs (.ref z) "zip" := ⟨_, zz, rfl⟩
  unfold pyNext
  exact wpAny_bind (wpAny_attempt (wpAny_callSpecial?_slot (name := Str.ofString "__next__") ty F.slot_zip_next (wpAny_call_entry F.slot_zip_next ty F.entry_zip_next
      (zipS_item D zz zi zo p1 p2 t1 t2 ex ey fun h' a1 a2 a3 a4 a5 a6 a7 => wpAny_pure (q h' a1 a2 a3 a4 a5 a6 a7)) (F.args_zip_next_1 _))))
theorem pyNext_zipS_end {z TI TO i1 i2 l1 l2 : Addr} {k1 k2 : Nat} {xs ys : Array Value} {a b : Value} {Q : Option Value → Shared → Prop} (hh : A.handled = none) (D : ZipApart z TI TO i1 i2 l1 l2)
    (zz : IsZipS s.heap z TI TO .none) (zi : IsPair s.heap TI (.ref i1) (.ref i2)) (zo : IsPair s.heap TO a b)
    (p1 : s.heap.IsTupleIter i1 l1 k1) (p2 : s.heap.IsTupleIter i2 l2 k2) (t1 : s.heap.IsTuple l1 xs) (t2 : s.heap.IsTuple l2 ys) (ex : xs[k1]? = none) (ey : ys[k2]? = none)
    (q : ∀ h', (∀ c o, c ≠ z → c ≠ TO → c ≠ i1 → c ≠ i2 → s.heap.get? c = some o → h'.get? c = some o) → Q none { s with heap := h' }) : wpAny (model prog w) A (pyNext (.ref z)) Q E s := by
  have ty : s.TypeIs (.ref z) "zip" := ⟨_, zz, rfl⟩
  unfold pyNext
  refine wpAny_bind (wpAny_attempt (wpAny_callSpecial?_slot (name := Str.ofString "__next__") ty F.slot_zip_next (wpAny_call_entry F.slot_zip_next ty F.entry_zip_next (zipS_end hh D zz zi zo p1 p2 t1 t2 ex ey fun h' e hk he => ?_) (F.args_zip_next_1 _))))
  obtain ⟨o, ho, hc⟩ := he
  exact wpAny_bind (wpAny_isInstance (T := "StopIteration") (b := true) ⟨o, ho, hc⟩ isSubtype_stop (wpAny_pure (q _ hk)))
end

section
variable {prog : Program} {w : World} {A : Around} {E : Value → Shared → Prop} {s : Shared}
theorem letGo_zipS {elts : List Expr} {x1} {pos : Pos} {z TI TO T : Addr} {Q : Unit → Shared → Prop} (zz : IsZipS s.heap z TI TO (rawInt T))
    (q : ∀ h', IsZipS h' z TI TO .none → Heap.SameBut z s.heap h' → Q () { s with heap := h' }) :
    wpAny (model prog w) A (letOwnedTupleGo (.Tuple elts x1 pos) (.ref z) (.ref T)) Q E s := by
  unfold letOwnedTupleGo
  refine wpAny_bind (wpAny_load zz ?_)
  show wpAny _ _ (if (["enumerate", "zip", "dict_itemiterator", "dict_reverseitemiterator", "odict_iterator", "itertools.zip_longest", "itertools.pairwise"].contains "zip" &&
      (#[rawInt T, .bool false, .bool true, .ref TI, .ref TO] : Array Value)[0]? == some (rawInt T)) = true then _ else _) Q E s
  rw [if_pos (by simp)]
  exact wpAny_bind (wpAny_rule (show wpAny _ _ (setField (.ref z) 0 .none) Q E s from wpAny_setField_rec zz (by simp) fun h' zz' s' => q h' zz' s'))
theorem iter_zipS {z TI TO : Addr} {f0 : Value} {Q : Value → Shared → Prop} (zz : IsZipS s.heap z TI TO f0) (h : Q (.ref z) s) : wpAny (model prog w) A (pyIter (.ref z)) Q E s := by
  have ty : s.TypeIs (.ref z) "zip" := ⟨_, zz, rfl⟩
  refine wpAny_pyIter_slot ty F.slot_zip_iter (wpAny_call_entry F.slot_zip_iter ty F.entry_zip_iter ?_ (F.args_zip_iter_1 _))
  exact show wpAny _ _ (ret (.ref z)) _ _ s from wpAny_pure ⟨_, rfl, "zip", _, ty, F.slot_zip_next.lookup, h⟩
end
abbrev kwS (b : Value) : List (Str × Value) := [(Str.ofString "strict", b)]
theorem tc_zipS (a b c : Value) : checkTypeCall "zip" ⟨[a, b], kwS c⟩ = pure () := by kernel_rfl
theorem nc_zipS (a b c : Value) : checkBuiltinCall "zip.__new__" ⟨[.type "zip", a, b], kwS c⟩ = pure () := by kernel_rfl
theorem oi_zipS (o a b c : Value) : argsOk "object.__init__" ⟨[o, a, b], kwS c⟩ := by
  unfold argsOk; kernel_rfl
abbrev zsH5 (h : Heap) (l1 l2 : Addr) : Heap := (zipTH4 h l1 l2).push { cls := .type "zip", data := .fields #[.none, .bool false, .bool true, .ref (zipTH2 h l1 l2).objs.size, .ref (zipTH3 h l1 l2).objs.size] }
theorem new_zipS (l1 l2 : Addr) (xs ys : Array Value) :
    Meets (Builtin.«zip.__new__» ⟨[.type "zip", .ref l1, .ref l2], kwS (.bool true)⟩) (fun _ R s => s.heap.IsTuple l1 xs ∧ s.heap.IsTuple l2 ys ∧
      R (.ok (.ret (.ref (zipTH4 s.heap l1 l2).objs.size))) { s with heap := zsH5 s.heap l1 l2 }) :=
  .of_wp fun prog w A R s h => by
    obtain ⟨hp, g, d, tk, os⟩ := s; obtain ⟨t1, t2, h⟩ := h
    have hsub := sub_zip
    have u1 : Heap.IsTuple (Shared.heap ⟨hp, g, d, tk, os⟩) l1 xs := t1
    have u2 : Heap.IsTuple (Shared.heap ⟨hp.push { cls := .type "tuple_iterator", data := .fields #[.ref l1, .int 0 0] }, g, d, tk, os⟩) l2 ys := Heap.IsTuple.push t2 _
    have e2 : (Str.ofString "strict" != ("strict" : Str)) = false := by decide +kernel
    wp_walk using wpAny_pyIter_tuple u1, wpAny_pyIter_tuple u2
    exact ⟨_, rfl, h⟩
end DL

namespace DL
open PySem PySem.Spec PyProof.Rows L2 RZ
section
variable {prog : Program} {w : World} {A : Around} {E : Value → Shared → Prop} {s : Shared}
theorem call_zipS {l1 l2 : Addr} {xs ys : Array Value} {Q : Value → Shared → Prop} (t1 : s.heap.IsTuple l1 xs) (t2 : s.heap.IsTuple l2 ys)
    (h : ∀ h', IsZipS h' (s.heap.objs.size + 4) (s.heap.objs.size + 2) (s.heap.objs.size + 3) .none → IsPair h' (s.heap.objs.size + 2) (.ref s.heap.objs.size) (.ref (s.heap.objs.size + 1)) →
      IsPair h' (s.heap.objs.size + 3) .none .none → h'.IsTupleIter s.heap.objs.size l1 0 → h'.IsTupleIter (s.heap.objs.size + 1) l2 0 → h'.objs.size = s.heap.objs.size + 5 →
      (∀ c o, s.heap.get? c = some o → h'.get? c = some o) → Q (.ref (s.heap.objs.size + 4)) { s with heap := h' }) :
    wpAny (model prog w) A (call (.type "zip") [.ref l1, .ref l2] (kwS (.bool true))) Q E s := by
  refine callType_newKw F.called_zip (by decide) (tc_zipS _ _ _) (nc_zipS _ _ _) (fun obj => oi_zipS obj _ _ _) F.entry_zip_new (new_zipS l1 l2 xs ys) ⟨t1, t2, ?_⟩
  have y1 : (zipTH1 s.heap l1).objs.size = s.heap.objs.size + 1 := Heap.size_push ..
  have y2 : (zipTH2 s.heap l1 l2).objs.size = s.heap.objs.size + 2 := by rw [Heap.size_push, y1]
  have y3 : (zipTH3 s.heap l1 l2).objs.size = s.heap.objs.size + 3 := by rw [Heap.size_push, y2]
  have y4 : (zipTH4 s.heap l1 l2).objs.size = s.heap.objs.size + 4 := by rw [Heap.size_push, y3]
  have y5 : (zsH5 s.heap l1 l2).objs.size = s.heap.objs.size + 5 := by rw [Heap.size_push, y4]
  have k5 : (zsH5 s.heap l1 l2).get? (zipTH4 s.heap l1 l2).objs.size = some _ := Heap.get?_push_size _ rfl
  have k4 : (zsH5 s.heap l1 l2).get? (zipTH3 s.heap l1 l2).objs.size = some _ := Heap.get?_push_of_some _ (Heap.get?_push_size _ rfl)
  have k3 : (zsH5 s.heap l1 l2).get? (zipTH2 s.heap l1 l2).objs.size = some _ := Heap.get?_push_of_some _ (Heap.get?_push_of_some _ (Heap.get?_push_size _ rfl))
  have k2 : (zsH5 s.heap l1 l2).get? (zipTH1 s.heap l1).objs.size = some _ := Heap.get?_push_of_some _ (Heap.get?_push_of_some _ (Heap.get?_push_of_some _ (Heap.get?_push_size _ rfl)))
  have k1 : (zsH5 s.heap l1 l2).get? s.heap.objs.size = some _ := Heap.get?_push_of_some _ (Heap.get?_push_of_some _ (Heap.get?_push_of_some _ (Heap.get?_push_of_some _ (Heap.get?_push_size _ rfl))))
  show _ ∧ _
  rw [y2, y3, y4] at k5
  rw [y1, y2] at k3
  rw [y3] at k4
  rw [y1] at k2
  rw [y4]
  exact ⟨⟨_, k5, rfl⟩, h _ k5 k3 k4 ⟨_, k1, rfl, rfl⟩ ⟨_, k2, rfl, rfl⟩ y5 fun c o x =>
    Heap.get?_push_of_some _ (Heap.get?_push_of_some _ (Heap.get?_push_of_some _ (Heap.get?_push_of_some _ (Heap.get?_push_of_some _ x))))⟩
end
/-- the tuples at a and b, of one length, the items in new pairs -/
def ItzS (K : PySem.W.Frag) (a b : Addr) : It :=
  ⟨fun i H => ∃ (xs ys : List V) (x y : V), SqT K H a xs ∧ SqT K H b ys ∧ xs[i]? = some x ∧ ys[i]? = some y,
    fun i H v H' => ∃ T x y, v = .ref T ∧ H T = none ∧ H' = upd H T (.tup [x, y]) ∧ (∀ xs, SqT K H a xs → xs[i]? = some x) ∧ ∀ ys, SqT K H b ys → ys[i]? = some y,
    fun i H => ∃ xs ys : List V, SqT K H a xs ∧ SqT K H b ys ∧ xs.length ≤ i ∧ ys.length ≤ i⟩
theorem turn_zipS {P : Program} {w : World} {K : PySem.W.Frag} {elts : List Expr} {kk : Nat} {tpos : Pos} {a b z TI TO i1 i2 : Addr} (D : ZipApart z TI TO i1 i2 a b) :
    Turn P w K (.Tuple elts kk tpos) (ItzS K a b) [z, TI, TO, i1, i2] z (fun i h => IsZipS h z TI TO .none ∧ IsPair h TI (.ref i1) (.ref i2) ∧ (∃ x y, IsPair h TO x y) ∧ h.IsTupleIter i1 a i ∧ h.IsTupleIter i2 b i) where
  mem := by simp
  obj := fun i h st c hc => by
    obtain ⟨zz, zi, ⟨x, y, zo⟩, ⟨o1, e1, _, d1⟩, ⟨o2, e2, _, d2⟩⟩ := st
    have cs : c = z ∨ c = TI ∨ c = TO ∨ c = i1 ∨ c = i2 := by simpa using hc
    rcases cs with q | q | q | q | q
    · rw [q]; exact ⟨_, zz, fun v q => nomatch q⟩
    · rw [q]; exact ⟨_, zi, fun v q => nomatch q⟩
    · rw [q]; exact ⟨_, zo, fun v q => nomatch q⟩
    · rw [q]; exact ⟨o1, e1, fun v q => by rw [d1] at q; cases q⟩
    · rw [q]; exact ⟨o2, e2, fun v q => by rw [d2] at q; cases q⟩
  keep := fun i h h' st k => by
    obtain ⟨zz, zi, ⟨x, y, zo⟩, p1, p2⟩ := st
    exact ⟨k z (by simp) _ zz, k TI (by simp) _ zi, ⟨x, y, k TO (by simp) _ zo⟩, p1.at fun o q => k i1 (by simp) o q, p2.at fun o q => k i2 (by simp) o q⟩
  item := by
    intro X hP hw hK hc i pins s σ H E I hf st hg
    subst hP hw hK
    obtain ⟨zz, zi, ⟨x0, y0, zo⟩, p1, p2⟩ := st
    obtain ⟨xs, ys, x, y, qx, qy, ex, ey⟩ := hg
    obtain ⟨its, rv, pp, _⟩ := I.tuple qx
    obtain ⟨its2, rv2, pp2, _⟩ := I.tuple qy
    obtain ⟨u, hu, ru⟩ := rv.get ex
    obtain ⟨u2, hu2, ru2⟩ := rv2.get ey
    have zl : z < s.heap.objs.size := Heap.lt_size zz
    refine pyNext_zipS_item D zz zi zo p1 p2 pp pp2 (x := u) (y := u2) (by simpa using hu) (by simpa using hu2) fun h' z' TO' h1' h2' hT hsz hk => ⟨_, rfl, letGo_zipS (s := { s with heap := h' }) z' fun h'' z'' sb => ?_⟩
    have nT : h''.get? s.heap.objs.size = some { cls := .type "tuple", data := .seq #[u, u2] } := (sb.2 _ (Nat.ne_of_gt zl)).trans hT
    have new : ObjOk X.prog X.w (upd H s.heap.objs.size (.tup [x, y])) h'' s.heap.objs.size (.tup [x, y]) := ⟨by show 2 ≤ sizeLine; decide, [u, u2], .cons ru (.cons ru2 .nil), ⟨_, nT, rfl, _, rfl⟩⟩
    have I1 : Inv X pins σ (upd H s.heap.objs.size (.tup [x, y])) { s with heap := h'' } := I.turnedNew (t' := s.toks) (ch := [z, TI, TO, i1, i2])
      (fun c o hb q => (sb.2 c (fun q' => hb (by simp [q']))).trans (hk c o (fun q' => hb (by simp [q'])) (fun q' => hb (by simp [q'])) (fun q' => hb (by simp [q'])) (fun q' => hb (by simp [q'])) q)) hf (Nat.le_refl _) new
    refine ⟨.ref s.heap.objs.size, _, I1, rfl, ⟨_, x, y, rfl, I.hok.fresh (Nat.le_refl _), rfl, fun l hl => by rw [I.tuple_inj hl qx]; exact ex, fun l hl => by rw [I.tuple_inj hl qy]; exact ey⟩, ⟨z'', ?_, ⟨u, u2, ?_⟩, ?_, ?_⟩, fun c hcm => ?_⟩
    · exact (sb.2 _ D.TIz).trans (hk _ _ D.TIz D.TITO D.TIi1 D.TIi2 zi)
    · exact (sb.2 _ D.TOz).trans TO'
    · exact h1'.at fun o q => (sb.2 _ D.i1z).trans q
    · exact h2'.at fun o q => (sb.2 _ D.i2z).trans q
    · have lt : c < s.heap.objs.size := by
        have cs : c = z ∨ c = TI ∨ c = TO ∨ c = i1 ∨ c = i2 := by simpa using hcm
        rcases cs with q | q | q | q | q
        · rw [q]; exact zl
        · rw [q]; exact Heap.lt_size zi
        · rw [q]; exact Heap.lt_size zo
        · rw [q]; obtain ⟨_, e1, _⟩ := p1; exact Heap.lt_size e1
        · rw [q]; obtain ⟨_, e2, _⟩ := p2; exact Heap.lt_size e2
      rw [upd_ne (Nat.ne_of_lt lt)]
      exact (hf c hcm).1
  done := by
    intro X hP hw hK hc i pins s σ H E I hf st hg
    subst hP hw hK
    obtain ⟨zz, zi, ⟨x0, y0, zo⟩, p1, p2⟩ := st
    obtain ⟨xs, ys, qx, qy, en1, en2⟩ := hg
    obtain ⟨its, rv, pp, _⟩ := I.tuple qx
    obtain ⟨its2, rv2, pp2, _⟩ := I.tuple qy
    have l1 := rv.length
    have l2 := rv2.length
    exact pyNext_zipS_end (I.ok.hd hc) D zz zi zo p1 p2 pp pp2 (by simp; omega) (by simp; omega) fun h' hk => ⟨rfl, I.turnedL (t' := s.toks) (ch := [z, TI, TO, i1, i2]) (fun c o hb q =>
      hk c o (fun q' => hb (by simp [q'])) (fun q' => hb (by simp [q'])) (fun q' => hb (by simp [q'])) (fun q' => hb (by simp [q'])) q) hf⟩
  self := fun A i s Q E st h => iter_zipS st.1 h
section
variable {M : Model} {A : Around} {E : Value → Shared → Prop} {s : Shared} {env : Env}
theorem cw_typeKw {pos : Pos} {T : String} {e : Expr} {rest : List Expr} {kws : List Keyword} {Q : Value → Shared → Prop}
    (h : wpAny M A (spliced (backTo pos (starEach (e :: rest) env))) (fun vs s₁ => wpAny M A (evalAll ((backToKw pos (keywordEach kws env)).map (·.2)))
      (fun kvs s₂ => wpAny M A (call (.type T) vs (((backToKw pos (keywordEach kws env)).filterMap (·.1)).zip kvs)) Q E s₂) E s₁) E s)
    (he : backTo pos (starEach (e :: rest) env) = (false, eval e env) :: backTo pos (starEach rest env)) (hpl : (backTo pos (starEach (e :: rest) env)).any (·.1) = false)
    (hall : (backToKw pos (keywordEach kws env)).all (·.1.isSome) = true) (hkw : (backToKw pos (keywordEach kws env)).any (·.1.isNone) = false) :
    wpAny M A (callWith pos (.type T) [] (backTo pos (starEach (e :: rest) env)) (backToKw pos (keywordEach kws env))) Q E s := by
  unfold callWith
  have h2 : wpAny M A (evalArgs (.type T) true (backTo pos (starEach (e :: rest) env)) (backToKw pos (keywordEach kws env))) (fun a s₁ => wpAny M A (call (.type T) ([] ++ a.pos) a.kw) Q E s₁) E s := by
    rw [he] at h ⊢
    exact evalArgs_kwB hall h
  refine wpAny_bind (wpAny_holding (wpAny_mono h2 (fun a s₁ h₁ => wpAny_bind (wpAny_standAt ?_)) fun _ _ x => x))
  simp only [hpl, hkw, Bool.or_false]
  exact wpAny_bind (wpAny_pure (wpAny_bind (wpAny_mono h₁ (fun r s₂ hr => wpAny_bind (wpAny_holding (wpAny_point (wpAny_pure hr)))) fun _ _ x => x)))
end
def iZipSH (K : PySem.W.Frag) (ta : TA) : TI := fun σ H R => ta σ H fun vs H1 => ∃ a b xs ys, vs = [.ref a, .ref b] ∧ SqT K H1 a xs ∧ SqT K H1 b ys ∧ R (ItzS K a b) H1
theorem pi_zipS {X : Cx} {e e2 : Expr} {ta : TA} {p pos tpos kp cp : Pos} {j : Nat} {elts : List Expr} {kk : Nat} (hg : Gl X "zip") (hm : X.mg "zip" = none) (ha : PA X [e, e2] ta)
    (he : backTo pos (starEach [e, e2] X.env) = (false, eval e X.env) :: backTo pos (starEach [e2] X.env)) (hpl : (backTo pos (starEach [e, e2] X.env)).any (·.1) = false)
    (hall : (backToKw pos (keywordEach [⟨some "strict", .Constant (.bool true) j cp, kp⟩] X.env)).all (·.1.isSome) = true) (hkw : (backToKw pos (keywordEach [⟨some "strict", .Constant (.bool true) j cp, kp⟩] X.env)).any (·.1.isNone) = false)
    (hks : (backToKw pos (keywordEach [⟨some "strict", .Constant (.bool true) j cp, kp⟩] X.env)).filterMap (·.1) = [Str.ofString "strict"]) :
    PI X (.Tuple elts kk tpos) (.Call (.Name "zip" p) [e, e2] [⟨some "strict", .Constant (.bool true) j cp, kp⟩] pos) (iZipSH X.K ta) := by
  refine ⟨fun pins s σ H R I h => ?_⟩
  refine wpAny_Call_Name_kw (ld_blt I hg hm PyProof.Rows.boot_zip ?_)
  refine cw_typeKw (thn (ha.run pos pins s σ H _ I h) fun us s1 ⟨vs, H1, I1, r1, q1⟩ => kws_cons ?_) he hpl hall hkw
  refine thn ((pe_bl (X := X) (b := true)).run pins s1 σ H1 (fun y H2 => y = .bl true ∧ H2 = H1) I1 ⟨rfl, rfl⟩) fun v s2 ⟨y, H2, I2, ry, ey, eh⟩ => kws_nil ?_
  subst ey
  subst eh
  cases ry
  rw [hks]
  obtain ⟨a, b, xs, ys, ex, qx, qy, q⟩ := q1
  subst ex
  cases r1 with
  | cons r rr =>
    cases rr with
    | cons r' rr =>
      cases rr
      cases r
      cases r'
      have fresh5 : ∀ c, c ∈ [s2.heap.objs.size + 4, s2.heap.objs.size + 2, s2.heap.objs.size + 3, s2.heap.objs.size, s2.heap.objs.size + 1] → FpOk X pins H2 c := fun c hcm => by
        have cs : c = s2.heap.objs.size + 4 ∨ c = s2.heap.objs.size + 2 ∨ c = s2.heap.objs.size + 3 ∨ c = s2.heap.objs.size ∨ c = s2.heap.objs.size + 1 := by simpa using hcm
        have le : s2.heap.objs.size ≤ c := by
          rcases cs with e | e | e | e | e <;> (rw [e]; first | exact Nat.le_refl _ | exact Nat.le_add_right _ _)
        exact I2.fpOk le (I2.hok.fresh le)
      obtain ⟨its, rv, p1, _⟩ := I2.tuple qx
      obtain ⟨its2, rv2, p2, _⟩ := I2.tuple qy
      obtain ⟨o1, ho1, _⟩ := id p1
      obtain ⟨o2, ho2, _⟩ := id p2
      refine call_zipS (show s2.heap.IsTuple a its.toArray from p1) (show s2.heap.IsTuple b its2.toArray from p2) fun h' hz hTI hTO h1 h2 hsz hk => iter_zipS hz ?_
      have I3 : Inv X pins σ H2 { s2 with heap := h' } := I2.kept (t' := s2.toks) hk
      exact ⟨s2.heap.objs.size + 4, [s2.heap.objs.size + 4, s2.heap.objs.size + 2, s2.heap.objs.size + 3, s2.heap.objs.size, s2.heap.objs.size + 1], _, _, H2, rfl, I3, turn_zipS (PySem.W.ktu_apart s2.heap.objs.size a b (Heap.lt_size ho1) (Heap.lt_size ho2)), ⟨hz, hTI, ⟨_, _, hTO⟩, h1, h2⟩, fresh5, q⟩
theorem itIs_zipS {K : PySem.W.Frag} {F : Hp} {a b : Addr} {vs us : List V} {ds es : List D} (hs : SqT K F a vs) (hl : IsL K F vs ds) (hs' : SqT K F b us) (hl' : IsL K F us es) (he : ds.length = es.length) : ItIs K F (ItzS K a b) ⟨zipL ds es, fun _ => True⟩ := by
  have h := hl.length
  have h' := hl'.length
  refine ⟨fun i F1 H1 μ1 s r hc hi => ?_, fun i F1 H1 μ1 x H2 s r hc hb y => ?_, fun F1 H1 μ1 s r hc => ?_⟩
  · have hi' : i < (zipL ds es).length := hi
    rw [zipL_len] at hi'
    exact ⟨vs, us, vs[i]'(by omega), us[i]'(by omega), sqt_up r.sub (sqt_up s hs), sqt_up r.sub (sqt_up s hs'), List.getElem?_eq_getElem (by omega), List.getElem?_eq_getElem (by omega)⟩
  · obtain ⟨T, z, z', rfl, hn, rfl, y, y'⟩ := y
    obtain ⟨d, h1, h2⟩ := hl.getV (y vs (sqt_up r.sub (sqt_up s hs)))
    obtain ⟨d', h1', h2'⟩ := hl'.getV (y' us (sqt_up r.sub (sqt_up s hs')))
    have e := same_new (o := .tup [z, z']) (r.nn hn)
    exact ⟨_, .tup [d, d'], e, r.new hn, zipL_get ds es i d d' h1 h1', .tup (.inl (.inl upd_same)) (.cons ((h2.up s).up e) (.cons ((h2'.up s).up e) .nil))⟩
  · refine ⟨vs, us, sqt_up r.sub (sqt_up s hs), sqt_up r.sub (sqt_up s hs'), ?_⟩
    show vs.length ≤ (zipL ds es).length ∧ us.length ≤ (zipL ds es).length
    rw [zipL_len]
    omega
def iZipSD (ms : Rho → W (List D)) (ρ : Rho) : W ItD := W.bnd (ms ρ) fun as => match as with
  | [.tup ds, .tup es] => W.req (ds.length = es.length) (W.ret ⟨zipL ds es, fun _ => True⟩)
  | _ => W.bad
theorem di_zipS {X : Cx} {Eh : Option XK} {e e2 : Expr} {ms : Rho → W (List D)} {p pos tpos kp cp : Pos} {j : Nat} {elts : List Expr} {kk : Nat} (hg : Gl X "zip") (hm : X.mg "zip" = none) (ha : DA X Eh [e, e2] ms)
    (he : backTo pos (starEach [e, e2] X.env) = (false, eval e X.env) :: backTo pos (starEach [e2] X.env)) (hpl : (backTo pos (starEach [e, e2] X.env)).any (·.1) = false)
    (hall : (backToKw pos (keywordEach [⟨some "strict", .Constant (.bool true) j cp, kp⟩] X.env)).all (·.1.isSome) = true) (hkw : (backToKw pos (keywordEach [⟨some "strict", .Constant (.bool true) j cp, kp⟩] X.env)).any (·.1.isNone) = false)
    (hks : (backToKw pos (keywordEach [⟨some "strict", .Constant (.bool true) j cp, kp⟩] X.env)).filterMap (·.1) = [Str.ofString "strict"]) :
    DI X Eh (.Tuple elts kk tpos) (.Call (.Name "zip" p) [e, e2] [⟨some "strict", .Constant (.bool true) j cp, kp⟩] pos) (iZipSD ms) := by
  refine PI.imp (pi_zipS hg hm ha he hpl hall hkw hks) fun σ H R h => ?_
  obtain ⟨F, ρ, μ, Q, ED, env, rep, lnk, hm, bk⟩ := h
  refine ⟨F, ρ, μ, _, ED, env, rep, lnk, hm, fun v1 H1 d1 F1 μ1 s1 r1 i1 q1 => ?_⟩
  match d1, q1, i1 with
  | [.tup ds, .tup es], q1, i1 =>
    obtain ⟨v, us, rfl, i, i2⟩ := isL_cons i1
    obtain ⟨w, us', rfl, j, i3⟩ := isL_cons i2
    cases i3
    cases i with
    | tup hs hl =>
      cases j with
      | tup hs' hl' => exact ⟨_, _, _, _, rfl, sqt_up r1.sub hs, sqt_up r1.sub hs', bk _ H1 F1 μ1 _ s1 r1 (itIs_zipS hs hl hs' hl' q1.1) q1.2⟩

/-! ### dict(pairs) -/
def pairsOf : List D → Option (List (Key × D))
  | [] => some []
  | .tup [k, v] :: r => (match keyOf k, pairsOf r with
    | some k, some r => some ((k, v) :: r)
    | _, _ => none)
  | _ => none
theorem pairs_isL {K : PySem.W.Frag} {F H : Hp} (sb : Same F H) : ∀ {ds : List D} {vs : List V} {kvs : List (Key × D)}, IsL K F vs ds → pairsOf ds = some kvs → ∃ (ps : List Addr) (ks : List (Key × V)), vs = ps.map V.ref ∧ Paired (fun p kv => SqT K H p [kV kv.1, kv.2]) ps ks ∧ KvIs K F ks kvs
  | [], _, kvs, .nil, h => by cases h; exact ⟨[], [], rfl, .nil, .nil⟩
  | d :: r, _, kvs, .cons i il, h => by
    unfold pairsOf at h
    split at h
    · rename_i e; cases e
    · rename_i k v r' e
      cases e
      split at h
      · rename_i k' r'' e1 e2
        cases h
        obtain ⟨ps, ks, rfl, hp, kv⟩ := pairs_isL sb il e2
        cases i with
        | tup hs hl =>
          obtain ⟨x, y, rfl, ix, iy⟩ := isL2 hl
          cases key_is ix e1
          exact ⟨_ :: ps, (k', y) :: ks, rfl, .cons (sqt_up sb hs) hp, .cons iy kv⟩
      · cases h
    · cases h
def dictD : List D → W D
  | [x] => W.bnd W.get fun μ => W.bnd (W.opt (lsOf x μ)) fun ds => W.bnd (W.opt (pairsOf ds)) fun kvs => W.ret (.dct (mergeD [] kvs))
  | _ => W.bad
theorem cd_dict {K : PySem.W.Frag} : CallD K (fun xs H Q => ∃ (a : Addr) (ps : List Addr) (kvs : List (Key × V)), xs = [.ref a] ∧ SqL K H a (ps.map V.ref) ∧ Paired (fun p kv => SqT K H p [kV kv.1, kv.2]) ps kvs ∧
    ∀ p, H p = none → Q (.ref p) (upd H p (.dK (mergeK [] kvs)))) dictD := by
  intro F H μ xs ds Q ED Qh r il h bk
  match ds, h, il with
  | [x], h, il =>
    obtain ⟨v, rfl, i⟩ := isL1 il
    obtain ⟨es, e1, h⟩ := opt_of h
    obtain ⟨kvs, e2, q⟩ := opt_of h
    obtain ⟨a, vs, rfl, h1, h2⟩ := ls_of r i e1
    obtain ⟨ps, ks, rfl, hp, kv⟩ := pairs_isL r.sub h2 e2
    refine ⟨a, ps, ks, rfl, h1, hp, fun p hn => ?_⟩
    have e := same_new (o := .dK (mergeK [] ks)) (r.nn hn)
    have nk := (KvIs.merge kv (KvIs.nil (K := K) (F := F))).back
    exact bk _ _ _ _ _ e (r.new hn) (.dct upd_same nk.1 (nk.2.up e)) q

/-! ### repr of a dict of plain scalars -/
def scV : V → Option PyData
  | .non => some .none
  | .bl b => some (.bool b)
  | .int i => some (.int i)
  | .str s => some (.str s)
  | _ => none
theorem scV_reads {h : Heap} {v : V} {u : Value} {p : PyData} (r : RelV v u) (e : scV v = some p) : Reads h u p [] := by
  cases v with
  | non => cases e; cases r; exact .none
  | bl b => cases e; cases r; exact .bool b
  | int i => cases e; obtain ⟨t, rfl⟩ := r; exact .int i t
  | str i => cases e; obtain ⟨t, rfl⟩ := r; exact .str i t
  | _ => cases e
theorem key_reads {h : Heap} {k : Key} {u : Value} (r : keyIs k u = true) : Reads h u (keyPy k) [] := by
  rcases keyIs_shape r with ⟨i, t, rfl, rfl⟩ | ⟨x, t, rfl, rfl⟩
  · exact .int i t
  · exact .str x t
def kvPy : List (Key × V) → Option (List (PyData × PyData))
  | [] => some []
  | (k, v) :: r => (match scV v, kvPy r with
    | some p, some ps => some ((keyPy k, p) :: ps)
    | _, _ => none)
def rReprD : List V → Hp → VK → Prop := fun xs H Q => ∃ a ks ps, xs = [.ref a] ∧ Rd H a (.dK ks) ∧ kvPy ks = some ps ∧ PyData.showableKv ps = true ∧ (PyData.dict ps).depth ≤ 60 ∧ (PyData.dict ps).shown.length ≤ sizeLine ∧ Q (.str (PyData.dict ps).shown) H
theorem kv_reads {P : Program} {w : World} {h : Heap} : ∀ {es : List DictEntry} {vs : List (Key × Value)} {ks : List (Key × V)} {ps : List (PyData × PyData)}, Pairs (mixKind P w) es vs → KV ks vs → kvPy ks = some ps → ReadsAll h (es.map (·.key)) (ps.map (·.1)) [] ∧ ReadsAll h (es.map (·.val)) (ps.map (·.2)) []
  | [], [], [], ps, _, _, e => by cases e; exact ⟨.nil, .nil⟩
  | e :: es, (k, u) :: vs, (k', v) :: ks, ps, hp, hk, e1 => by
    unfold kvPy at e1
    split at e1
    · rename_i p qs h1 h2
      cases e1
      cases hk with
      | cons r rr =>
        obtain ⟨rfl, r⟩ := r
        cases hp with
        | cons hp1 hp2 hp3 =>
          obtain ⟨a, b⟩ := kv_reads hp3 rr h2
          refine ⟨?_, ?_⟩
          · exact ReadsAll.cons (as := []) (bs := []) (key_reads hp1) a
          · refine ReadsAll.cons (as := []) (bs := []) ?_ b
            show Reads h e.val p []
            rw [hp2]
            exact scV_reads r h1
    · cases e1
  | [], _ :: _, _, _, hp, _, _ => by cases hp
  | _ :: _, [], _, _, hp, _, _ => by cases hp
  | [], [], _ :: _, _, _, hk, _ => by cases hk
  | _ :: _, _ :: _, [], _, _, hk, _ => by cases hk

theorem call_reprD {X : Cx} (hg : X.A.guards = some []) (hu : X.A.units + 64 < cLine) : CallR X (.builtin "repr") rReprD := by
  intro pins s σ H xs us Q I r h
  obtain ⟨a, ks, ps, rfl, e, ek, hs, hd, hz, q⟩ := h
  obtain ⟨u, rfl, ru⟩ := vals1 r
  cases ru
  obtain ⟨z, hsm, vs, rel, o, es, ep, ho, hex, hdat, hkeys, hpairs, hnd⟩ := dk_rd I.hok e
  obtain ⟨r1, r2⟩ := kv_reads (h := s.heap) hpairs rel ek
  have rd : Reads s.heap (.ref a) (.dict ps) (a :: [] ++ []) := Reads.dict ho hex.1 hdat r1 r2
  have ha : a ≠ sysModules := fun e => by
    rw [e] at hsm
    exact absurd hsm (by decide)
  exact repr_of_reads' rd hs (fun _ => by simpa using Ne.symm ha) hg (by omega) (fun _ _ e => e) (fun h' t tk hk => ⟨.str _, H, I.kept (t' := tk) hk, ⟨_, rfl⟩, q⟩) hz
theorem CallR.or {X : Cx} {f : Value} {r r' : List V → Hp → VK → Prop} (h : CallR X f r) (h' : CallR X f r') : CallR X f (fun xs H Q => r xs H Q ∨ r' xs H Q) := by
  intro pins s σ H xs us Q I rv q
  rcases q with q | q
  · exact h pins s σ H xs us Q I rv q
  · exact h' pins s σ H xs us Q I rv q
def scD : D → Option PyData
  | .non => some .none
  | .bl b => some (.bool b)
  | .int i => some (.int i)
  | .str s => some (.str s)
  | _ => none
def dkPy : List (Key × D) → Option (List (PyData × PyData))
  | [] => some []
  | (k, v) :: r => (match scD v, dkPy r with
    | some p, some ps => some ((keyPy k, p) :: ps)
    | _, _ => none)
theorem dkPy_is {K : PySem.W.Frag} {F : Hp} : ∀ {ks : List (Key × V)} {ds : List (Key × D)} {ps : List (PyData × PyData)}, KvIs K F ks ds → dkPy ds = some ps → kvPy ks = some ps
  | _, _, ps, .nil, h => h
  | _, _, ps, .cons (v := v) (d := d) i r, h => by
    unfold dkPy at h
    split at h
    · rename_i p qs h1 h2
      cases h
      have e : scV v = some p := by
        cases i <;> first | exact h1 | (cases h1; done)
      unfold kvPy
      rw [e, dkPy_is r h2]
    · cases h
def reprAD : List D → W D
  | [.dct kvs] => W.bnd (W.opt (dkPy kvs)) fun ps => W.req (PyData.showableKv ps = true ∧ (PyData.dict ps).depth ≤ 60 ∧ (PyData.dict ps).shown.length ≤ sizeLine) (W.ret (.str (PyData.dict ps).shown))
  | xs => reprD xs
theorem cd_reprA {K : PySem.W.Frag} : CallD K (fun xs H Q => rRepr K xs H Q ∨ rReprD xs H Q) reprAD := by
  intro F H μ xs ds Q ED Qh r il h bk
  unfold reprAD at h
  split at h
  · rename_i kvs
    obtain ⟨v, rfl, i⟩ := isL1 il
    obtain ⟨ps, e, ⟨h1, h2, h3⟩, q⟩ := opt_of h
    cases i with
    | dct hs hk hl => exact .inr ⟨_, _, ps, rfl, .inl (r.sub _ _ hs), dkPy_is (kvIs_of hk hl) e, h1, h2, h3, back_is bk r (.str _) q⟩
  · exact .inl (cd_repr F H μ xs ds Q ED Qh r il h bk)
end DL

/-! DLs: enumerate of texts, of tuples -/
namespace DL
open PySem PySem.Spec PyProof.Rows L2 RZ

def ItES (x : Str) : It :=
  ⟨fun i _ => i < x.cps.size, fun i H v H' => ∃ T c, v = .ref T ∧ H T = none ∧ H' = upd H T (.tup [.int (i : Nat), .str ⟨#[c]⟩]) ∧ x.cps[i]? = some c, fun i _ => i = x.cps.size⟩
def ItET (K : PySem.W.Frag) (a : Addr) : It :=
  ⟨fun i H => ∃ (xs : List V) (x : V), SqT K H a xs ∧ xs[i]? = some x, fun i H v H' => ∃ T x, v = .ref T ∧ H T = none ∧ H' = upd H T (.tup [.int (i : Nat), x]) ∧ ∀ xs, SqT K H a xs → xs[i]? = some x, fun i H => ∃ xs : List V, SqT K H a xs ∧ xs.length = i⟩
theorem turn_eS {P : Program} {w : World} {K : PySem.W.Frag} {elts : List Expr} {kk : Nat} {tpos : Pos} (x : Str) (t : Tok) (e it : Addr) :
    Turn P w K (.Tuple elts kk tpos) (ItES x) [e, it] e (fun i h => (∃ old, IsEnum h e it ((i : Nat) : Int) old) ∧ h.IsStrIter it (strIterType x) x t i ∧ e ≠ it) where
  mem := by simp
  obj := fun i h st b hb => by
    obtain ⟨⟨old, he⟩, ⟨o, ho, hc, hd⟩, _⟩ := st
    have cs : b = e ∨ b = it := by simpa using hb
    rcases cs with z | z
    · rw [z]; exact ⟨_, he, fun v q => nomatch q⟩
    · rw [z]; exact ⟨o, ho, fun v q => by rw [hd] at q; cases q⟩
  keep := fun i h h' st k => by
    obtain ⟨⟨old, he⟩, ⟨o, ho, hr⟩, hne⟩ := st
    exact ⟨⟨old, k e (by simp) _ he⟩, ⟨o, k it (by simp) o ho, hr⟩, hne⟩
  item := by
    intro X hP hw hK hc i pins s σ H E I hf st hg
    subst hP hw hK
    obtain ⟨⟨old, he⟩, hit, hne⟩ := st
    have el : e < s.heap.objs.size := Heap.lt_size he
    have il : it < s.heap.objs.size := by obtain ⟨_, q, _⟩ := hit; exact Heap.lt_size q
    have D := Draws.text (prog := X.prog) (w := X.w) (A := X.A.in1) (show X.A.in1.handled = none from I.ok.hd hc) it x t
    refine wpAny_pyNext_enum_itemC D he hit hg hne (by simpa using hne) fun u h' tk hP ho hit' hT hsz hk => ?_
    obtain ⟨c, tu, hcx, rfl⟩ := hP
    refine ⟨_, rfl, wpAny_letOwnedTupleGo_enum (s := { s with heap := h', toks := tk + 1 }) ho fun h'' he' sb => ?_⟩
    have nT : h''.get? s.heap.objs.size = some { cls := .type "tuple", data := .seq #[.int ((i : Nat) : Int) tk, .str ⟨#[c]⟩ tu] } := (sb.2 _ (Nat.ne_of_gt el)).trans hT
    have new : ObjOk X.prog X.w (upd H s.heap.objs.size (.tup [.int (i : Nat), .str ⟨#[c]⟩])) h'' s.heap.objs.size (.tup [.int (i : Nat), .str ⟨#[c]⟩]) :=
      ⟨by show 2 ≤ sizeLine; decide, [.int i tk, .str ⟨#[c]⟩ tu], .cons ⟨_, rfl⟩ (.cons ⟨_, rfl⟩ .nil), ⟨_, nT, rfl, _, rfl⟩⟩
    have I1 : Inv X pins σ (upd H s.heap.objs.size (.tup [.int (i : Nat), .str ⟨#[c]⟩])) { s with heap := h'', toks := tk + 1 } :=
      I.turnedNew (ch := [e, it]) (fun b ob hb q => (sb.2 b (fun z => hb (by simp [z]))).trans (hk b ob (fun z => hb (by simp [z])) (fun z => hb (by simp [z])) q)) hf (Nat.le_refl _) new
    refine ⟨.ref s.heap.objs.size, _, I1, rfl, ⟨_, c, rfl, I.hok.fresh (Nat.le_refl _), rfl, hcx⟩, ⟨⟨.str ⟨#[c]⟩ tu, ?_⟩, ?_, hne⟩, fun b hb => ?_⟩
    · rw [show ((i + 1 : Nat) : Int) = (i : Int) + 1 by omega]
      exact he'
    · obtain ⟨o, q1, q2⟩ := hit'
      exact ⟨o, (sb.2 it (Ne.symm hne)).trans q1, q2⟩
    · have lt : b < s.heap.objs.size := by
        have cs : b = e ∨ b = it := by simpa using hb
        rcases cs with z | z
        · rw [z]; exact el
        · rw [z]; exact il
      rw [upd_ne (Nat.ne_of_lt lt)]
      exact (hf b hb).1
  done := by
    intro X hP hw hK hc i pins s σ H E I hf st hg
    subst hP hw hK
    obtain ⟨⟨old, he⟩, hit, hne⟩ := st
    obtain ⟨f0, f1, f2, f3, f4, f5⟩ := hf it (by simp)
    have D := Draws.text (prog := X.prog) (w := X.w) (A := X.A.in1) (show X.A.in1.handled = none from I.ok.hd hc) it x t
    have hi : i = x.cps.size := hg
    rw [hi] at hit
    exact wpAny_pyNext_enum_endD D he hit fun h' eb => ⟨rfl, I.turned (t' := s.toks) (fun b o hb q => eb b o hb q) f0 f1 f3 f4 f5⟩
  self := fun A i s Q E st h => let ⟨⟨_, he⟩, _⟩ := st; wpAny_pyIter_enum he h
theorem turn_eT {P : Program} {w : World} {K : PySem.W.Frag} {elts : List Expr} {kk : Nat} {tpos : Pos} (a e it : Addr) :
    Turn P w K (.Tuple elts kk tpos) (ItET K a) [e, it] e (fun i h => (∃ old, IsEnum h e it ((i : Nat) : Int) old) ∧ h.IsTupleIter it a i ∧ e ≠ it) where
  mem := by simp
  obj := fun i h st b hb => by
    obtain ⟨⟨old, he⟩, ⟨o, ho, hc, hd⟩, _⟩ := st
    have cs : b = e ∨ b = it := by simpa using hb
    rcases cs with z | z
    · rw [z]; exact ⟨_, he, fun v q => nomatch q⟩
    · rw [z]; exact ⟨o, ho, fun v q => by rw [hd] at q; cases q⟩
  keep := fun i h h' st k => by
    obtain ⟨⟨old, he⟩, ⟨o, ho, hr⟩, hne⟩ := st
    exact ⟨⟨old, k e (by simp) _ he⟩, ⟨o, k it (by simp) o ho, hr⟩, hne⟩
  item := by
    intro X hP hw hK hc i pins s σ H E I hf st hg
    subst hP hw hK
    obtain ⟨⟨old, he⟩, hit, hne⟩ := st
    have el : e < s.heap.objs.size := Heap.lt_size he
    have il : it < s.heap.objs.size := by obtain ⟨_, q, _⟩ := hit; exact Heap.lt_size q
    obtain ⟨xs, x, hq, hx⟩ := hg
    obtain ⟨its, rv, p, hz⟩ := I.tuple hq
    obtain ⟨ux, hu, ru⟩ := rv.get hx
    have ai : a ≠ it := fun z => by
      obtain ⟨o1, q1, c1, _⟩ := hit
      obtain ⟨o2, q2, c2, _⟩ := p
      rw [z, q1] at q2
      cases q2
      rw [c1] at c2
      exact absurd c2 (by decide)
    have ae : e ≠ a := fun z => by
      obtain ⟨o2, q2, c2, _⟩ := p
      rw [← z, he] at q2
      cases q2
      exact absurd c2 (by simp)
    have D := Draws.tuple (prog := X.prog) (w := X.w) (A := X.A.in1) (show X.A.in1.handled = none from I.ok.hd hc) it a ai its.toArray
    have hlt : i < its.toArray.size := by
      have h1 : i < its.length := by
        rcases Nat.lt_or_ge i its.length with z | z
        · exact z
        · rw [List.getElem?_eq_none z] at hu; cases hu
      simpa using h1
    refine wpAny_pyNext_enum_itemC D he ⟨hit, p⟩ hlt hne (by simp [hne, ae]) fun u h' tk hP ho hit' hT hsz hk => ?_
    have hue : u = ux := by
      have h2 : its.toArray[i]? = some ux := by simpa using hu
      rw [hP] at h2
      exact Option.some.inj h2
    subst hue
    have hit' := hit'.1
    refine ⟨_, rfl, wpAny_letOwnedTupleGo_enum (s := { s with heap := h', toks := tk + 1 }) ho fun h'' he' sb => ?_⟩
    have nT : h''.get? s.heap.objs.size = some { cls := .type "tuple", data := .seq #[.int ((i : Nat) : Int) tk, u] } := (sb.2 _ (Nat.ne_of_gt el)).trans hT
    have new : ObjOk X.prog X.w (upd H s.heap.objs.size (.tup [.int (i : Nat), x])) h'' s.heap.objs.size (.tup [.int (i : Nat), x]) :=
      ⟨by show 2 ≤ sizeLine; decide, [.int i tk, u], .cons ⟨_, rfl⟩ (.cons ru .nil), ⟨_, nT, rfl, _, rfl⟩⟩
    have I1 : Inv X pins σ (upd H s.heap.objs.size (.tup [.int (i : Nat), x])) { s with heap := h'', toks := tk + 1 } :=
      I.turnedNew (ch := [e, it]) (fun b ob hb q => (sb.2 b (fun z => hb (by simp [z]))).trans (hk b ob (fun z => hb (by simp [z])) (fun z => hb (by simp [z])) q)) hf (Nat.le_refl _) new
    refine ⟨.ref s.heap.objs.size, _, I1, rfl, ⟨_, x, rfl, I.hok.fresh (Nat.le_refl _), rfl, fun ys hy => by rw [I.tuple_inj hy hq]; exact hx⟩, ⟨⟨u, ?_⟩, ?_, hne⟩, fun b hb => ?_⟩
    · rw [show ((i + 1 : Nat) : Int) = (i : Int) + 1 by omega]
      exact he'
    · obtain ⟨o, q1, q2⟩ := hit'
      exact ⟨o, (sb.2 it (Ne.symm hne)).trans q1, q2⟩
    · have lt : b < s.heap.objs.size := by
        have cs : b = e ∨ b = it := by simpa using hb
        rcases cs with z | z
        · rw [z]; exact el
        · rw [z]; exact il
      rw [upd_ne (Nat.ne_of_lt lt)]
      exact (hf b hb).1
  done := by
    intro X hP hw hK hc i pins s σ H E I hf st hg
    subst hP hw hK
    obtain ⟨⟨old, he⟩, hit, hne⟩ := st
    obtain ⟨f0, f1, f2, f3, f4, f5⟩ := hf it (by simp)
    obtain ⟨xs, hq, hx⟩ := hg
    obtain ⟨its, rv, p, hz⟩ := I.tuple hq
    have ai : a ≠ it := fun z => by
      obtain ⟨o1, q1, c1, _⟩ := hit
      obtain ⟨o2, q2, c2, _⟩ := p
      rw [z, q1] at q2
      cases q2
      rw [c1] at c2
      exact absurd c2 (by decide)
    have D := Draws.tuple (prog := X.prog) (w := X.w) (A := X.A.in1) (show X.A.in1.handled = none from I.ok.hd hc) it a ai its.toArray
    have hi : i = its.toArray.size := by rw [List.size_toArray, ← rv.length]; exact hx.symm
    rw [hi] at hit
    exact wpAny_pyNext_enum_endD D he ⟨hit, p⟩ fun h' eb => ⟨rfl, I.turned (t' := s.toks) (fun b o hb q => eb b o hb q) f0 f1 f3 f4 f5⟩
  self := fun A i s Q E st h => let ⟨⟨_, he⟩, _⟩ := st; wpAny_pyIter_enum he h

theorem new_eT (l : Addr) (items : Array Value) : Meets (Builtin.«enumerate.__new__» ⟨[.type "enumerate", .ref l], []⟩) (fun _ R s => s.heap.IsTuple l items ∧
      R (.ok (.ret (.ref (s.heap.push { cls := .type "tuple_iterator", data := .fields #[.ref l, .int 0 0] }).objs.size))) { s with heap := (s.heap.push { cls := .type "tuple_iterator", data := .fields #[.ref l, .int 0 0] }).push { cls := .type "enumerate", data := .fields #[.none, .bool false, .ref s.heap.objs.size, rawInt 0, .none, .none] } }) :=
  .of_wp fun prog w A R s h => by
    obtain ⟨hp, g, d, tk, os⟩ := s; obtain ⟨h1, h⟩ := h
    have hsub := sub_enumerate
    have q1 : ∀ {A' : Around} {E : Value → Shared → Prop} {Q : Value → Shared → Prop}, Q (.ref hp.objs.size) ⟨hp.push { cls := .type "tuple_iterator", data := .fields #[.ref l, .int 0 0] }, g, d, tk, os⟩ → wpAny (model prog w) A' (pyIter (.ref l)) Q E ⟨hp, g, d, tk, os⟩ :=
      fun q => wpAny_pyIter_tuple (s := ⟨hp, g, d, tk, os⟩) h1 q
    wp_walk using q1
    refine wpAny_stack_any fun st => wpAny_pure ?_
    split
    · rename_i c _ _ _ _ _
      cases (c == Value.type "enumerate") <;> (wp_walk using q1; exact ⟨_, rfl, h⟩)
    · wp_walk using q1
      exact ⟨_, rfl, h⟩
theorem call_eT {prog : Program} {w : World} {A : Around} {E : Value → Shared → Prop} {s : Shared} {l : Addr} {items : Array Value} {Q : Value → Shared → Prop} (ht : s.heap.IsTuple l items)
    (h : ∀ h', IsEnum h' (s.heap.objs.size + 1) s.heap.objs.size 0 .none → h'.IsTupleIter s.heap.objs.size l 0 → (∀ b o, s.heap.get? b = some o → h'.get? b = some o) → Q (.ref (s.heap.objs.size + 1)) { s with heap := h' }) :
    wpAny (model prog w) A (call (.type "enumerate") [.ref l]) Q E s := by
  refine callType_new F.called_enumerate (by decide) (F.typeCall_enumerate_1 _) (F.newCall_enumerate_1 _) (fun obj => F.args_object_init_2 obj _) F.entry_enumerate_new (new_eT l items) ⟨ht, ?_⟩
  have yz : (s.heap.push { cls := .type "tuple_iterator", data := .fields #[.ref l, .int 0 0] }).objs.size = s.heap.objs.size + 1 := Heap.size_push ..
  show _ ∧ _
  rw [yz]
  have ye : IsEnum ((s.heap.push { cls := .type "tuple_iterator", data := .fields #[.ref l, .int 0 0] }).push { cls := .type "enumerate", data := .fields #[.none, .bool false, .ref s.heap.objs.size, rawInt 0, .none, .none] }) (s.heap.objs.size + 1) s.heap.objs.size 0 .none := by
    have y := Heap.get?_push_size (s.heap.push { cls := .type "tuple_iterator", data := .fields #[.ref l, .int 0 0] }) (o := { cls := .type "enumerate", data := .fields #[.none, .bool false, .ref s.heap.objs.size, rawInt 0, .none, .none] }) rfl
    rw [yz] at y; exact y
  exact ⟨⟨_, ye, rfl⟩, h _ ye ⟨_, Heap.get?_push_of_some _ (Heap.get?_push_size _ rfl), rfl, rfl⟩ fun b o x => Heap.get?_push_of_some _ (Heap.get?_push_of_some _ x)⟩
/-- enumerate of a list, a tuple, a text -/
def iEnumH (K : PySem.W.Frag) (ta : TA) : TI := fun σ H R => ta σ H fun vs H1 => (∃ a xs, vs = [.ref a] ∧ SqL K H1 a xs ∧ R (Ite K a) H1) ∨ (∃ a xs, vs = [.ref a] ∧ SqT K H1 a xs ∧ R (ItET K a) H1) ∨ ∃ x, vs = [.str x] ∧ R (ItES x) H1
theorem pi_enumA {X : Cx} {e : Expr} {ta : TA} {p pos tpos : Pos} {elts : List Expr} {kk : Nat} (hg : Gl X "enumerate") (hm : X.mg "enumerate" = none) (ha : PA X [e] ta) (hs : starEach [e] X.env = [(false, eval e X.env)]) :
    PI X (.Tuple elts kk tpos) (.Call (.Name "enumerate" p) [e] [] pos) (iEnumH X.K ta) := by
  refine ⟨fun pins s σ H R I h => ?_⟩
  refine Call_ (ld_blt I hg hm boot_enumerate (PyProof.Rows.callWith_type1 (thn (ha.run pos pins s σ H _ I h) fun us s1 ⟨vs, H1, I1, r1, q1⟩ => ?_) hs rfl))
  have fresh2 : ∀ b, b ∈ [s1.heap.objs.size + 1, s1.heap.objs.size] → FpOk X pins H1 b := fun b hb => by
    have cs : b = s1.heap.objs.size + 1 ∨ b = s1.heap.objs.size := by simpa using hb
    have le : s1.heap.objs.size ≤ b := by
      rcases cs with z | z <;> (rw [z]; first | exact Nat.le_refl _ | exact Nat.le_add_right _ _)
    exact I1.fpOk le (I1.hok.fresh le)
  rcases q1 with ⟨a, xs, ex, hq, q⟩ | ⟨a, xs, ex, hq, q⟩ | ⟨x, ex, q⟩
  · subst ex
    obtain ⟨u, rfl, r⟩ := vals1 r1
    cases r
    obtain ⟨its, rv, p', hz⟩ := I1.list hq
    refine call_enumerate_list p'.isList fun h' he hit hsz hk => wpAny_pyIter_enum he ?_
    exact ⟨s1.heap.objs.size + 1, [s1.heap.objs.size + 1, s1.heap.objs.size], _, _, H1, rfl, I1.kept (t' := s1.toks) hk, turn_enum a (s1.heap.objs.size + 1) s1.heap.objs.size, ⟨⟨.none, he⟩, hit, Nat.succ_ne_self _⟩, fresh2, q⟩
  · subst ex
    obtain ⟨u, rfl, r⟩ := vals1 r1
    cases r
    obtain ⟨its, rv, p', hz⟩ := I1.tuple hq
    refine call_eT (show s1.heap.IsTuple a its.toArray from p') fun h' he hit hk => wpAny_pyIter_enum he ?_
    exact ⟨s1.heap.objs.size + 1, [s1.heap.objs.size + 1, s1.heap.objs.size], _, _, H1, rfl, I1.kept (t' := s1.toks) hk, turn_eT a (s1.heap.objs.size + 1) s1.heap.objs.size, ⟨⟨.none, he⟩, hit, Nat.succ_ne_self _⟩, fresh2, q⟩
  · subst ex
    obtain ⟨u, rfl, r⟩ := vals1 r1
    obtain ⟨t, rfl⟩ := r
    refine call_enumerate_str fun h' he hit hsz hk => wpAny_pyIter_enum he ?_
    exact ⟨s1.heap.objs.size + 1, [s1.heap.objs.size + 1, s1.heap.objs.size], _, _, H1, rfl, I1.kept (t' := s1.toks) hk, turn_eS x t (s1.heap.objs.size + 1) s1.heap.objs.size, ⟨⟨.none, he⟩, hit, Nat.succ_ne_self _⟩, fresh2, q⟩
theorem itIs_eT {K : PySem.W.Frag} {F : Hp} {a : Addr} {vs : List V} {ds : List D} (hs : SqT K F a vs) (hl : IsL K F vs ds) : ItIs K F (ItET K a) ⟨enumL 0 ds, fun _ => True⟩ := by
  refine ⟨fun i F1 H1 μ1 s r hc hi => ?_, fun i F1 H1 μ1 x H2 s r hc hb y => ?_, fun F1 H1 μ1 s r hc => ?_⟩
  · have h := hl.length
    have hi' : i < (enumL 0 ds).length := hi
    rw [enumL_len] at hi'
    exact ⟨vs, vs[i]'(by omega), sqt_up r.sub (sqt_up s hs), List.getElem?_eq_getElem (by omega)⟩
  · obtain ⟨T, z, rfl, hn, rfl, y⟩ := y
    obtain ⟨d, h1, h2⟩ := hl.getV (y vs (sqt_up r.sub (sqt_up s hs)))
    have e := same_new (o := .tup [.int (i : Nat), z]) (r.nn hn)
    refine ⟨_, .tup [.int (i : Nat), d], e, r.new hn, ?_, .tup (.inl (.inl upd_same)) (.cons (.int _) (.cons ((h2.up s).up e) .nil))⟩
    have := enumL_get ds 0 i d h1
    rw [Nat.zero_add] at this
    exact this
  · exact ⟨vs, sqt_up r.sub (sqt_up s hs), by show vs.length = (enumL 0 ds).length; rw [enumL_len, hl.length]⟩
theorem itIs_eS {K : PySem.W.Frag} {F : Hp} {x : Str} : ItIs K F (ItES x) ⟨enumL 0 (signsD x), fun _ => True⟩ := by
  refine ⟨fun i F1 H1 μ1 s r hc hi => ?_, fun i F1 H1 μ1 v H2 s r hc hb y => ?_, fun F1 H1 μ1 s r hc => ?_⟩
  · have hi' : i < (enumL 0 (signsD x)).length := hi
    rw [enumL_len, signsD_len] at hi'
    exact hi'
  · obtain ⟨T, c, rfl, hn, rfl, hc'⟩ := y
    have e := same_new (o := .tup [.int (i : Nat), .str ⟨#[c]⟩]) (r.nn hn)
    refine ⟨_, .tup [.int (i : Nat), .str ⟨#[c]⟩], e, r.new hn, ?_, .tup (.inl (.inl upd_same)) (.cons (.int _) (.cons (.str _) .nil))⟩
    have := enumL_get (signsD x) 0 i (.str ⟨#[c]⟩) (by
      show (x.cps.toList.map fun c => D.str ⟨#[c]⟩)[i]? = _
      rw [List.getElem?_map, Array.getElem?_toList, hc']
      rfl)
    rw [Nat.zero_add] at this
    exact this
  · show (enumL 0 (signsD x)).length = x.cps.size
    rw [enumL_len, signsD_len]
def iEnumA (ms : Rho → W (List D)) (ρ : Rho) : W ItD := W.bnd (ms ρ) fun as => match as with
  | [.lst ds] => W.ret ⟨enumL 0 ds, fun _ => True⟩
  | [.tup ds] => W.ret ⟨enumL 0 ds, fun _ => True⟩
  | [.str x] => W.ret ⟨enumL 0 (signsD x), fun _ => True⟩
  | [.obj a] => W.bnd W.get fun μ => W.bnd (W.opt (lsOf (.obj a) μ)) fun ds => W.ret ⟨enumL 0 ds, fun μ' => μ' a = some (.ml ds)⟩
  | _ => W.bad
theorem di_enumA {X : Cx} {Eh : Option XK} {e : Expr} {ms : Rho → W (List D)} {p pos tpos : Pos} {elts : List Expr} {kk : Nat} (hg : Gl X "enumerate") (hm : X.mg "enumerate" = none) (ha : DA X Eh [e] ms) (hs : starEach [e] X.env = [(false, eval e X.env)]) :
    DI X Eh (.Tuple elts kk tpos) (.Call (.Name "enumerate" p) [e] [] pos) (iEnumA ms) := by
  refine PI.imp (pi_enumA hg hm ha hs) fun σ H R h => ?_
  obtain ⟨F, ρ, μ, Q, ED, env, rep, lnk, hm, bk⟩ := h
  refine ⟨F, ρ, μ, _, ED, env, rep, lnk, hm, fun v1 H1 d1 F1 μ1 s1 r1 i1 q1 => ?_⟩
  match d1, q1, i1 with
  | [.lst ds], q1, i1 =>
    obtain ⟨v, rfl, i⟩ := isL1 i1
    cases i with
    | lst hs hl => exact .inl ⟨_, _, rfl, sql_up r1.sub hs, bk _ H1 F1 μ1 _ s1 r1 (itIs_enum (fun F2 H2 μ2 s2 r2 _ => sql_up r2.sub (sql_up s2 hs)) hl) q1⟩
  | [.tup ds], q1, i1 =>
    obtain ⟨v, rfl, i⟩ := isL1 i1
    cases i with
    | tup hs hl => exact .inr (.inl ⟨_, _, rfl, sqt_up r1.sub hs, bk _ H1 F1 μ1 _ s1 r1 (itIs_eT hs hl) q1⟩)
  | [.str x], q1, i1 =>
    obtain ⟨v, rfl, i⟩ := isL1 i1
    cases is_str i
    exact .inr (.inr ⟨x, rfl, bk _ H1 F1 μ1 _ s1 r1 itIs_eS q1⟩)
  | [.obj a], q1, i1 =>
    obtain ⟨v, rfl, i⟩ := isL1 i1
    obtain ⟨ds, e, q⟩ := opt_of q1
    obtain ⟨a', vs, ev, hs, hl⟩ := ls_of r1 i e
    have eo := is_obj i
    subst eo
    cases ev
    exact .inl ⟨_, vs, rfl, hs, bk _ H1 F1 μ1 _ s1 r1 itIs_enumO q⟩

/-! ### a new list x + y, to be changed -/
def addMD (x y : D) : W D := W.bnd W.get fun μ => W.bnd (W.opt (lsOf x μ)) fun a => W.bnd (W.opt (lsOf y μ)) fun b => W.req (a.length + b.length ≤ sizeLine) (fun μ Q _ => ∀ p, μ p = none → Q (.obj p) (put μ p (.ml (a ++ b))))
theorem opd_addM {K : PySem.W.Frag} : OpD K (rAddA K) addMD := by
  intro F H μ x y dx dy Q ED Qh r ix iy h bk
  obtain ⟨a, ea, h⟩ := opt_of h
  obtain ⟨b, eb, hz, q⟩ := opt_of h
  obtain ⟨p1, vs, rfl, h1, l1⟩ := ls_of r ix ea
  obtain ⟨p2, us, rfl, h2, l2⟩ := ls_of r iy eb
  exact .inr (.inr (.inr ⟨p1, p2, vs, us, rfl, rfl, h1, h2, by rw [l1.length, l2.length]; exact hz, fun p hn => back_mut bk r hn (l1.app l2) (q p (r.mfree hn))⟩))
end DL

namespace DL
open PySem PySem.Spec PyProof.Rows L2

end DL
namespace DL
open PySem PySem.Spec PyProof.Rows L2
theorem look_relabel {b : Str → NameKind → Bool} (hb : ∀ n k, b n k = true → k = .free) : ∀ {names : List (Str × NameKind)} {x : Str}, names.lookup x = some .free →
    (names.map fun (n, k) => if b n k = true then (n, NameKind.cell) else (n, k)).lookup x = some .cell ∨ (names.map fun (n, k) => if b n k = true then (n, NameKind.cell) else (n, k)).lookup x = some .free
  | [], _, h => by cases h
  | (n, k) :: r, x, h => by
    rw [List.lookup_cons] at h
    rw [List.map_cons]
    by_cases e : (x == n) = true
    · rw [e] at h
      simp only at h
      cases h
      simp only
      by_cases q : b n .free = true
      · rw [if_pos q, List.lookup_cons, e]; exact .inl rfl
      · rw [if_neg q, List.lookup_cons, e]; exact .inr rfl
    · have e' : (x == n) = false := Bool.eq_false_iff.mpr e
      rw [e'] at h
      simp only
      by_cases q : b n k = true
      · rw [if_pos q, List.lookup_cons, e']; exact look_relabel hb h
      · rw [if_neg q, List.lookup_cons, e']; exact look_relabel hb h
theorem vis_relabel {scope : Scope} {env : Env} {x : Str} (h : scope.names.lookup x = some .local ∨ scope.names.lookup x = some .free) : Vis (relabel scope env) x := by
  rcases h with h | h
  · exact .inl (lookup_relabel_local h)
  · exact .inr (look_relabel (b := fun n k => k == .free && env.scope.kind == .function && env.kindOf n == some .cell) (fun n k e => by
      cases k <;> first | rfl | (exfalso; revert e; simp; done) | (exfalso; cases e)) h)
/-- a name in a comprehension -/
theorem de_varB {X : Cx} {Eh : Option XK} {s : Shared} {H : Hp} {scope : Scope} {cl : List (Str × Addr)} {C : Addr} {fp : List Addr} {i : Nat} {x : Str} {pos : Pos} (hN : X.N[i]? = some x) (hv : scope.names.lookup x = some .local ∨ scope.names.lookup x = some .free) (hd : (x == ("__debug__" : Str)) = false) (hcd : (x == ("__classdict__" : Str)) = false) :
    DE (X.blk s H scope (compEnvC scope cl C X.env) fp) Eh (.Name x pos) (eVar i) := de_var (X := X.blk s H scope (compEnvC scope cl C X.env) fp) hN (vis_relabel hv) hd hcd
end DL

namespace DL
open PySem PySem.Spec PyProof.Rows L2

/-! ### xs.index(n), xs of whole numbers -/
def indexD (o : D) : List D → W D
  | [.int k] => W.bnd W.get fun μ => W.bnd (W.opt (lsOf o μ)) fun ds => W.bnd (W.opt (intsOf ds)) fun ns => W.req (k ∈ ns) (W.ret (.int (ns.idxOf k : Nat)))
  | _ => W.bad
theorem md_index {K : PySem.W.Frag} : MtD K (rIndex K) indexD := by
  intro F H μ x dx xs ds Q ED Qh r ix il h bk
  unfold indexD at h
  split at h
  · rename_i k
    obtain ⟨y, rfl, i⟩ := isL1 il
    obtain ⟨es, e1, h⟩ := opt_of h
    obtain ⟨ns, e2, hk, q⟩ := opt_of h
    obtain ⟨a, vs, rfl, h1, h2⟩ := ls_of r ix e1
    cases ints_isL h2 e2
    cases i
    have hj : ns.idxOf k < ns.length := List.idxOf_lt_length_of_mem hk
    refine ⟨a, _, .int k, ns.idxOf k, .int k, rfl, rfl, h1, rfl, ?_, ?_, ?_, ?_, back_is bk r (.int _) q⟩
    · rw [List.all_eq_true]
      intro v hv
      obtain ⟨n, _, rfl⟩ := List.mem_map.mp hv
      rfl
    · rw [List.getElem?_map, List.getElem?_eq_getElem hj, List.getElem_idxOf hj]
      rfl
    · show (k == k) = true
      simp
    · intro m z hm hz
      rw [List.getElem?_map, List.getElem?_eq_getElem (by omega)] at hz
      cases hz
      show (ns[m] == k) = false
      exact List.not_of_lt_findIdx (p := (· == k)) hm
  · exact h.elim
theorem x_idx {ns : List Int} {k : Int} {μ : Mem} {Q : D → Mem → Prop} {E : XD} : indexD (.lst (ns.map .int)) [.int k] μ Q E = (k ∈ ns ∧ Q (.int (ns.idxOf k : Nat)) μ) := by
  show W.bnd (W.opt (intsOf (ns.map D.int))) _ μ Q E = _
  have : ∀ ns : List Int, intsOf (ns.map D.int) = some ns := fun ns => by
    induction ns with
    | nil => rfl
    | cons n r ih =>
      show (intsOf (r.map D.int)).map (n :: ·) = _
      rw [ih]
      rfl
  rw [this]
  rfl
end DL

namespace DL
open PySem PySem.Spec PyProof.Rows L2 PpSet

/-! ### {te for g in wi if tt}, te a whole number or a text -/
section
variable {X : Cx}
/-- one more key in the set at D -/
def addK (P : Program) (w : World) (D : Addr) (S : Key → Bool) (n : Nat) (c : Key) : HO :=
  SetK P w D (fun j => S j || decide (j = c)) (if S c = true then n else n + 1)
def tScK (P : Program) (w : World) (wi : TI) (g : TG) (tt : TT) (te : TE) (vs : List Nat) : TE := fun σ H Q =>
  wi σ H fun J Ha => ∀ D, Ha D = none → ∃ W : Nat → Nat → Hp → Prop,
    (∃ m, W 0 m (upd Ha D (SetK P w D (fun _ => false) 0))) ∧
    ∀ i m Hb, W i m Hb → (J.stop i Hb ∧ Q (.ref D) Hb) ∨
      (J.go i Hb ∧ ∃ Nx : Hp → Prop, (∀ Hc, Nx Hc → ∃ m', m' < m ∧ W (i + 1) m' Hc) ∧
        ∀ x Hc, J.yld i Hb x Hc → g x (wipe σ vs) Hc fun σ2 Hd =>
          wipe σ2 vs = wipe σ vs ∧ tt σ2 Hd fun b He =>
            if b = true then te σ2 He fun y Hf => ∃ (c : Key) (S : Key → Bool) (n : Nat),
              y = kV c ∧ Hf D = some (SetK P w D S n) ∧ n + 1 < scanBound ∧ Nx (upd Hf D (addK P w D S n c))
            else Nx He)
abbrev rawSet (w : World) : Obj :=
  { cls := .type "set", dict := none, data := .set #[] 0 (.fresh 0 0 (!w.params.followText "set-order")) }
theorem setK_raw {P : Program} {w : World} {h : Heap} : (h.push (rawSet w)).SetOf (mixKind P w) h.objs.size (fun _ => false) 0 := by
  refine ⟨rawSet w, #[], 0, _, Heap.get?_push_size _ rfl, ⟨rfl, rfl, rfl⟩, rfl, ?_, ?_, ?_, ?_, rfl⟩
  · intro e he
    simp at he
  · intro k
    simp
  · decide
  · rfl
theorem scK_core {pins : List (Addr × Obj)} {s0 : Shared} {σ : L2.St} {H : Hp} {Q : VK} {elt tg iter : Expr} {ifs : List Expr} {scope : Scope}
    {own : List (PySem.Str × Nat)} {pos pos' : Pos} {wi : TI} {g : TG} {tt : TT} {te : TE} {use : Option (Value → Sem Unit)} {Qf : Value → Shared → Prop}
    (hcalm : X.calm = true) (hnd : X.N.Nodup) (inv0 : Inv X pins σ H s0) (piter : PI X tg iter wi) (blk : BlkOk X.N X.env.scope scope own)
    (ptg : ∀ (s : Shared) (H : Hp) (C : Addr) (cl : List (PySem.Str × Addr)) (fp : List Addr),
      PG (X.blk s H scope (compEnvC scope cl C X.env) fp) tg g)
    (ptt : ∀ (s : Shared) (H : Hp) (C : Addr) (cl : List (PySem.Str × Addr)) (fp : List Addr),
      PTs (X.blk s H scope (compEnvC scope cl C X.env) fp) ifs tt)
    (pte : ∀ (s : Shared) (H : Hp) (C : Addr) (cl : List (PySem.Str × Addr)) (fp : List Addr),
      PE (X.blk s H scope (compEnvC scope cl C X.env) fp) elt te)
    (hfold : ∀ x, foldedSetIterable iter X.env x = pure x)
    (hyp : tScK X.prog X.w wi g tt te (own.map (·.2)) σ H Q)
    (fini : ∀ D C s' m H', Inv X pins σ H' s' → Q (.ref D) H' → s'.heap.Ns C m → FpOk X pins H' C →
      compPost (model X.prog X.w) X.A X.xe use Qf (.ref D) C (.ok .next) s') :
    wpAny (model X.prog X.w) X.A
      (comprehension (.SetComp elt [⟨tg, iter, ifs, 0⟩] scope pos) scope X.env pos' (newSet (.type "set")) false (eval iter X.env) use) Qf X.xe s0 := by
  have free : ∀ y ∈ scope.names, y.2 = .free → ∃ c, X.env.cells.lookup y.1 = some c := by
    intro y hy e
    cases blk.free y hy e with
    | inl k => exact inv0.ok.has _ (.inl k)
    | inr k => exact inv0.ok.has _ (.inr k)
  have step0 := piter.run pins s0 σ H _ inv0 hyp
  refine wpAny_comprehension_free (use := use) rfl hfold (closure_ok free) blk.kind (fun y hy e => by rw [blk.uniq y hy, e]) ?_
  refine thn step0 fun xv s1 hx => thn hx fun itv s2 hit => ?_
  obtain ⟨it, fp, tn, J, H2, rfl, inv2, T, tn2, fps, rest⟩ := hit
  refine newSet_ok (newEnv_comp ?_)
  generalize eD : s2.heap.objs.size = D
  have freshD : H2 D = none := inv2.hok.fresh (Nat.le_of_eq eD)
  obtain ⟨W, ⟨m0, wstart⟩, turns⟩ := rest D freshD
  generalize eb : ({ s2 with heap := s2.heap.push (rawSet X.w) } : Shared) = sb
  generalize eHb : upd H2 D (SetK X.prog X.w D (fun _ => false) 0) = Hb at wstart
  have invb : Inv X pins σ Hb sb := by
    rw [← eb, ← eHb]
    have kept : ∀ b o, s2.heap.get? b = some o → (s2.heap.push (rawSet X.w)).get? b = some o := fun b o e => Heap.get?_push_of_some _ e
    refine inv2.laid (t' := s2.toks) kept (Nat.le_of_eq eD) ?_
    rw [← eD]
    exact setK_new setK_raw
  have hpb : sb.heap = s2.heap.push (rawSet X.w) := by rw [← eb]
  have low : ∀ b ∈ fp, b < s2.heap.objs.size := by
    intro b hb
    obtain ⟨o, e, _⟩ := T.obj _ _ tn2 b hb
    exact Heap.lt_size e
  have fpb : ∀ b ∈ fp, FpOk X pins Hb b ∧ b < sb.heap.objs.size := by
    intro b hb
    have lt := low b hb
    have ne : b ≠ D := by
      rw [← eD]
      exact Nat.ne_of_lt lt
    constructor
    · refine ⟨?_, (fps b hb).2⟩
      rw [← eHb, upd_ne ne]
      exact (fps b hb).1
    · rw [hpb, Heap.size_push]
      exact Nat.lt_succ_of_lt lt
  have tnb : tn 0 sb.heap := by
    refine T.keep _ _ _ tn2 fun b _ o e => ?_
    rw [hpb]
    exact Heap.get?_push_of_some _ e
  have invc := block_start invb blk hnd fpb
  generalize ecl : cellsFrom (sb.heap.objs.size + 1) scope.names (cloFrom X.env.cells scope.names []) = cl at invc
  have runG := ptg sb Hb sb.heap.objs.size cl fp
  have runT := ptt sb Hb sb.heap.objs.size cl fp
  have runE := pte sb Hb sb.heap.objs.size cl fp
  have noneFp : ∀ b ∈ fp, Hb b = none := fun b hb => (fpb b hb).1.1
  generalize esc : ({ sb with heap := pushCells (sb.heap.push { cls := .type "dict", data := .dict #[] }) scope.names } : Shared) = sc at invc
  suffices all : codeAny (model X.prog X.w) X.A
      (.compStart (.SetComp elt [⟨tg, iter, ifs, 0⟩] scope pos) 0 (.ref it) (.ref D) (compEnvC scope cl sb.heap.objs.size X.env))
      (compPost (model X.prog X.w) X.A X.xe use Qf (.ref D) sb.heap.objs.size) sc by
    subst ecl esc eb eD
    exact all
  generalize ece : compEnvC scope cl sb.heap.objs.size X.env = ce at invc runG runT runE ⊢
  have eloc : ce.locals = sb.heap.objs.size := by
    subst ece
    rfl
  have tnc : tn 0 sc.heap := by
    refine T.keep _ _ _ tnb fun b _ o e => ?_
    rw [← esc]
    exact pushCells_keeps _ _ _ _ (Heap.get?_push_of_some _ e)
  have okFp : ∀ {τ : L2.St} {G : Hp} {z : Shared}, Inv (X.blk sb Hb scope ce fp) [] τ G z → (∀ b ∈ fp, G b = none) →
      ∀ b ∈ fp, FpOk (X.blk sb Hb scope ce fp) [] G b := by
    intro τ G z iz hz b hb
    have a1 := iz.ok.exf b hb
    refine ⟨hz b hb, a1.1, iz.ok.exfs b hb, .inl hb, fun x c e => a1.2 x c e, fun p hp => ?_⟩
    have hp : p ∈ ([] : List (Addr × Obj)) ++ [] := hp
    simp at hp
  have loop : codeAny (model X.prog X.w) X.A
      (.compLoop (.SetComp elt [⟨tg, iter, ifs, 0⟩] scope pos) 0 (.ref it) (.ref D) ce)
      (compPost (model X.prog X.w) X.A X.xe use Qf (.ref D) sb.heap.objs.size) sc := by
    refine compLoopS_any (fun n z => ∃ i G, Inv (X.blk sb Hb scope ce fp) [] (wipe σ (own.map (·.2))) G z ∧ tn i z.heap ∧
      (∀ b ∈ fp, G b = none) ∧ W i n G) ?_ m0 ⟨0, Hb, invc, tnc, noneFp, wstart⟩
    rintro n z ⟨i, G, iz, tz, nz, wz⟩
    rcases turns i n G wz with ⟨stop, told⟩ | ⟨go, Nx, less, turn⟩
    · have ended := T.done (X.blk sb Hb scope ce fp) rfl rfl rfl hcalm i [] z _ G (fun _ _ => False) iz (okFp iz nz) tz stop
      refine thnF ended fun r z' ⟨er, iz'⟩ => ?_
      subst er
      have back : Inv X pins σ G z' := by
        refine invb.call' (ch := fp) iz'.os iz'.base iz'.hok iz'.bare fun b hb => ?_
        have f := (fpb b hb).1
        exact ⟨f.2.2.2.1, f.2.1, f.2.2.2.2.1, f.2.2.2.2.2⟩
      have noC : G sb.heap.objs.size = none := by
        rw [← eloc]
        exact iz'.free
      obtain ⟨m, nsm, _⟩ := iz'.loc
      have nsm : z'.heap.Ns ce.locals m := nsm
      rw [eloc] at nsm
      exact fini D sb.heap.objs.size z' m G back told nsm (invb.fpOk (Nat.le_refl _) noC)
    · have given := T.item (X.blk sb Hb scope ce fp) rfl rfl rfl hcalm i [] z _ G (fun _ _ => False) iz (okFp iz nz) tz go
      refine thnF given fun r z1 ⟨u, er, h1⟩ => ?_
      subst er
      refine thnF h1 fun _ z2 ⟨x, G2, iz2, rx, yx, tz2, nz2⟩ => ?_
      have held := iz2.pinned (okFp iz2 nz2) (T.obj _ _ tz2)
      refine thnF (runG.run _ z2 _ G2 x u _ held rx (turn x G2 yx)) fun _ z3 ⟨τ, G3, iz3, ew, h3⟩ => ?_
      refine thnF (runT.run _ z3 τ G3 _ iz3 h3) fun b z4 ⟨G4, iz4, h4⟩ => ?_
      have close : ∀ {y : Shared} {K : Hp}, Inv (X.blk sb Hb scope ce fp) ([] ++ pinsAt fp z2.heap) τ K y → Nx K →
          ∃ m, m < n ∧ ∃ i G, Inv (X.blk sb Hb scope ce fp) [] (wipe σ (own.map (·.2))) G y ∧ tn i y.heap ∧ (∀ b ∈ fp, G b = none) ∧ W i m G := by
        intro y K iy nx
        obtain ⟨m', lt, w'⟩ := less K nx
        have stay : ∀ b ∈ fp, ∀ o, z2.heap.get? b = some o → y.heap.get? b = some o ∧ K b = none := by
          intro b hb o e
          have p := iy.pin (b, o) (List.mem_append_right _ (List.mem_append_right _ (mem_pinsAt hb e)))
          exact ⟨p.1, p.2.1⟩
        have elen : (wipe σ (own.map (·.2))).length = τ.length := by rw [← ew, wipe_length]
        refine ⟨m', lt, i + 1, K, ?_, ?_, ?_, w'⟩
        · refine (iy.unpinned (pins := [])).weak elen fun j v e => ?_
          rw [← ew] at e
          exact (wipe_some e).1
        · exact T.keep _ _ _ tz2 fun b hb o e => (stay b hb o e).1
        · intro b hb
          obtain ⟨o, e, _⟩ := T.obj _ _ tz2 b hb
          exact (stay b hb o e).2
      cases b with
      | false =>
        simp only [Bool.false_eq_true, if_false] at h4 ⊢
        exact close iz4 h4
      | true =>
        simp only [if_true] at h4 ⊢
        refine thnF (runE.run _ z4 τ G4 _ iz4 h4) fun v z5 ⟨y, G5, iz5, ry, c, S, k, ey, atD, room, nx⟩ => ?_
        subst ey
        have added := mt_saddK (X := X.blk sb Hb scope ce fp) _ z5 τ G5 (.ref D) [kV c] (.ref D) [v] (fun _ K => Nx K) iz5 rfl (.cons ry .nil)
          ⟨D, c, S, k, rfl, rfl, atD, room, nx⟩
        refine thnF added fun _ z6 ⟨_, G6, iz6, _, nx6⟩ => close iz6 nx6
  exact codeAny_compStart_set loop (T.self X.A 0 _ _ _ tnc loop)
/-- a set comprehension as a value -/
theorem pe_scK {elt tg iter : Expr} {ifs : List Expr} {scope : Scope} {own : List (PySem.Str × Nat)} {pos : Pos} {wi : TI} {g : TG} {tt : TT} {te : TE}
    (hcalm : X.calm = true) (hnd : X.N.Nodup) (piter : PI X tg iter wi) (blk : BlkOk X.N X.env.scope scope own)
    (ptg : ∀ (s : Shared) (H : Hp) (C : Addr) (cl : List (PySem.Str × Addr)) (fp : List Addr),
      PG (X.blk s H scope (compEnvC scope cl C X.env) fp) tg g)
    (ptt : ∀ (s : Shared) (H : Hp) (C : Addr) (cl : List (PySem.Str × Addr)) (fp : List Addr),
      PTs (X.blk s H scope (compEnvC scope cl C X.env) fp) ifs tt)
    (pte : ∀ (s : Shared) (H : Hp) (C : Addr) (cl : List (PySem.Str × Addr)) (fp : List Addr),
      PE (X.blk s H scope (compEnvC scope cl C X.env) fp) elt te)
    (hfold : ∀ x, foldedSetIterable iter X.env x = pure x) :
    PE X (.SetComp elt [⟨tg, iter, ifs, 0⟩] scope pos) (tScK X.prog X.w wi g tt te (own.map (·.2))) := by
  constructor
  intro pins s σ H Q I h
  rw [eval_SetComp]
  refine scK_core hcalm hnd I piter blk ptg ptt pte hfold h fun D C s' m H' I' q ns ok => ⟨m, ns, fun h2 same => ?_⟩
  obtain ⟨c0, c1, c2, c3, c4, c5⟩ := ok
  refine ⟨.ref D, H', ?_, rfl, q⟩
  exact I'.turned (t' := s'.toks) (fun b o ne e => (same.2 b ne).trans e) c0 c1 c3 c4 c5
/-- len of a set of keys -/
def rLenK (P : Program) (w : World) : List V → Hp → VK → Prop := fun xs H Q => ∃ (a : Addr) (S : Key → Bool) (n : Nat), xs = [.ref a] ∧ H a = some (SetK P w a S n) ∧ Q (.int n) H
theorem call_lenK : CallR X (.builtin "len") (rLenK X.prog X.w) := by
  intro pins s σ H xs us Q I r h
  obtain ⟨a, S, n, rfl, at_, q⟩ := h
  obtain ⟨u, rfl, ru⟩ := vals1 r
  cases ru
  obtain ⟨o, es, ep, t, ho, hx, hd, _, _, hz, hf, en⟩ := setK_get I at_
  have small : es.size < 2 ^ 62 := Nat.lt_trans hz (by decide)
  refine call_len_set ho hx hd hf (by omega) ?_
  exact ⟨.int n, H, I.tok _, ⟨s.toks + 1, by rw [en]⟩, q⟩
end

/-! ### the same over D -/
/-- all but the things of other layers stays -/
def SameX (F F' : Hp) : Prop := ∀ a o, F a = some o → (∀ f, o ≠ .ext f) → F' a = some o
theorem rd_upX {F F' : Hp} {a : Addr} {u : HO} (e : SameX F F') (hu : ∀ f, u ≠ .ext f) (h : Rd F a u) : Rd F' a u := by
  rcases h with h | ⟨o, h⟩
  · exact .inl (e _ _ h hu)
  · exact .inr ⟨o, e _ _ h (fun f z => by cases z)⟩
mutual
theorem Is.upX {K : PySem.W.Frag} {F F' : Hp} (e : SameX F F') : ∀ {v : V} {d : D}, Is K F v d → Is K F' v d
  | _, _, .non => .non
  | _, _, .bl b => .bl b
  | _, _, .int i => .int i
  | _, _, .str s => .str s
  | _, _, .tup h r => .tup (h.imp (rd_upX e (fun f z => by cases z)) id) (r.upX e)
  | _, _, .lst h r => .lst (h.imp (rd_upX e (fun f z => by cases z)) id) (r.upX e)
  | _, _, .dct h k r => .dct (e _ _ h (fun f z => by cases z)) k (r.upX e)
  | _, _, .obj a => .obj a
  | _, _, .ty n => .ty n
theorem IsL.upX {K : PySem.W.Frag} {F F' : Hp} (e : SameX F F') : ∀ {vs : List V} {ds : List D}, IsL K F vs ds → IsL K F' vs ds
  | _, _, .nil => .nil
  | _, _, .cons h r => .cons (h.upX e) (r.upX e)
end
/-- a thing of another layer is changed -/
theorem Rep.ext {K : PySem.W.Frag} {F H : Hp} {μ : Mem} {p : Addr} {f g : _} (r : Rep K F H μ) (hp : F p = some (.ext f)) : Rep K (upd F p (.ext g)) (upd H p (.ext g)) μ := by
  have sx : SameX F (upd F p (.ext g)) := fun a o e ne => by
    have hne : a ≠ p := fun z => by
      subst z
      rw [hp] at e
      cases e
      exact ne _ rfl
    rw [upd_ne hne]
    exact e
  refine ⟨fun b x e => ?_, fun a mo e => ?_⟩
  · by_cases hb : b = p
    · subst hb
      rw [upd_same] at e ⊢
      exact e
    · rw [upd_ne hb] at e ⊢
      exact r.sub _ _ e
  · obtain ⟨h1, h2⟩ := r.mem a mo e
    have hne : a ≠ p := fun z => by
      subst z
      rw [hp] at h1
      cases h1
    refine ⟨by rw [upd_ne hne]; exact h1, ?_⟩
    cases mo with
    | ml ds =>
      obtain ⟨vs, a1, a2⟩ := h2
      exact ⟨vs, by rw [upd_ne hne]; exact a1, a2.upX sx⟩
    | md ds =>
      obtain ⟨vs, a1, a2, a3⟩ := h2
      exact ⟨vs, by rw [upd_ne hne]; exact a1, a2, a3.upX sx⟩
/-- the keys so far: which, how many -/
def scW (chk : Mem → Prop) (g : D → Rho → W Rho) (tt : Rho → W Bool) (te : Rho → W D) (ρ : Rho) : List D → (Key → Bool) → Nat → W D
  | [], _, n => W.chk chk (W.ret (.int n))
  | x :: xs, S, n => W.chk chk (W.bnd (g x ρ) fun ρ1 => W.bnd (tt ρ1) fun b => if b = true then W.bnd (te ρ1) fun d => W.bnd (W.opt (keyOf d)) fun c =>
      W.req (n + 1 < scanBound) (scW chk g tt te ρ xs (fun j => S j || decide (j = c)) (if S c = true then n else n + 1))
    else scW chk g tt te ρ xs S n)
/-- len({te for g in mi if tt}) -/
def eLenSc (mi : Rho → W ItD) (g : D → Rho → W Rho) (tt : Rho → W Bool) (te : Rho → W D) (vs : List Nat) (ρ : Rho) : W D :=
  W.bnd (mi ρ) fun it => scW it.chk g tt te (wipeD ρ vs) it.items (fun _ => false) 0
theorem sc_turns {K : PySem.W.Frag} {P : Program} {w : World} {mi : Rho → W ItD} {g : D → Rho → W Rho} {tt : Rho → W Bool} {te : Rho → W D} {ts vs : List Nat} (hsub : ∀ j ∈ ts, j ∈ vs)
    {σ : L2.St} {H : Hp} {Qh : VK} {Q : D → Mem → Prop} {ED : XD} {F : Hp} {ρ : Rho} {μ : Mem}
    (env : EnvR K F σ ρ) (rep : Rep K F H μ) (lnk : Lnk K none F ED) (hm : eLenSc mi g tt te vs ρ μ Q ED)
    (fin : ∀ D F' H' μ' S n, Same F F' → Rep K F' H' μ' → H' D = some (SetK P w D S n) → Q (.int n) μ' → Qh (.ref D) H') :
    tScK P w (liftI K none mi) (liftG K none ts g) (liftT K none tt) (liftE K none te) vs σ H Qh := by
  refine ⟨F, ρ, μ, _, ED, env, rep, lnk, hm, fun J H1 F1 μ1 it s1 r1 ij q1 => ?_⟩
  intro p hn
  have fp : F1 p = none := r1.nn hn
  refine ⟨fun i n H2 => i + n = it.items.length ∧ ∃ F2 μ2 S k, Same F1 F2 ∧ Rep K F2 H2 μ2 ∧ F2 p = some (SetK P w p S k) ∧
      scW it.chk g tt te (wipeD ρ vs) (it.items.drop i) S k μ2 Q ED,
    ⟨it.items.length, by omega, _, μ1, _, _, same_new fp, r1.new hn, upd_same, q1⟩, fun i n H2 hw => ?_⟩
  obtain ⟨hn2, F2, μ2, S, k, s2, r2, at2, q2⟩ := hw
  by_cases hi : i < it.items.length
  · rw [List.drop_eq_getElem_cons hi] at q2
    obtain ⟨hc2, q2⟩ := q2
    refine .inr ⟨ij.go i F2 H2 μ2 s2 r2 hc2 hi, fun H3 => ∃ F3 μ3 S3 k3, Same F1 F3 ∧ Rep K F3 H3 μ3 ∧ F3 p = some (SetK P w p S3 k3) ∧
        scW it.chk g tt te (wipeD ρ vs) (it.items.drop (i + 1)) S3 k3 μ3 Q ED, fun H3 h3 => ⟨n - 1, by omega, by omega, h3⟩, fun x H3 hy => ?_⟩
    obtain ⟨F3, d, s3, r3, ed, iv⟩ := ij.yld i F2 H2 μ2 x H3 s2 r2 hc2 hi hy
    rw [List.getElem?_eq_getElem hi] at ed
    cases ed
    have envw : EnvR K F3 (L2.wipe σ vs) (wipeD ρ vs) := (env.wipe vs).up (s1.trans (s2.trans s3))
    refine ⟨F3, wipeD ρ vs, μ2, _, _, ED, envw, r3, lnk, iv, q2, fun σ4 H4 ρ4 F4 μ4 s4 r4 e4 f4 q4 => ⟨wipe_frm f4 hsub, ?_⟩⟩
    refine ⟨F4, ρ4, μ4, _, ED, e4, r4, lnk, q4, fun b H5 c F5 μ5 s5 r5 ibc q5 => ?_⟩
    subst ibc
    have s25 : Same F2 F5 := (s3.trans s4).trans s5
    cases b with
    | false => exact ⟨F5, μ5, S, k, s2.trans s25, r5, s25 _ _ at2, q5⟩
    | true =>
      refine ⟨F5, ρ4, μ5, _, ED, e4.up s5, r5, lnk, q5, fun y H6 dy F6 μ6 s6 r6 iy q6 => ?_⟩
      obtain ⟨c, ec, room, q7⟩ := opt_of q6
      have ey := key_is iy ec
      have at6 : F6 p = some (SetK P w p S k) := s6 _ _ (s25 _ _ at2)
      refine ⟨c, S, k, ey, r6.sub _ _ at6, room, upd F6 p (addK P w p S k c), μ6, _, _, ?_, Rep.ext r6 at6, upd_same, q7⟩
      intro a o e
      have hne : a ≠ p := fun z => by
        subst z
        rw [fp] at e
        cases e
      rw [upd_ne hne]
      exact s6 _ _ (s25 _ _ (s2 _ _ e))
  · have ei : i = it.items.length := by omega
    subst ei
    rw [List.drop_length] at q2
    obtain ⟨hc2, q2⟩ := q2
    exact .inl ⟨ij.stop F2 H2 μ2 s2 r2 hc2, fin p F2 H2 μ2 S k (s1.trans s2) r2 (r2.sub _ _ at2) q2⟩
section
variable {X : Cx} {elt tg iter : Expr} {ifs : List Expr} {scope : Scope} {own : List (Str × Nat)} {pos cpos p : Pos} {x : Str} {mi : Rho → W ItD} {g : D → Rho → W Rho} {tt : Rho → W Bool} {te : Rho → W D} {ts : List Nat}
theorem de_lenSc (hc : X.calm = true) (hN : X.N.Nodup) (hi : DI X none tg iter mi) (ok : BlkOk X.N X.env.scope scope own) (hsub : ∀ j ∈ ts, j ∈ own.map (·.2))
    (hg : ∀ (s : Shared) (H : Hp) (C : Addr) (cl : List (Str × Addr)) (fp : List Addr), DG (X.blk s H scope (compEnvC scope cl C X.env) fp) none tg ts g)
    (ht : ∀ (s : Shared) (H : Hp) (C : Addr) (cl : List (Str × Addr)) (fp : List Addr), DTs (X.blk s H scope (compEnvC scope cl C X.env) fp) none ifs tt)
    (he : ∀ (s : Shared) (H : Hp) (C : Addr) (cl : List (Str × Addr)) (fp : List Addr), DE (X.blk s H scope (compEnvC scope cl C X.env) fp) none elt te) (hs : ∀ x, foldedSetIterable iter X.env x = pure x)
    (hgl : Gl X x) (hm : X.mg x = none) (hv : bootBuiltins x = some (.builtin "len")) (hn : x ≠ "__name__") (hdb : (x == ("__debug__" : Str)) = false)
    (hst : starEach [.SetComp elt [⟨tg, iter, ifs, 0⟩] scope pos] X.env = (false, eval (.SetComp elt [⟨tg, iter, ifs, 0⟩] scope pos) X.env) :: starEach [] X.env) (hpl : (backTo cpos (starEach [] X.env)).any (·.1) = false) :
    DE X none (.Call (.Name x p) [.SetComp elt [⟨tg, iter, ifs, 0⟩] scope pos] [] cpos) (eLenSc mi g tt te (own.map (·.2))) := by
  have inner := pe_scK (pos := pos) (g := liftG X.K none ts g) (tt := liftT X.K none tt) (te := liftE X.K none te) hc hN hi ok hg ht he hs
  refine PE.imp (pe_callB (p := p) (pos := cpos) call_lenK hgl hm hv (pa_cons inner pa_nil hst) hn hdb hst hpl) fun σ H Qh h => ?_
  obtain ⟨F, ρ, μ, Q, ED, env, rep, lnk, hm, bk⟩ := h
  have all := sc_turns (P := X.prog) (w := X.w) (Qh := fun v H' => rLenK X.prog X.w [v] H' Qh) hsub env rep lnk hm fun D F' H' μ' S n s' r' at' q' =>
    ⟨D, S, n, rfl, at', bk _ _ _ _ _ s' r' (.int _) q'⟩
  exact all
end
/-! ### comprehensions within comprehensions -/
theorem look_cell {b : Str → NameKind → Bool} (hb : ∀ n k, b n k = true → k = .free) : ∀ {names : List (Str × NameKind)} {x : Str}, names.lookup x = some .cell →
    (names.map fun (n, k) => if b n k = true then (n, NameKind.cell) else (n, k)).lookup x = some .cell
  | [], _, h => by cases h
  | (n, k) :: r, x, h => by
    rw [List.lookup_cons] at h
    rw [List.map_cons]
    by_cases e : (x == n) = true
    · rw [e] at h
      simp only at h
      cases h
      simp only
      by_cases q : b n .cell = true
      · rw [if_pos q, List.lookup_cons, e]
      · rw [if_neg q, List.lookup_cons, e]
    · have e' : (x == n) = false := Bool.eq_false_iff.mpr e
      rw [e'] at h
      simp only
      by_cases q : b n k = true
      · rw [if_pos q, List.lookup_cons, e']; exact look_cell hb h
      · rw [if_neg q, List.lookup_cons, e']; exact look_cell hb h
theorem relabel_cell {scope : Scope} {env : Env} {x : Str} (h : scope.names.lookup x = some .cell) : (relabel scope env).names.lookup x = some .cell :=
  look_cell (b := fun n k => k == .free && env.scope.kind == .function && env.kindOf n == some .cell) (fun n k e => by
    cases k <;> first | rfl | (exfalso; revert e; simp; done) | (exfalso; cases e)) h
/-- a name of a comprehension that a comprehension within it reads -/
theorem de_varC {X : Cx} {Eh : Option XK} {s : Shared} {H : Hp} {scope : Scope} {cl : List (Str × Addr)} {C : Addr} {fp : List Addr} {i : Nat} {x : Str} {pos : Pos} (hN : X.N[i]? = some x) (hv : scope.names.lookup x = some .cell) (hd : (x == ("__debug__" : Str)) = false) (hcd : (x == ("__classdict__" : Str)) = false) :
    DE (X.blk s H scope (compEnvC scope cl C X.env) fp) Eh (.Name x pos) (eVar i) :=
  de_var (X := X.blk s H scope (compEnvC scope cl C X.env) fp) hN (.inr (.inl (relabel_cell hv))) hd hcd
theorem dg_nameC {X : Cx} {Eh : Option XK} {s : Shared} {H : Hp} {scope : Scope} {cl : List (Str × Addr)} {C : Addr} {fp : List Addr} {i : Nat} {x : Str} {pos : Pos} (hN : X.N.Nodup) (hi : X.N[i]? = some x) (hv : scope.names.lookup x = some .cell) :
    DG (X.blk s H scope (compEnvC scope cl C X.env) fp) Eh (.Name x pos) [i] (gNm i) :=
  dg_name (X := X.blk s H scope (compEnvC scope cl C X.env) fp) hN hi (.inr (relabel_cell hv)) (.inl (by
    show (scope.names.lookup x == some .cell) = true
    rw [hv]
    rfl))
theorem blkOk_in {N : List Str} {sc scope : Scope} {own : List (Str × Nat)} {env : Env} (h : blkC N sc scope own = true) : BlkOk N (relabel sc env) scope own := by
  have k := blkOk_by h
  refine ⟨k.kind, k.uniq, k.ix, fun y hy e => ?_, k.own⟩
  rcases k.free y hy e with z | z
  · exact .inl (relabel_cell z)
  · exact look_relabel (b := fun n k => k == .free && env.scope.kind == .function && env.kindOf n == some .cell) (fun n k e => by
      cases k <;> first | rfl | (exfalso; revert e; simp; done) | (exfalso; cases e)) z

/-! ### list(range(a, b)), a list that will change -/
def lstRg (x y : D) : W D := match x, y with
  | .int i, .int j => W.req (RgOk i j) (fun μ Q _ => ∀ p, μ p = none → Q (.obj p) (put μ p (.ml (rangeL i (j - i).toNat))))
  | _, _ => W.bad
def eLstRgM (a b : Rho → W D) (ρ : Rho) : W D := W.bnd (a ρ) fun x => W.bnd (b ρ) fun y => lstRg x y
theorem rg_isL {K : PySem.W.Frag} {F : Hp} {i : Int} {n : Nat} : IsL K F ((List.range n).map fun k => V.int (i + (k : Nat))) (rangeL i n) := by
  unfold rangeL
  generalize List.range n = l
  induction l with
  | nil => exact .nil
  | cons k r ih => exact .cons (.int _) ih
theorem de_lstRgM {X : Cx} {Eh : Option XK} {a b : Expr} {ma mb : Rho → W D} {p p' pos pos' : Pos} (hc : X.calm = true) (hg : Gl X "list") (hm : X.mg "list" = none) (hgr : Gl X "range") (hmr : X.mg "range" = none)
    (ha : DE X Eh a ma) (hb : DE X Eh b mb) (h1 : starEach [a, b] X.env = (false, eval a X.env) :: starEach [b] X.env) (h2 : starEach [b] X.env = (false, eval b X.env) :: starEach [] X.env) (h3 : (backTo pos' (starEach [b] X.env)).any (·.1) = false)
    (h4 : starEach [.Call (.Name "range" p') [a, b] [] pos'] X.env = (false, eval (.Call (.Name "range" p') [a, b] [] pos') X.env) :: starEach [] X.env) :
    DE X Eh (.Call (.Name "list" p) [.Call (.Name "range" p') [a, b] [] pos'] [] pos) (eLstRgM ma mb) := by
  refine PE.imp (pe_listRg hc hg hm (prg_2 hgr hmr ha hb h1 h2 h3) h4) fun σ H Qh h => ?_
  obtain ⟨F, ρ, μ, Q, ED, env, rep, lnk, hm, bk⟩ := h
  refine ⟨F, ρ, μ, _, ED, env, rep, lnk, hm, fun v1 H1 d1 F1 μ1 s1 r1 i1 q1 => ?_⟩
  refine ⟨F1, ρ, μ1, _, ED, env.up s1, r1, lnk.up s1, q1, fun v2 H2 d2 F2 μ2 s2 r2 i2 q2 => ?_⟩
  have q2 : lstRg d1 d2 μ2 Q ED := q2
  unfold lstRg at q2
  split at q2
  · rename_i i j _
    cases i1
    cases i2
    obtain ⟨ok, q3⟩ := q2
    refine ⟨_, _, rfl, rfl, ok, fun q hq => ?_⟩
    have r3 := r2.newM (o := .lst (rgV i j)) (mo := .ml (rangeL i (j - i).toNat)) hq ⟨_, upd_same, rg_isL⟩
    exact bk _ _ _ _ _ (s1.trans s2) r3 (.obj q) (q3 q (r2.mfree hq))
  · exact q2.elim
end DL

/-! DLr: plain data, its repr's length -/
namespace DL
open PySem PySem.Spec PyProof.Rows L2

mutual
/-- plain data: numbers that can be shown, texts of signs, lists and tuples of them -/
def gd : D → Bool
  | .non => true
  | .bl _ => true
  | .int i => decide (i.natAbs.log2 < 1920)
  | .str s => PyData.canLay0 (.str s)
  | .tup ds => gdL ds
  | .lst ds => gdL ds
  | _ => false
def gdL : List D → Bool
  | [] => true
  | d :: r => gd d && gdL r
end
mutual
def toPy : D → PyData
  | .non => .none
  | .bl b => .bool b
  | .int i => .int i
  | .str s => .str s
  | .tup ds => .tuple (toPyL ds)
  | .lst ds => .list (toPyL ds)
  | _ => .none
def toPyL : List D → List PyData
  | [] => []
  | d :: r => toPy d :: toPyL r
end
mutual
def dpt : D → Nat
  | .tup ds => dptL ds + 1
  | .lst ds => dptL ds + 1
  | _ => 0
def dptL : List D → Nat
  | [] => 0
  | d :: r => max (dpt d) (dptL r)
end
mutual
def dsz : D → Nat
  | .non => 4
  | .bl _ => 5
  | .int _ => 1921
  | .str s => 10 * s.length + 2
  | .tup ds => dszL ds + 3
  | .lst ds => dszL ds + 3
  | _ => 0
def dszL : List D → Nat
  | [] => 0
  | d :: r => dsz d + 2 + dszL r
end
theorem textFrom_le : ∀ (ts : List Str) (k : Nat) (acc : Str), (textFrom k acc ts).length ≤ acc.length + piled ts
  | [], k, acc => by show acc.length ≤ _; exact Nat.le_add_right _ _
  | t :: r, k, acc => by
    have ih := textFrom_le r (k + 1) (acc ++ (if k > 0 then ", " else "" : String) ++ t)
    have e : (acc ++ (if k > 0 then ", " else "" : String) ++ t).length = acc.length + (if k > 0 then 2 else 0) + t.length := by
      rw [strLen_append, strLen_append]
      split <;> rfl
    rw [e] at ih
    show (textFrom (k + 1) _ r).length ≤ _
    rw [piled_cons]
    have : (if k > 0 then 2 else 0 : Nat) ≤ 2 := by split <;> omega
    omega
theorem listText_le (ts : List Str) : (listText ts).length ≤ piled ts + 2 := by
  unfold listText
  rw [strLen_append]
  have := textFrom_le ts 0 "["
  have e1 : (("[" : String) : Str).length = 1 := rfl
  have e2 : (("]" : String) : Str).length = 1 := rfl
  omega
theorem tupleText_le (ts : List Str) : (tupleText ts).length ≤ piled ts + 3 := by
  unfold tupleText
  rw [strLen_append, strLen_append]
  have e1 : ((("(" : String) : Str)).length = 1 := rfl
  have e3 : (((if ts.length == 1 then ",)" else ")" : String) : Str)).length ≤ 2 := by split <;> decide
  by_cases h : ts = []
  · subst h
    have : (Str.join ", " ([] : List Str)).length = 0 := rfl
    omega
  · have := join_length_add ts h
    omega
theorem strOk_lt {x : Str} (h : PyData.canLay0 (.str x) = true) : ∀ c ∈ x.cps.toList, c < 16 ^ 8 := by
  intro c hc
  have h1 : PyData.strOk x = true := h
  unfold PyData.strOk at h1
  rw [Array.all_eq_true_iff_forall_mem] at h1
  have h2 := of_decide_eq_true (h1 c (Array.mem_toList_iff.mp hc))
  omega
mutual
theorem gd_ok : ∀ {d : D}, gd d = true → py d = some (toPy d) ∧ (toPy d).canLay0 = true ∧ (toPy d).showable = true ∧ (toPy d).depth = dpt d ∧ (toPy d).shown.length ≤ dsz d
  | .non, _ => ⟨rfl, rfl, rfl, rfl, by decide⟩
  | .bl b, _ => ⟨rfl, rfl, rfl, rfl, by cases b <;> decide⟩
  | .int i, h => ⟨rfl, rfl, h, rfl, int_text_len_1921 (of_decide_eq_true h)⟩
  | .str s, h => ⟨rfl, h, rfl, rfl, StrLaws.reprText_len s (strOk_lt h)⟩
  | .tup ds, h => by
    obtain ⟨h1, h2, h3, h4, h5⟩ := gd_okL (ds := ds) h
    refine ⟨by unfold py; rw [h1]; rfl, h2, h3, by show PyData.depthAll _ + 1 = _; rw [h4]; rfl, ?_⟩
    have := tupleText_le (PyData.shownAll (toPyL ds))
    show (tupleText (PyData.shownAll (toPyL ds))).length ≤ dszL ds + 3
    omega
  | .lst ds, h => by
    obtain ⟨h1, h2, h3, h4, h5⟩ := gd_okL (ds := ds) h
    refine ⟨by unfold py; rw [h1]; rfl, h2, h3, by show PyData.depthAll _ + 1 = _; rw [h4]; rfl, ?_⟩
    have := listText_le (PyData.shownAll (toPyL ds))
    show (listText (PyData.shownAll (toPyL ds))).length ≤ dszL ds + 3
    omega
  | .dct _, h => by cases h
  | .obj _, h => by cases h
  | .ty _, h => by cases h
theorem gd_okL : ∀ {ds : List D}, gdL ds = true → pyL ds = some (toPyL ds) ∧ PyData.canLayAll0 (toPyL ds) = true ∧ PyData.showableAll (toPyL ds) = true ∧ PyData.depthAll (toPyL ds) = dptL ds ∧ piled (PyData.shownAll (toPyL ds)) ≤ dszL ds
  | [], _ => ⟨rfl, rfl, rfl, rfl, Nat.le_refl _⟩
  | d :: r, h => by
    have h' : gd d = true ∧ gdL r = true := Bool.and_eq_true_iff.mp h
    obtain ⟨a1, a2, a3, a4, a5⟩ := gd_ok h'.1
    obtain ⟨b1, b2, b3, b4, b5⟩ := gd_okL h'.2
    refine ⟨by unfold pyL; rw [a1, b1]; rfl, Bool.and_eq_true_iff.mpr ⟨a2, b2⟩, Bool.and_eq_true_iff.mpr ⟨a3, b3⟩, by show max _ _ = max _ _; rw [a4, b4], ?_⟩
    show piled ((toPy d).shown :: PyData.shownAll (toPyL r)) ≤ dsz d + 2 + dszL r
    rw [piled_cons]
    omega
end
theorem gd_pyM {d : D} {μ : Mem} (h : gd d = true) : pyM μ d = some (toPy d) := by
  cases d with
  | obj a => cases h
  | _ => exact (gd_ok h).1
theorem eq_w {f : Bool → Bool} {x y : D} {μ : Mem} {Q : D → Mem → Prop} {E : XD} (hx : gd x = true) (hy : gd y = true) (dx : dpt x ≤ 60) (dy : dpt y ≤ 60) (q : Q (.bl (f (PyData.eqv (toPy x) (toPy y)))) μ) : eqA f x y μ Q E := by
  refine eqA_of ?_
  unfold eqW
  show W.bnd (W.opt (pyM μ x)) _ μ Q E
  rw [gd_pyM hx, gd_pyM hy]
  obtain ⟨_, a, _, b, _⟩ := gd_ok hx
  obtain ⟨_, c, _, d, _⟩ := gd_ok hy
  have s : ∀ p : PyData, p.canLay0 = true → p.depth ≤ 64 → SeqAt.shaped p = true := fun p h1 h2 => by
    unfold SeqAt.shaped
    rw [h1, decide_eq_true h2]; rfl
  exact ⟨⟨s _ a (by omega), s _ c (by omega)⟩, q⟩
theorem repr_w {x : D} {μ : Mem} {Q : D → Mem → Prop} {E : XD} (hx : gd x = true) (dx : dpt x ≤ 60) (zx : dsz x ≤ 16777216) (q : Q (.str (toPy x).shown) μ) : reprD [x] μ Q E := by
  unfold reprD
  show W.bnd (W.opt (pyM μ x)) _ μ Q E
  rw [gd_pyM hx]
  obtain ⟨_, a, c, b, e⟩ := gd_ok hx
  exact ⟨⟨a, c, by omega, Nat.le_trans e zx⟩, q⟩
end DL

/-! DLp: tools for the plain laws over W -/
namespace DL
open PySem PySem.Spec PyProof.Rows L2

theorem del_put {μ : Mem} {p : Addr} {o : MO} (h : μ p = none) : del (put μ p o) p = μ := by
  funext b
  unfold del put
  by_cases e : b = p
  · rw [if_pos e, e, h]
  · rw [if_neg e, if_neg e]
theorem put_put {μ : Mem} {p : Addr} {o o' : MO} : put (put μ p o) p o' = put μ p o' := by
  funext b
  unfold put
  by_cases e : b = p
  · rw [if_pos e, if_pos e]
  · rw [if_neg e, if_neg e, if_neg e]
theorem put_none {μ : Mem} {a p : Addr} {o : MO} (h : put μ a o p = none) : p ≠ a ∧ μ p = none := by
  unfold put at h
  split at h
  · cases h
  · exact ⟨‹_›, h⟩
/-- a for statement, by an invariant -/
theorem for_w {chk : Mem → Prop} {g : D → Rho → W Rho} {body : Rho → W Out} {Q : Out → Mem → Prop} {E : XD} (I : Nat → Rho → Mem → Prop) (items : List D)
    (step : ∀ (i : Nat) (x : D) (ρ : Rho) (μ : Mem) (R : Out → Mem → Prop), items[i]? = some x → I i ρ μ → (∀ ρ' μ', I (i + 1) ρ' μ' → R (.nx ρ') μ') → (∀ d μ', Q (.rt d) μ' → R (.rt d) μ') →
      chk μ ∧ g x ρ μ (fun ρ1 μ1 => body ρ1 μ1 R E) E)
    (fin : ∀ ρ μ, I items.length ρ μ → chk μ ∧ Q (.nx ρ) μ) : ∀ (ρ : Rho) (μ : Mem), I 0 ρ μ → forW chk g body items ρ μ Q E := by
  have main : ∀ (n i : Nat) (ρ : Rho) (μ : Mem), i + n = items.length → I i ρ μ → forW chk g body (items.drop i) ρ μ Q E := by
    intro n
    induction n with
    | zero =>
      intro i ρ μ hi h
      have : i = items.length := by omega
      subst this
      rw [List.drop_length]
      exact fin ρ μ h
    | succ n ih =>
      intro i ρ μ hi h
      have hlt : i < items.length := by omega
      rw [List.drop_eq_getElem_cons hlt]
      refine step i items[i] ρ μ (fun o μ2 => (match o with
        | .nx ρ2 => forW chk g body (items.drop (i + 1)) ρ2
        | .ct ρ2 => forW chk g body (items.drop (i + 1)) ρ2
        | .bk ρ2 => W.ret (.nx ρ2)
        | .rt d => W.ret (.rt d)) μ2 Q E) (List.getElem?_eq_getElem hlt) h ?_ ?_
      · intro ρ' μ' h'
        exact ih (i + 1) ρ' μ' (by omega) h'
      · intro d μ' q
        exact q
  intro ρ μ h
  have := main items.length 0 ρ μ (by omega) h
  rwa [List.drop_zero] at this
/-- a comprehension that changes nothing else -/
theorem lc_w {chk : Mem → Prop} {g : D → Rho → W Rho} {tt : Rho → W Bool} {te : Rho → W D} {ρ : Rho} {μ : Mem} {p : Addr} {E : XD} (c : D → Bool) (f : D → D) (hp : μ p = none) (Q : D → Mem → Prop) :
    ∀ (items acc : List D), (hz : acc.length + items.length < sizeLine) → (hc : ∀ acc, chk (put μ p (.ml acc))) →
    (step : ∀ x ∈ items, ∀ (acc : List D) (R : Rho → Mem → Prop), (∀ ρ1, (∀ (R' : Bool → Mem → Prop), R' (c x) (put μ p (.ml acc)) → tt ρ1 (put μ p (.ml acc)) R' E) → (c x = true → ∀ (R' : D → Mem → Prop), R' (f x) (put μ p (.ml acc)) → te ρ1 (put μ p (.ml acc)) R' E) → R ρ1 (put μ p (.ml acc))) →
      g x ρ (put μ p (.ml acc)) R E) →
    (q : Q (.lst (acc ++ (items.filter c).map f)) μ) → lcW chk g tt te p ρ items (put μ p (.ml acc)) (fun _ μ' => ∃ ds, μ' p = some (.ml ds) ∧ Q (.lst ds) (del μ' p)) E
  | [], acc, hz, hc, step, q => by
    refine ⟨hc acc, acc, put_same, ?_⟩
    rw [del_put hp]
    simpa using q
  | x :: xs, acc, hz, hc, step, q => by
    refine ⟨hc acc, step x (List.mem_cons_self ..) acc _ fun ρ1 ht he => ht _ ?_⟩
    cases e : c x with
    | false =>
      rw [if_neg (by decide)]
      refine lc_w c f hp Q xs acc (by simp at hz; omega) hc (fun y hy => step y (List.mem_cons_of_mem _ hy)) ?_
      rw [List.filter_cons, e] at q
      exact q
    | true =>
      rw [if_pos rfl]
      refine he e _ ?_
      show W.bnd (W.push p (f x)) _ _ _ _
      unfold W.push
      show (match put μ p (.ml acc) p with
        | some (.ml acc) => W.req (acc.length < sizeLine) (W.setL p (acc ++ [f x]) (W.ret ()))
        | _ => W.bad) _ _ _
      rw [put_same]
      refine ⟨by simp at hz; omega, ?_⟩
      show lcW chk g tt te p ρ xs (put (put μ p (.ml acc)) p (.ml (acc ++ [f x]))) _ E
      rw [put_put]
      refine lc_w c f hp Q xs (acc ++ [f x]) (by simp at hz ⊢; omega) hc (fun y hy => step y (List.mem_cons_of_mem _ hy)) ?_
      rw [List.filter_cons, e, if_pos rfl, List.map_cons] at q
      rw [List.append_assoc]
      exact q
theorem cmul_l {i j : Int} (h : -18446744073709551616 < i) (h' : i < 18446744073709551616) : CMul i j := .inl ⟨by omega, by omega⟩
theorem cmul_r {i j : Int} (h : -18446744073709551616 < j) (h' : j < 18446744073709551616) : CMul i j := .inr ⟨by omega, by omega⟩
theorem log_lt {j : Int} {k : Nat} (hk : 0 < k) (h0 : j.natAbs < 2 ^ k) : j.natAbs.log2 < k := by
  by_cases h : j.natAbs = 0
  · rw [h]; simpa using hk
  · exact (Nat.log2_lt h).mpr h0
theorem cdiv_w {i j : Int} (h : 0 < j) (h' : j < 4611686018427387904) : CDivW i j := ⟨h, Nat.lt_trans (log_lt (k := 62) (by decide) (by omega)) (by decide)⟩
theorem cpow_w {i j : Int} (h : 0 ≤ j) (h' : j ≤ 1000) (hi : i.natAbs < 1000) : CPow i j := ⟨h, by omega, Nat.lt_trans hi (by decide)⟩

/-! ### the deck: [cells, seed, turns] -/
structure Deck (μ : Mem) (a c : Addr) (t : Int) : Prop where
  ne : c ≠ a
  at_ : ∃ seed turns : Int, μ a = some (.ml [.obj c, .int seed, .int turns]) ∧ 0 ≤ turns ∧ turns ≤ t
  cells : ∃ ns : List Int, μ c = some (.ml (ns.map .int)) ∧ ns.length ≤ 63
theorem Deck.mono {μ : Mem} {a c : Addr} {t t' : Int} (h : Deck μ a c t) (ht : t ≤ t') : Deck μ a c t' := by
  obtain ⟨n, ⟨s, u, h1, h2, h3⟩, k⟩ := h
  exact ⟨n, ⟨s, u, h1, h2, by omega⟩, k⟩
/-- all but the deck is as before -/
def Fr (a c : Addr) (μ μ' : Mem) : Prop := ∀ b mo, b ≠ a → b ≠ c → μ b = some mo → μ' b = some mo
theorem Fr.refl (a c : Addr) (μ : Mem) : Fr a c μ μ := fun _ _ _ _ h => h
theorem Fr.trans {a c : Addr} {μ μ' μ'' : Mem} (h : Fr a c μ μ') (k : Fr a c μ' μ'') : Fr a c μ μ'' := fun b mo h1 h2 h3 => k b mo h1 h2 (h b mo h1 h2 h3)
theorem Deck.new {μ : Mem} {a c p : Addr} {t : Int} {o : MO} (h : Deck μ a c t) (hp : μ p = none) : Deck (put μ p o) a c t := by
  obtain ⟨n, ⟨s, u, h1, h2, h3⟩, ns, h4, h5⟩ := h
  refine ⟨n, ⟨s, u, ?_, h2, h3⟩, ns, ?_, h5⟩
  · rw [put_ne (by intro e; subst e; rw [h1] at hp; cases hp)]; exact h1
  · rw [put_ne (by intro e; subst e; rw [h4] at hp; cases hp)]; exact h4
theorem Fr.new {a c p : Addr} {μ : Mem} {o : MO} (hp : μ p = none) : Fr a c μ (put μ p o) := fun b mo _ _ h => by
  rw [put_ne (by intro e; subst e; rw [hp] at h; cases h)]; exact h
/-- another object changes -/
theorem Deck.put {μ : Mem} {a c p : Addr} {t : Int} {o : MO} (h : Deck μ a c t) (h1 : p ≠ a) (h2 : p ≠ c) : Deck (put μ p o) a c t := by
  obtain ⟨n, ⟨s, u, k1, k2, k3⟩, ns, k4, k5⟩ := h
  refine ⟨n, ⟨s, u, ?_, k2, k3⟩, ns, ?_, k5⟩
  · rw [put_ne (Ne.symm h1)]; exact k1
  · rw [put_ne (Ne.symm h2)]; exact k4
theorem gd_ints : ∀ ns : List Int, pyL (ns.map D.int) = some (ns.map PyData.int) ∧ PyData.canLayAll0 (ns.map PyData.int) = true ∧ PyData.depthAll (ns.map PyData.int) = 0
  | [] => ⟨rfl, rfl, rfl⟩
  | n :: r => by
    obtain ⟨a, b, c⟩ := gd_ints r
    refine ⟨?_, ?_, ?_⟩
    · show pyL (.int n :: r.map D.int) = _
      unfold pyL; rw [a]; rfl
    · show (true && _) = true
      rw [b]; rfl
    · show max 0 _ = 0
      rw [c]; rfl
/-- a list of numbers against [] -/
theorem ne_nil_w {f : Bool → Bool} {c : Addr} {ns : List Int} {μ : Mem} {Q : D → Mem → Prop} {E : XD} (h : μ c = some (.ml (ns.map .int))) (q : Q (.bl (f (decide (ns = [])))) μ) : eqA f (.obj c) (.lst []) μ Q E := by
  refine eqA_of ?_
  unfold eqW
  show W.bnd (W.opt (pyM μ (.obj c))) _ μ Q E
  obtain ⟨h1, h2, h3⟩ := gd_ints ns
  have e : pyM μ (.obj c) = some (.list (ns.map .int)) := by
    unfold pyM
    simp only [h, h1]
    rfl
  rw [e]
  refine ⟨⟨?_, rfl⟩, ?_⟩
  · unfold SeqAt.shaped
    show (PyData.canLayAll0 _ && decide (PyData.depthAll _ + 1 ≤ 64)) = true
    rw [h2, h3]; rfl
  · have : PyData.eqv (.list (ns.map .int)) (toPy (.lst [])) = decide (ns = []) := by
      cases ns <;> rfl
    show Q (.bl (f (PyData.eqv (.list (ns.map .int)) (.list [])))) μ
    rw [show PyData.eqv (.list (ns.map .int)) (.list []) = decide (ns = []) from this]
    exact q
theorem last_map {ns : List Int} (h : ns ≠ []) : (ns.map D.int)[(ns.map D.int).length - 1]? = some (.int (ns.getLast h)) ∧ (ns.map D.int).dropLast = (ns.dropLast).map D.int := by
  refine ⟨?_, by simp⟩
  rw [List.length_map, List.getElem?_map, ← List.getLast?_eq_getElem?, List.getLast?_eq_some_getLast h]
  rfl

/-! ### one step of an operation, on what is known -/
def onL (o : Option MO) (f : List D → Prop) : Prop := match o with
  | some (.ml ds) => f ds
  | _ => False
theorem onL_ml (ds : List D) (f : List D → Prop) : onL (some (.ml ds)) f = f ds := (Eq.refl _).trans rfl
theorem addD_ii (i j : Int) : addD (.int i) (.int j) = W.ret (.int (i + j)) := (Eq.refl _).trans rfl
theorem addD_ss (a b : Str) : addD (.str a) (.str b) = W.req (a.length + b.length ≤ sizeLine) (W.ret (.str (a ++ b))) := (Eq.refl _).trans rfl
theorem addD_tt (a b : List D) : addD (.tup a) (.tup b) = W.req (a.length + b.length ≤ sizeLine) (W.ret (.tup (a ++ b))) := (Eq.refl _).trans rfl
theorem addD_ll (a b : List D) : addD (.lst a) (.lst b) = W.req (a.length + b.length ≤ sizeLine) (W.ret (.lst (a ++ b))) := (Eq.refl _).trans rfl
theorem addD_ol {p : Addr} {b : List D} {μ : Mem} {Q : D → Mem → Prop} {E : XD} : addD (.obj p) (.lst b) μ Q E = onL (μ p) fun a => (a.length + b.length ≤ sizeLine ∧ Q (.lst (a ++ b)) μ) := by
  show W.bnd (W.opt (lsOf (.obj p) μ)) _ μ Q E = _
  unfold lsOf onL
  dsimp only
  cases μ p with
  | none => rfl
  | some o => cases o <;> rfl
theorem subD_ii (i j : Int) : subD (.int i) (.int j) = W.ret (.int (i - j)) := (Eq.refl _).trans rfl
theorem mulAD_ii (i j : Int) : mulAD (.int i) (.int j) = W.req (CMul i j) (W.ret (.int (i * j))) := (Eq.refl _).trans rfl
theorem divD_ii (i j : Int) : divD (.int i) (.int j) = W.req (CDivW i j) (W.ret (.int (i / j))) := (Eq.refl _).trans rfl
theorem modD_ii (i j : Int) : modD (.int i) (.int j) = W.req (0 < j) (W.ret (.int (i % j))) := (Eq.refl _).trans rfl
theorem powD_ii (i j : Int) : powD (.int i) (.int j) = W.req (CPow i j) (W.ret (.int (i ^ j.toNat))) := (Eq.refl _).trans rfl
theorem negD_i (i : Int) : negD (.int i) = W.ret (.int (-i)) := (Eq.refl _).trans rfl
theorem cmp_ii (p : Int → Int → Bool) (q : List Nat → List Nat → Bool) (i j : Int) : cmpI p q (.int i) (.int j) = W.ret (.bl (p i j)) := (Eq.refl _).trans rfl
theorem cmp_ss (p : Int → Int → Bool) (q : List Nat → List Nat → Bool) (i j : Str) : cmpI p q (.str i) (.str j) = W.ret (.bl (q i.cps.toList j.cps.toList)) := (Eq.refl _).trans rfl
theorem isN_w (f : Bool → Bool) (x : D) : isND f x .non = W.ret (.bl (f (DL.isNon x))) := (Eq.refl _).trans rfl
theorem isNon_non : DL.isNon .non = true := (Eq.refl _).trans rfl
theorem isNon_int (i : Int) : DL.isNon (.int i) = false := (Eq.refl _).trans rfl
theorem isNon_str (i : Str) : DL.isNon (.str i) = false := (Eq.refl _).trans rfl
theorem isNon_tup (i : List D) : DL.isNon (.tup i) = false := (Eq.refl _).trans rfl
theorem ix_tup (ds : List D) (k : Int) (μ : Mem) (Q : D → Mem → Prop) (E : XD) : ixD (.tup ds) (.int k) μ Q E = W.opt (atI ds k) μ Q E := propext ⟨fun h => h, fun h => h⟩
theorem ix_lst (ds : List D) (k : Int) (μ : Mem) (Q : D → Mem → Prop) (E : XD) : ixD (.lst ds) (.int k) μ Q E = W.opt (atI ds k) μ Q E := propext ⟨fun h => h, fun h => h⟩
theorem ix_str (s : Str) (k : Int) (μ : Mem) (Q : D → Mem → Prop) (E : XD) : ixD (.str s) (.int k) μ Q E = (s.length ≤ sizeLine ∧ W.opt (atI s.cps.toList k) μ (fun c μ' => Q (.str ⟨#[c]⟩) μ') E) := propext ⟨fun h => h, fun h => h⟩
theorem ix_obj {a : Addr} {k : Int} {μ : Mem} {Q : D → Mem → Prop} {E : XD} : ixD (.obj a) (.int k) μ Q E = onL (μ a) fun ds => W.opt (atI ds k) μ Q E := by
  show W.bnd (W.opt (sqOf (.obj a) μ)) _ μ Q E = _
  unfold sqOf lsOf onL
  dsimp only
  cases μ a with
  | none => rfl
  | some o => cases o <;> rfl
theorem atI_0 {α : Type} (x : α) (r : List α) : atI (x :: r) 0 = some x := by
  unfold atI ixN
  rw [if_pos (by decide), if_pos (by simp only [List.length_cons]; omega)]
  rfl
theorem atI_1 {α : Type} (x y : α) (r : List α) : atI (x :: y :: r) 1 = some y := by
  unfold atI ixN
  rw [if_pos (by decide), if_pos (by simp only [List.length_cons]; omega)]
  rfl
theorem atI_2 {α : Type} (x y z : α) (r : List α) : atI (x :: y :: z :: r) 2 = some z := by
  unfold atI ixN
  rw [if_pos (by decide), if_pos (by simp only [List.length_cons]; omega)]
  rfl
theorem atI_3 {α : Type} (x y z u : α) (r : List α) : atI (x :: y :: z :: u :: r) 3 = some u := by
  unfold atI ixN
  rw [if_pos (by decide), if_pos (by simp only [List.length_cons]; omega)]
  rfl
theorem atI_nat {α : Type} (xs : List α) (k : Int) (h : 0 ≤ k) (h' : k < xs.length) : ∃ x, atI xs k = some x ∧ xs[k.toNat]? = some x ∧ x ∈ xs := by
  unfold atI ixN
  rw [if_pos h, if_pos h']
  have hk : k.toNat < xs.length := by omega
  refine ⟨xs[k.toNat], ?_, List.getElem?_eq_getElem hk, List.getElem_mem hk⟩
  show xs[k.toNat]? = _
  exact List.getElem?_eq_getElem hk
theorem len_tup (ds : List D) (μ : Mem) (Q : D → Mem → Prop) (E : XD) : lenD [.tup ds] μ Q E = Q (.int ds.length) μ := propext ⟨fun h => h, fun h => h⟩
theorem len_lst (ds : List D) (μ : Mem) (Q : D → Mem → Prop) (E : XD) : lenD [.lst ds] μ Q E = Q (.int ds.length) μ := propext ⟨fun h => h, fun h => h⟩
theorem len_str (ds : Str) (μ : Mem) (Q : D → Mem → Prop) (E : XD) : lenD [.str ds] μ Q E = (ds.length ≤ sizeLine ∧ Q (.int ds.length) μ) := propext ⟨fun h => h, fun h => h⟩
theorem len_obj {a : Addr} {μ : Mem} {Q : D → Mem → Prop} {E : XD} : lenD [.obj a] μ Q E = onL (μ a) fun ds => Q (.int ds.length) μ := by
  show W.bnd (W.opt (sqOf (.obj a) μ)) _ μ Q E = _
  unfold sqOf lsOf onL
  dsimp only
  cases μ a with
  | none => rfl
  | some o => cases o <;> rfl
theorem ty_obj {a : Addr} {μ : Mem} : tyD "list" (.obj a) μ = onL (μ a) fun _ => True := by
  unfold tyD onL
  simp only
  cases μ a with
  | none => rfl
  | some o => cases o <;> simp
theorem ty_str {s : Str} {μ : Mem} : tyD "str" (.str s) μ = True := by
  unfold tyD
  exact eq_true rfl
theorem ty_lst {s : List D} {μ : Mem} : tyD "list" (.lst s) μ = True := by
  unfold tyD
  exact eq_true rfl
theorem append_obj {a : Addr} {x : D} {μ : Mem} {Q : D → Mem → Prop} {E : XD} : appendD (.obj a) [x] μ Q E = onL (μ a) fun ds => (ds.length < sizeLine ∧ Q .non (put μ a (.ml (ds ++ [x])))) := by
  show W.bnd (W.opt (mlOf (.obj a) μ)) _ μ Q E = _
  unfold mlOf onL
  dsimp only
  cases μ a with
  | none => rfl
  | some o => cases o <;> rfl
theorem pop_obj {a : Addr} {μ : Mem} {Q : D → Mem → Prop} {E : XD} : popD (.obj a) [] μ Q E = onL (μ a) fun ds => W.opt ds[ds.length - 1]? μ (fun y _ => Q y (put μ a (.ml ds.dropLast))) E := by
  show W.bnd (W.opt (mlOf (.obj a) μ)) _ μ Q E = _
  unfold mlOf onL
  dsimp only
  cases μ a with
  | none => rfl
  | some o =>
    cases o with
    | md _ => rfl
    | ml ds =>
      show W.bnd (W.opt ds[ds.length - 1]?) _ μ Q E = W.opt ds[ds.length - 1]? μ (fun y _ => Q y (put μ a (.ml ds.dropLast))) E
      cases ds[ds.length - 1]? <;> rfl
theorem set_obj {a : Addr} {k : Int} {x : D} {μ : Mem} {Q : Unit → Mem → Prop} {E : XD} : setD (.obj a) (.int k) x μ Q E = onL (μ a) fun ds => W.opt (ixN ds.length k) μ (fun j _ => Q () (put μ a (.ml (ds.set j x)))) E := by
  show W.bnd (W.opt (mlOf (.obj a) μ)) _ μ Q E = _
  unfold mlOf onL
  dsimp only
  cases μ a with
  | none => rfl
  | some o =>
    cases o with
    | md _ => rfl
    | ml ds =>
      show W.bnd (W.opt (ixN ds.length k)) _ μ Q E = W.opt (ixN ds.length k) μ (fun j _ => Q () (put μ a (.ml (ds.set j x)))) E
      cases ixN ds.length k <;> rfl
theorem ixN_3_2 : ixN 3 2 = some 2 := by decide
theorem opt_s {α : Type} (x : α) (μ : Mem) (Q : α → Mem → Prop) (E : XD) : W.opt (some x) μ Q E = Q x μ := propext ⟨fun h => h, fun h => h⟩
theorem tuple_obj {a : Addr} {μ : Mem} {Q : D → Mem → Prop} {E : XD} : tupleD [.obj a] μ Q E = onL (μ a) fun ds => Q (.tup ds) μ := by
  show W.bnd (W.opt (sqOf (.obj a) μ)) _ μ Q E = _
  unfold sqOf lsOf onL
  dsimp only
  cases μ a with
  | none => rfl
  | some o => cases o <;> rfl
theorem tuple_lst (ds : List D) (μ : Mem) (Q : D → Mem → Prop) (E : XD) : tupleD [.lst ds] μ Q E = Q (.tup ds) μ := propext ⟨fun h => h, fun h => h⟩
theorem list_tup (ds : List D) (μ : Mem) (Q : D → Mem → Prop) (E : XD) : listD [.tup ds] μ Q E = Q (.lst ds) μ := propext ⟨fun h => h, fun h => h⟩
theorem list_lst (ds : List D) (μ : Mem) (Q : D → Mem → Prop) (E : XD) : listD [.lst ds] μ Q E = Q (.lst ds) μ := propext ⟨fun h => h, fun h => h⟩
theorem sl_str (s : Str) (lo hi : Option Int) (μ : Mem) (Q : D → Mem → Prop) (E : XD) : slD (.str s) lo hi μ Q E = (s.length ≤ sizeLine ∧ Q (.str (cutS s lo hi)) μ) := propext ⟨fun h => h, fun h => h⟩
theorem sl_tup (ds : List D) (lo hi : Option Int) (μ : Mem) (Q : D → Mem → Prop) (E : XD) : slD (.tup ds) lo hi μ Q E = Q (.tup (cutD ds lo hi)) μ := propext ⟨fun h => h, fun h => h⟩
theorem sl_lst (ds : List D) (lo hi : Option Int) (μ : Mem) (Q : D → Mem → Prop) (E : XD) : slD (.lst ds) lo hi μ Q E = Q (.lst (cutD ds lo hi)) μ := propext ⟨fun h => h, fun h => h⟩
theorem rev_tup (ds : List D) (μ : Mem) (Q : D → Mem → Prop) (E : XD) : revTD (.tup ds) μ Q E = Q (.tup ds.reverse) μ := propext ⟨fun h => h, fun h => h⟩
theorem revM_lst (ds : List D) (μ : Mem) (Q : D → Mem → Prop) (E : XD) : revMD (.lst ds) μ Q E = ∀ p, μ p = none → Q (.obj p) (put μ p (.ml ds.reverse)) := propext ⟨fun h => h, fun h => h⟩
theorem int_bl (b : Bool) : DL.intD [.bl b] = W.ret (.int (if b then 1 else 0)) := (Eq.refl _).trans rfl
theorem sum_lst (ns : List Int) (μ : Mem) (Q : D → Mem → Prop) (E : XD) : sumD [.lst (ns.map .int)] μ Q E = Q (.int ns.sum) μ := by
  show W.bnd (W.opt (intsOf (ns.map D.int))) _ μ Q E = _
  have : ∀ ns : List Int, intsOf (ns.map D.int) = some ns := fun ns => by
    induction ns with
    | nil => rfl
    | cons n r ih =>
      show (intsOf (r.map D.int)).map (n :: ·) = _
      rw [ih]; rfl
  rw [this]
  rfl
theorem it_tup (ds : List D) (ρ : Rho) (m : Rho → W D) (μ : Mem) (Q : ItD → Mem → Prop) (E : XD) (h : m ρ = W.ret (.tup ds)) : iSeq m ρ μ Q E = Q ⟨ds, fun _ => True⟩ μ := by
  unfold iSeq
  rw [h]
  rfl
theorem it_lst (ds : List D) (ρ : Rho) (m : Rho → W D) (μ : Mem) (Q : ItD → Mem → Prop) (E : XD) (h : m ρ = W.ret (.lst ds)) : iSeq m ρ μ Q E = Q ⟨ds, fun _ => True⟩ μ := by
  unfold iSeq
  rw [h]
  rfl
theorem rg_w (j : Int) (ρ : Rho) (ms : Rho → W (List D)) (μ : Mem) (Q : ItD → Mem → Prop) (E : XD) (h : ms ρ = W.ret [.int j]) : iRg1 ms ρ μ Q E = ((-(2 ^ 62) ≤ j ∧ j < 2 ^ 62) ∧ Q ⟨rangeL 0 j.toNat, fun _ => True⟩ μ) := by
  unfold iRg1
  rw [h]
  rfl

/-- [te for x in items if tt], for one name -/
theorem elc_nm {mi : Rho → W ItD} {i : Nat} {tt : Rho → W Bool} {te : Rho → W D} {vs : List Nat} {ρ : Rho} {μ : Mem} {Q : D → Mem → Prop} {E : XD} {items : List D} {chk : Mem → Prop} (c : D → Bool) (f : D → D)
    (hmi : ∀ R : ItD → Mem → Prop, R ⟨items, chk⟩ μ → mi ρ μ R E) (hz : items.length < sizeLine) (hc : ∀ p acc, μ p = none → chk (put μ p (.ml acc)))
    (ht : ∀ x ∈ items, ∀ p acc, μ p = none → ∀ R : Bool → Mem → Prop, R (c x) (put μ p (.ml acc)) → tt ((wipeD ρ vs).set i (some x)) (put μ p (.ml acc)) R E)
    (he : ∀ x ∈ items, c x = true → ∀ p acc, μ p = none → ∀ R : D → Mem → Prop, R (f x) (put μ p (.ml acc)) → te ((wipeD ρ vs).set i (some x)) (put μ p (.ml acc)) R E)
    (q : Q (.lst ((items.filter c).map f)) μ) : eLc mi (gNm i) tt te vs ρ μ Q E := by
  unfold eLc
  refine hmi _ fun p hp => ?_
  refine lc_w c f hp Q items [] (by simpa using hz) (fun acc => hc p acc hp) (fun x hx acc R hR => ?_) (by simpa using q)
  exact hR _ (fun R' => ht x hx p acc hp R') (fun e R' => he x hx e p acc hp R')
/-- .. for two names of a pair -/
theorem elc_pr {mi : Rho → W ItD} {i j : Nat} {tt : Rho → W Bool} {te : Rho → W D} {vs : List Nat} {ρ : Rho} {μ : Mem} {Q : D → Mem → Prop} {E : XD} {items : List D} {chk : Mem → Prop} (c : D → Bool) (f : D → D)
    (hmi : ∀ R : ItD → Mem → Prop, R ⟨items, chk⟩ μ → mi ρ μ R E) (hz : items.length < sizeLine) (hc : ∀ p acc, μ p = none → chk (put μ p (.ml acc)))
    (h2 : ∀ x ∈ items, ∃ a b, x = .tup [a, b])
    (ht : ∀ a b, .tup [a, b] ∈ items → ∀ p acc, μ p = none → ∀ R : Bool → Mem → Prop, R (c (.tup [a, b])) (put μ p (.ml acc)) → tt (((wipeD ρ vs).set i (some a)).set j (some b)) (put μ p (.ml acc)) R E)
    (he : ∀ a b, .tup [a, b] ∈ items → c (.tup [a, b]) = true → ∀ p acc, μ p = none → ∀ R : D → Mem → Prop, R (f (.tup [a, b])) (put μ p (.ml acc)) → te (((wipeD ρ vs).set i (some a)).set j (some b)) (put μ p (.ml acc)) R E)
    (q : Q (.lst ((items.filter c).map f)) μ) : eLc mi (gTp 2 (gsCons (gNm i) (gsCons (gNm j) gsNil))) tt te vs ρ μ Q E := by
  unfold eLc
  refine hmi _ fun p hp => ?_
  refine lc_w c f hp Q items [] (by simpa using hz) (fun acc => hc p acc hp) (fun x hx acc R hR => ?_) (by simpa using q)
  obtain ⟨a, b, rfl⟩ := h2 x hx
  exact ⟨rfl, hR _ (fun R' => ht a b hx p acc hp R') (fun e R' => he a b hx e p acc hp R')⟩
theorem cut_all {α : Type} {ds : List α} {k : Int} (h : (ds.length : Int) ≤ k) : cutD ds none (some k) = ds := by
  refine cut_whole ⟨rfl, ?_⟩
  show (if k < 0 then (k + (ds.length : Int)).toNat else min k.toNat ds.length) = ds.length
  rw [if_neg (by omega)]
  omega
/-- an item of a list -/
theorem ix_in {ds : List D} {k : Int} {μ : Mem} {Q : D → Mem → Prop} {E : XD} (h0 : 0 ≤ k) (h1 : k < ds.length) (q : ∀ d, d ∈ ds → ds[k.toNat]? = some d → Q d μ) : W.opt (atI ds k) μ Q E := by
  obtain ⟨x, e, e', m⟩ := atI_nat ds k h0 h1
  rw [e]
  exact q x m e'
end DL

/-! DLx: what each combinator asks, as an equality of propositions: printed by mkx.py -/
namespace DL
open PySem PySem.Spec PyProof.Rows L2
theorem x_bnd {μ : Mem} {E : XD} {α β : Type} {m : W α} {f : α → W β} {Q : β → Mem → Prop} : (W.bnd m f μ Q E) = (m μ (fun a μ1 => f a μ1 Q E) E) := propext ⟨fun h => h, fun h => h⟩
theorem x_ret {μ : Mem} {E : XD} {α : Type} {a : α} {Q : α → Mem → Prop} : (W.ret a μ Q E) = (Q a μ) := propext ⟨fun h => h, fun h => h⟩
theorem x_req {μ : Mem} {E : XD} {α : Type} {p : Prop} {m : W α} {Q : α → Mem → Prop} : (W.req p m μ Q E) = (p ∧ m μ Q E) := propext ⟨fun h => h, fun h => h⟩
theorem x_get {μ : Mem} {E : XD} {Q : Mem → Mem → Prop} : (W.get μ Q E) = (Q μ μ) := propext ⟨fun h => h, fun h => h⟩
theorem x_opt {μ : Mem} {E : XD} {α : Type} {a : α} {Q : α → Mem → Prop} : (W.opt (some a) μ Q E) = (Q a μ) := propext ⟨fun h => h, fun h => h⟩
theorem x_seq {μ : Mem} {E : XD} {ρ : Rho} {Q : Out → Mem → Prop} {a b : Rho → W Out} : (sSeq a b ρ μ Q E) = (a ρ μ (fun o μ1 => outSeq b o μ1 Q E) E) := propext ⟨fun h => h, fun h => h⟩
theorem x_on {μ : Mem} {E : XD} {ρ : Rho} {Q : Out → Mem → Prop} {b : Rho → W Out} : (outSeq b (.nx ρ) μ Q E) = (b ρ μ Q E) := propext ⟨fun h => h, fun h => h⟩
theorem x_or {μ : Mem} {E : XD} {Q : Out → Mem → Prop} {b : Rho → W Out} {d : D} : (outSeq b (.rt d) μ Q E) = (Q (.rt d) μ) := propext ⟨fun h => h, fun h => h⟩
theorem x_ob {μ : Mem} {E : XD} {Q : Out → Mem → Prop} {b : Rho → W Out} {r : Rho} : (outSeq b (.bk r) μ Q E) = (Q (.bk r) μ) := propext ⟨fun h => h, fun h => h⟩
theorem x_oc {μ : Mem} {E : XD} {Q : Out → Mem → Prop} {b : Rho → W Out} {r : Rho} : (outSeq b (.ct r) μ Q E) = (Q (.ct r) μ) := propext ⟨fun h => h, fun h => h⟩
theorem x_nil {μ : Mem} {E : XD} {ρ : Rho} {Q : Out → Mem → Prop} : (sNil ρ μ Q E) = (Q (.nx ρ) μ) := propext ⟨fun h => h, fun h => h⟩
theorem x_rt {μ : Mem} {E : XD} {ρ : Rho} {Q : Out → Mem → Prop} {m : Rho → W D} : (sRet m ρ μ Q E) = (m ρ μ (fun d μ1 => Q (.rt d) μ1) E) := propext ⟨fun h => h, fun h => h⟩
theorem x_rtN {μ : Mem} {E : XD} {ρ : Rho} {Q : Out → Mem → Prop} : (sRetN ρ μ Q E) = (Q (.rt .non) μ) := propext ⟨fun h => h, fun h => h⟩
theorem x_drop {μ : Mem} {E : XD} {ρ : Rho} {Q : Out → Mem → Prop} {m : Rho → W D} : (sDrop m ρ μ Q E) = (m ρ μ (fun _ μ1 => Q (.nx ρ) μ1) E) := propext ⟨fun h => h, fun h => h⟩
theorem x_break {μ : Mem} {E : XD} {ρ : Rho} {Q : Out → Mem → Prop} : (sBreak ρ μ Q E) = (Q (.bk ρ) μ) := propext ⟨fun h => h, fun h => h⟩
theorem x_cont {μ : Mem} {E : XD} {ρ : Rho} {Q : Out → Mem → Prop} : (sCont ρ μ Q E) = (Q (.ct ρ) μ) := propext ⟨fun h => h, fun h => h⟩
theorem ite_w {α : Type} {k : Bool} {a b : W α} {μ : Mem} {Q : α → Mem → Prop} {E : XD} : (if k = true then a else b) μ Q E = (if k = true then a μ Q E else b μ Q E) := by
  cases k <;> rfl
theorem x_if {μ : Mem} {E : XD} {ρ : Rho} {Q : Out → Mem → Prop} {t : Rho → W Bool} {a b : Rho → W Out} : (sIf t a b ρ μ Q E) = (t ρ μ (fun k μ1 => if k = true then a ρ μ1 Q E else b ρ μ1 Q E) E) := by
  unfold sIf W.bnd
  simp only [ite_w]
theorem x_ift {μ : Mem} {E : XD} {ρ : Rho} {Q : Out → Mem → Prop} {a b : Prop} : (if true = true then a else b) = (a) := if_pos rfl
theorem x_iff {μ : Mem} {E : XD} {ρ : Rho} {Q : Out → Mem → Prop} {a b : Prop} : (if false = true then a else b) = (b) := if_neg (by decide)
theorem x_set {μ : Mem} {E : XD} {ρ : Rho} {Q : Out → Mem → Prop} {m : Rho → W D} {i : Nat} : (sSet i m ρ μ Q E) = (m ρ μ (fun d μ1 => Q (.nx (ρ.set i (some d))) μ1) E) := propext ⟨fun h => h, fun h => h⟩
theorem x_asg {μ : Mem} {E : XD} {ρ : Rho} {Q : Out → Mem → Prop} {m : Rho → W D} {g : D → Rho → W Rho} : (sAsg m g ρ μ Q E) = (m ρ μ (fun d μ1 => g d ρ μ1 (fun r μ2 => Q (.nx r) μ2) E) E) := propext ⟨fun h => h, fun h => h⟩
theorem x_par2 {μ : Mem} {E : XD} {ρ : Rho} {Q : Out → Mem → Prop} {a b : Rho → W D} {i j : Nat} : (sPar2 i j (aCons a (aCons b aNil)) ρ μ Q E) = (a ρ μ (fun x μ1 => b ρ μ1 (fun y μ2 => Q (.nx ((ρ.set i (some x)).set j (some y))) μ2) E) E) := propext ⟨fun h => h, fun h => h⟩
theorem x_par3 {μ : Mem} {E : XD} {ρ : Rho} {Q : Out → Mem → Prop} {a b : Rho → W D} {c : Rho → W D} {i j l : Nat} : (sPar3 i j l (aCons a (aCons b (aCons c aNil))) ρ μ Q E) = (a ρ μ (fun x μ1 => b ρ μ1 (fun y μ2 => c ρ μ2 (fun z μ3 => Q (.nx (((ρ.set i (some x)).set j (some y)).set l (some z))) μ3) E) E) E) := propext ⟨fun h => h, fun h => h⟩
theorem x_for {μ : Mem} {E : XD} {ρ : Rho} {Q : Out → Mem → Prop} {mi : Rho → W ItD} {g : D → Rho → W Rho} {body : Rho → W Out} : (sFor mi g body ρ μ Q E) = (mi ρ μ (fun it μ1 => forW it.chk g body it.items ρ μ1 Q E) E) := propext ⟨fun h => h, fun h => h⟩
theorem x_v0 {μ : Mem} {E : XD} {ρ : Rho} {Q : D → Mem → Prop} {d : D} : (eVar 0 (some d :: ρ) μ Q E) = (Q d μ) := propext ⟨fun h => h, fun h => h⟩
theorem x_vS {μ : Mem} {E : XD} {ρ : Rho} {Q : D → Mem → Prop} {n : Nat} {o : Option D} : (eVar (n + 1) (o :: ρ) μ Q E) = (eVar n ρ μ Q E) := propext ⟨fun h => h, fun h => h⟩
theorem x_c {μ : Mem} {E : XD} {ρ : Rho} {Q : D → Mem → Prop} {d : D} : (eC d ρ μ Q E) = (Q d μ) := propext ⟨fun h => h, fun h => h⟩
theorem x_bin {μ : Mem} {E : XD} {ρ : Rho} {Q : D → Mem → Prop} {a b : Rho → W D} {g : D → D → W D} : (eBin g a b ρ μ Q E) = (a ρ μ (fun x μ1 => b ρ μ1 (fun y μ2 => g x y μ2 Q E) E) E) := propext ⟨fun h => h, fun h => h⟩
theorem x_un {μ : Mem} {E : XD} {ρ : Rho} {Q : D → Mem → Prop} {m : Rho → W D} {g : D → W D} : (eUn g m ρ μ Q E) = (m ρ μ (fun x μ1 => g x μ1 Q E) E) := propext ⟨fun h => h, fun h => h⟩
def onB (d : D) (f : Bool → Prop) : Prop := match d with
  | .bl b => f b
  | _ => False
theorem onB_bl {b : Bool} {f : Bool → Prop} : onB (.bl b) f = f b := propext ⟨fun h => h, fun h => h⟩
def onI (d : D) (f : Int → Prop) : Prop := match d with
  | .int b => f b
  | _ => False
theorem onI_int {b : Int} {f : Int → Prop} : onI (.int b) f = f b := propext ⟨fun h => h, fun h => h⟩
theorem x_tbin {μ : Mem} {E : XD} {ρ : Rho} {Q : Bool → Mem → Prop} {a b : Rho → W D} {g : D → D → W D} : (tBin g a b ρ μ Q E) = (a ρ μ (fun x μ1 => b ρ μ1 (fun y μ2 => g x y μ2 (fun d μ3 => onB d fun k => Q k μ3) E) E) E) := by
  unfold tBin eBin W.bnd
  dsimp only
  congr 1
  funext x μ1
  congr 1
  funext y μ2
  congr 1
  funext d μ3
  cases d <;> rfl
theorem x_tru {μ : Mem} {E : XD} {ρ : Rho} {Q : Bool → Mem → Prop} {m : Rho → W D} : (tTru m ρ μ Q E) = (m ρ μ (fun d μ1 => truD d μ1 Q E) E) := propext ⟨fun h => h, fun h => h⟩
theorem x_trb {μ : Mem} {E : XD} {Q : Bool → Mem → Prop} {b : Bool} : (truD (.bl b) μ Q E) = (Q b μ) := propext ⟨fun h => h, fun h => h⟩
theorem x_not {μ : Mem} {E : XD} {ρ : Rho} {Q : Bool → Mem → Prop} {t : Rho → W Bool} : (tNotW t ρ μ Q E) = (t ρ μ (fun k μ1 => Q (!k) μ1) E) := propext ⟨fun h => h, fun h => h⟩
theorem x_tand {μ : Mem} {E : XD} {ρ : Rho} {Q : Bool → Mem → Prop} {s t : Rho → W Bool} : (tAndW s t ρ μ Q E) = (s ρ μ (fun k μ1 => if k = true then t ρ μ1 Q E else Q false μ1) E) := by
  unfold tAndW W.bnd
  simp only [ite_w]
  rfl
theorem x_tor {μ : Mem} {E : XD} {ρ : Rho} {Q : Bool → Mem → Prop} {s t : Rho → W Bool} : (tOrW s t ρ μ Q E) = (s ρ μ (fun k μ1 => if k = true then Q true μ1 else t ρ μ1 Q E) E) := by
  unfold tOrW W.bnd
  simp only [ite_w]
  rfl
theorem x_and {μ : Mem} {E : XD} {ρ : Rho} {Q : D → Mem → Prop} {a b : Rho → W D} : (eAnd a b ρ μ Q E) = (a ρ μ (fun x μ1 => truD x μ1 (fun k μ2 => if k = true then b ρ μ2 Q E else Q x μ2) E) E) := by
  unfold eAnd W.bnd
  simp only [ite_w]
  rfl
theorem x_orE {μ : Mem} {E : XD} {ρ : Rho} {Q : D → Mem → Prop} {a b : Rho → W D} : (eOr a b ρ μ Q E) = (a ρ μ (fun x μ1 => truD x μ1 (fun k μ2 => if k = true then Q x μ2 else b ρ μ2 Q E) E) E) := by
  unfold eOr W.bnd
  simp only [ite_w]
  rfl
theorem x_notE {μ : Mem} {E : XD} {ρ : Rho} {Q : D → Mem → Prop} {a : Rho → W D} : (eNot a ρ μ Q E) = (a ρ μ (fun x μ1 => truD x μ1 (fun k μ2 => Q (.bl (!k)) μ2) E) E) := propext ⟨fun h => h, fun h => h⟩
theorem x_ifE {μ : Mem} {E : XD} {ρ : Rho} {Q : D → Mem → Prop} {a b : Rho → W D} {t : Rho → W Bool} : (eIf t a b ρ μ Q E) = (t ρ μ (fun k μ1 => if k = true then a ρ μ1 Q E else b ρ μ1 Q E) E) := by
  unfold eIf W.bnd
  simp only [ite_w]
theorem x_tup {μ : Mem} {E : XD} {ρ : Rho} {Q : D → Mem → Prop} {ms : Rho → W (List D)} : (eTup ms ρ μ Q E) = (ms ρ μ (fun ds μ1 => ds.length ≤ sizeLine ∧ Q (.tup ds) μ1) E) := propext ⟨fun h => h, fun h => h⟩
theorem x_lst {μ : Mem} {E : XD} {ρ : Rho} {Q : D → Mem → Prop} {ms : Rho → W (List D)} : (eLst ms ρ μ Q E) = (ms ρ μ (fun ds μ1 => ds.length ≤ sizeLine ∧ Q (.lst ds) μ1) E) := propext ⟨fun h => h, fun h => h⟩
theorem x_lstM {μ : Mem} {E : XD} {ρ : Rho} {Q : D → Mem → Prop} {ms : Rho → W (List D)} : (eLstM ms ρ μ Q E) = (ms ρ μ (fun ds μ1 => ds.length ≤ sizeLine ∧ ∀ p, μ1 p = none → Q (.obj p) (put μ1 p (.ml ds))) E) := propext ⟨fun h => h, fun h => h⟩
theorem x_anil {μ : Mem} {E : XD} {ρ : Rho} {Q : List D → Mem → Prop} : (aNil ρ μ Q E) = (Q [] μ) := propext ⟨fun h => h, fun h => h⟩
theorem x_acons {μ : Mem} {E : XD} {ρ : Rho} {Q : List D → Mem → Prop} {ms : Rho → W (List D)} {m : Rho → W D} : (aCons m ms ρ μ Q E) = (m ρ μ (fun x μ1 => ms ρ μ1 (fun xs μ2 => Q (x :: xs) μ2) E) E) := propext ⟨fun h => h, fun h => h⟩
theorem x_call {μ : Mem} {E : XD} {ρ : Rho} {Q : D → Mem → Prop} {ms : Rho → W (List D)} {g : List D → W D} : (eCall g ms ρ μ Q E) = (ms ρ μ (fun ds μ1 => g ds μ1 Q E) E) := propext ⟨fun h => h, fun h => h⟩
theorem x_callD {μ : Mem} {E : XD} {ρ : Rho} {Q : D → Mem → Prop} {ms : Rho → W (List D)} {n : Nat} {g : List D → W D} : (eCallD n g ms ρ μ Q E) = (ms ρ μ (fun ds μ1 => ds.length = n ∧ g ds μ1 Q E) E) := propext ⟨fun h => h, fun h => h⟩
theorem x_callK {μ : Mem} {E : XD} {ρ : Rho} {Q : D → Mem → Prop} {ms : Rho → W (List D)} {is : List Nat} {n : Nat} {g : List D → W D} : (eCallK is n g ms ρ μ Q E) = (ms ρ μ (fun ds μ1 => (pick is ds).length = n ∧ g (pick is ds) μ1 Q E) E) := propext ⟨fun h => h, fun h => h⟩
theorem x_meth {μ : Mem} {E : XD} {ρ : Rho} {Q : D → Mem → Prop} {ms : Rho → W (List D)} {m : Rho → W D} {T : String} {g : D → List D → W D} : (eMeth T g m ms ρ μ Q E) = (m ρ μ (fun o μ1 => tyD T o μ1 ∧ ms ρ μ1 (fun as μ2 => g o as μ2 Q E) E) E) := propext ⟨fun h => h, fun h => h⟩
theorem x_sl {μ : Mem} {E : XD} {ρ : Rho} {Q : D → Mem → Prop} {m : Rho → W D} {lo hi : Rho → W (Option Int)} : (eSl m lo hi ρ μ Q E) = (m ρ μ (fun x μ1 => lo ρ μ1 (fun i μ2 => hi ρ μ2 (fun j μ3 => slD x i j μ3 Q E) E) E) E) := propext ⟨fun h => h, fun h => h⟩
theorem x_oN {μ : Mem} {E : XD} {ρ : Rho} {Q : Option Int → Mem → Prop} : (oNone ρ μ Q E) = (Q none μ) := propext ⟨fun h => h, fun h => h⟩
theorem x_oS {μ : Mem} {E : XD} {ρ : Rho} {m : Rho → W D} {Q : Option Int → Mem → Prop} : (oSome m ρ μ Q E) = (m ρ μ (fun d μ1 => onI d fun i => Q (some i) μ1) E) := by
  unfold oSome W.bnd
  dsimp only
  congr 1
  funext d μ1
  cases d <;> rfl
theorem x_gn {μ : Mem} {E : XD} {ρ : Rho} {Q : Rho → Mem → Prop} {i : Nat} {d : D} : (gNm i d ρ μ Q E) = (Q (ρ.set i (some d)) μ) := propext ⟨fun h => h, fun h => h⟩
theorem x_gt {μ : Mem} {E : XD} {ρ : Rho} {Q : Rho → Mem → Prop} {n : Nat} {ds : List D} {gs : List D → Rho → W Rho} : (gTp n gs (.tup ds) ρ μ Q E) = (ds.length = n ∧ gs ds ρ μ Q E) := propext ⟨fun h => h, fun h => h⟩
theorem x_gc {μ : Mem} {E : XD} {ρ : Rho} {Q : Rho → Mem → Prop} {d : D} {ds : List D} {g : D → Rho → W Rho} {gs : List D → Rho → W Rho} : (gsCons g gs (d :: ds) ρ μ Q E) = (g d ρ μ (fun r μ1 => gs ds r μ1 Q E) E) := propext ⟨fun h => h, fun h => h⟩
theorem x_g0 {μ : Mem} {E : XD} {ρ : Rho} {Q : Rho → Mem → Prop} : (gsNil [] ρ μ Q E) = (Q ρ μ) := propext ⟨fun h => h, fun h => h⟩
theorem x_gi {μ : Mem} {E : XD} {ρ : Rho} {Q : Rho → Mem → Prop} {a b : Rho → W D} {d : D} : (gIx a b d ρ μ Q E) = (a ρ μ (fun o μ1 => b ρ μ1 (fun i μ2 => setD o i d μ2 (fun _ μ3 => Q ρ μ3) E) E) E) := propext ⟨fun h => h, fun h => h⟩
def onO (o : Out) (f : D → Prop) : Prop := match o with
  | .nx _ => f .non
  | .rt d => f d
  | _ => False
theorem onO_nx {ρ : Rho} {f : D → Prop} : onO (.nx ρ) f = f .non := propext ⟨fun h => h, fun h => h⟩
theorem onO_rt {d : D} {f : D → Prop} : onO (.rt d) f = f d := propext ⟨fun h => h, fun h => h⟩
theorem x_body {μ : Mem} {E : XD} {Q : D → Mem → Prop} {n : Nat} {b : Rho → W Out} {ds : List D} : (bodyD n b ds μ Q E) = (b (startD n ds) μ (fun o μ1 => onO o fun d => Q d μ1) E) := by
  unfold bodyD W.bnd
  dsimp only
  congr 1
  funext o μ1
  cases o <;> rfl
theorem x_yes {μ : Mem} {E : XD} {ρ : Rho} {Q : Bool → Mem → Prop} : (tsYes ρ μ Q E) = (Q true μ) := propext ⟨fun h => h, fun h => h⟩
theorem x_add {μ : Mem} {E : XD} {Q : D → Mem → Prop} {i j : Int} : (addD (.int i) (.int j) μ Q E) = (Q (.int (i + j)) μ) := propext ⟨fun h => h, fun h => h⟩
theorem x_addS {μ : Mem} {E : XD} {Q : D → Mem → Prop} {a b : Str} : (addD (.str a) (.str b) μ Q E) = (a.length + b.length ≤ sizeLine ∧ Q (.str (a ++ b)) μ) := propext ⟨fun h => h, fun h => h⟩
theorem x_addT {μ : Mem} {E : XD} {Q : D → Mem → Prop} {a b : List D} : (addD (.tup a) (.tup b) μ Q E) = (a.length + b.length ≤ sizeLine ∧ Q (.tup (a ++ b)) μ) := propext ⟨fun h => h, fun h => h⟩
theorem x_addL {μ : Mem} {E : XD} {Q : D → Mem → Prop} {a b : List D} : (addD (.lst a) (.lst b) μ Q E) = (a.length + b.length ≤ sizeLine ∧ Q (.lst (a ++ b)) μ) := propext ⟨fun h => h, fun h => h⟩
theorem x_sub {μ : Mem} {E : XD} {Q : D → Mem → Prop} {i j : Int} : (subD (.int i) (.int j) μ Q E) = (Q (.int (i - j)) μ) := propext ⟨fun h => h, fun h => h⟩
theorem x_mul {μ : Mem} {E : XD} {Q : D → Mem → Prop} {i j : Int} : (mulAD (.int i) (.int j) μ Q E) = (CMul i j ∧ Q (.int (i * j)) μ) := propext ⟨fun h => h, fun h => h⟩
theorem x_div {μ : Mem} {E : XD} {Q : D → Mem → Prop} {i j : Int} : (divD (.int i) (.int j) μ Q E) = (CDivW i j ∧ Q (.int (i / j)) μ) := propext ⟨fun h => h, fun h => h⟩
theorem x_mod {μ : Mem} {E : XD} {Q : D → Mem → Prop} {i j : Int} : (modD (.int i) (.int j) μ Q E) = (0 < j ∧ Q (.int (i % j)) μ) := propext ⟨fun h => h, fun h => h⟩
theorem x_pow {μ : Mem} {E : XD} {Q : D → Mem → Prop} {i j : Int} : (powD (.int i) (.int j) μ Q E) = (CPow i j ∧ Q (.int (i ^ j.toNat)) μ) := propext ⟨fun h => h, fun h => h⟩
theorem x_neg {μ : Mem} {E : XD} {Q : D → Mem → Prop} {i : Int} : (negD (.int i) μ Q E) = (Q (.int (-i)) μ) := propext ⟨fun h => h, fun h => h⟩
theorem x_cmp {μ : Mem} {E : XD} {Q : D → Mem → Prop} {i j : Int} {p : Int → Int → Bool} {q : List Nat → List Nat → Bool} : (cmpI p q (.int i) (.int j) μ Q E) = (Q (.bl (p i j)) μ) := propext ⟨fun h => h, fun h => h⟩
theorem x_cmpS {μ : Mem} {E : XD} {Q : D → Mem → Prop} {i j : Str} {p : Int → Int → Bool} {q : List Nat → List Nat → Bool} : (cmpI p q (.str i) (.str j) μ Q E) = (Q (.bl (q i.cps.toList j.cps.toList)) μ) := propext ⟨fun h => h, fun h => h⟩
theorem x_isN {μ : Mem} {E : XD} {Q : D → Mem → Prop} {x : D} {f : Bool → Bool} : (isND f x .non μ Q E) = (Q (.bl (f (DL.isNon x))) μ) := propext ⟨fun h => h, fun h => h⟩
theorem x_mmL {μ : Mem} {E : XD} {Q : D → Mem → Prop} {f : D → List D → D} {d : D} {r : List D} : (mmD f [.lst (d :: r)] μ Q E) = (OneSort (d :: r) ∧ Q (f d r) μ) := propext ⟨fun h => h, fun h => h⟩
theorem x_mm2 {μ : Mem} {E : XD} {Q : D → Mem → Prop} {f : D → List D → D} {x y : D} : (mmD f [x, y] μ Q E) = (OneSort [x, y] ∧ Q (f x [y]) μ) := propext ⟨fun h => h, fun h => h⟩
theorem x_eqS {μ : Mem} {E : XD} {Q : D → Mem → Prop} {f : Bool → Bool} {a b : Str} : (eqA f (.str a) (.str b) μ Q E) = (Q (.bl (f (a == b))) μ) := propext ⟨fun h => h, fun h => h⟩
theorem x_eqI {μ : Mem} {E : XD} {Q : D → Mem → Prop} {f : Bool → Bool} {i j : Int} : (eqA f (.int i) (.int j) μ Q E) = (Q (.bl (f (decide (i = j)))) μ) := propext ⟨fun h => h, fun h => h⟩
theorem x_intb {μ : Mem} {E : XD} {Q : D → Mem → Prop} {b : Bool} : (DL.intD [.bl b] μ Q E) = (Q (.int (if b then 1 else 0)) μ) := propext ⟨fun h => h, fun h => h⟩
end DL

/-! DLy: comprehensions whose parts draw; a list times a number; slices of objects -/
namespace DL
open PySem PySem.Spec PyProof.Rows L2

theorem x_mulL {μ : Mem} {E : XD} {Q : D → Mem → Prop} {xs : List D} {k : Int} : mulAD (.lst xs) (.int k) μ Q E = ((-(2 ^ 62) ≤ k ∧ k < 2 ^ 62 ∧ xs.length * k.toNat ≤ sizeLine) ∧ Q (.lst (List.replicate k.toNat xs).flatten) μ) := propext ⟨fun h => h, fun h => h⟩
theorem sl_obj {a : Addr} {lo hi : Option Int} {μ : Mem} {Q : D → Mem → Prop} {E : XD} : slD (.obj a) lo hi μ Q E = onL (μ a) fun ds => Q (.lst (cutD ds lo hi)) μ := by
  show W.bnd (W.opt (lsOf (.obj a) μ)) _ μ Q E = _
  unfold lsOf onL
  dsimp only
  cases μ a with
  | none => rfl
  | some o => cases o <;> rfl
theorem x_rg1 {m : Rho → W D} {ρ : Rho} {μ : Mem} {Q : ItD → Mem → Prop} {E : XD} : iRg1 (aCons m aNil) ρ μ Q E = m ρ μ (fun d μ1 => onI d fun j => ((-(2 ^ 62) ≤ j ∧ j < 2 ^ 62) ∧ Q ⟨rangeL 0 j.toNat, fun _ => True⟩ μ1)) E := by
  unfold iRg1 W.bnd aCons W.bnd
  dsimp only
  congr 1
  funext d μ1
  cases d <;> rfl
theorem x_lcI {mi : Rho → W ItD} {g : D → Rho → W Rho} {tt : Rho → W Bool} {te : Rho → W D} {vs : List Nat} {ρ : Rho} {μ : Mem} {Q : D → Mem → Prop} {E : XD} : eLc mi g tt te vs ρ μ Q E = mi ρ μ (fun it μ1 => eLc (fun _ => W.ret it) g tt te vs ρ μ1 Q E) E := propext ⟨fun h => h, fun h => h⟩
def onIt (d : D) (μ : Mem) (f : ItD → Prop) : Prop := match d with
  | .lst ds => f ⟨ds, fun _ => True⟩
  | .tup ds => f ⟨ds, fun _ => True⟩
  | .obj a => onL (μ a) fun ds => f ⟨ds, fun μ' => μ' a = some (.ml ds)⟩
  | _ => False
theorem onIt_lst {ds : List D} {μ : Mem} {f : ItD → Prop} : onIt (.lst ds) μ f = f ⟨ds, fun _ => True⟩ := propext ⟨fun h => h, fun h => h⟩
theorem onIt_tup {ds : List D} {μ : Mem} {f : ItD → Prop} : onIt (.tup ds) μ f = f ⟨ds, fun _ => True⟩ := propext ⟨fun h => h, fun h => h⟩
theorem onIt_obj {a : Addr} {μ : Mem} {f : ItD → Prop} : onIt (.obj a) μ f = onL (μ a) fun ds => f ⟨ds, fun μ' => μ' a = some (.ml ds)⟩ := propext ⟨fun h => h, fun h => h⟩
theorem x_iseq {m : Rho → W D} {ρ : Rho} {μ : Mem} {Q : ItD → Mem → Prop} {E : XD} : iSeq m ρ μ Q E = m ρ μ (fun d μ1 => onIt d μ1 fun it => Q it μ1) E := by
  unfold iSeq W.bnd
  dsimp only
  congr 1
  funext d μ1
  cases d with
  | obj a =>
    show W.bnd (W.opt (lsOf (.obj a) μ1)) _ μ1 Q E = onL (μ1 a) _
    unfold lsOf onL
    dsimp only
    cases μ1 a with
    | none => rfl
    | some o => cases o <;> rfl
  | _ => rfl
/-- [te for x in items], te with effects beside -/
theorem lc_eff {i : Nat} {te : Rho → W D} {ρ : Rho} {p : Addr} {E : XD} {Q : D → Mem → Prop} {items : List D} (J : Nat → List D → Mem → Prop)
    (hp : ∀ n acc μ', J n acc μ' → μ' p = some (.ml acc) ∧ acc.length < sizeLine)
    (step : ∀ n acc μ' x (R : D → Mem → Prop), items[n]? = some x → J n acc μ' → (∀ d μ'', μ'' p = some (.ml acc) → J (n + 1) (acc ++ [d]) (put μ'' p (.ml (acc ++ [d]))) → R d μ'') → te (ρ.set i (some x)) μ' R E)
    (fin : ∀ acc μ', J items.length acc μ' → Q (.lst acc) (del μ' p)) : ∀ (k n : Nat) (acc : List D) (μ' : Mem), n + k = items.length → J n acc μ' →
      lcW (fun _ => True) (gNm i) tsYes te p ρ (items.drop n) μ' (fun _ μ' => ∃ ds, μ' p = some (.ml ds) ∧ Q (.lst ds) (del μ' p)) E
  | 0, n, acc, μ', hn, h => by
    have : n = items.length := by omega
    subst this
    rw [List.drop_length]
    exact ⟨trivial, acc, (hp _ _ _ h).1, fin acc μ' h⟩
  | k + 1, n, acc, μ', hn, h => by
    have hlt : n < items.length := by omega
    obtain ⟨h1, h2⟩ := hp _ _ _ h
    rw [List.drop_eq_getElem_cons hlt]
    refine ⟨trivial, ?_⟩
    show (if true = true then W.bnd (te (ρ.set i (some items[n]))) (fun d => W.bnd (W.push p d) fun _ => lcW (fun _ => True) (gNm i) tsYes te p ρ (items.drop (n + 1))) else lcW (fun _ => True) (gNm i) tsYes te p ρ (items.drop (n + 1))) μ' _ E
    rw [if_pos rfl]
    refine step n acc μ' items[n] _ (List.getElem?_eq_getElem hlt) h fun d μ'' hm hj => ?_
    show W.bnd (W.push p d) _ μ'' _ E
    unfold W.push
    show (match μ'' p with
      | some (.ml acc) => W.req (acc.length < sizeLine) (W.setL p (acc ++ [d]) (W.ret ()))
      | _ => W.bad) μ'' _ E
    rw [hm]
    refine ⟨h2, ?_⟩
    exact lc_eff J hp step fin k (n + 1) (acc ++ [d]) (put μ'' p (.ml (acc ++ [d]))) (by omega) hj
theorem elc_eff {i : Nat} {te : Rho → W D} {vs : List Nat} {ρ : Rho} {μ : Mem} {E : XD} {Q : D → Mem → Prop} {items : List D} (J : Addr → Nat → List D → Mem → Prop)
    (h0 : ∀ p, μ p = none → J p 0 [] (put μ p (.ml [])))
    (hp : ∀ p n acc μ', J p n acc μ' → μ' p = some (.ml acc) ∧ acc.length < sizeLine)
    (step : ∀ p n acc μ' x (R : D → Mem → Prop), items[n]? = some x → J p n acc μ' → (∀ d μ'', μ'' p = some (.ml acc) → J p (n + 1) (acc ++ [d]) (put μ'' p (.ml (acc ++ [d]))) → R d μ'') → te ((wipeD ρ vs).set i (some x)) μ' R E)
    (fin : ∀ p acc μ', J p items.length acc μ' → Q (.lst acc) (del μ' p)) : eLc (fun _ => W.ret ⟨items, fun _ => True⟩) (gNm i) tsYes te vs ρ μ Q E := by
  intro p hn
  have := lc_eff (J p) (hp p) (step p) (fin p) items.length 0 [] (put μ p (.ml [])) (by omega) (h0 p hn)
  rwa [List.drop_zero] at this
theorem Deck.del {μ : Mem} {a c p : Addr} {t : Int} (h : Deck μ a c t) (h1 : p ≠ a) (h2 : p ≠ c) : Deck (del μ p) a c t := by
  obtain ⟨n, ⟨s, u, k1, k2, k3⟩, ns, k4, k5⟩ := h
  refine ⟨n, ⟨s, u, ?_, k2, k3⟩, ns, ?_, k5⟩
  · unfold DL.del; rw [if_neg (Ne.symm h1)]; exact k1
  · unfold DL.del; rw [if_neg (Ne.symm h2)]; exact k4
theorem Fr.del {a c p : Addr} {μ μ' : Mem} (h : Fr a c μ μ') (hp : μ p = none) : Fr a c μ (del μ' p) := fun b mo h1 h2 h3 => by
  unfold DL.del
  rw [if_neg (by intro e; subst e; rw [hp] at h3; cases h3)]
  exact h b mo h1 h2 h3
end DL

/-! DLv: more steps; draws -/
namespace DL
open PySem PySem.Spec PyProof.Rows L2

theorem sz_eq : sizeLine = 16777216 := by first | rfl | decide
def onM (o : Option MO) (f : List (Key × D) → Prop) : Prop := match o with
  | some (.md ds) => f ds
  | _ => False
theorem onM_md {ds : List (Key × D)} {f : List (Key × D) → Prop} : onM (some (.md ds)) f = f ds := propext ⟨fun h => h, fun h => h⟩
def onS (d : D) (f : Str → Prop) : Prop := match d with
  | .str s => f s
  | _ => False
theorem onS_str {s : Str} {f : Str → Prop} : onS (.str s) f = f s := propext ⟨fun h => h, fun h => h⟩
section
variable {μ : Mem} {E : XD} {ρ : Rho} {Q : D → Mem → Prop} {a b c m : Rho → W D}
theorem x_tOf {Q : Bool → Mem → Prop} : tOf m ρ μ Q E = m ρ μ (fun d μ1 => onB d fun k => Q k μ1) E := by
  unfold tOf W.bnd
  dsimp only
  congr 1
  funext d μ1
  cases d <;> rfl
theorem x_tOfE {Q : Bool → Mem → Prop} : tOfE m ρ μ Q E = m ρ μ (fun d μ1 => onB d fun k => Q k μ1) E := by
  unfold tOfE W.bnd
  dsimp only
  congr 1
  funext d μ1
  cases d <;> rfl
theorem x_chain {g g' : D → D → W D} : eChain g g' a b c ρ μ Q E = a ρ μ (fun x μ1 => b ρ μ1 (fun y μ2 => g x y μ2 (fun z μ3 => onB z fun k => if k = true then c ρ μ3 (fun u μ4 => g' y u μ4 Q E) E else Q (.bl false) μ3) E) E) E := by
  unfold eChain W.bnd
  dsimp only
  congr 1
  funext x μ1
  congr 1
  funext y μ2
  congr 1
  funext d μ3
  cases d with
  | bl k => cases k <;> rfl
  | _ => rfl
theorem x_kix {kvs : List (Str × D)} {z : Str} : kixD kvs (.str z) μ Q E = W.opt (kfind kvs z) μ Q E := propext ⟨fun h => h, fun h => h⟩
theorem x_kin {f : Bool → Bool} {kvs : List (Str × D)} {z : Str} : kinD f kvs (.str z) μ Q E = Q (.bl (f (kfind kvs z).isSome)) μ := propext ⟨fun h => h, fun h => h⟩
theorem x_kgt {kvs : List (Str × D)} {z : Str} : kgtD kvs (.str z) μ Q E = Q ((kfind kvs z).getD .non) μ := propext ⟨fun h => h, fun h => h⟩
theorem x_allL {ds : List D} : allD [.lst ds] μ Q E = W.opt (boolsOf ds) μ (fun bs μ' => Q (.bl (bs.all id)) μ') E := propext ⟨fun h => h, fun h => h⟩
theorem x_anyL {ds : List D} : anyD [.lst ds] μ Q E = W.opt (boolsOf ds) μ (fun bs μ' => Q (.bl (bs.any id)) μ') E := propext ⟨fun h => h, fun h => h⟩
theorem bools_map {α : Type} (f : α → Bool) : ∀ l : List α, boolsOf (l.map fun x => .bl (f x)) = some (l.map f)
  | [] => rfl
  | x :: r => by
    show (boolsOf (r.map fun x => .bl (f x))).map (f x :: ·) = _
    rw [bools_map f r]
    rfl
theorem x_istr {Q : ItD → Mem → Prop} : iStrD m ρ μ Q E = m ρ μ (fun d μ1 => onS d fun x => Q ⟨signsD x, fun _ => True⟩ μ1) E := by
  unfold iStrD W.bnd
  dsimp only
  congr 1
  funext d μ1
  cases d <;> rfl
theorem x_dgetO {p : Addr} {s : Str} : dgetD (.obj p) (.str s) μ Q E = onM (μ p) fun kvs => W.opt (valD kvs (.inr s)) μ Q E := by
  show W.bnd (W.opt (dOf (.obj p) μ)) _ μ Q E = _
  unfold dOf onM
  dsimp only
  cases μ p with
  | none => rfl
  | some o => cases o <;> rfl
theorem x_dgetS {kvs : List (Key × D)} {s : Str} : dgetD (.dct kvs) (.str s) μ Q E = W.opt (valD kvs (.inr s)) μ Q E := propext ⟨fun h => h, fun h => h⟩
theorem x_dgetI {kvs : List (Key × D)} {s : Int} : dgetD (.dct kvs) (.int s) μ Q E = W.opt (valD kvs (.inl s)) μ Q E := propext ⟨fun h => h, fun h => h⟩
theorem x_gdix {d : D} {Q : Rho → Mem → Prop} : gDix a b d ρ μ Q E = a ρ μ (fun o μ1 => b ρ μ1 (fun i μ2 => dsetD o i d μ2 (fun _ μ3 => Q ρ μ3) E) E) E := propext ⟨fun h => h, fun h => h⟩
theorem x_dset {p : Addr} {s : Str} {v : D} {Q : Unit → Mem → Prop} : dsetD (.obj p) (.str s) v μ Q E = onM (μ p) fun kvs => (kvs.length < sizeLine ∧ Q () (put μ p (.md (putD kvs (.inr s) v)))) := by
  show W.bnd (W.opt (mdOf (.obj p) μ)) _ μ Q E = _
  unfold mdOf onM
  dsimp only
  cases μ p with
  | none => rfl
  | some o => cases o <;> rfl
theorem x_popAt {p : Addr} {i : Int} : popAtD (.obj p) [.int i] μ Q E = onL (μ p) fun ds => ((-(2 ^ 62) ≤ i ∧ i < 2 ^ 62) ∧ W.opt (seqIndex? i ds.length) μ (fun k _ => W.opt ds[k]? μ (fun y _ => Q y (put μ p (.ml (ds.eraseIdx k)))) E) E) := by
  show W.bnd (W.opt (mlOf (.obj p) μ)) _ μ Q E = _
  unfold mlOf onL
  dsimp only
  cases μ p with
  | none => rfl
  | some o =>
    cases o with
    | md _ => rfl
    | ml ds =>
      show ((-(2 ^ 62) ≤ i ∧ i < 2 ^ 62) ∧ W.bnd (W.opt (seqIndex? i ds.length)) (fun k => W.bnd (W.opt ds[k]?) fun y => W.setL p (ds.eraseIdx k) (W.ret y)) μ Q E) = ((-(2 ^ 62) ≤ i ∧ i < 2 ^ 62) ∧ W.opt (seqIndex? i ds.length) μ (fun k _ => W.opt ds[k]? μ (fun y _ => Q y (put μ p (.ml (ds.eraseIdx k)))) E) E)
      cases seqIndex? i ds.length with
      | none => rfl
      | some k =>
        show ((-(2 ^ 62) ≤ i ∧ i < 2 ^ 62) ∧ W.bnd (W.opt ds[k]?) (fun y => W.setL p (ds.eraseIdx k) (W.ret y)) μ Q E) = ((-(2 ^ 62) ≤ i ∧ i < 2 ^ 62) ∧ W.opt ds[k]? μ (fun y _ => Q y (put μ p (.ml (ds.eraseIdx k)))) E)
        cases ds[k]? <;> rfl
theorem x_insert {p : Addr} {i : Int} {x : D} : insertD (.obj p) [.int i, x] μ Q E = onL (μ p) fun ds => ((ds.length < sizeLine ∧ 0 ≤ i ∧ i < 2 ^ 62) ∧ Q .non (put μ p (.ml (ds.take i.toNat ++ [x] ++ ds.drop i.toNat)))) := by
  show W.bnd (W.opt (mlOf (.obj p) μ)) _ μ Q E = _
  unfold mlOf onL
  dsimp only
  cases μ p with
  | none => rfl
  | some o => cases o <;> rfl
theorem ty_dct {kvs : List (Key × D)} : tyD "dict" (.dct kvs) μ = True := by
  unfold tyD
  exact eq_true rfl
theorem x_getS1 {kvs : List (Key × D)} {s : Str} : dgetMD (.dct kvs) [.str s] μ Q E = Q ((valD kvs (.inr s)).getD .non) μ := propext ⟨fun h => h, fun h => h⟩
theorem x_getI1 {kvs : List (Key × D)} {s : Int} : dgetMD (.dct kvs) [.int s] μ Q E = Q ((valD kvs (.inl s)).getD .non) μ := propext ⟨fun h => h, fun h => h⟩
theorem x_getS2 {kvs : List (Key × D)} {s : Str} {z : D} : dgetMD (.dct kvs) [.str s, z] μ Q E = Q ((valD kvs (.inr s)).getD z) μ := propext ⟨fun h => h, fun h => h⟩
theorem x_getI2 {kvs : List (Key × D)} {s : Int} {z : D} : dgetMD (.dct kvs) [.int s, z] μ Q E = Q ((valD kvs (.inl s)).getD z) μ := propext ⟨fun h => h, fun h => h⟩
theorem x_pnil {Q : List (D × D) → Mem → Prop} : pNil ρ μ Q E = Q [] μ := propext ⟨fun h => h, fun h => h⟩
theorem x_pcons {mr : Rho → W (List (D × D))} {Q : List (D × D) → Mem → Prop} : pCons a b mr ρ μ Q E = a ρ μ (fun k μ1 => b ρ μ1 (fun v μ2 => mr ρ μ2 (fun r μ3 => Q ((k, v) :: r) μ3) E) E) E := propext ⟨fun h => h, fun h => h⟩
theorem x_disM {mp : Rho → W (List (D × D))} : eDisM mp ρ μ Q E = ∀ p, μ p = none → mp ρ (put μ p (.md [])) (fun ps μ' => μ' p = some (.md []) ∧ ∃ kvs, keysOf ps = some kvs ∧ kvs.length ≤ 15 ∧ Q (.obj p) (put μ' p (.md (mergeD [] kvs)))) E := propext ⟨fun h => h, fun h => h⟩
theorem x_dis {mp : Rho → W (List (D × D))} : eDis mp ρ μ Q E = ∀ p, μ p = none → mp ρ (put μ p (.md [])) (fun ps μ' => μ' p = some (.md []) ∧ ∃ kvs, keysOf ps = some kvs ∧ kvs.length ≤ 15 ∧ Q (.dct (mergeD [] kvs)) (del μ' p)) E := propext ⟨fun h => h, fun h => h⟩
theorem x_dis0M : eDis0M ρ μ Q E = ∀ p, μ p = none → Q (.obj p) (put μ p (.md [])) := propext ⟨fun h => h, fun h => h⟩
theorem x_listM {ds : List D} : listMD [.lst ds] μ Q E = ∀ p, μ p = none → Q (.obj p) (put μ p (.ml ds)) := propext ⟨fun h => h, fun h => h⟩
theorem x_listMT {ds : List D} : listMD [.tup ds] μ Q E = ∀ p, μ p = none → Q (.obj p) (put μ p (.ml ds)) := propext ⟨fun h => h, fun h => h⟩
theorem x_gst {i : Nat} {ds : List D} {gs : List D → Rho → W Rho} {Q : Rho → Mem → Prop} : gSt i gs (.tup ds) ρ μ Q E = (i ≤ ds.length ∧ gs (ds.take i ++ [.lst (ds.drop i)]) ρ μ Q E) := propext ⟨fun h => h, fun h => h⟩
theorem x_mulS {s : Str} {k : Int} : mulAD (.str s) (.int k) μ Q E = ((-(2 ^ 62) ≤ k ∧ k < 2 ^ 31 ∧ s.length * k.toNat ≤ 1000000 ∧ s.length ≤ 1000000) ∧ Q (.str (strRep s k)) μ) := propext ⟨fun h => h, fun h => h⟩
theorem x_zipS {ds es : List D} {ms : Rho → W (List D)} {Q : ItD → Mem → Prop} (h : ∀ R : List D → Mem → Prop, ms ρ μ R E = R [.tup ds, .tup es] μ) : iZipSD ms ρ μ Q E = (ds.length = es.length ∧ Q ⟨zipL ds es, fun _ => True⟩ μ) := by
  unfold iZipSD W.bnd
  rw [h]
  rfl
theorem x_dict {ds : List D} : dictD [.lst ds] μ Q E = W.opt (pairsOf ds) μ (fun kvs μ' => Q (.dct (mergeD [] kvs)) μ') E := propext ⟨fun h => h, fun h => h⟩
theorem x_isi {x : D} {n : String} : isiD [x, .ty n] μ Q E = W.opt (tyM μ x) μ (fun t _ => W.opt (kitB t n) μ (fun b _ => Q (.bl b) μ) E) E := by
  show W.bnd (W.opt (tyM μ x)) _ μ Q E = _
  cases tyM μ x with
  | none => rfl
  | some t =>
    show W.bnd (W.opt (kitB t n)) _ μ Q E = W.opt (kitB t n) μ _ E
    cases kitB t n <;> rfl
end
/-! texts that are written -/
theorem ofString_inj {a b : String} (h : PySem.Str.ofString a = PySem.Str.ofString b) : a = b := by
  rw [PySem.Str.ofString_eq_toList, PySem.Str.ofString_eq_toList] at h
  have h1 := congrArg (fun s : Str => s.cps.toList) h
  have h2 : a.toList.map Char.toNat = b.toList.map Char.toNat := by simpa using h1
  have inj : ∀ l m : List Char, l.map Char.toNat = m.map Char.toNat → l = m := fun l => by
    induction l with
    | nil => intro m e; cases m with
      | nil => rfl
      | cons _ _ => cases e
    | cons x r ih =>
      intro m e
      cases m with
      | nil => cases e
      | cons y t =>
        rw [List.map_cons, List.map_cons] at e
        obtain ⟨e1, e2⟩ := List.cons.inj e
        rw [ih t e2]
        congr 1
        exact Char.ext (UInt32.toNat_inj.mp e1)
  exact String.ext (inj _ _ h2)
theorem lit_beq (a b : String) : (PySem.Str.ofString a == PySem.Str.ofString b) = (a == b) := by
  by_cases h : a = b
  · subst h
    rw [beq_self_eq_true, beq_self_eq_true]
  · rw [beq_eq_false_iff_ne.mpr h, beq_eq_false_iff_ne.mpr fun e => h (ofString_inj e)]
theorem kfind_nil (z : Str) : kfind [] z = none := rfl
theorem kfind_cons (k : Str) (d : D) (r : List (Str × D)) (z : Str) : kfind ((k, d) :: r) z = if (k == z) = true then some d else kfind r z := rfl
theorem valD_nil (k : Key) : valD [] k = none := rfl
def keyB (j k : Key) : Bool := decide (j = k)
theorem valD_cons (j : Key) (d : D) (r : List (Key × D)) (k : Key) : valD ((j, d) :: r) k = if keyB j k = true then some d else valD r k := by
  unfold valD keyB
  rw [List.find?_cons]
  dsimp only
  cases decide (j = k) <;> rfl
theorem key_lr (a : Int) (b : Str) : keyB (Sum.inl a) (Sum.inr b) = false := decide_eq_false fun e => by cases e
theorem key_rl (a : Str) (b : Int) : keyB (Sum.inr a) (Sum.inl b) = false := decide_eq_false fun e => by cases e
theorem key_rr (a b : Str) : keyB (Sum.inr a) (Sum.inr b) = (a == b) := by
  unfold keyB
  by_cases h : a = b
  · subst h
    rw [beq_self_eq_true]
    exact decide_eq_true rfl
  · rw [beq_eq_false_iff_ne.mpr h]
    exact decide_eq_false fun e => h (by cases e; rfl)
theorem key_ll (a b : Int) : keyB (Sum.inl a) (Sum.inl b) = decide (a = b) := by
  unfold keyB
  by_cases h : a = b
  · subst h
    rw [decide_eq_true rfl, decide_eq_true rfl]
  · rw [decide_eq_false h]
    exact decide_eq_false fun e => h (by cases e; rfl)
theorem putD_nil (k : Key) (v : D) : putD [] k v = [(k, v)] := rfl
theorem any_false {α : Type} {p : α → Bool} {l : List α} (h : ∀ x ∈ l, p x = false) : l.any p = false := by
  rw [List.any_eq_false]
  intro x hx
  rw [h x hx]
  exact Bool.false_ne_true

/-! ### the deck: what lies at a (sh), the cells at c, at most t draws -/
structure Dk (sh : Addr → Int → Int → MO) (μ : Mem) (a c : Addr) (t : Int) : Prop where
  ne : c ≠ a
  at_ : ∃ seed turns : Int, μ a = some (sh c seed turns) ∧ 0 ≤ turns ∧ turns ≤ t ∧ 0 ≤ seed ∧ seed < 4611686018427387904
  cells : ∃ ns : List Int, μ c = some (.ml (ns.map .int)) ∧ ns.length ≤ 63
/-- .. and all else is as in μ0 -/
structure DF (sh : Addr → Int → Int → MO) (μ0 : Mem) (a c : Addr) (t : Int) (μ : Mem) : Prop where
  dk : Dk sh μ a c t
  fr : Fr a c μ0 μ
section
variable {sh : Addr → Int → Int → MO} {μ0 μ μ' : Mem} {a c p : Addr} {t t' : Int} {o : MO}
theorem Dk.mono (h : Dk sh μ a c t) (ht : t ≤ t') : Dk sh μ a c t' := by
  obtain ⟨n, ⟨s, u, h1, h2, h3, h4⟩, k⟩ := h
  exact ⟨n, ⟨s, u, h1, h2, by omega, h4⟩, k⟩
theorem Dk.put (h : Dk sh μ a c t) (h1 : p ≠ a) (h2 : p ≠ c) : Dk sh (DL.put μ p o) a c t := by
  obtain ⟨n, ⟨s, u, k1, k2⟩, ns, k4, k5⟩ := h
  refine ⟨n, ⟨s, u, ?_, k2⟩, ns, ?_, k5⟩
  · rw [put_ne (Ne.symm h1)]; exact k1
  · rw [put_ne (Ne.symm h2)]; exact k4
theorem Dk.apart (h : Dk sh μ a c t) (hp : μ p = none) : p ≠ a ∧ p ≠ c := by
  obtain ⟨n, ⟨s, u, k1, k2⟩, ns, k4, k5⟩ := h
  refine ⟨fun e => ?_, fun e => ?_⟩
  · rw [e, k1] at hp; cases hp
  · rw [e, k4] at hp; cases hp
theorem Dk.del (h : Dk sh μ a c t) (h1 : p ≠ a) (h2 : p ≠ c) : Dk sh (DL.del μ p) a c t := by
  obtain ⟨n, ⟨s, u, k1, k2⟩, ns, k4, k5⟩ := h
  refine ⟨n, ⟨s, u, ?_, k2⟩, ns, ?_, k5⟩
  · unfold DL.del; rw [if_neg (Ne.symm h1)]; exact k1
  · unfold DL.del; rw [if_neg (Ne.symm h2)]; exact k4
theorem DF.start (h : Dk sh μ a c t) : DF sh μ a c t μ := ⟨h, Fr.refl a c μ⟩
theorem DF.mono (h : DF sh μ0 a c t μ) (ht : t ≤ t') : DF sh μ0 a c t' μ := ⟨h.dk.mono ht, h.fr⟩
theorem DF.trans (h : DF sh μ0 a c t μ) (k : DF sh μ a c t' μ') : DF sh μ0 a c t' μ' := ⟨k.dk, h.fr.trans k.fr⟩
theorem DF.free (h : DF sh μ0 a c t μ) (hp : μ p = none) : μ0 p = none := by
  obtain ⟨h1, h2⟩ := h.dk.apart hp
  cases e : μ0 p with
  | none => rfl
  | some mo => rw [h.fr p mo h1 h2 e] at hp; cases hp
theorem DF.new (h : DF sh μ0 a c t μ) (hp : μ p = none) : DF sh μ0 a c t (DL.put μ p o) := by
  obtain ⟨h1, h2⟩ := h.dk.apart hp
  refine ⟨h.dk.put h1 h2, fun b mo b1 b2 e => ?_⟩
  rw [put_ne (by intro x; rw [x, h.free hp] at e; cases e)]
  exact h.fr b mo b1 b2 e
/-- an object that μ0 has not -/
theorem DF.put (h : DF sh μ0 a c t μ) (h1 : p ≠ a) (h2 : p ≠ c) (hp : μ0 p = none) : DF sh μ0 a c t (DL.put μ p o) := by
  refine ⟨h.dk.put h1 h2, fun b mo b1 b2 e => ?_⟩
  rw [put_ne (by intro x; rw [x, hp] at e; cases e)]
  exact h.fr b mo b1 b2 e
theorem DF.del (h : DF sh μ0 a c t μ) (h1 : p ≠ a) (h2 : p ≠ c) (hp : μ0 p = none) : DF sh μ0 a c t (DL.del μ p) := by
  refine ⟨h.dk.del h1 h2, fun b mo b1 b2 e => ?_⟩
  unfold DL.del
  rw [if_neg (by intro x; rw [x, hp] at e; cases e)]
  exact h.fr b mo b1 b2 e
theorem DF.at (h : DF sh μ0 a c t μ) (h1 : p ≠ a) (h2 : p ≠ c) (hp : μ0 p = some o) : μ p = some o := h.fr p o h1 h2 hp
end
/-- what draws n times at most and gives P -/
def Gen (sh : Addr → Int → Int → MO) (a c : Addr) (n : Int) (m : W D) (P : D → Prop) : Prop :=
  ∀ (μ0 μ : Mem) (t : Int) (Q : D → Mem → Prop) (E : XD), DF sh μ0 a c t μ → t + n ≤ 100000000000 → (∀ d μ', P d → DF sh μ0 a c (t + n) μ' → Q d μ') → m μ Q E
/-- [te for x in items], te with draws -/
theorem elc_gen {sh : Addr → Int → Int → MO} {a c : Addr} {μ0 μ : Mem} {t : Int} {i : Nat} {te : Rho → W D} {vs : List Nat} {ρ : Rho} {Q : D → Mem → Prop} {E : XD} {items : List D} (n : Int) (P : D → D → Prop)
    (hd : DF sh μ0 a c t μ) (hz : items.length < 1000000) (ht : t + n * (items.length : Int) ≤ 100000000000) (hn : 0 ≤ n)
    (he : ∀ x ∈ items, ∀ (μ1 μ' : Mem) (t' : Int) (R : D → Mem → Prop), DF sh μ1 a c t' μ' → t' + n ≤ 100000000000 → (∀ d μ'', P x d → DF sh μ1 a c (t' + n) μ'' → R d μ'') → te ((wipeD ρ vs).set i (some x)) μ' R E)
    (q : ∀ ds μ', ds.length = items.length → (∀ d ∈ ds, ∃ x ∈ items, P x d) → DF sh μ0 a c (t + n * (items.length : Int)) μ' → Q (.lst ds) μ') :
    eLc (fun _ => W.ret ⟨items, fun _ => True⟩) (gNm i) tsYes te vs ρ μ Q E := by
  refine elc_eff (fun p k acc μ' => μ' p = some (.ml acc) ∧ acc.length = k ∧ k ≤ items.length ∧ (∀ d ∈ acc, ∃ x ∈ items, P x d) ∧ DF sh μ0 a c (t + n * (k : Int)) μ' ∧ p ≠ a ∧ p ≠ c ∧ μ0 p = none)
    (fun p hp => ?_) (fun p k acc μ' h => ⟨h.1, by rw [h.2.1, sz_eq]; have := h.2.2.1; omega⟩) (fun p k acc μ' x R hx h hR => ?_) (fun p acc μ' h => ?_)
  · obtain ⟨h1, h2⟩ := hd.dk.apart hp
    exact ⟨put_same, rfl, Nat.zero_le _, fun _ h => (nomatch h), by rw [Int.natCast_zero, Int.mul_zero, Int.add_zero]; exact hd.new hp, h1, h2, hd.free hp⟩
  · obtain ⟨m1, m2, m3, m4, m5, m6, m7, m8⟩ := h
    have hk : k < items.length := by
      rcases Nat.lt_or_ge k items.length with z | z
      · exact z
      · rw [List.getElem?_eq_none z] at hx; cases hx
    have hle : n * ((k + 1 : Nat) : Int) ≤ n * (items.length : Int) := Int.mul_le_mul_of_nonneg_left (by omega) hn
    have hk1 : n * ((k + 1 : Nat) : Int) = n * (k : Int) + n := by rw [Int.natCast_add, Int.mul_add]; simp
    refine he x (List.mem_of_getElem? hx) μ' μ' _ R (DF.start m5.dk) (by omega) fun d μ'' hP hd2 => hR d μ'' (hd2.at m6 m7 m1) ?_
    refine ⟨put_same, by rw [List.length_append, m2]; rfl, hk, fun e he' => ?_, ?_, m6, m7, m8⟩
    · rcases List.mem_append.mp he' with z | z
      · exact m4 e z
      · rw [List.mem_singleton.mp z]; exact ⟨x, List.mem_of_getElem? hx, hP⟩
    · refine ((m5.trans hd2).put m6 m7 m8).mono ?_
      have : n * ((k + 1 : Nat) : Int) = n * (k : Int) + n := by rw [Int.natCast_add, Int.mul_add]; simp
      omega
  · obtain ⟨m1, m2, m3, m4, m5, m6, m7, m8⟩ := h
    exact q acc _ m2 m4 (m5.del m6 m7 m8)
theorem gdL_mem : ∀ {ds : List D}, (∀ d ∈ ds, gd d = true) → gdL ds = true
  | [], _ => rfl
  | d :: r, h => Bool.and_eq_true_iff.mpr ⟨h d (List.mem_cons_self ..), gdL_mem fun e he => h e (List.mem_cons_of_mem _ he)⟩
theorem dptL_mem {n : Nat} : ∀ {ds : List D}, (∀ d ∈ ds, dpt d ≤ n) → dptL ds ≤ n
  | [], _ => Nat.zero_le _
  | d :: r, h => Nat.max_le.mpr ⟨h d (List.mem_cons_self ..), dptL_mem fun e he => h e (List.mem_cons_of_mem _ he)⟩
theorem dszL_mem {n : Nat} : ∀ {ds : List D}, (∀ d ∈ ds, dsz d ≤ n) → dszL ds ≤ (n + 2) * ds.length
  | [], _ => Nat.zero_le _
  | d :: r, h => by
    have a := h d (List.mem_cons_self ..)
    have b := dszL_mem (n := n) fun e he => h e (List.mem_cons_of_mem _ he)
    show dsz d + 2 + dszL r ≤ (n + 2) * (r.length + 1)
    rw [Nat.mul_add, Nat.mul_one]
    omega
/-- plain data of a depth and a size -/
structure Pl (k z : Nat) (d : D) : Prop where
  good : gd d = true
  dep : dpt d ≤ k
  siz : dsz d ≤ z
theorem Pl.mono {k z k' z' : Nat} {d : D} (h : Pl k z d) (hk : k ≤ k') (hz : z ≤ z') : Pl k' z' d := ⟨h.good, Nat.le_trans h.dep hk, Nat.le_trans h.siz hz⟩
theorem Pl.lst {k z n : Nat} {ds : List D} (h : ∀ d ∈ ds, Pl k z d) (hn : ds.length ≤ n) : Pl (k + 1) ((z + 2) * n + 3) (.lst ds) := by
  have a : dptL ds ≤ k := dptL_mem fun d hd => (h d hd).dep
  have b := dszL_mem fun d hd => (h d hd).siz
  have c : (z + 2) * ds.length ≤ (z + 2) * n := Nat.mul_le_mul_left _ hn
  exact ⟨gdL_mem fun d hd => (h d hd).good, by show dptL ds + 1 ≤ _; omega, by show dszL ds + 3 ≤ _; omega⟩
theorem Pl.tup {k z n : Nat} {ds : List D} (h : ∀ d ∈ ds, Pl k z d) (hn : ds.length ≤ n) : Pl (k + 1) ((z + 2) * n + 3) (.tup ds) := by
  have a : dptL ds ≤ k := dptL_mem fun d hd => (h d hd).dep
  have b := dszL_mem fun d hd => (h d hd).siz
  have c : (z + 2) * ds.length ≤ (z + 2) * n := Nat.mul_le_mul_left _ hn
  exact ⟨gdL_mem fun d hd => (h d hd).good, by show dptL ds + 1 ≤ _; omega, by show dszL ds + 3 ≤ _; omega⟩
theorem Pl.int {i : Int} (h : i.natAbs < 2 ^ 1000) : Pl 0 1921 (.int i) := ⟨decide_eq_true (Nat.lt_trans (log_lt (k := 1000) (by decide) h) (by decide)), Nat.zero_le _, Nat.le_refl _⟩
theorem Pl.bl {b : Bool} : Pl 0 5 (.bl b) := ⟨rfl, Nat.zero_le _, Nat.le_refl _⟩
theorem Pl.non : Pl 0 4 .non := ⟨rfl, Nat.zero_le _, Nat.le_refl _⟩
theorem ok_of {s : Str} (h : ∀ c ∈ s.cps.toList, c < 1114112) : PyData.canLay0 (.str s) = true := by
  show PyData.strOk s = true
  unfold PyData.strOk
  rw [Array.all_eq_true_iff_forall_mem]
  intro c hc
  exact decide_eq_true (by have := h c (Array.mem_toList_iff.mpr hc); omega)
theorem Pl.str {s : Str} {n : Nat} (h : ∀ c ∈ s.cps.toList, c < 1114112) (hl : s.length ≤ n) : Pl 0 (10 * n + 2) (.str s) := ⟨ok_of h, Nat.zero_le _, by show 10 * s.length + 2 ≤ _; omega⟩
theorem Pl.eq {k z k' z' : Nat} {f : Bool → Bool} {x y : D} {μ : Mem} {Q : D → Mem → Prop} {E : XD} (hx : Pl k z x) (hy : Pl k' z' y) (hk : k ≤ 60) (hk' : k' ≤ 60) (q : Q (.bl (f (PyData.eqv (toPy x) (toPy y)))) μ) : eqA f x y μ Q E :=
  eq_w hx.good hy.good (Nat.le_trans hx.dep hk) (Nat.le_trans hy.dep hk') q
theorem Pl.repr {k z : Nat} {x : D} {μ : Mem} {Q : D → Mem → Prop} {E : XD} (hx : Pl k z x) (hk : k ≤ 60) (hz : z ≤ 16777216) (q : Q (.str (toPy x).shown) μ) : reprAD [x] μ Q E := by
  have h : reprD [x] μ Q E := repr_w hx.good (Nat.le_trans hx.dep hk) (Nat.le_trans hx.siz hz) q
  have hg := hx.good
  cases x with
  | dct kvs => cases hg
  | _ => exact h

/-- [te for x in items], te with effects beside; the list will change -/
theorem lc_effM {i : Nat} {te : Rho → W D} {ρ : Rho} {p : Addr} {E : XD} {Qf : Mem → Prop} {items : List D} (J : Nat → List D → Mem → Prop)
    (hp : ∀ n acc μ', J n acc μ' → μ' p = some (.ml acc) ∧ acc.length < sizeLine)
    (step : ∀ n acc μ' x (R : D → Mem → Prop), items[n]? = some x → J n acc μ' → (∀ d μ'', μ'' p = some (.ml acc) → J (n + 1) (acc ++ [d]) (put μ'' p (.ml (acc ++ [d]))) → R d μ'') → te (ρ.set i (some x)) μ' R E)
    (fin : ∀ acc μ', J items.length acc μ' → Qf μ') : ∀ (k n : Nat) (acc : List D) (μ' : Mem), n + k = items.length → J n acc μ' →
      lcW (fun _ => True) (gNm i) tsYes te p ρ (items.drop n) μ' (fun _ μ' => Qf μ') E
  | 0, n, acc, μ', hn, h => by
    have : n = items.length := by omega
    subst this
    rw [List.drop_length]
    exact ⟨trivial, fin acc μ' h⟩
  | k + 1, n, acc, μ', hn, h => by
    have hlt : n < items.length := by omega
    obtain ⟨h1, h2⟩ := hp _ _ _ h
    rw [List.drop_eq_getElem_cons hlt]
    refine ⟨trivial, ?_⟩
    show (if true = true then W.bnd (te (ρ.set i (some items[n]))) (fun d => W.bnd (W.push p d) fun _ => lcW (fun _ => True) (gNm i) tsYes te p ρ (items.drop (n + 1))) else lcW (fun _ => True) (gNm i) tsYes te p ρ (items.drop (n + 1))) μ' _ E
    rw [if_pos rfl]
    refine step n acc μ' items[n] _ (List.getElem?_eq_getElem hlt) h fun d μ'' hm hj => ?_
    show W.bnd (W.push p d) _ μ'' _ E
    unfold W.push
    show (match μ'' p with
      | some (.ml acc) => W.req (acc.length < sizeLine) (W.setL p (acc ++ [d]) (W.ret ()))
      | _ => W.bad) μ'' _ E
    rw [hm]
    refine ⟨h2, ?_⟩
    exact lc_effM J hp step fin k (n + 1) (acc ++ [d]) (put μ'' p (.ml (acc ++ [d]))) (by omega) hj
theorem elcM_gen {sh : Addr → Int → Int → MO} {a c : Addr} {μ0 μ : Mem} {t : Int} {i : Nat} {te : Rho → W D} {vs : List Nat} {ρ : Rho} {Q : D → Mem → Prop} {E : XD} {items : List D} (n : Int) (P : D → D → Prop)
    (hd : DF sh μ0 a c t μ) (hz : items.length < 1000000) (ht : t + n * (items.length : Int) ≤ 100000000000) (hn : 0 ≤ n)
    (he : ∀ x ∈ items, ∀ (μ1 μ' : Mem) (t' : Int) (R : D → Mem → Prop), DF sh μ1 a c t' μ' → t' + n ≤ 100000000000 → (∀ d μ'', P x d → DF sh μ1 a c (t' + n) μ'' → R d μ'') → te ((wipeD ρ vs).set i (some x)) μ' R E)
    (q : ∀ p ds μ', μ' p = some (.ml ds) → p ≠ a → p ≠ c → μ0 p = none → ds.length = items.length → (∀ d ∈ ds, ∃ x ∈ items, P x d) → DF sh μ0 a c (t + n * (items.length : Int)) μ' → Q (.obj p) μ') :
    eLcM (fun _ => W.ret ⟨items, fun _ => True⟩) (gNm i) tsYes te vs ρ μ Q E := by
  intro p hp0
  have := lc_effM (i := i) (te := te) (ρ := wipeD ρ vs) (p := p) (E := E) (items := items) (Qf := fun μ' => (∃ ds, μ' p = some (.ml ds)) ∧ Q (.obj p) μ') (fun k acc μ' => μ' p = some (.ml acc) ∧ acc.length = k ∧ k ≤ items.length ∧ (∀ d ∈ acc, ∃ x ∈ items, P x d) ∧ DF sh μ0 a c (t + n * (k : Int)) μ' ∧ p ≠ a ∧ p ≠ c ∧ μ0 p = none)
    (fun k acc μ' h => ⟨h.1, by rw [h.2.1, sz_eq]; have := h.2.2.1; omega⟩) (fun k acc μ' x R hx h hR => ?_) (fun acc μ' h => ?_) items.length 0 [] (put μ p (.ml [])) (by omega) ?_
  · rwa [List.drop_zero] at this
  · obtain ⟨m1, m2, m3, m4, m5, m6, m7, m8⟩ := h
    have hk : k < items.length := by
      rcases Nat.lt_or_ge k items.length with z | z
      · exact z
      · rw [List.getElem?_eq_none z] at hx; cases hx
    have hle : n * ((k + 1 : Nat) : Int) ≤ n * (items.length : Int) := Int.mul_le_mul_of_nonneg_left (by omega) hn
    have hk1 : n * ((k + 1 : Nat) : Int) = n * (k : Int) + n := by rw [Int.natCast_add, Int.mul_add]; simp
    refine he x (List.mem_of_getElem? hx) μ' μ' _ R (DF.start m5.dk) (by omega) fun d μ'' hP hd2 => hR d μ'' (hd2.at m6 m7 m1) ?_
    refine ⟨put_same, by rw [List.length_append, m2]; rfl, hk, fun e he' => ?_, ?_, m6, m7, m8⟩
    · rcases List.mem_append.mp he' with z | z
      · exact m4 e z
      · rw [List.mem_singleton.mp z]; exact ⟨x, List.mem_of_getElem? hx, hP⟩
    · refine ((m5.trans hd2).put m6 m7 m8).mono ?_
      have : n * ((k + 1 : Nat) : Int) = n * (k : Int) + n := by rw [Int.natCast_add, Int.mul_add]; simp
      omega
  · obtain ⟨m1, m2, m3, m4, m5, m6, m7, m8⟩ := h
    exact ⟨⟨_, m1⟩, q p acc _ m1 m6 m7 m8 m2 m4 m5⟩
  · obtain ⟨h1, h2⟩ := hd.dk.apart hp0
    exact ⟨put_same, rfl, Nat.zero_le _, fun _ h => (nomatch h), by rw [Int.natCast_zero, Int.mul_zero, Int.add_zero]; exact hd.new hp0, h1, h2, hd.free hp0⟩
theorem x_lcMI {mi : Rho → W ItD} {g : D → Rho → W Rho} {tt : Rho → W Bool} {te : Rho → W D} {vs : List Nat} {ρ : Rho} {μ : Mem} {Q : D → Mem → Prop} {E : XD} : eLcM mi g tt te vs ρ μ Q E = mi ρ μ (fun it μ1 => eLcM (fun _ => W.ret it) g tt te vs ρ μ1 Q E) E := propext ⟨fun h => h, fun h => h⟩
theorem range_in {n : Nat} {x : D} (h : x ∈ rangeL 0 n) : ∃ k : Nat, k < n ∧ x = .int k := by
  unfold rangeL at h
  obtain ⟨k, hk, rfl⟩ := List.mem_map.mp h
  exact ⟨k, List.mem_range.mp hk, by rw [Int.zero_add]⟩
theorem joinL_one : ∀ cs : List Nat, TL.joinL [] (cs.map fun c => [c]) = cs
  | [] => rfl
  | [c] => rfl
  | c :: d :: r => by
    have := joinL_one (d :: r)
    show [c] ++ ([] ++ TL.joinL [] ((d :: r).map fun c => [c])) = _
    rw [this]
    rfl
theorem strsOf_map : ∀ ys : List Str, strsOf (ys.map D.str) = some ys
  | [] => rfl
  | y :: r => by
    show (strsOf (r.map D.str)).map (y :: ·) = _
    rw [strsOf_map r]
    rfl
/-- "".join of single signs -/
theorem join_signs {x : D} {cs : List Nat} {μ : Mem} {Q : D → Mem → Prop} {E : XD} (hx : sqOf x μ = some (cs.map fun c => .str ⟨#[c]⟩)) (hl : cs.length ≤ 1000000) (q : Q (.str ⟨cs.toArray⟩) μ) : joinD (.str (PySem.Str.ofString "")) [x] μ Q E := by
  have e : (cs.map fun c => D.str ⟨#[c]⟩) = (cs.map fun c => (⟨#[c]⟩ : Str)).map .str := by rw [List.map_map]; rfl
  show W.bnd (W.opt (sqOf x μ)) _ μ Q E
  rw [hx, e]
  show W.bnd (W.opt (strsOf ((cs.map fun c => (⟨#[c]⟩ : Str)).map D.str))) _ μ Q E
  rw [strsOf_map]
  have z : ((cs.map fun c => (⟨#[c]⟩ : Str)).map (·.length)).sum = cs.length := by
    clear e q hl hx
    induction cs with
    | nil => rfl
    | cons c r ih =>
      rw [List.map_cons, List.map_cons, List.sum_cons, ih, List.length_cons]
      show 1 + r.length = r.length + 1
      omega
  have e0 : PySem.Str.ofString "" = SX.S [] := by decide +kernel
  refine ⟨?_, ?_⟩
  · rw [z, e0, List.length_map]
    show cs.length + cs.length * 0 ≤ 16777216
    omega
  · have j : Txt.join (PySem.Str.ofString "") (cs.map fun c => (⟨#[c]⟩ : Str)) = ⟨cs.toArray⟩ := by
      rw [e0]
      have e1 : (cs.map fun c => (⟨#[c]⟩ : Str)) = (cs.map fun c => [c]).map SX.S := by rw [List.map_map]; rfl
      rw [e1, SX.join_S, joinL_one]
    show Q (.str (Txt.join (PySem.Str.ofString "") (cs.map fun c => (⟨#[c]⟩ : Str)))) μ
    rw [j]
    exact q
/-- a list of single signs -/
theorem signs_of : ∀ {ds : List D}, (∀ d ∈ ds, ∃ ch : Nat, d = .str ⟨#[ch]⟩ ∧ ch < 1114112) → ∃ cs : List Nat, ds = cs.map (fun c => .str ⟨#[c]⟩) ∧ cs.length = ds.length ∧ ∀ c ∈ cs, c < 1114112
  | [], _ => ⟨[], rfl, rfl, fun _ h => nomatch h⟩
  | d :: r, h => by
    obtain ⟨ch, e, hc⟩ := h d (List.mem_cons_self ..)
    obtain ⟨cs, e2, hl, h2⟩ := signs_of fun e he => h e (List.mem_cons_of_mem _ he)
    refine ⟨ch :: cs, by rw [e, e2]; rfl, by rw [List.length_cons, List.length_cons, hl], fun x hx => ?_⟩
    rcases List.mem_cons.mp hx with z | z
    · rw [z]; exact hc
    · exact h2 x z
theorem atI_nat' {α : Type} {xs : List α} {k : Int} (h : 0 ≤ k) (h' : k < xs.length) : ∃ x, atI xs k = some x ∧ x ∈ xs := by
  obtain ⟨x, e, _, m⟩ := atI_nat xs k h h'
  exact ⟨x, e, m⟩
theorem ixN_nat {n : Nat} {k : Int} (h : 0 ≤ k) (h' : k < n) : ixN n k = some k.toNat := by
  unfold ixN
  rw [if_pos h, if_pos h']
/-- a dict of plain scalars can be shown -/
def Shw (kvs : List (Key × D)) : Prop := ∃ ps, dkPy kvs = some ps ∧ PyData.showableKv ps = true ∧ (PyData.dict ps).depth ≤ 60 ∧ (PyData.dict ps).shown.length ≤ sizeLine
theorem Shw.repr {kvs : List (Key × D)} {μ : Mem} {Q : D → Mem → Prop} {E : XD} (h : Shw kvs) (q : ∀ s, Q (.str s) μ) : reprAD [.dct kvs] μ Q E := by
  obtain ⟨ps, e, h1, h2, h3⟩ := h
  show W.bnd (W.opt (dkPy kvs)) _ μ Q E
  rw [e]
  exact ⟨⟨h1, h2, h3⟩, q _⟩
theorem shw_nil : Shw [] := ⟨[], rfl, rfl, by decide, by decide +kernel⟩
theorem sc_pl {k z : Nat} {d : D} (h : Pl k z d) (hd : dpt d = 0) : scD d = some (toPy d) := by
  have hg := h.good
  cases d with
  | tup ds => cases hd
  | lst ds => cases hd
  | dct ds => cases hg
  | obj ds => cases hg
  | ty ds => cases hg
  | _ => rfl
theorem shw_one {z : Nat} {k : String} {d : D} (h : Pl 0 z d) (hz : z ≤ 10000000) (hk : PySem.Str.ofString k = SX.S [97]) : Shw [(.inr (PySem.Str.ofString k), d)] := by
  have hd : dpt d = 0 := Nat.le_zero.mp h.dep
  obtain ⟨_, a1, a2, a3, a4⟩ := gd_ok h.good
  refine ⟨[(.str (PySem.Str.ofString k), toPy d)], ?_, ?_, ?_, ?_⟩
  · unfold dkPy
    rw [sc_pl h hd]
    rfl
  · show (true && (toPy d).showable && true) = true
    rw [a2]; rfl
  · show max (max 0 (toPy d).depth) 0 + 1 ≤ 60
    rw [a3, hd]; decide
  · have e : (PyData.dict [(.str (PySem.Str.ofString k), toPy d)]).shown = ("{" : Str) ++ (((PyData.str (PySem.Str.ofString k)).shown ++ ": " ++ (toPy d).shown)) ++ "}" := by
      rw [PyData.shown_dict]
      rfl
    rw [e, strLen_append, strLen_append, strLen_append, strLen_append, sz_eq]
    have e1 : ((("{" : String) : Str)).length = 1 := rfl
    have e2 : ((("}" : String) : Str)).length = 1 := rfl
    have e3 : (((": " : String) : Str)).length = 2 := rfl
    have e4 : (PyData.str (PySem.Str.ofString k)).shown.length ≤ 100 := by rw [hk]; decide +kernel
    have := h.siz
    omega

theorem nil_eqv (ds : List D) : PyData.eqv (.list (toPyL ds)) (.list []) = decide (ds = []) := by
  cases ds <;> rfl
/-- a list against [] -/
theorem eq_nil_o {f : Bool → Bool} {p : Addr} {ds : List D} {μ : Mem} {Q : D → Mem → Prop} {E : XD} (h : μ p = some (.ml ds)) (hg : gdL ds = true) (hd : dptL ds ≤ 50) (q : Q (.bl (f (decide (ds = [])))) μ) : eqA f (.obj p) (.lst []) μ Q E := by
  refine eqA_of ?_
  unfold eqW
  show W.bnd (W.opt (pyM μ (.obj p))) _ μ Q E
  obtain ⟨h1, h2, _, h3, _⟩ := gd_okL hg
  have e : pyM μ (.obj p) = some (.list (toPyL ds)) := by
    unfold pyM
    simp only [h, h1]
    rfl
  rw [e]
  refine ⟨⟨?_, rfl⟩, ?_⟩
  · unfold SeqAt.shaped
    show (PyData.canLayAll0 _ && decide (PyData.depthAll _ + 1 ≤ 64)) = true
    rw [h2, h3, decide_eq_true (by omega)]; rfl
  · show Q (.bl (f (PyData.eqv (.list (toPyL ds)) (.list [])))) μ
    rw [nil_eqv]
    exact q
theorem eq_nil_l {f : Bool → Bool} {ds : List D} {μ : Mem} {Q : D → Mem → Prop} {E : XD} (hg : gdL ds = true) (hd : dptL ds ≤ 50) (q : Q (.bl (f (decide (ds = [])))) μ) : eqA f (.lst ds) (.lst []) μ Q E := by
  refine eq_w (x := .lst ds) (y := .lst []) hg rfl (by show dptL ds + 1 ≤ 60; omega) (by decide) ?_
  show Q (.bl (f (PyData.eqv (.list (toPyL ds)) (.list [])))) μ
  rw [nil_eqv]
  exact q
theorem Pl.sign {ch : Nat} (h : ch < 1114112) : Pl 0 12 (.str ⟨#[ch]⟩) := Pl.str (n := 1) (by simpa using h) (Nat.le_refl 1)
theorem Pl.all {k z : Nat} {ds : List D} (h : ∀ d ∈ ds, Pl k z d) : gdL ds = true ∧ dptL ds ≤ k := ⟨gdL_mem fun d hd => (h d hd).good, dptL_mem fun d hd => (h d hd).dep⟩
theorem mem_set {α : Type} {l : List α} {n : Nat} {x y : α} (h : y ∈ l.set n x) : y ∈ l ∨ y = x := by
  rcases List.mem_or_eq_of_mem_set h with h | h
  · exact .inl h
  · exact .inr h

/-- a display that stays, its pairs without effects -/
theorem dis_w {mp : Rho → W (List (D × D))} {ρ : Rho} {μ : Mem} {Q : D → Mem → Prop} {E : XD} {ps : List (D × D)} {kvs : List (Key × D)} (hm : ∀ (μ' : Mem) (R : List (D × D) → Mem → Prop), R ps μ' → mp ρ μ' R E) (ek : keysOf ps = some kvs) (hl : kvs.length ≤ 15) (q : Q (.dct (mergeD [] kvs)) μ) : eDis mp ρ μ Q E := by
  intro p hp
  refine hm _ _ ⟨put_same, kvs, ek, hl, ?_⟩
  rw [del_put hp]
  exact q

/-! ### classes of plain data -/
theorem ty_nonM {μ : Mem} : tyM μ .non = some "NoneType" := rfl
theorem ty_blM {μ : Mem} {b : Bool} : tyM μ (.bl b) = some "bool" := rfl
theorem ty_intM {μ : Mem} {i : Int} : tyM μ (.int i) = some "int" := rfl
theorem ty_strM {μ : Mem} {s : Str} : tyM μ (.str s) = some "str" := rfl
theorem ty_tupM {μ : Mem} {ds : List D} : tyM μ (.tup ds) = some "tuple" := rfl
theorem ty_lstM {μ : Mem} {ds : List D} : tyM μ (.lst ds) = some "list" := rfl
theorem ty_dctM {μ : Mem} {ds : List (Key × D)} : tyM μ (.dct ds) = some "dict" := rfl
theorem kb_non_str : kitB "NoneType" "str" = some false := by decide +kernel
theorem kb_non_int : kitB "NoneType" "int" = some false := by decide +kernel
theorem kb_non_bool : kitB "NoneType" "bool" = some false := by decide +kernel
theorem kb_non_tuple : kitB "NoneType" "tuple" = some false := by decide +kernel
theorem kb_non_list : kitB "NoneType" "list" = some false := by decide +kernel
theorem kb_non_dict : kitB "NoneType" "dict" = some false := by decide +kernel
theorem kb_bl_str : kitB "bool" "str" = some false := by decide +kernel
theorem kb_bl_int : kitB "bool" "int" = some true := by decide +kernel
theorem kb_bl_bool : kitB "bool" "bool" = some true := by decide +kernel
theorem kb_bl_tuple : kitB "bool" "tuple" = some false := by decide +kernel
theorem kb_bl_list : kitB "bool" "list" = some false := by decide +kernel
theorem kb_bl_dict : kitB "bool" "dict" = some false := by decide +kernel
theorem kb_int_str : kitB "int" "str" = some false := by decide +kernel
theorem kb_int_int : kitB "int" "int" = some true := by decide +kernel
theorem kb_int_bool : kitB "int" "bool" = some false := by decide +kernel
theorem kb_int_tuple : kitB "int" "tuple" = some false := by decide +kernel
theorem kb_int_list : kitB "int" "list" = some false := by decide +kernel
theorem kb_int_dict : kitB "int" "dict" = some false := by decide +kernel
theorem kb_str_str : kitB "str" "str" = some true := by decide +kernel
theorem kb_str_int : kitB "str" "int" = some false := by decide +kernel
theorem kb_str_bool : kitB "str" "bool" = some false := by decide +kernel
theorem kb_str_tuple : kitB "str" "tuple" = some false := by decide +kernel
theorem kb_str_list : kitB "str" "list" = some false := by decide +kernel
theorem kb_str_dict : kitB "str" "dict" = some false := by decide +kernel
theorem kb_tup_str : kitB "tuple" "str" = some false := by decide +kernel
theorem kb_tup_int : kitB "tuple" "int" = some false := by decide +kernel
theorem kb_tup_bool : kitB "tuple" "bool" = some false := by decide +kernel
theorem kb_tup_tuple : kitB "tuple" "tuple" = some true := by decide +kernel
theorem kb_tup_list : kitB "tuple" "list" = some false := by decide +kernel
theorem kb_tup_dict : kitB "tuple" "dict" = some false := by decide +kernel
theorem kb_lst_str : kitB "list" "str" = some false := by decide +kernel
theorem kb_lst_int : kitB "list" "int" = some false := by decide +kernel
theorem kb_lst_bool : kitB "list" "bool" = some false := by decide +kernel
theorem kb_lst_tuple : kitB "list" "tuple" = some false := by decide +kernel
theorem kb_lst_list : kitB "list" "list" = some true := by decide +kernel
theorem kb_lst_dict : kitB "list" "dict" = some false := by decide +kernel
theorem kb_dct_str : kitB "dict" "str" = some false := by decide +kernel
theorem kb_dct_int : kitB "dict" "int" = some false := by decide +kernel
theorem kb_dct_bool : kitB "dict" "bool" = some false := by decide +kernel
theorem kb_dct_tuple : kitB "dict" "tuple" = some false := by decide +kernel
theorem kb_dct_list : kitB "dict" "list" = some false := by decide +kernel
theorem kb_dct_dict : kitB "dict" "dict" = some true := by decide +kernel

theorem isNon_bl (b : Bool) : DL.isNon (.bl b) = false := (Eq.refl _).trans rfl
theorem isNon_lst (b : List D) : DL.isNon (.lst b) = false := (Eq.refl _).trans rfl
theorem isNon_dct (b : List (Key × D)) : DL.isNon (.dct b) = false := (Eq.refl _).trans rfl

theorem in_l {f : Bool → Bool} {k z k' z' : Nat} {x : D} {ys : List D} {μ : Mem} {Q : D → Mem → Prop} {E : XD} (hx : Pl k z x) (hy : ∀ y ∈ ys, Pl k' z' y) (hk : k ≤ 60) (q : Q (.bl (f ((toPyL ys).any fun u => PyData.eqv u (toPy x)))) μ) : inW f x (.lst ys) μ Q E := by
  show W.bnd (W.opt (pyM μ x)) _ μ Q E
  rw [gd_pyM hx.good]
  obtain ⟨h1, h2, _, h3, _⟩ := gd_okL (gdL_mem fun y h => (hy y h).good)
  obtain ⟨_, a, _, b, _⟩ := gd_ok hx.good
  have e : pyM μ (.lst ys) = some (.list (toPyL ys)) := by
    show py (.lst ys) = _
    unfold py
    rw [h1]
    rfl
  show W.bnd (W.opt (pyM μ (.lst ys))) _ μ Q E
  rw [e]
  refine ⟨⟨?_, h2⟩, q⟩
  unfold SeqAt.shaped
  rw [a, b, decide_eq_true (by have := hx.dep; omega)]
  rfl
theorem strRep_len (s : Str) (k : Int) : (strRep s k).length = k.toNat * s.length := by
  show ((List.replicate k.toNat s.cps.toList).flatten.toArray).size = _
  rw [List.size_toArray, List.length_flatten, List.map_replicate, List.sum_replicate_nat, Array.length_toList]
  rfl
theorem strRep_mem {s : Str} {k : Int} {x : Nat} (h : x ∈ (strRep s k).cps.toList) : x ∈ s.cps.toList := by
  have h' : x ∈ (List.replicate k.toNat s.cps.toList).flatten := by simpa [strRep] using h
  obtain ⟨l, hl, hx⟩ := List.mem_flatten.mp h'
  rw [(List.mem_replicate.mp hl).2] at hx
  exact hx
theorem app_mem {s r : Str} {x : Nat} (h : x ∈ (s ++ r).cps.toList) : x ∈ s.cps.toList ∨ x ∈ r.cps.toList := by
  have h' : x ∈ (s.cps ++ r.cps).toList := h
  rw [Array.toList_append] at h'
  exact List.mem_append.mp h'

/-! ### dicts made by comprehensions -/
theorem dc_w {chk : Mem → Prop} {g : D → Rho → W Rho} {tt : Rho → W Bool} {tk tv : Rho → W D} {ρ : Rho} {μ : Mem} {p : Addr} {E : XD} (kf : D → Key) (vf : D → D) (hp : μ p = none) (Q : D → Mem → Prop) :
    ∀ (items : List D) (acc : List (Key × D)), (hz : acc.length + items.length < sizeLine) → (hc : ∀ acc, chk (put μ p (.md acc))) →
    (step : ∀ x ∈ items, ∀ (acc : List (Key × D)) (R : Rho → Mem → Prop), (∀ ρ1, (∀ (R' : Bool → Mem → Prop), R' true (put μ p (.md acc)) → tt ρ1 (put μ p (.md acc)) R' E) → (∀ (R' : D → Mem → Prop), (∀ dk, keyOf dk = some (kf x) → R' dk (put μ p (.md acc))) → tk ρ1 (put μ p (.md acc)) R' E) → (∀ (R' : D → Mem → Prop), R' (vf x) (put μ p (.md acc)) → tv ρ1 (put μ p (.md acc)) R' E) → R ρ1 (put μ p (.md acc))) →
      g x ρ (put μ p (.md acc)) R E) →
    (q : Q (.dct (mergeD acc (items.map fun x => (kf x, vf x)))) μ) → dcW chk g tt tk tv p ρ items (put μ p (.md acc)) (fun _ μ' => ∃ kvs, μ' p = some (.md kvs) ∧ Q (.dct kvs) (del μ' p)) E
  | [], acc, hz, hc, step, q => by
    refine ⟨hc acc, acc, put_same, ?_⟩
    rw [del_put hp]
    exact q
  | x :: xs, acc, hz, hc, step, q => by
    refine ⟨hc acc, step x (List.mem_cons_self ..) acc _ fun ρ1 ht hk hv => ht _ ?_⟩
    show (if true = true then _ else _ : W Unit) _ _ _
    rw [if_pos rfl]
    refine hk _ fun dk hdk => hv _ ?_
    show W.bnd (W.dput p dk (vf x)) _ _ _ _
    unfold W.dput
    show (match put μ p (.md acc) p with
      | some (.md kvs) => W.bnd (W.opt (keyOf dk)) fun k => W.req (kvs.length < sizeLine) (fun μ Q _ => Q () (put μ p (.md (putD kvs k (vf x)))))
      | _ => W.bad) _ _ _
    rw [put_same]
    dsimp only
    rw [hdk]
    refine ⟨by simp at hz; omega, ?_⟩
    show dcW chk g tt tk tv p ρ xs (put (put μ p (.md acc)) p (.md (putD acc (kf x) (vf x)))) _ E
    rw [put_put]
    have hl : (putD acc (kf x) (vf x)).length ≤ acc.length + 1 := by
      unfold putD
      split
      · rw [List.length_map]; omega
      · rw [List.length_append]; simp
    exact dc_w kf vf hp Q xs (putD acc (kf x) (vf x)) (by simp at hz; omega) hc (fun y hy => step y (List.mem_cons_of_mem _ hy)) q
/-- {tk: tv for a, b in items} -/
theorem edc_pr {mi : Rho → W ItD} {i j : Nat} {tk tv : Rho → W D} {vs : List Nat} {ρ : Rho} {μ : Mem} {Q : D → Mem → Prop} {E : XD} {items : List D} {chk : Mem → Prop} (kf : D → Key) (vf : D → D)
    (hmi : ∀ R : ItD → Mem → Prop, R ⟨items, chk⟩ μ → mi ρ μ R E) (hz : items.length < sizeLine) (hc : ∀ p acc, μ p = none → chk (put μ p (.md acc)))
    (h2 : ∀ x ∈ items, ∃ a b, x = .tup [a, b])
    (hk : ∀ a b, .tup [a, b] ∈ items → ∀ p acc, μ p = none → ∀ R : D → Mem → Prop, (∀ dk, keyOf dk = some (kf (.tup [a, b])) → R dk (put μ p (.md acc))) → tk (((wipeD ρ vs).set i (some a)).set j (some b)) (put μ p (.md acc)) R E)
    (hv : ∀ a b, .tup [a, b] ∈ items → ∀ p acc, μ p = none → ∀ R : D → Mem → Prop, R (vf (.tup [a, b])) (put μ p (.md acc)) → tv (((wipeD ρ vs).set i (some a)).set j (some b)) (put μ p (.md acc)) R E)
    (q : Q (.dct (mergeD [] (items.map fun x => (kf x, vf x)))) μ) : eDc mi (gTp 2 (gsCons (gNm i) (gsCons (gNm j) gsNil))) tsYes tk tv vs ρ μ Q E := by
  unfold eDc
  refine hmi _ fun p hp => ?_
  refine dc_w kf vf hp Q items [] (by simpa using hz) (fun acc => hc p acc hp) (fun x hx acc R hR => ?_) q
  obtain ⟨a, b, rfl⟩ := h2 x hx
  exact ⟨rfl, hR _ (fun R' h => h) (fun R' => hk a b hx p acc hp R') (fun R' => hv a b hx p acc hp R')⟩
theorem any_key {k : Key} : ∀ {kvs : List (Key × D)}, k ∉ kvs.map (·.1) → (kvs.any fun kv => decide (kv.1 = k)) = false
  | [], _ => rfl
  | (j, d) :: r, h => by
    rw [List.any_cons, any_key (fun z => h (by simp only [List.map_cons]; exact List.mem_cons_of_mem _ z)), Bool.or_false]
    exact decide_eq_false fun z => h (by simp only [List.map_cons]; rw [← z]; exact List.mem_cons_self ..)
/-- unlike keys: the pairs as they come -/
theorem merge_nodup : ∀ (kvs acc : List (Key × D)), ((acc ++ kvs).map (·.1)).Nodup → mergeD acc kvs = acc ++ kvs
  | [], acc, _ => by rw [List.append_nil]; rfl
  | (k, v) :: r, acc, h => by
    have hn : k ∉ acc.map (·.1) := fun z => by
      rw [List.map_append, List.nodup_append] at h
      exact h.2.2 _ z _ (by simp) rfl
    have e : putD acc k v = acc ++ [(k, v)] := by
      unfold putD
      rw [any_key hn]
      rfl
    show mergeD (putD acc k v) r = _
    rw [e, merge_nodup r (acc ++ [(k, v)]) (by simpa using h), List.append_assoc]
    rfl
theorem val_mem {k : Key} {v : D} : ∀ {kvs : List (Key × D)}, (kvs.map (·.1)).Nodup → (k, v) ∈ kvs → valD kvs k = some v
  | [], _, h => nomatch h
  | (j, d) :: r, hn, h => by
    rw [valD_cons]
    rw [List.map_cons, List.nodup_cons] at hn
    rcases List.mem_cons.mp h with e | e
    · cases e
      rw [if_pos (by unfold keyB; exact decide_eq_true rfl)]
    · rw [if_neg (by
        unfold keyB
        intro z
        have z := of_decide_eq_true z
        exact hn.1 (by rw [z]; exact List.mem_map.mpr ⟨_, e, rfl⟩))]
      exact val_mem hn.2 e
theorem x_enum {ms : Rho → W (List D)} {ρ : Rho} {μ : Mem} {Q : ItD → Mem → Prop} {E : XD} {ds : List D} (h : ∀ R : List D → Mem → Prop, R [.lst ds] μ → ms ρ μ R E) (q : Q ⟨enumL 0 ds, fun _ => True⟩ μ) : iEnumA ms ρ μ Q E := h _ q
theorem x_enumT {ms : Rho → W (List D)} {ρ : Rho} {μ : Mem} {Q : ItD → Mem → Prop} {E : XD} {ds : List D} (h : ∀ R : List D → Mem → Prop, R [.tup ds] μ → ms ρ μ R E) (q : Q ⟨enumL 0 ds, fun _ => True⟩ μ) : iEnumA ms ρ μ Q E := h _ q
theorem x_enumS {ms : Rho → W (List D)} {ρ : Rho} {μ : Mem} {Q : ItD → Mem → Prop} {E : XD} {x : Str} (h : ∀ R : List D → Mem → Prop, R [.str x] μ → ms ρ μ R E) (q : Q ⟨enumL 0 (signsD x), fun _ => True⟩ μ) : iEnumA ms ρ μ Q E := h _ q
theorem x_enumO {ms : Rho → W (List D)} {ρ : Rho} {μ : Mem} {Q : ItD → Mem → Prop} {E : XD} {p : Addr} {ds : List D} (hp : μ p = some (.ml ds)) (h : ∀ R : List D → Mem → Prop, R [.obj p] μ → ms ρ μ R E) (q : Q ⟨enumL 0 ds, fun μ' => μ' p = some (.ml ds)⟩ μ) : iEnumA ms ρ μ Q E := by
  refine h _ ?_
  show W.bnd (W.opt (lsOf (.obj p) μ)) _ μ Q E
  have e : lsOf (.obj p) μ = some ds := by unfold lsOf; simp only [hp]
  rw [e]
  exact q
theorem enum_in : ∀ {ds : List D} {n : Nat} {x : D}, x ∈ enumL n ds → ∃ (k : Nat) (d : D), x = .tup [.int ((n + k : Nat) : Int), d] ∧ ds[k]? = some d
  | [], _, _, h => nomatch h
  | d :: r, n, x, h => by
    unfold enumL at h
    rcases List.mem_cons.mp h with e | e
    · exact ⟨0, d, by rw [e]; rfl, rfl⟩
    · obtain ⟨k, y, e1, e2⟩ := enum_in e
      exact ⟨k + 1, y, by rw [e1, show n + 1 + k = n + (k + 1) by omega], e2⟩
theorem zip_in : ∀ {ds es : List D} {x : D}, x ∈ zipL ds es → ∃ (k : Nat) (a b : D), x = .tup [a, b] ∧ ds[k]? = some a ∧ es[k]? = some b
  | [], _, _, h => nomatch h
  | _ :: _, [], _, h => nomatch h
  | a :: r, b :: t, x, h => by
    unfold zipL at h
    rcases List.mem_cons.mp h with e | e
    · exact ⟨0, a, b, e, rfl, rfl⟩
    · obtain ⟨k, c, d, e1, e2, e3⟩ := zip_in e
      exact ⟨k + 1, c, d, e1, e2, e3⟩
theorem sub_length {α : Type} [DecidableEq α] : ∀ {l m : List α}, l.Nodup → (∀ x ∈ l, x ∈ m) → l.length ≤ m.length
  | [], _, _, _ => Nat.zero_le _
  | a :: r, m, hn, h => by
    rw [List.nodup_cons] at hn
    have ha := h a (List.mem_cons_self ..)
    have ih := sub_length (m := m.erase a) hn.2 fun x hx => (List.mem_erase_of_ne (by intro e; rw [e] at hx; exact hn.1 hx)).mpr (h x (List.mem_cons_of_mem _ hx))
    rw [List.length_erase_of_mem ha] at ih
    have : 0 < m.length := List.length_pos_of_mem ha
    rw [List.length_cons]
    omega

theorem x_addM {p : Addr} {b : List D} {μ : Mem} {Q : D → Mem → Prop} {E : XD} : addMD (.obj p) (.lst b) μ Q E = onL (μ p) fun a => (a.length + b.length ≤ sizeLine ∧ ∀ q, μ q = none → Q (.obj q) (put μ q (.ml (a ++ b)))) := by
  show W.bnd (W.opt (lsOf (.obj p) μ)) _ μ Q E = _
  unfold lsOf onL
  dsimp only
  cases μ p with
  | none => rfl
  | some o => cases o <;> rfl
theorem x_addMl {a b : List D} {μ : Mem} {Q : D → Mem → Prop} {E : XD} : addMD (.lst a) (.lst b) μ Q E = (a.length + b.length ≤ sizeLine ∧ ∀ q, μ q = none → Q (.obj q) (put μ q (.ml (a ++ b)))) := propext ⟨fun h => h, fun h => h⟩
theorem lsOf_obj {p : Addr} {μ : Mem} {ds : List D} (h : μ p = some (.ml ds)) : lsOf (.obj p) μ = some ds := by unfold lsOf; simp only [h]
theorem mem_take {α : Type} {l : List α} {n : Nat} {x : α} (h : x ∈ l.take n) : x ∈ l := List.mem_of_mem_take h
theorem cutD_mem {α : Type} {l : List α} {lo hi : Option Int} {x : α} (h : x ∈ cutD l lo hi) : x ∈ l := by
  unfold cutD at h
  exact List.mem_of_mem_drop (List.mem_of_mem_take h)
theorem cutD_len {α : Type} {l : List α} {lo hi : Option Int} : (cutD l lo hi).length ≤ l.length := by
  unfold cutD
  rw [List.length_take, List.length_drop]
  omega
theorem cut_to {α : Type} {ds : List α} {k : Int} (h : 0 ≤ k) (h' : k ≤ ds.length) : cutD ds none (some k) = ds.take k.toNat := by
  have e1 : HT.sIx ds.length ds.length (some k) = k.toNat := by
    show (if k < 0 then (k + (ds.length : Int)).toNat else min k.toNat ds.length) = _
    rw [if_neg (by omega)]
    omega
  have e0 : HT.sIx ds.length 0 none = 0 := rfl
  unfold cutD
  rw [e0, e1, List.drop_zero, Nat.sub_zero]
theorem not_in_o {f : Bool → Bool} {k z k' z' : Nat} {x : D} {p : Addr} {ys : List D} {μ : Mem} {Q : D → Mem → Prop} {E : XD} (hp : μ p = some (.ml ys)) (hx : Pl k z x) (hy : ∀ y ∈ ys, Pl k' z' y) (hk : k ≤ 60) (q : Q (.bl (f ((toPyL ys).any fun u => PyData.eqv u (toPy x)))) μ) : inW f x (.obj p) μ Q E := by
  have e0 : dOf (.obj p) μ = none := by unfold dOf; simp only [hp]
  show inC f μ x (.obj p) μ Q E
  unfold inC
  rw [e0]
  show W.bnd (W.opt (pyM μ x)) _ μ Q E
  rw [gd_pyM hx.good]
  obtain ⟨h1, h2, _, h3, _⟩ := gd_okL (gdL_mem fun y h => (hy y h).good)
  obtain ⟨_, a, _, b, _⟩ := gd_ok hx.good
  have e : pyM μ (.obj p) = some (.list (toPyL ys)) := by
    unfold pyM
    simp only [hp, h1]
    rfl
  show W.bnd (W.opt (pyM μ (.obj p))) _ μ Q E
  rw [e]
  refine ⟨⟨?_, h2⟩, q⟩
  unfold SeqAt.shaped
  rw [a, b, decide_eq_true (by have := hx.dep; omega)]
  rfl
theorem in_t {f : Bool → Bool} {k z k' z' : Nat} {x : D} {ys : List D} {μ : Mem} {Q : D → Mem → Prop} {E : XD} (hx : Pl k z x) (hy : ∀ y ∈ ys, Pl k' z' y) (hk : k ≤ 60) (q : Q (.bl (f ((toPyL ys).any fun u => PyData.eqv u (toPy x)))) μ) : inW f x (.tup ys) μ Q E := by
  show W.bnd (W.opt (pyM μ x)) _ μ Q E
  rw [gd_pyM hx.good]
  obtain ⟨h1, h2, _, h3, _⟩ := gd_okL (gdL_mem fun y h => (hy y h).good)
  obtain ⟨_, a, _, b, _⟩ := gd_ok hx.good
  have e : pyM μ (.tup ys) = some (.tuple (toPyL ys)) := by
    show py (.tup ys) = _
    unfold py
    rw [h1]
    rfl
  show W.bnd (W.opt (pyM μ (.tup ys))) _ μ Q E
  rw [e]
  refine ⟨⟨?_, h2⟩, q⟩
  unfold SeqAt.shaped
  rw [a, b, decide_eq_true (by have := hx.dep; omega)]
  rfl
theorem any_strs (ys : List Str) (x : Str) : ((toPyL (ys.map .str)).any fun u => PyData.eqv u (toPy (.str x))) = ys.contains x := by
  induction ys with
  | nil => rfl
  | cons y r ih =>
    show (PyData.eqv (.str y) (.str x) || (toPyL (r.map .str)).any _) = _
    rw [ih, List.contains_cons]
    congr 1
    exact (BEq.comm : (y == x) = (x == y))
theorem any_ints (ys : List Int) (x : Int) : ((toPyL (ys.map .int)).any fun u => PyData.eqv u (toPy (.int x))) = ys.contains x := by
  induction ys with
  | nil => rfl
  | cons y r ih =>
    show (PyData.eqv (.int y) (.int x) || (toPyL (r.map .int)).any _) = _
    rw [ih, List.contains_cons]
    congr 1
    exact (BEq.comm : (y == x) = (x == y))

/-- a comprehension that changes nothing else; its list will change -/
theorem lc_wG {chk : Mem → Prop} {g : D → Rho → W Rho} {tt : Rho → W Bool} {te : Rho → W D} {ρ : Rho} {μ : Mem} {p : Addr} {E : XD} (c : D → Bool) (f : D → D) (Qf : Mem → Prop) :
    ∀ (items acc : List D), (hz : acc.length + items.length < sizeLine) → (hc : ∀ acc, chk (put μ p (.ml acc))) →
    (step : ∀ x ∈ items, ∀ (acc : List D) (R : Rho → Mem → Prop), (∀ ρ1, (∀ (R' : Bool → Mem → Prop), R' (c x) (put μ p (.ml acc)) → tt ρ1 (put μ p (.ml acc)) R' E) → (c x = true → ∀ (R' : D → Mem → Prop), R' (f x) (put μ p (.ml acc)) → te ρ1 (put μ p (.ml acc)) R' E) → R ρ1 (put μ p (.ml acc))) →
      g x ρ (put μ p (.ml acc)) R E) →
    (q : Qf (put μ p (.ml (acc ++ (items.filter c).map f)))) → lcW chk g tt te p ρ items (put μ p (.ml acc)) (fun _ μ' => Qf μ') E
  | [], acc, hz, hc, step, q => ⟨hc acc, by show Qf _; simpa using q⟩
  | x :: xs, acc, hz, hc, step, q => by
    refine ⟨hc acc, step x (List.mem_cons_self ..) acc _ fun ρ1 ht he => ht _ ?_⟩
    cases e : c x with
    | false =>
      show (if false = true then _ else _ : W Unit) _ _ _
      rw [if_neg (by decide)]
      refine lc_wG c f Qf xs acc (by simp at hz; omega) hc (fun y hy => step y (List.mem_cons_of_mem _ hy)) ?_
      rw [List.filter_cons, e] at q
      exact q
    | true =>
      show (if true = true then _ else _ : W Unit) _ _ _
      rw [if_pos rfl]
      refine he e _ ?_
      show W.bnd (W.push p (f x)) _ _ _ _
      unfold W.push
      show (match put μ p (.ml acc) p with
        | some (.ml acc) => W.req (acc.length < sizeLine) (W.setL p (acc ++ [f x]) (W.ret ()))
        | _ => W.bad) _ _ _
      rw [put_same]
      refine ⟨by simp at hz; omega, ?_⟩
      show lcW chk g tt te p ρ xs (put (put μ p (.ml acc)) p (.ml (acc ++ [f x]))) _ E
      rw [put_put]
      refine lc_wG c f Qf xs (acc ++ [f x]) (by simp at hz ⊢; omega) hc (fun y hy => step y (List.mem_cons_of_mem _ hy)) ?_
      rw [List.filter_cons, e, if_pos rfl, List.map_cons] at q
      rw [List.append_assoc]
      exact q
theorem elcM_pr {mi : Rho → W ItD} {i j : Nat} {tt : Rho → W Bool} {te : Rho → W D} {vs : List Nat} {ρ : Rho} {μ : Mem} {Q : D → Mem → Prop} {E : XD} {items : List D} {chk : Mem → Prop} (c : D → Bool) (f : D → D)
    (hmi : ∀ R : ItD → Mem → Prop, R ⟨items, chk⟩ μ → mi ρ μ R E) (hz : items.length < sizeLine) (hc : ∀ p acc, μ p = none → chk (put μ p (.ml acc)))
    (h2 : ∀ x ∈ items, ∃ a b, x = .tup [a, b])
    (ht : ∀ a b, .tup [a, b] ∈ items → ∀ p acc, μ p = none → ∀ R : Bool → Mem → Prop, R (c (.tup [a, b])) (put μ p (.ml acc)) → tt (((wipeD ρ vs).set i (some a)).set j (some b)) (put μ p (.ml acc)) R E)
    (he : ∀ a b, .tup [a, b] ∈ items → c (.tup [a, b]) = true → ∀ p acc, μ p = none → ∀ R : D → Mem → Prop, R (f (.tup [a, b])) (put μ p (.ml acc)) → te (((wipeD ρ vs).set i (some a)).set j (some b)) (put μ p (.ml acc)) R E)
    (q : ∀ p, μ p = none → Q (.obj p) (put μ p (.ml ((items.filter c).map f)))) : eLcM mi (gTp 2 (gsCons (gNm i) (gsCons (gNm j) gsNil))) tt te vs ρ μ Q E := by
  unfold eLcM
  refine hmi _ fun p hp => ?_
  refine lc_wG c f (fun μ' => (∃ ds, μ' p = some (.ml ds)) ∧ Q (.obj p) μ') items [] (by simpa using hz) (fun acc => hc p acc hp) (fun x hx acc R hR => ?_) ⟨⟨_, put_same⟩, q p hp⟩
  obtain ⟨a, b, rfl⟩ := h2 x hx
  exact ⟨rfl, hR _ (fun R' => ht a b hx p acc hp R') (fun e R' => he a b hx e p acc hp R')⟩
theorem elc_genI {sh : Addr → Int → Int → MO} {a c : Addr} {μ0 μ : Mem} {t : Int} {i : Nat} {te : Rho → W D} {vs : List Nat} {ρ : Rho} {Q : D → Mem → Prop} {E : XD} {items : List D} (n : Int) (P : D → D → Prop)
    (hd : DF sh μ0 a c t μ) (hz : items.length < 1000000) (ht : t + n * (items.length : Int) ≤ 100000000000) (hn : 0 ≤ n)
    (he : ∀ x ∈ items, ∀ (μ1 μ' : Mem) (t' : Int) (R : D → Mem → Prop), DF sh μ1 a c t' μ' → t' + n ≤ 100000000000 → (∀ d μ'', P x d → DF sh μ1 a c (t' + n) μ'' → R d μ'') → te ((wipeD ρ vs).set i (some x)) μ' R E)
    (q : ∀ ds μ', ds.length = items.length → (∀ (j : Nat) d, ds[j]? = some d → ∃ x, items[j]? = some x ∧ P x d) → DF sh μ0 a c (t + n * (items.length : Int)) μ' → Q (.lst ds) μ') :
    eLc (fun _ => W.ret ⟨items, fun _ => True⟩) (gNm i) tsYes te vs ρ μ Q E := by
  refine elc_eff (fun p k acc μ' => μ' p = some (.ml acc) ∧ acc.length = k ∧ k ≤ items.length ∧ (∀ (j : Nat) d, acc[j]? = some d → ∃ x, items[j]? = some x ∧ P x d) ∧ DF sh μ0 a c (t + n * (k : Int)) μ' ∧ p ≠ a ∧ p ≠ c ∧ μ0 p = none)
    (fun p hp => ?_) (fun p k acc μ' h => ⟨h.1, by rw [h.2.1, sz_eq]; have := h.2.2.1; omega⟩) (fun p k acc μ' x R hx h hR => ?_) (fun p acc μ' h => ?_)
  · obtain ⟨h1, h2⟩ := hd.dk.apart hp
    exact ⟨put_same, rfl, Nat.zero_le _, fun j d h => (by simp at h), by rw [Int.natCast_zero, Int.mul_zero, Int.add_zero]; exact hd.new hp, h1, h2, hd.free hp⟩
  · obtain ⟨m1, m2, m3, m4, m5, m6, m7, m8⟩ := h
    have hk : k < items.length := by
      rcases Nat.lt_or_ge k items.length with z | z
      · exact z
      · rw [List.getElem?_eq_none z] at hx; cases hx
    have hle : n * ((k + 1 : Nat) : Int) ≤ n * (items.length : Int) := Int.mul_le_mul_of_nonneg_left (by omega) hn
    have hk1 : n * ((k + 1 : Nat) : Int) = n * (k : Int) + n := by rw [Int.natCast_add, Int.mul_add]; simp
    refine he x (List.mem_of_getElem? hx) μ' μ' _ R (DF.start m5.dk) (by omega) fun d μ'' hP hd2 => hR d μ'' (hd2.at m6 m7 m1) ?_
    refine ⟨put_same, by rw [List.length_append, m2]; rfl, hk, fun j e he' => ?_, ?_, m6, m7, m8⟩
    · rw [List.getElem?_append] at he'
      split at he'
      · exact m4 j e he'
      · rename_i hj
        have ej : j = k := by
          rcases Nat.lt_or_ge (j - acc.length) 1 with z | z
          · omega
          · rw [List.getElem?_eq_none (by simpa using z)] at he'; cases he'
        subst ej
        rw [m2, Nat.sub_self] at he'
        cases he'
        exact ⟨x, hx, hP⟩
    · refine ((m5.trans hd2).put m6 m7 m8).mono ?_
      have : n * ((k + 1 : Nat) : Int) = n * (k : Int) + n := by rw [Int.natCast_add, Int.mul_add]; simp
      omega
  · obtain ⟨m1, m2, m3, m4, m5, m6, m7, m8⟩ := h
    exact q acc _ m2 m4 (m5.del m6 m7 m8)

theorem rev_obj {p : Addr} {μ : Mem} {Q : D → Mem → Prop} {E : XD} : revTD (.obj p) μ Q E = onL (μ p) fun ds => Q (.lst ds.reverse) μ := by
  show W.bnd (W.opt (lsOf (.obj p) μ)) _ μ Q E = _
  unfold lsOf onL
  dsimp only
  cases μ p with
  | none => rfl
  | some o => cases o <;> rfl
theorem sqi_nat {n : Nat} {k : Int} (h : 0 ≤ k) (h' : k < n) : seqIndex? k n = some k.toNat := by
  unfold seqIndex?
  simp only [h, h']
  simp
  omega
theorem x_zip {ms : Rho → W (List D)} {ρ : Rho} {μ : Mem} {Q : ItD → Mem → Prop} {E : XD} {ds es : List D} (h : ∀ R : List D → Mem → Prop, R [.tup ds, .tup es] μ → ms ρ μ R E) (q : Q ⟨zipL ds es, fun _ => True⟩ μ) : iZipD ms ρ μ Q E := h _ q
theorem x_zipSw {ms : Rho → W (List D)} {ρ : Rho} {μ : Mem} {Q : ItD → Mem → Prop} {E : XD} {ds es : List D} (h : ∀ R : List D → Mem → Prop, R [.tup ds, .tup es] μ → ms ρ μ R E) (hl : ds.length = es.length) (q : Q ⟨zipL ds es, fun _ => True⟩ μ) : iZipSD ms ρ μ Q E := h _ ⟨hl, q⟩
theorem pairs_map {α : Type} (f : α → Key) (g : α → D) (h : α → D) : ∀ (l : List α), (∀ x ∈ l, keyOf (h x) = some (f x)) → pairsOf (l.map fun x => .tup [h x, g x]) = some (l.map fun x => (f x, g x))
  | [], _ => rfl
  | x :: r, hk => by
    rw [List.map_cons, List.map_cons]
    unfold pairsOf
    rw [hk x (List.mem_cons_self ..), pairs_map f g h r fun y hy => hk y (List.mem_cons_of_mem _ hy)]
end DL

namespace DL
open PySem PySem.Spec PyProof.Rows L2

/-! ### repr and == tell plain worths apart alike -/
theorem rc_fin : ∀ k : Fin 26, PySem.Builtin.Str.reprChar 39 (97 + k.val) = [97 + k.val] := by decide +kernel
theorem rc_az {c : Nat} (h : 97 ≤ c ∧ c ≤ 122) : PySem.Builtin.Str.reprChar 39 c = [c] := by
  have := rc_fin ⟨c - 97, by omega⟩
  have e : 97 + (c - 97) = c := by omega
  simp only [e] at this
  exact this
theorem fold_az : ∀ (l : List Nat) (acc : Array Nat), (∀ c ∈ l, 97 ≤ c ∧ c ≤ 122) → (l.foldl (fun out c => out ++ (PySem.Builtin.Str.reprChar 39 c).toArray) acc).toList = acc.toList ++ l
  | [], acc, _ => by simp
  | c :: r, acc, h => by
    rw [List.foldl_cons, fold_az r _ fun d hd => h d (List.mem_cons_of_mem _ hd), rc_az (h c (List.mem_cons_self ..))]
    simp
theorem repr_az {x : Str} (h : ∀ c ∈ x.cps.toList, 97 ≤ c ∧ c ≤ 122) : (reprText x).cps.toList = 39 :: (x.cps.toList ++ [39]) := by
  have hq : reprQuote x = 39 := by
    unfold reprQuote
    rw [if_neg]
    intro hc
    rw [Bool.and_eq_true] at hc
    have h1 : 39 ∈ x.cps := by simpa using hc.1
    have := h 39 (Array.mem_toList_iff.mpr h1)
    omega
  unfold reprText
  rw [hq]
  show ((x.cps.foldl (fun out c => out ++ (PySem.Builtin.Str.reprChar 39 c).toArray) #[39]).push 39).toList = _
  rw [Array.toList_push, ← Array.foldl_toList, fold_az _ _ h]
  simp
/-- a worth: none, a whole number, small letters -/
def Sc (d : D) : Prop := d = .non ∨ (∃ i, d = .int i) ∨ ∃ x : Str, d = .str x ∧ ∀ c ∈ x.cps.toList, 97 ≤ c ∧ c ≤ 122
theorem shown_i (i : Int) : (toPy (.int i)).shown = Str.ofString (toString i) := PyData.shown_int i
theorem shown_s (x : Str) : (toPy (.str x)).shown = reprText x := PyData.shown_str x
theorem shown_n : (toPy .non).shown = Str.ofString "None" := PyData.shown_none
theorem none_l : (Str.ofString "None").cps.toList = [78, 111, 110, 101] := by decide
theorem shown_inj {a b : D} (ha : Sc a) (hb : Sc b) (h : (toPy a).shown = (toPy b).shown) : a = b := by
  have i_n : ∀ i : Int, (toPy (.int i)).shown ≠ (toPy .non).shown := fun i e => by
    rw [shown_i, shown_n] at e
    have := int_text_free' 78 (by omega) i
    rw [e, none_l] at this
    exact this (by simp)
  have i_s : ∀ (i : Int) (x : Str), (∀ c ∈ x.cps.toList, 97 ≤ c ∧ c ≤ 122) → (toPy (.int i)).shown ≠ (toPy (.str x)).shown := fun i x hx e => by
    rw [shown_i, shown_s] at e
    have := int_text_free' 39 (by omega) i
    rw [e, repr_az hx] at this
    exact this (by simp)
  have n_s : ∀ x : Str, (∀ c ∈ x.cps.toList, 97 ≤ c ∧ c ≤ 122) → (toPy .non).shown ≠ (toPy (.str x)).shown := fun x hx e => by
    rw [shown_n, shown_s] at e
    have : (Str.ofString "None").cps.toList = (reprText x).cps.toList := by rw [e]
    rw [none_l, repr_az hx] at this
    cases this
  rcases ha with rfl | ⟨i, rfl⟩ | ⟨x, rfl, hx⟩ <;> rcases hb with rfl | ⟨j, rfl⟩ | ⟨y, rfl, hy⟩
  · rfl
  · exact absurd h.symm (i_n j)
  · exact absurd h (n_s y hy)
  · exact absurd h (i_n i)
  · rw [shown_i, shown_i] at h
    have h := ofString_inj h
    have e : ∀ k : Int, toString k = k.repr := fun k => by cases k <;> rfl
    rw [e, e] at h
    rw [Int.repr_inj.mp h]
  · exact absurd h (i_s i y hy)
  · exact absurd h.symm (n_s x hx)
  · exact absurd h.symm (i_s j x hx)
  · rw [shown_s, shown_s] at h
    have h : (reprText x).cps.toList = (reprText y).cps.toList := by rw [h]
    rw [repr_az hx, repr_az hy] at h
    injection h with _ h
    have h := List.append_cancel_right h
    rw [str_eq_of_lists h]
theorem eqv_sc {a b : D} (ha : Sc a) (hb : Sc b) : PyData.eqv (toPy a) (toPy b) = true ↔ a = b := by
  rcases ha with rfl | ⟨i, rfl⟩ | ⟨x, rfl, hx⟩ <;> rcases hb with rfl | ⟨j, rfl⟩ | ⟨y, rfl, hy⟩
  all_goals first
    | exact ⟨fun _ => rfl, fun _ => rfl⟩
    | exact ⟨fun h => (by cases h), fun h => (by cases h)⟩
    | skip
  · show (PyData.eqv (.int i) (.int j)) = true ↔ _
    simp [PyData.eqv]
  · show (PyData.eqv (.str x) (.str y)) = true ↔ _
    simp [PyData.eqv]
theorem shown_beq {a b : D} (ha : Sc a) (hb : Sc b) : ((toPy a).shown == (toPy b).shown) = PyData.eqv (toPy a) (toPy b) := by
  by_cases h : a = b
  · subst h
    rw [(eqv_sc ha hb).mpr rfl]
    simp
  · have h1 : PyData.eqv (toPy a) (toPy b) = false := Bool.eq_false_iff.mpr fun e => h ((eqv_sc ha hb).mp e)
    rw [h1]
    exact beq_false_of_ne fun e => h (shown_inj ha hb e)
theorem eqv_comm {a b : D} (ha : Sc a) (hb : Sc b) : PyData.eqv (toPy a) (toPy b) = PyData.eqv (toPy b) (toPy a) := by
  rw [Bool.eq_iff_iff, eqv_sc ha hb, eqv_sc hb ha]
  exact ⟨Eq.symm, Eq.symm⟩
end DL

/-! DMa: truths as numbers, str(), .upper(), == (), repr of things that hold dicts -/
namespace DL
open PySem PySem.Spec PyProof.Rows L2

def tI (b : Bool) : Int := if b = true then 1 else 0
def rBI (g : Int → Int → Int) : R2 := fun x y H Q => ∃ b j, x = .bl b ∧ y = .int j ∧ Q (.int (g (tI b) j)) H
def rIB (g : Int → Int → Int) : R2 := fun x y H Q => ∃ i b, x = .int i ∧ y = .bl b ∧ Q (.int (g i (tI b))) H
section
variable {X : Cx}
theorem opBI {f : Value → Value → Sem Value} {g : Int → Int → Int} (rule : ∀ (b : Bool) (j : Int) (u : Tok) (s : Shared) (Q : Value → Shared → Prop) (E : Value → Shared → Prop), Q (.int (g (tI b) j) s.toks) { s with toks := s.toks + 1 } → wpAny (model X.prog X.w) X.A (f (.bool b) (.int j u)) Q E s) :
    OpR X f (rBI g) := by
  intro pins s σ H x y v u Q I rx ry h
  obtain ⟨b, j, rfl, rfl, q⟩ := h
  cases rx
  obtain ⟨t', rfl⟩ := ry
  exact rule b j t' s _ _ ⟨.int (g (tI b) j), H, I.tok _, ⟨_, rfl⟩, q⟩
theorem opIB {f : Value → Value → Sem Value} {g : Int → Int → Int} (rule : ∀ (i : Int) (t : Tok) (b : Bool) (s : Shared) (Q : Value → Shared → Prop) (E : Value → Shared → Prop), Q (.int (g i (tI b)) s.toks) { s with toks := s.toks + 1 } → wpAny (model X.prog X.w) X.A (f (.int i t) (.bool b)) Q E s) :
    OpR X f (rIB g) := by
  intro pins s σ H x y v u Q I rx ry h
  obtain ⟨i, b, rfl, rfl, q⟩ := h
  obtain ⟨t', rfl⟩ := rx
  cases ry
  exact rule i t' b s _ _ ⟨.int (g i (tI b)), H, I.tok _, ⟨_, rfl⟩, q⟩
def rAddB (K : PySem.W.Frag) : R2 := fun x y H Q => rBI (· + ·) x y H Q ∨ rAddA K x y H Q
theorem op_addB : OpR X (binaryOp .Add) (rAddB X.K) := OpR.or (opBI (g := (· + ·)) fun _ _ _ _ _ _ q => IntBool.add_bool_int q) op_addA
def rSubB : R2 := fun x y H Q => rBI (· - ·) x y H Q ∨ (rIB (· - ·) x y H Q ∨ (rI0 fun i j => .int (i - j)) x y H Q)
theorem op_subB : OpR X (binaryOp .Sub) rSubB := OpR.or (opBI (g := (· - ·)) fun _ _ _ _ _ _ q => IntBool.sub_bool_int q) (OpR.or (opIB (g := (· - ·)) fun _ _ _ _ _ _ q => IntBool.sub_int_bool q) op_sub)
def rMulB (K : PySem.W.Frag) : R2 := fun x y H Q => rBI (· * ·) x y H Q ∨ rMulA K x y H Q
theorem op_mulB : OpR X (binaryOp .Mult) (rMulB X.K) := OpR.or (opBI (g := (· * ·)) fun _ _ _ _ _ _ q => IntBool.mul_bool_int q) op_mulA
end
def addBD (x y : D) : W D := match x, y with
  | .bl b, .int j => W.ret (.int (tI b + j))
  | x, y => addD x y
def subBD (x y : D) : W D := match x, y with
  | .bl b, .int j => W.ret (.int (tI b - j))
  | .int i, .bl b => W.ret (.int (i - tI b))
  | x, y => subD x y
def mulBD (x y : D) : W D := match x, y with
  | .bl b, .int j => W.ret (.int (tI b * j))
  | x, y => mulAD x y
theorem opd_addB {K : PySem.W.Frag} : OpD K (rAddB K) addBD := by
  intro F H μ x y dx dy Q ED Qh r ix iy h bk
  unfold addBD at h
  split at h
  · cases ix; cases iy
    exact .inl ⟨_, _, rfl, rfl, back_is bk r (.int _) h⟩
  · exact .inr (opd_add F H μ x y _ _ Q ED Qh r ix iy h bk)
theorem opd_subB {K : PySem.W.Frag} : OpD K rSubB subBD := by
  intro F H μ x y dx dy Q ED Qh r ix iy h bk
  unfold subBD at h
  split at h
  · cases ix; cases iy
    exact .inl ⟨_, _, rfl, rfl, back_is bk r (.int _) h⟩
  · cases ix; cases iy
    exact .inr (.inl ⟨_, _, rfl, rfl, back_is bk r (.int _) h⟩)
  · exact .inr (.inr (opd_sub F H μ x y _ _ Q ED Qh r ix iy h bk))
theorem opd_mulB {K : PySem.W.Frag} : OpD K (rMulB K) mulBD := by
  intro F H μ x y dx dy Q ED Qh r ix iy h bk
  unfold mulBD at h
  split at h
  · cases ix; cases iy
    exact .inl ⟨_, _, rfl, rfl, back_is bk r (.int _) h⟩
  · exact .inr (opd_mulA F H μ x y _ _ Q ED Qh r ix iy h bk)

/-! ### str() of numbers, truths, texts -/
def blS (b : Bool) : Str := if b = true then PySem.Str.ofString "True" else PySem.Str.ofString "False"
def rStr : List V → Hp → VK → Prop := fun xs H Q => (∃ i, xs = [.int i] ∧ i.natAbs.log2 < 1920 ∧ Q (.str (toString i : String)) H) ∨ ∃ b, xs = [.bl b] ∧ Q (.str (blS b)) H
theorem call_strA {X : Cx} : CallR X (.type "str") rStr := by
  intro pins s σ H xs us Q I r h
  rcases h with h | h
  · exact call_str_int pins s σ H xs us Q I r h
  · obtain ⟨b, rfl, q⟩ := h
    obtain ⟨u, rfl, r1⟩ := vals1 r
    cases r1
    exact PySem.P.str_of_bool ⟨.str _, H, I.tok _, ⟨_, rfl⟩, q⟩
def strD : List D → W D
  | [.int i] => W.req (i.natAbs.log2 < 1920) (W.ret (.str (toString i : String)))
  | [.bl b] => W.ret (.str (blS b))
  | _ => W.bad
theorem cd_str {K : PySem.W.Frag} : CallD K rStr strD := by
  intro F H μ xs ds Q ED Qh r il h bk
  unfold strD at h
  split at h
  · obtain ⟨v, rfl, i⟩ := isL1 il
    cases i
    exact .inl ⟨_, rfl, h.1, back_is bk r (.str _) h.2⟩
  · obtain ⟨v, rfl, i⟩ := isL1 il
    cases i
    exact .inr ⟨_, rfl, back_is bk r (.str _) h⟩
  · exact h.elim

/-! ### .upper() -/
def rUp : V → List V → Hp → VK → Prop := fun x xs H Q => ∃ z, x = .str z ∧ xs = [] ∧ z.length ≤ 5592405 ∧ Q (.str (Txt.upper z)) H
theorem mt_upper {X : Cx} : MtR X "str.upper" rUp := by
  intro pins s σ H x xs v us Q I rx rxs h
  obtain ⟨z, rfl, rfl, hz, q⟩ := h
  obtain ⟨t, rfl⟩ := rx
  cases rxs
  exact PySem.SC.upper (PyProof.Rows.short24 (by have := PyProof.Rows.len_upper z; omega)) ⟨.str _, H, I.tok _, ⟨_, rfl⟩, q⟩
def upperD (x : D) (as : List D) : W D := match x, as with
  | .str z, [] => W.req (z.length ≤ 5592405) (W.ret (.str (Txt.upper z)))
  | _, _ => W.bad
theorem md_upper {K : PySem.W.Frag} : MtD K rUp upperD := by
  intro F H μ x dx xs ds Q ED Qh r ix il h bk
  unfold upperD at h
  split at h
  · cases ix
    cases il
    exact ⟨_, rfl, rfl, h.1, back_is bk r (.str _) h.2⟩
  · exact h.elim

/-! ### a tuple beside () -/
def rEqT (K : PySem.W.Frag) (f : Bool → Bool) : R2 := fun x y H Q => ∃ a b xs, x = .ref a ∧ y = .ref b ∧ SqT K H a xs ∧ SqT K H b [] ∧ Q (.bl (f (decide (xs = [])))) H
theorem eqT_key (its : List Value) {xs : List V} (h : Vals xs its) (e : Nat → Bool) : ((List.range (min its.toArray.size (#[] : Array Value).size)).all e && its.toArray.size == (#[] : Array Value).size) = decide (xs = []) := by
  have hl := h.length
  cases xs with
  | nil =>
    have : its = [] := List.length_eq_zero_iff.mp (by simpa using hl.symm)
    subst this
    rfl
  | cons x r =>
    cases its with
    | nil => simp at hl
    | cons y q => simp
theorem op_eqT {X : Cx} (hu : X.A.units + 64 < cLine) : OpR X (compareOp .Eq) (rEqT X.K id) := by
  intro pins s σ H x y v u Q I rx ry h
  obtain ⟨a, b, xs, rfl, rfl, ha, hb, q⟩ := h
  cases rx; cases ry
  obtain ⟨its, rv, t1, _⟩ := I.tuple ha
  obtain ⟨its', rv', t2, _⟩ := I.tuple hb
  cases rv'
  refine SeqAt.eq_tupleAt (e := fun _ => true) (items := its.toArray) (items2 := #[]) ?_ ?_ (by omega) (fun j _ h2 => absurd h2 (Nat.not_lt_zero j)) ?_
  · obtain ⟨o, ho, hc, n, hd⟩ := t1
    exact ⟨o, ho, hc, n, hd⟩
  · obtain ⟨o, ho, hc, n, hd⟩ := t2
    exact ⟨o, ho, hc, n, hd⟩
  · rw [eqT_key its rv]
    exact ⟨.bl _, H, I, rfl, q⟩
theorem op_neT {X : Cx} (hu : X.A.units + 64 < cLine) : OpR X (compareOp .NotEq) (rEqT X.K not) := by
  intro pins s σ H x y v u Q I rx ry h
  obtain ⟨a, b, xs, rfl, rfl, ha, hb, q⟩ := h
  cases rx; cases ry
  obtain ⟨its, rv, t1, _⟩ := I.tuple ha
  obtain ⟨its', rv', t2, _⟩ := I.tuple hb
  cases rv'
  refine SeqAt.RcNeAt.tuples (e := fun _ => true) (items := its.toArray) (items2 := #[]) ?_ ?_ (by omega) (fun j _ h2 => absurd h2 (Nat.not_lt_zero j)) _ _ _ _ ?_
  · obtain ⟨o, ho, hc, n, hd⟩ := t1
    exact ⟨o, ho, hc, n, hd⟩
  · obtain ⟨o, ho, hc, n, hd⟩ := t2
    exact ⟨o, ho, hc, n, hd⟩
  · rw [eqT_key its rv]
    exact ⟨.bl _, H, I, rfl, q⟩
def eqTD (f : Bool → Bool) (x y : D) : W D := match x, y with
  | .tup ds, .tup [] => W.ret (.bl (f (decide (ds = []))))
  | _, _ => W.bad
theorem opd_eqT {K : PySem.W.Frag} {f : Bool → Bool} : OpD K (rEqT K f) (eqTD f) := by
  intro F H μ x y dx dy Q ED Qh r ix iy h bk
  unfold eqTD at h
  split at h
  · rename_i ds
    cases ix with
    | tup hs hl =>
      rename_i vs
      cases iy with
      | tup hs' hl' =>
        cases hl'
        refine ⟨_, _, vs, rfl, rfl, sqt_up r.sub hs, sqt_up r.sub hs', ?_⟩
        have e := hl.length
        have e2 : decide (vs = ([] : List V)) = decide (ds = []) := by
          rw [Bool.eq_iff_iff, decide_eq_true_eq, decide_eq_true_eq, ← List.length_eq_zero_iff, ← List.length_eq_zero_iff, e]
        rw [e2]
        exact back_is bk r (.bl _) h
  · exact h.elim
end DL

/-! DMb: repr of things that hold dicts of plain worths at any depth -/
namespace DL
open PySem PySem.Spec PyProof.Rows L2

mutual
inductive DpG (K : PySem.W.Frag) (H : Hp) : V → PyData → Prop
  | non : DpG K H .non .none
  | bl (b : Bool) : DpG K H (.bl b) (.bool b)
  | int (i : Int) : DpG K H (.int i) (.int i)
  | str (x : Str) : DpG K H (.str x) (.str x)
  | lst {a : Addr} {xs : List V} {ds : List PyData} (hs : SqL K H a xs) (hl : DpGs K H xs ds) : DpG K H (.ref a) (.list ds)
  | tup {a : Addr} {xs : List V} {ds : List PyData} (hs : SqT K H a xs) (hl : DpGs K H xs ds) : DpG K H (.ref a) (.tuple ds)
  | dct {a : Addr} {ks : List (Key × V)} {ps : List (PyData × PyData)} (hs : Rd H a (.dK ks)) (he : kvPy ks = some ps) : DpG K H (.ref a) (.dict ps)
inductive DpGs (K : PySem.W.Frag) (H : Hp) : List V → List PyData → Prop
  | nil : DpGs K H [] []
  | cons {v : V} {vs : List V} {d : PyData} {ds : List PyData} (h : DpG K H v d) (r : DpGs K H vs ds) : DpGs K H (v :: vs) (d :: ds)
end
mutual
inductive RdX (h : Heap) : Value → PyData → Prop
  | plain {v : Value} {d : PyData} {as : List Addr} (r : Reads h v d as) (hs : d.hasDict = true → sysModules ∉ as) : RdX h v d
  | lst {a : Addr} {o : Obj} {vs : Array Value} {n : Nat} {xs : List PyData} (h1 : h.get? a = some o) (h2 : o.cls = .type "list") (h3 : o.data = .seq vs n) (r : RdXs h vs.toList xs) : RdX h (.ref a) (.list xs)
  | tup {a : Addr} {o : Obj} {vs : Array Value} {n : Nat} {xs : List PyData} (h1 : h.get? a = some o) (h2 : o.cls = .type "tuple") (h3 : o.data = .seq vs n) (r : RdXs h vs.toList xs) : RdX h (.ref a) (.tuple xs)
inductive RdXs (h : Heap) : List Value → List PyData → Prop
  | nil : RdXs h [] []
  | cons {v : Value} {vs : List Value} {d : PyData} {ds : List PyData} (x : RdX h v d) (r : RdXs h vs ds) : RdXs h (v :: vs) (d :: ds)
end
mutual
theorem RdX.reads {h : Heap} : ∀ {v : Value} {d : PyData}, RdX h v d → ∃ as, Reads h v d as
  | _, _, .plain r _ => ⟨_, r⟩
  | _, _, .lst h1 h2 h3 r => by
    obtain ⟨as, q⟩ := RdXs.reads r
    exact ⟨_, Reads.list h1 h2 h3 q⟩
  | _, _, .tup h1 h2 h3 r => by
    obtain ⟨as, q⟩ := RdXs.reads r
    exact ⟨_, Reads.tuple h1 h2 h3 q⟩
theorem RdXs.reads {h : Heap} : ∀ {vs : List Value} {ds : List PyData}, RdXs h vs ds → ∃ as, ReadsAll h vs ds as
  | _, _, .nil => ⟨_, .nil⟩
  | _, _, .cons x r => by
    obtain ⟨as, q⟩ := RdX.reads x
    obtain ⟨bs, q'⟩ := RdXs.reads r
    exact ⟨_, .cons q q'⟩
end
section
variable {X : Cx} {pins : List (Addr × Obj)} {σ : L2.St} {H : Hp} {s : Shared}
mutual
theorem DpG.rdx (I : Inv X pins σ H s) : ∀ {v : V} {d : PyData} {u : Value}, DpG X.K H v d → RelV v u → RdX s.heap u d
  | _, _, _, .non, r => by cases r; exact .plain .none (fun z => by cases z)
  | _, _, _, .bl b, r => by cases r; exact .plain (.bool b) (fun z => by cases z)
  | _, _, _, .int i, r => by obtain ⟨t, rfl⟩ := r; exact .plain (.int i t) (fun z => by cases z)
  | _, _, _, .str x, r => by obtain ⟨t, rfl⟩ := r; exact .plain (.str x t) (fun z => by cases z)
  | _, _, _, .lst hs hl, r => by
    cases r
    obtain ⟨its, rv, ⟨o, n, ho, hc, _, hd⟩, _⟩ := I.list hs
    exact .lst ho hc hd (DpGs.rdx I hl rv)
  | _, _, _, .tup hs hl, r => by
    cases r
    obtain ⟨its, rv, ⟨o, ho, hc, n, hd⟩, _⟩ := I.tuple hs
    exact .tup ho hc hd (DpGs.rdx I hl rv)
  | _, _, _, .dct (a := a) hs he, r => by
    cases r
    obtain ⟨z, hsm, vs, rel, o, es, ep, ho, hex, hdat, hkeys, hpairs, hnd⟩ := dk_rd I.hok hs
    obtain ⟨r1, r2⟩ := kv_reads (h := s.heap) hpairs rel he
    refine .plain (Reads.dict ho hex.1 hdat r1 r2) fun _ hm => ?_
    have hm' : sysModules = a := by simpa using hm
    rw [← hm'] at hsm
    exact absurd hsm (by decide)
theorem DpGs.rdx (I : Inv X pins σ H s) : ∀ {vs : List V} {ds : List PyData} {us : List Value}, DpGs X.K H vs ds → Vals vs us → RdXs s.heap us ds
  | _, _, _, .nil, r => by cases r; exact .nil
  | _, _, _, .cons h q, r => by
    cases r with
    | cons r1 r2 => exact .cons (DpG.rdx I h r1) (DpGs.rdx I q r2)
end
end
section
variable {prog : Program} {w : World} {h₀ : Heap}
mutual
theorem RdX.repr : ∀ {v : Value} {d : PyData}, RdX h₀ v d → d.showable = true → d.shown.length ≤ sizeLine → ∃ bs, ReadAtMost h₀ d.depth bs ∧ ReprK prog w bs h₀ d.depth v d.shown
  | _, _, .plain r hs, h, hz => ReprK.of_reads r h hs hz
  | _, _, .lst (a := a) (vs := vs) (xs := xs) h1 h2 h3 q, h, hz => by
    have hz1 : (listText (PyData.shownAll xs)).length ≤ sizeLine := by simpa only [PyData.shown] using hz
    obtain ⟨bs, hb, hk⟩ := RdXs.repr q (by simpa [PyData.showable] using h) (fun t m => Nat.le_trans (listText_mem_le m) hz1)
    obtain ⟨as, q4⟩ := RdXs.reads q
    have rr := Reads.list h1 h2 h3 q4
    have out : a ∉ bs := not_mem_of_deeper rr (by simp only [PyData.depth]; omega) hb
    refine ⟨a :: bs, hb.cons rr (by simp only [PyData.depth]; omega), ?_⟩
    simp only [PyData.depth, PyData.shown]
    obtain ⟨l⟩ := vs
    cases l with
    | nil =>
      have q' : RdXs h₀ [] xs := q
      cases q'
      simp only [PyData.shownAll, listText_nil]
      exact .listEmpty h1 h2 h3
    | cons x l => exact .list h1 h2 h3 out (by simpa using hk.length_eq) (fun i y e => hk.item i y (by simpa using e))
  | _, _, .tup (a := a) (xs := xs) h1 h2 h3 q, h, hz => by
    have hz1 : (tupleText (PyData.shownAll xs)).length ≤ sizeLine := by simpa only [PyData.shown] using hz
    obtain ⟨bs, hb, hk⟩ := RdXs.repr q (by simpa [PyData.showable] using h) (fun t m => Nat.le_trans (tupleText_mem_le m) hz1)
    obtain ⟨as, q4⟩ := RdXs.reads q
    have rr := Reads.tuple h1 h2 h3 q4
    have out : a ∉ bs := not_mem_of_deeper rr (by simp only [PyData.depth]; omega) hb
    refine ⟨a :: bs, hb.cons rr (by simp only [PyData.depth]; omega), ?_⟩
    simp only [PyData.depth, PyData.shown]
    exact .tuple h1 h2 h3 out hk
theorem RdXs.repr : ∀ {vs : List Value} {ds : List PyData}, RdXs h₀ vs ds → PyData.showableAll ds = true → (∀ t ∈ PyData.shownAll ds, t.length ≤ sizeLine) → ∃ bs, ReadAtMost h₀ (PyData.depthAll ds) bs ∧ ReprAllK prog w bs h₀ (PyData.depthAll ds) vs (PyData.shownAll ds)
  | _, _, .nil, _, _ => ⟨[], (fun _ h => nomatch h), by simp only [PyData.shownAll]; exact .nil⟩
  | _, _, .cons (d := d) (ds := ds) x r, h, hz => by
    have hh : d.showable = true ∧ PyData.showableAll ds = true := by simpa [PyData.showableAll] using h
    obtain ⟨b1, c1, k1⟩ := RdX.repr x hh.1 (hz _ (by simp only [PyData.shownAll]; exact List.mem_cons_self ..))
    obtain ⟨b2, c2, k2⟩ := RdXs.repr r hh.2 (fun t m => hz t (by simp only [PyData.shownAll]; exact List.mem_cons_of_mem _ m))
    refine ⟨b1 ++ b2, ?_, ?_⟩
    · simp only [PyData.depthAll]
      exact (c1.mono (Nat.le_max_left _ _)).append (c2.mono (Nat.le_max_right _ _))
    · simp only [PyData.depthAll, PyData.shownAll]
      exact .cons ((k1.more fun b m => List.mem_append_left _ m).level_le (Nat.le_max_left _ _)) (k2.more_le (fun b m => List.mem_append_right _ m) (Nat.le_max_right _ _))
end
end
/-- a tuple of such things -/
def rReprG (K : PySem.W.Frag) : List V → Hp → VK → Prop := fun xs H Q => ∃ (a : Addr) (vs : List V) (ds : List PyData), xs = [.ref a] ∧ SqT K H a vs ∧ DpGs K H vs ds ∧ PyData.showableAll ds = true ∧ PyData.depthAll ds ≤ 60 ∧ (tupleText (PyData.shownAll ds)).length ≤ sizeLine ∧ Q (.str (tupleText (PyData.shownAll ds))) H
theorem call_reprG {X : Cx} (hg : X.A.guards = some []) (hu : X.A.units + 64 < cLine) : CallR X (.builtin "repr") (rReprG X.K) := by
  intro pins s σ H xs us Q I r h
  obtain ⟨a, vs, ds, rfl, hs, hl, h1, h2, hz, q⟩ := h
  obtain ⟨u, rfl, ru⟩ := vals1 r
  cases ru
  obtain ⟨its, rv, ⟨o, ho, hc, n, hd⟩, _⟩ := I.tuple hs
  have rx := DpGs.rdx I hl rv
  obtain ⟨bs, hb, hk⟩ := RdXs.repr (prog := X.prog) (w := X.w) (h₀ := s.heap) rx h1 (fun t m => Nat.le_trans (tupleText_mem_le m) hz)
  obtain ⟨as, q4⟩ := RdXs.reads rx
  have out : a ∉ bs := not_mem_of_deeper (Reads.tuple ho hc hd q4) (by simp only [PyData.depth]; omega) hb
  exact call_repr_slot (by omega) ⟨o, ho, hc⟩ F.slot_tuple_repr (call_tuple_reprK ho hc hd out hk (A := X.A.in1) (g := []) hg (fun b _ => Clear.nil b) (by show X.A.units + 1 + (PyData.depthAll ds + 1) < cLine; omega) (fun _ _ e => e)
    (fun h' t tk hkk => ⟨_, _, rfl, ⟨.str _, H, I.kept (t' := tk) hkk, ⟨_, rfl⟩, q⟩⟩) hz)

mutual
/-- what a thing is, dicts of plain worths in it too -/
def pyG : D → Option PyData
  | .non => some .none
  | .bl b => some (.bool b)
  | .int i => some (.int i)
  | .str s => some (.str s)
  | .tup ds => (pyGs ds).map .tuple
  | .lst ds => (pyGs ds).map .list
  | .dct kvs => (dkPy kvs).map .dict
  | _ => none
def pyGs : List D → Option (List PyData)
  | [] => some []
  | d :: r => match pyG d, pyGs r with
    | some x, some xs => some (x :: xs)
    | _, _ => none
end
section
variable {K : PySem.W.Frag} {F H : Hp} (e : Same F H)
include e
mutual
theorem Is.dpg : ∀ {v : V} {d : D} {p : PyData}, Is K F v d → pyG d = some p → DpG K H v p
  | _, _, _, .non, h => by cases h; exact .non
  | _, _, _, .bl b, h => by cases h; exact .bl b
  | _, _, _, .int i, h => by cases h; exact .int i
  | _, _, _, .str s, h => by cases h; exact .str s
  | _, _, _, .tup hs hl, h => by
    unfold pyG at h
    obtain ⟨ps, h1, rfl⟩ := Option.map_eq_some_iff.mp h
    exact .tup (sqt_up e hs) (IsL.dpg hl h1)
  | _, _, _, .lst hs hl, h => by
    unfold pyG at h
    obtain ⟨ps, h1, rfl⟩ := Option.map_eq_some_iff.mp h
    exact .lst (sql_up e hs) (IsL.dpg hl h1)
  | _, _, _, .dct hs hk hl, h => by
    unfold pyG at h
    obtain ⟨ps, h1, rfl⟩ := Option.map_eq_some_iff.mp h
    exact .dct (.inl (e _ _ hs)) (dkPy_is (kvIs_of hk hl) h1)
  | _, _, _, .obj a, h => by cases h
  | _, _, _, .ty a, h => by cases h
theorem IsL.dpg : ∀ {vs : List V} {ds : List D} {ps : List PyData}, IsL K F vs ds → pyGs ds = some ps → DpGs K H vs ps
  | _, _, _, .nil, h => by cases h; exact .nil
  | _, _, _, .cons i r, h => by
    unfold pyGs at h
    split at h
    · rename_i x xs e1 e2
      cases h
      exact .cons (Is.dpg i e1) (IsL.dpg r e2)
    · cases h
end
end
def reprGD : List D → W D
  | [.tup ds] => W.bnd (W.opt (pyGs ds)) fun ps => W.req (PyData.showableAll ps = true ∧ PyData.depthAll ps ≤ 60 ∧ (tupleText (PyData.shownAll ps)).length ≤ sizeLine) (W.ret (.str (tupleText (PyData.shownAll ps))))
  | xs => reprAD xs
theorem cd_reprG {K : PySem.W.Frag} : CallD K (fun xs H Q => rReprG K xs H Q ∨ (rRepr K xs H Q ∨ rReprD xs H Q)) reprGD := by
  intro F H μ xs ds Q ED Qh r il h bk
  unfold reprGD at h
  split at h
  · obtain ⟨v, rfl, i⟩ := isL1 il
    obtain ⟨ps, e, ⟨h1, h2, h3⟩, q⟩ := opt_of h
    cases i with
    | tup hs hl => exact .inl ⟨_, _, ps, rfl, sqt_up r.sub hs, IsL.dpg r.sub hl e, h1, h2, h3, back_is bk r (.str _) q⟩
  · exact .inr (cd_reprA F H μ xs ds Q ED Qh r il h bk)
/-- a def that is never to be called -/
theorem fng_bad {P : Program} {w : World} {K : PySem.W.Frag} {mg : Str → Option Value} {base : Heap} {k : Nat} {f : Addr} {fd : FuncData} {ps : List Str} : FnG P w K mg base CX0 k f fd ps (spD K ps.length (fun _ => W.bad)) :=
  ⟨fun vs H Q E h => h.1, fun A outer s H args us vs Q E _ _ _ _ _ h => by
    obtain ⟨_, F, ds, μ, Q', ED, _, _, _, hm, _⟩ := h
    exact hm.elim⟩
end DL

/-! DMd: a list of anything beside [] -/
namespace DL
open PySem PySem.Spec PyProof.Rows L2

def rEqL (K : PySem.W.Frag) (f : Bool → Bool) : R2 := fun x y H Q => ∃ a b xs, x = .ref a ∧ y = .ref b ∧ SqL K H a xs ∧ SqL K H b [] ∧ Q (.bl (f (decide (xs = [])))) H
theorem op_eqL {X : Cx} (hu : X.A.units + 64 < cLine) : OpR X (compareOp .Eq) (rEqL X.K id) := by
  intro pins s σ H x y v u Q I rx ry h
  obtain ⟨a, b, xs, rfl, rfl, ha, hb, q⟩ := h
  cases rx; cases ry
  obtain ⟨its, rv, ⟨o, n, ho, hc, _, hd⟩, _⟩ := I.list ha
  obtain ⟨its', rv', ⟨o', n', ho', hc', _, hd'⟩, _⟩ := I.list hb
  cases rv'
  have t1 : s.heap.IsList a its.toArray := ⟨o, ho, hc, n, hd⟩
  have t2 : s.heap.IsList b #[] := ⟨o', ho', hc', n', hd'⟩
  have hl := rv.length
  cases xs with
  | nil =>
    have e : its = [] := List.length_eq_zero_iff.mp (by simpa using hl.symm)
    subst e
    exact SeqAt.RcAt.lists (e := fun _ => true) t1 t2 rfl (by omega) (fun j _ h2 => absurd h2 (Nat.not_lt_zero j)) _ _ _ _ ⟨.bl _, H, I, rfl, q⟩
  | cons x r =>
    refine SeqAt.RcAt.lists_lengths t1 t2 ?_ (by omega) _ _ _ _ ⟨.bl _, H, I, rfl, q⟩
    cases its with
    | nil => simp at hl
    | cons y r' => simp
theorem op_neL {X : Cx} (hu : X.A.units + 64 < cLine) : OpR X (compareOp .NotEq) (rEqL X.K not) := by
  intro pins s σ H x y v u Q I rx ry h
  obtain ⟨a, b, xs, rfl, rfl, ha, hb, q⟩ := h
  cases rx; cases ry
  obtain ⟨its, rv, ⟨o, n, ho, hc, _, hd⟩, _⟩ := I.list ha
  obtain ⟨its', rv', ⟨o', n', ho', hc', _, hd'⟩, _⟩ := I.list hb
  cases rv'
  have t1 : s.heap.IsList a its.toArray := ⟨o, ho, hc, n, hd⟩
  have t2 : s.heap.IsList b #[] := ⟨o', ho', hc', n', hd'⟩
  have hl := rv.length
  cases xs with
  | nil =>
    have e : its = [] := List.length_eq_zero_iff.mp (by simpa using hl.symm)
    subst e
    exact SeqAt.RcNeAt.lists (e := fun _ => true) t1 t2 rfl (by omega) (fun j _ h2 => absurd h2 (Nat.not_lt_zero j)) _ _ _ _ ⟨.bl _, H, I, rfl, q⟩
  | cons x r =>
    refine SeqAt.RcNeAt.lists_lengths t1 t2 ?_ (by omega) _ _ _ _ ⟨.bl _, H, I, rfl, q⟩
    cases its with
    | nil => simp at hl
    | cons y r' => simp
def eqLD (f : Bool → Bool) (x y : D) : W D := match x, y with
  | .lst ds, .lst [] => W.ret (.bl (f (decide (ds = []))))
  | _, _ => W.bad
theorem opd_eqL {K : PySem.W.Frag} {f : Bool → Bool} : OpD K (rEqL K f) (eqLD f) := by
  intro F H μ x y dx dy Q ED Qh r ix iy h bk
  unfold eqLD at h
  split at h
  · rename_i ds
    cases ix with
    | lst hs hl =>
      rename_i vs
      cases iy with
      | lst hs' hl' =>
        cases hl'
        refine ⟨_, _, vs, rfl, rfl, sql_up r.sub hs, sql_up r.sub hs', ?_⟩
        have e := hl.length
        have e2 : decide (vs = ([] : List V)) = decide (ds = []) := by
          rw [Bool.eq_iff_iff, decide_eq_true_eq, decide_eq_true_eq, ← List.length_eq_zero_iff, ← List.length_eq_zero_iff, e]
        rw [e2]
        exact back_is bk r (.bl _) h
  · exact h.elim
theorem x_eqL {μ : Mem} {Q : D → Mem → Prop} {E : XD} {f : Bool → Bool} {ds : List D} : eqLD f (.lst ds) (.lst []) μ Q E = Q (.bl (f (decide (ds = [])))) μ := propext ⟨fun h => h, fun h => h⟩
end DL

/-! DMc: steps of DMa's words; things of any kind, their bounds -/
namespace DL
open PySem PySem.Spec PyProof.Rows L2

section
variable {μ : Mem} {Q : D → Mem → Prop} {E : XD}
theorem x_addBb {b : Bool} {j : Int} : addBD (.bl b) (.int j) μ Q E = Q (.int (tI b + j)) μ := propext ⟨fun h => h, fun h => h⟩
theorem x_addBi {i j : Int} : addBD (.int i) (.int j) μ Q E = Q (.int (i + j)) μ := propext ⟨fun h => h, fun h => h⟩
theorem x_addBs {a b : Str} : addBD (.str a) (.str b) μ Q E = (a.length + b.length ≤ sizeLine ∧ Q (.str (a ++ b)) μ) := propext ⟨fun h => h, fun h => h⟩
theorem x_addBt {a b : List D} : addBD (.tup a) (.tup b) μ Q E = (a.length + b.length ≤ sizeLine ∧ Q (.tup (a ++ b)) μ) := propext ⟨fun h => h, fun h => h⟩
theorem x_addBl {a b : List D} : addBD (.lst a) (.lst b) μ Q E = (a.length + b.length ≤ sizeLine ∧ Q (.lst (a ++ b)) μ) := propext ⟨fun h => h, fun h => h⟩
theorem x_subBb {b : Bool} {j : Int} : subBD (.bl b) (.int j) μ Q E = Q (.int (tI b - j)) μ := propext ⟨fun h => h, fun h => h⟩
theorem x_subBib {i : Int} {b : Bool} : subBD (.int i) (.bl b) μ Q E = Q (.int (i - tI b)) μ := propext ⟨fun h => h, fun h => h⟩
theorem x_subBi {i j : Int} : subBD (.int i) (.int j) μ Q E = Q (.int (i - j)) μ := propext ⟨fun h => h, fun h => h⟩
theorem x_mulBb {b : Bool} {j : Int} : mulBD (.bl b) (.int j) μ Q E = Q (.int (tI b * j)) μ := propext ⟨fun h => h, fun h => h⟩
theorem x_mulBi {i j : Int} : mulBD (.int i) (.int j) μ Q E = mulAD (.int i) (.int j) μ Q E := propext ⟨fun h => h, fun h => h⟩
theorem x_strI {i : Int} : strD [.int i] μ Q E = (i.natAbs.log2 < 1920 ∧ Q (.str (PySem.Str.ofString (toString i))) μ) := propext ⟨fun h => h, fun h => h⟩
theorem x_strB {b : Bool} : strD [.bl b] μ Q E = Q (.str (blS b)) μ := propext ⟨fun h => h, fun h => h⟩
theorem x_up {z : Str} : upperD (.str z) [] μ Q E = (z.length ≤ 5592405 ∧ Q (.str (Txt.upper z)) μ) := propext ⟨fun h => h, fun h => h⟩
theorem x_eqT {f : Bool → Bool} {ds : List D} : eqTD f (.tup ds) (.tup []) μ Q E = Q (.bl (f (decide (ds = [])))) μ := propext ⟨fun h => h, fun h => h⟩
theorem ty_strM2 {z : Str} : tyD "str" (.str z) μ = True := ty_str ..
end
mutual
/-- how much room a thing's repr takes -/
def dsx : D → Nat
  | .non => 4
  | .bl _ => 5
  | .int _ => 1921
  | .str s => 10 * s.length + 2
  | .tup ds => dsxL ds + 3
  | .lst ds => dsxL ds + 3
  | _ => 2
def dsxL : List D → Nat
  | [] => 0
  | d :: r => dsx d + 2 + dsxL r
end
mutual
/-- plain things and {}: numbers and texts within bounds that grow with s -/
def okx (s : Nat) : D → Bool
  | .non => true
  | .bl _ => true
  | .int i => decide (i.natAbs ≤ 10000000000000000000000000000000000000000 * (s + 1))
  | .str x => decide (x.length ≤ 2000 * (s + 1)) && x.cps.toList.all fun c => decide (c < 128)
  | .tup ds => okxL s ds
  | .lst ds => okxL s ds
  | .dct kvs => kvs.isEmpty
  | _ => false
def okxL (s : Nat) : List D → Bool
  | [] => true
  | d :: r => okx s d && okxL s r
end
mutual
def toPyG : D → PyData
  | .non => .none
  | .bl b => .bool b
  | .int i => .int i
  | .str s => .str s
  | .tup ds => .tuple (toPyGs ds)
  | .lst ds => .list (toPyGs ds)
  | .dct _ => .dict []
  | _ => .none
def toPyGs : List D → List PyData
  | [] => []
  | d :: r => toPyG d :: toPyGs r
end
theorem okxL_all {s : Nat} : ∀ {ds : List D}, okxL s ds = true ↔ ∀ x ∈ ds, okx s x = true
  | [] => ⟨fun _ _ h => (nomatch h), fun _ => rfl⟩
  | d :: r => by
    show (okx s d && okxL s r) = true ↔ _
    rw [Bool.and_eq_true, okxL_all (ds := r), List.forall_mem_cons]
mutual
theorem okx_up {s s' : Nat} (hs : s ≤ s') : ∀ {d : D}, okx s d = true → okx s' d = true
  | .non, _ => rfl
  | .bl _, _ => rfl
  | .int i, h => by
    have h' := of_decide_eq_true (show decide (i.natAbs ≤ 10000000000000000000000000000000000000000 * (s + 1)) = true from h)
    exact decide_eq_true (by omega)
  | .str x, h => by
    have h' := Bool.and_eq_true_iff.mp (show (decide (x.length ≤ 2000 * (s + 1)) && x.cps.toList.all fun c => decide (c < 128)) = true from h)
    have h1 := of_decide_eq_true h'.1
    exact Bool.and_eq_true_iff.mpr ⟨decide_eq_true (by omega), h'.2⟩
  | .tup ds, h => okxL_up hs (ds := ds) h
  | .lst ds, h => okxL_up hs (ds := ds) h
  | .dct kvs, h => h
  | .obj _, h => by cases h
  | .ty _, h => by cases h
theorem okxL_up {s s' : Nat} (hs : s ≤ s') : ∀ {ds : List D}, okxL s ds = true → okxL s' ds = true
  | [], _ => rfl
  | d :: r, h => by
    have h' := Bool.and_eq_true_iff.mp (show (okx s d && okxL s r) = true from h)
    exact Bool.and_eq_true_iff.mpr ⟨okx_up hs h'.1, okxL_up hs h'.2⟩
end
theorem piledX {x : Str} (h : ∀ c ∈ x.cps.toList, c < 128) : (reprText x).length ≤ 10 * x.length + 2 := StrLaws.reprText_len x fun c hc => by have := h c hc; omega
mutual
theorem okx_py {s : Nat} (hs : s ≤ 10) : ∀ {d : D}, okx s d = true → pyG d = some (toPyG d) ∧ (toPyG d).showable = true ∧ (toPyG d).depth ≤ dpt d + 1 ∧ (toPyG d).shown.length ≤ dsx d
  | .non, _ => ⟨rfl, rfl, Nat.zero_le _, by decide⟩
  | .bl b, _ => ⟨rfl, rfl, Nat.zero_le _, by cases b <;> decide⟩
  | .int i, h => by
    have h' := of_decide_eq_true (show decide (i.natAbs ≤ 10000000000000000000000000000000000000000 * (s + 1)) = true from h)
    have hb : i.natAbs.log2 < 1920 := Nat.lt_trans (log_lt (k := 1000) (by decide) (Nat.lt_of_le_of_lt (show i.natAbs ≤ 2 ^ 150 by omega) (Nat.pow_lt_pow_right (by decide) (by decide)))) (by decide)
    exact ⟨rfl, by simpa [PyData.showable, toPyG] using hb, Nat.zero_le _, int_text_len_1921 hb⟩
  | .str x, h => by
    have h' := Bool.and_eq_true_iff.mp (show (decide (x.length ≤ 2000 * (s + 1)) && x.cps.toList.all fun c => decide (c < 128)) = true from h)
    exact ⟨rfl, rfl, Nat.zero_le _, piledX fun c hc => of_decide_eq_true (List.all_eq_true.mp h'.2 c hc)⟩
  | .tup ds, h => by
    obtain ⟨h1, h3, h4, h5⟩ := okxL_py hs (ds := ds) h
    refine ⟨by unfold pyG; rw [h1]; rfl, h3, by show PyData.depthAll _ + 1 ≤ dptL ds + 1 + 1; omega, ?_⟩
    have := tupleText_le (PyData.shownAll (toPyGs ds))
    show (tupleText (PyData.shownAll (toPyGs ds))).length ≤ dsxL ds + 3
    omega
  | .lst ds, h => by
    obtain ⟨h1, h3, h4, h5⟩ := okxL_py hs (ds := ds) h
    refine ⟨by unfold pyG; rw [h1]; rfl, h3, by show PyData.depthAll _ + 1 ≤ dptL ds + 1 + 1; omega, ?_⟩
    have := listText_le (PyData.shownAll (toPyGs ds))
    show (listText (PyData.shownAll (toPyGs ds))).length ≤ dsxL ds + 3
    omega
  | .dct [], _ => ⟨rfl, rfl, by decide, by decide +kernel⟩
  | .dct (_ :: _), h => by cases h
  | .obj _, h => by cases h
  | .ty _, h => by cases h
theorem okxL_py {s : Nat} (hs : s ≤ 10) : ∀ {ds : List D}, okxL s ds = true → pyGs ds = some (toPyGs ds) ∧ PyData.showableAll (toPyGs ds) = true ∧ PyData.depthAll (toPyGs ds) ≤ dptL ds + 1 ∧ piled (PyData.shownAll (toPyGs ds)) ≤ dsxL ds
  | [], _ => ⟨rfl, rfl, Nat.zero_le _, Nat.le_refl _⟩
  | d :: r, h => by
    have h' := Bool.and_eq_true_iff.mp (show (okx s d && okxL s r) = true from h)
    obtain ⟨a1, a2, a3, a4⟩ := okx_py hs h'.1
    obtain ⟨b1, b2, b3, b4⟩ := okxL_py hs h'.2
    refine ⟨?_, ?_, ?_, ?_⟩
    · unfold pyGs
      rw [a1, b1]
      rfl
    · show ((toPyG d).showable && PyData.showableAll (toPyGs r)) = true
      rw [a2, b2]
      rfl
    · show max (toPyG d).depth (PyData.depthAll (toPyGs r)) ≤ max (dpt d) (dptL r) + 1
      omega
    · show piled ((toPyG d).shown :: PyData.shownAll (toPyGs r)) ≤ dsx d + 2 + dsxL r
      rw [piled_cons]
      omega
end
theorem dsxL_app : ∀ a b : List D, dsxL (a ++ b) = dsxL a + dsxL b
  | [], b => by rw [List.nil_append]; show _ = 0 + _; omega
  | d :: r, b => by
    show dsx d + 2 + dsxL (r ++ b) = dsx d + 2 + dsxL r + dsxL b
    rw [dsxL_app r b]
    omega
theorem dsxL_mem {x : D} : ∀ {l : List D}, x ∈ l → dsx x + 2 ≤ dsxL l
  | [], h => nomatch h
  | d :: r, h => by
    show dsx x + 2 ≤ dsx d + 2 + dsxL r
    rcases List.mem_cons.mp h with z | z
    · rw [z]; omega
    · have := dsxL_mem z
      omega
theorem dsxL_take (n : Nat) (l : List D) : dsxL (l.take n) ≤ dsxL l := by
  have h := dsxL_app (l.take n) (l.drop n)
  rw [List.take_append_drop] at h
  omega
theorem dsxL_drop (n : Nat) (l : List D) : dsxL (l.drop n) ≤ dsxL l := by
  have h := dsxL_app (l.take n) (l.drop n)
  rw [List.take_append_drop] at h
  omega
theorem dsxL_cut (l : List D) (lo hi : Option Int) : dsxL (cutD l lo hi) ≤ dsxL l := Nat.le_trans (dsxL_take _ _) (dsxL_drop _ _)
theorem dsxL_rev : ∀ l : List D, dsxL l.reverse = dsxL l
  | [] => rfl
  | d :: r => by
    rw [List.reverse_cons, dsxL_app, dsxL_rev r]
    show _ + (dsx d + 2 + 0) = dsx d + 2 + _
    omega
theorem dsxL_len : ∀ l : List D, 2 * l.length ≤ dsxL l
  | [] => Nat.le_refl _
  | d :: r => by
    have := dsxL_len r
    show 2 * (r.length + 1) ≤ dsx d + 2 + dsxL r
    omega
theorem dpt_mem {x : D} : ∀ {l : List D}, x ∈ l → dpt x ≤ dptL l
  | [], h => nomatch h
  | d :: r, h => by
    show dpt x ≤ max (dpt d) (dptL r)
    rcases List.mem_cons.mp h with z | z
    · rw [z]; omega
    · have := dpt_mem z
      omega
/-- a thing of any kind -/
structure An (s k Z : Nat) (d : D) : Prop where
  ok : okx s d = true
  dp : dpt d ≤ k
  sz : dsx d ≤ Z
theorem An.up {s k Z s' k' Z' : Nat} {d : D} (h : An s k Z d) (hs : s ≤ s') (hk : k ≤ k') (hz : Z ≤ Z') : An s' k' Z' d := ⟨okx_up hs h.ok, Nat.le_trans h.dp hk, Nat.le_trans h.sz hz⟩
theorem An.tup {s k Z : Nat} {es : List D} (h : ∀ x ∈ es, okx s x = true ∧ dpt x ≤ k) (hz : dsxL es + 3 ≤ Z) : An s (k + 1) Z (.tup es) :=
  ⟨okxL_all.mpr fun x hx => (h x hx).1, Nat.succ_le_succ (dptL_mem fun x hx => (h x hx).2), hz⟩
theorem An.lst {s k Z : Nat} {es : List D} (h : ∀ x ∈ es, okx s x = true ∧ dpt x ≤ k) (hz : dsxL es + 3 ≤ Z) : An s (k + 1) Z (.lst es) :=
  ⟨okxL_all.mpr fun x hx => (h x hx).1, Nat.succ_le_succ (dptL_mem fun x hx => (h x hx).2), hz⟩
theorem An.mem {s k Z : Nat} {es : List D} (h : An s k Z (.tup es)) : ∀ x ∈ es, okx s x = true ∧ dpt x + 1 ≤ k := fun x hx =>
  ⟨okxL_all.mp h.ok x hx, Nat.le_trans (Nat.succ_le_succ (dpt_mem hx)) h.dp⟩
theorem An.at {s k Z : Nat} {es : List D} (h : An s k Z (.tup es)) {x : D} (hx : x ∈ es) : An s (k - 1) Z x := by
  have hz : dsxL es + 3 ≤ Z := h.sz
  have := dsxL_mem hx
  have := (h.mem x hx).2
  exact ⟨(h.mem x hx).1, by omega, by omega⟩
theorem An.int {s k Z : Nat} {i : Int} (h : i.natAbs ≤ 10000000000000000000000000000000000000000 * (s + 1)) (hz : 1921 ≤ Z) : An s k Z (.int i) := ⟨decide_eq_true h, Nat.zero_le _, hz⟩
theorem An.int' {s k Z : Nat} {i : Int} (h : An s k Z (.int i)) : i.natAbs ≤ 10000000000000000000000000000000000000000 * (s + 1) := of_decide_eq_true h.ok
theorem An.str {s k Z : Nat} {x : Str} (h : x.length ≤ 2000 * (s + 1)) (hc : ∀ c ∈ x.cps.toList, c < 128) (hz : 10 * x.length + 2 ≤ Z) : An s k Z (.str x) :=
  ⟨Bool.and_eq_true_iff.mpr ⟨decide_eq_true h, List.all_eq_true.mpr fun c m => decide_eq_true (hc c m)⟩, Nat.zero_le _, hz⟩
theorem An.str' {s k Z : Nat} {x : Str} (h : An s k Z (.str x)) : x.length ≤ 2000 * (s + 1) ∧ (∀ c ∈ x.cps.toList, c < 128) ∧ 10 * x.length + 2 ≤ Z := by
  have h' := Bool.and_eq_true_iff.mp h.ok
  exact ⟨of_decide_eq_true h'.1, fun c m => of_decide_eq_true (List.all_eq_true.mp h'.2 c m), h.sz⟩
theorem An.non {s k Z : Nat} (hz : 4 ≤ Z) : An s k Z .non := ⟨rfl, Nat.zero_le _, hz⟩
theorem An.bl {s k Z : Nat} {b : Bool} (hz : 5 ≤ Z) : An s k Z (.bl b) := ⟨rfl, Nat.zero_le _, hz⟩
theorem int_ascii (i : Int) : ∀ c ∈ (PySem.Str.ofString (toString i)).cps.toList, c < 128 := fun c hc => by
  rcases Nat.lt_or_ge c 128 with z | z
  · exact z
  · exact absurd hc (int_text_free' c ⟨by omega, by omega⟩ i)
theorem up_ascii {x : Str} (h : ∀ c ∈ x.cps.toList, c < 128) : (Txt.upper x).length = x.length ∧ ∀ c ∈ (Txt.upper x).cps.toList, c < 128 := by
  rw [upper_ascii h]
  refine ⟨Array.size_map .., fun c hc => ?_⟩
  rw [Array.toList_map] at hc
  obtain ⟨b, hb, rfl⟩ := List.mem_map.mp hc
  have := h b hb
  unfold up1
  split <;> omega
/-- repr of two of them -/
theorem An.repr2 {s k Z : Nat} {x y : D} {μ : Mem} {Q : D → Mem → Prop} {E : XD} (hx : An s k Z x) (hy : An s k Z y) (hs : s ≤ 10) (hk : k ≤ 50) (hz : Z ≤ 1000000) (q : ∀ w : Str, w = tupleText (PyData.shownAll (toPyGs [x, y])) → Q (.str w) μ) : reprGD [.tup [x, y]] μ Q E := by
  have ok : okxL s [x, y] = true := okxL_all.mpr fun z hz => by
    simp only [List.mem_cons, List.not_mem_nil, or_false] at hz
    rcases hz with rfl | rfl
    · exact hx.ok
    · exact hy.ok
  obtain ⟨h1, h2, h3, h4⟩ := okxL_py hs ok
  have l := tupleText_le (PyData.shownAll (toPyGs [x, y]))
  have e : dsxL [x, y] = dsx x + 2 + (dsx y + 2 + 0) := rfl
  have e2 : dptL [x, y] = max (dpt x) (max (dpt y) 0) := rfl
  have a1 := hx.sz
  have a2 := hy.sz
  have a3 := hx.dp
  have a4 := hy.dp
  show W.opt (pyGs [x, y]) μ (fun ps μ' => (PyData.showableAll ps = true ∧ PyData.depthAll ps ≤ 60 ∧ (tupleText (PyData.shownAll ps)).length ≤ sizeLine) ∧ Q (.str (tupleText (PyData.shownAll ps))) μ') E
  rw [h1]
  exact ⟨⟨h2, by omega, by rw [sz_eq]; omega⟩, q _ rfl⟩
end DL

/-! DMe: tuples can be sorted, empty ones among them too -/
namespace DL
open PySem PySem.Spec PyProof.Rows L2 PySem.W PySem.SeqAt PySem.Calls

section
variable {prog : Program} {w : World} {A : Around} {E : Value → Shared → Prop} {s : Shared}
theorem tup_lt {Q : Value → Shared → Prop} {l b : Addr} {xs ys : Array Value} {e r : Nat → Bool} (hl : s.heap.IsTuple l xs) (hb : s.heap.IsTuple b ys)
    (he : ∀ j (h1 : j < xs.size) (h2 : j < ys.size), EqAt A.in1 s xs[j] ys[j] (e j)) (hr : ∀ j (h1 : j < xs.size) (h2 : j < ys.size), e j = false → RcLt A.in1 s xs[j] ys[j] (r j))
    (h : Q (.bool (firstLt e r (decide (xs.size < ys.size)) (List.range (min xs.size ys.size)))) s) : wpAny (model prog w) A (call (.builtin "tuple.__lt__") [.ref l, .ref b]) Q E s := by
  obtain ⟨⟨c1, d1, t1, l1⟩, g1, e1, n1, f1⟩ := id hl
  obtain ⟨⟨c2, d2, t2, l2⟩, g2, e2, n2, f2⟩ := id hb
  simp only at e1 f1 e2 f2
  subst e1 f1 e2 f2
  exact call_meets F.slot_tuple_lt ⟨_, g1, rfl⟩ F.entry_tuple_lt (F.args_tuple_lt_2 _ _) (tuple_ltAt l b xs ys n1 n2 d1 d2 l1 l2 e r) ⟨g1, g2, he, hr, h⟩
/-- one tuple against another, as sorting asks where all keys are of one type -/
theorem one_tup {xs ys : List PyData} {a b : Value} {as bs : List Addr} {Q : Bool → Shared → Prop} (ra : Reads s.heap a (.tuple xs) as) (rb : Reads s.heap b (.tuple ys) bs) (h : alikeAll xs ys = true)
    (hu : A.units + min (PyData.tuple xs).depth (PyData.tuple ys).depth < cLine) (hq : Q (dataLt (.tuple xs) (.tuple ys)) s) : wpAny (model prog w) A (oneLt' true a b) Q E s := by
  cases ra with
  | @tuple l o vs n _ as₁ h1 h2 h3 h4 =>
    cases rb with
    | @tuple l' o' vs' n' _ bs₁ k1 k2 k3 k4 =>
      have n1 : vs.size = xs.length := by simpa using ReadsAll.length _ _ _ h4
      have n2 : vs'.size = ys.length := by simpa using ReadsAll.length _ _ _ k4
      rw [dataLt_tuple, ← firstLt_toks xs ys h, ← n1, ← n2] at hq
      rw [oneLt'_eq]
      simp only [if_true]
      refine wpAny_bind (wpAny_cRoomFor (room_here hu) (wpAny_bind (wpAny_callSpecialIfBound?_slot (T := "tuple") ⟨_, h1, h2⟩ F.slot_tuple_lt (tup_lt (e := pairEq xs ys) (r := fun j => dataLt (xs.getD j .none) (ys.getD j .none)) ⟨_, h1, h2, _, h3⟩ ⟨_, k1, k2, _, k3⟩ (fun j j1 j2 => ?_) (fun j j1 j2 hj => ?_) (wpAny_truthy_bool hq)))))
      · have z := eqAt_alikeAll xs ys A.in1 s vs.toList vs'.toList _ _ h4 k4 h (room_in hu) j (by simpa using j1) (by simpa using j2)
        simpa using z
      · have z := rcLt_alikeAll xs ys A.in1 s vs.toList vs'.toList _ _ h4 k4 h (room_in hu) j (by simpa using j1) (by simpa using j2) hj
        simpa using z
def emT : PyData → Bool
  | .tuple [] => true
  | _ => false
theorem emT_of {d : PyData} (h : d ≠ .tuple []) : emT d = false := by
  cases d with
  | tuple xs =>
    cases xs with
    | nil => exact absurd rfl h
    | cons _ _ => rfl
  | _ => rfl
/-- the first parts of tuples, where they have one -/
theorem firsts_w {M : Model} : ∀ (vs : List Value) (ds : List PyData) {Q : List (Option Value) → Shared → Prop}, EachIs (fun v d => ∃ as, Reads s.heap v d as) vs ds → (∀ d ∈ ds, ∃ xs, d = .tuple xs) →
    (∀ os : List (Option Value), os.length = vs.length → (∀ (i : Nat) d, ds[i]? = some d → (os[i]?.bind id).isSome = !emT d) → Q os s) → wpAny M A (vs.mapM firstOfTuple') Q E s
  | [], [], _, .nil, _, h => by rw [List.mapM_nil]; exact wpAny_pure (h [] rfl fun i d e => by simp at e)
  | v :: vs, d :: ds, Q, .cons ⟨as, r⟩ t, ht, h => by
    obtain ⟨xs, rfl⟩ := ht _ (List.mem_cons_self ..)
    rw [List.mapM_cons]
    refine wpAny_bind ?_
    cases r with
    | @tuple a o us n _ _ ho hc hd hr =>
      rw [kas_first_eq]
      refine wpAny_bind (Looks.here (show Looks M s.heap (typeOf (.ref a)) o.cls from (Looks.ld ho).andThen .now) ?_)
      rw [hc, if_neg (by first | decide | simp)]
      refine wpAny_bind (listItems_at ho hd (wpAny_pure ?_))
      refine wpAny_bind (firsts_w vs ds (Q := fun bs s' => wpAny M A (pure (us[0]? :: bs)) Q E s') t (fun d hd => ht d (List.mem_cons_of_mem _ hd)) fun os hl ho' => wpAny_pure (h _ (by rw [List.length_cons, List.length_cons, hl]) fun i d e => ?_))
      cases i with
      | zero =>
        cases e
        have nn : us.size = xs.length := by simpa using ReadsAll.length _ _ _ hr
        show (us[0]?).isSome = _
        cases xs with
        | nil =>
          have e0 : us.size = 0 := nn
          rw [Array.getElem?_eq_none (by omega)]
          rfl
        | cons x xr =>
          have e0 : 0 < us.size := by rw [nn]; exact Nat.succ_pos _
          rw [Array.getElem?_eq_getElem e0]
          rfl
      | succ i => exact ho' i d (by simpa using e)
theorem types_w {M : Model} {vs : List Value} {Q : Option Value → Shared → Prop} (h2 : 1 ≤ vs.length) (hT : ∀ v ∈ vs, Looks M s.heap (typeOf v) (Value.type "tuple")) (h : Q (some (Value.type "tuple")) s) : wpAny M A (oneTypeOnly' vs.toArray) Q E s := by
  obtain ⟨v₁, rest, rfl⟩ : ∃ v₁ rest, vs = v₁ :: rest := by
    match vs, h2 with
    | v₁ :: rest, _ => exact ⟨v₁, rest, rfl⟩
  rw [oneTypeOnly'_eq, List.mapM_toArray, map_eq_pure_bind]
  refine wpAny_bind (wpAny_bind (kas_mapM (r := Value.type "tuple") _ (fun v hv Q' hq => Looks.here (hT v hv) hq) (wpAny_pure ?_)))
  have e0 : (((v₁ :: rest).map fun _ => Value.type "tuple").toArray)[0]? = some (Value.type "tuple") := rfl
  rw [e0]
  dsimp only
  have e1 : (((v₁ :: rest).map fun _ => Value.type "tuple").toArray.all fun x => x == Value.type "tuple") = true := by simp
  rw [if_pos e1]
  exact wpAny_pure h
/-- tuples of alike things, empty ones too -/
theorem sorts_tups {vs : List Value} {ds : List PyData} (e : EachIs (fun v d => ∃ as, Reads s.heap v d as) vs ds) (hal : AllAlike ds) (ht : ∀ d ∈ ds, ∃ xs, d = .tuple xs) (hu : ∀ d, d ∈ ds → A.units + d.depth < cLine) : SortsAt prog w A s (dataKind s.heap ds) vs := by
  by_cases hall : ∀ d ∈ ds, d ≠ .tuple []
  · refine SortsAt.data e hal (.inl fun d hd => ?_) hu
    obtain ⟨xs, rfl⟩ := ht d hd
    cases xs with
    | nil => exact absurd rfl (hall _ hd)
    | cons x r => exact ⟨x, r, rfl⟩
  have room : ∀ {d d' : PyData}, d ∈ ds → A.units + min d.depth d'.depth < cLine := fun {d d'} hd => Nat.lt_of_le_of_lt (Nat.add_le_add_left (Nat.min_le_left _ _) _) (hu d hd)
  have kys : ∀ v, v ∈ vs → ∃ a, (dataKind s.heap ds).keyOf v = some a := fun v hv => by
    obtain ⟨d, hd, as, r⟩ := e.left v hv
    exact ⟨_, dataKind_some hal hd r⟩
  have hle := e.length
  obtain ⟨d0, hd0, he0⟩ : ∃ d ∈ ds, d = .tuple [] := by
    refine Classical.byContradiction fun hn => hall fun d hd z => hn ⟨d, hd, z⟩
  have notall : ∀ os : List (Option Value), os.length = vs.length → (∀ (i : Nat) d, ds[i]? = some d → (os[i]?.bind id).isSome = !emT d) → (os.toArray.all fun x => x.isSome) = false := fun os hl ho => by
    obtain ⟨i, hi⟩ := List.getElem?_of_mem hd0
    have h1 := ho i d0 hi
    rw [he0] at h1
    rw [Bool.eq_false_iff]
    intro hz
    have hz' : os.all (fun x => x.isSome) = true := by simpa using hz
    have hlt : i < os.length := by
      have := (List.getElem?_eq_some_iff.mp hi).1
      omega
    have h2 := List.all_eq_true.mp hz' os[i] (List.getElem_mem hlt)
    rw [List.getElem?_eq_getElem hlt] at h1
    have h3 : (os[i]).isSome = false := by simpa [emT] using h1
    rw [h3] at h2
    cases h2
  cases ds with
  | nil => cases hd0
  | cons df dr =>
    by_cases hf : df = .tuple []
    · refine ⟨kys, oneType', fun E' x y a b Q ha hb hq => ?_, fun h2 E' Q hq => ?_⟩
      · obtain ⟨d, as, hd, ra, rfl⟩ := dataKind_inv ha
        obtain ⟨d', as', hd', rb, rfl⟩ := dataKind_inv hb
        have hdd := hal d hd d' hd'
        have hroom := room (d' := d') hd
        obtain ⟨xs, rfl⟩ := ht d hd
        obtain ⟨ys, rfl⟩ := ht d' hd'
        rw [keyLt'_oneType]
        exact one_tup ra rb (by simpa [alike] using hdd) hroom hq
      · rw [keyKind'_eq, List.mapM_toArray, map_eq_pure_bind]
        refine wpAny_bind (wpAny_bind (firsts_w vs _ e ht fun os hl ho => wpAny_pure ?_))
        rw [if_neg (by rw [notall os hl ho]; decide)]
        have z := ho 0 df rfl
        rw [hf] at z
        have z' : ((os.toArray)[0]?.bind id).isSome = false := by simpa [emT] using z
        rw [if_neg (by rw [z']; decide)]
        refine wpAny_bind (types_w (by omega) (fun v hv => ?_) ?_)
        · obtain ⟨d, hd, as, r⟩ := e.left v hv
          obtain ⟨xs, rfl⟩ := ht d hd
          exact looks_reads r
        · exact wpAny_pure hq
    · refine ⟨kys, general', fun E' x y a b Q ha hb hq => ?_, fun h2 E' Q hq => ?_⟩
      · obtain ⟨d, as, hd, ra, rfl⟩ := dataKind_inv ha
        obtain ⟨d', as', hd', rb, rfl⟩ := dataKind_inv hb
        have hdd := hal d hd d' hd'
        have hroom := room (d' := d') hd
        obtain ⟨xs, rfl⟩ := ht d hd
        show wpAny (model prog w) A (oneLt' false x y) Q E' s
        exact oneLt_alike (fun z => nomatch z) ra rb hdd (fun z => nomatch z) hroom hq
      · rw [keyKind'_eq, List.mapM_toArray, map_eq_pure_bind]
        refine wpAny_bind (wpAny_bind (firsts_w vs _ e ht fun os hl ho => wpAny_pure ?_))
        rw [if_neg (by rw [notall os hl ho]; decide)]
        have z := ho 0 df rfl
        have z' : ((os.toArray)[0]?.bind id).isSome = true := by
          rw [emT_of hf] at z
          simpa using z
        rw [if_pos z']
        exact wpAny_pure hq
end
end DL

/-! DMf: sorted(t, key=f), t a tuple, f a def -/
namespace DL
open PySem PySem.Spec PyProof.Rows L2 PySem.W PySem.SeqAt PySem.Calls

section
variable {prog : Program} {w : World} {A : Around} {E : Value → Shared → Prop} {s : Shared}
theorem collect_t {l : Addr} {us : List Value} {Q : List Value → Shared → Prop} (hl : s.heap.IsTuple l us.toArray)
    (h : Q us { s with heap := (s.heap.push (seqObj "list" #[] 0)).update s.heap.objs.size (Obj.mapSeq (· ++ us.toArray)) }) (hz : us.length ≤ sizeLine) : wpAny (model prog w) A (collect (.ref l)) Q E s := by
  obtain ⟨ob, g1, g2, n, g3⟩ := id hl
  have g4 : (s.heap.push (seqObj "list" #[] 0)).get? l = some ob := Heap.get?_push_of_some _ g1
  unfold collect
  refine wpAny_bind (wpAny_runValue (codeAny_builtin entry_proto_collect' ?_))
  show wpAny _ _ (do again (.builtin "list.__iadd__" ⟨[← newList [], .ref l], []⟩)) _ _ _
  refine wpAny_bind (wpAny_newList (wpAny_pure ⟨Code.quiet_builtin _ (by decide +kernel), codeAny_builtin entry_list_iadd' ?_⟩))
  show wpAny _ _ (Builtin.List.listExtendWith (.ref s.heap.objs.size) (.ref l) (.ref s.heap.objs.size)) _ _ _
  unfold Builtin.List.listExtendWith
  refine wpAny_bind (wpAny_typeOf (T := "tuple") ⟨ob, g4, g2⟩ ?_)
  have tt : (Value.type "tuple" == Value.type "tuple") = true := rfl
  rw [if_pos (by rw [tt]; simp)]
  refine wpAny_bind (listItems_at g4 g3 (wpAny_bind (listItems_at (xs := #[]) (n := 0) (Heap.get?_push_size _ rfl) rfl ?_)))
  rw [if_neg (by simp)]
  refine wpAny_bind (listUpdate_at (xs := #[]) (n := 0) (Heap.get?_push_size _ rfl) rfl ?_ (Nat.zero_le _) (by
    show (#[] ++ us.toArray).size ≤ sizeLine + 1
    rw [Array.size_append, List.size_toArray]
    show 0 + us.length ≤ _
    omega))
  refine wpAny_pure ?_
  refine wpAny_bind (wpAny_load (get?_update_seq (Heap.get?_push_size _ rfl) _) ?_)
  show wpAny _ _ (pure ((#[] : Array Value) ++ us.toArray).toList) Q E _
  have e0 : ((#[] : Array Value) ++ us.toArray).toList = us := by simp
  rw [e0]
  exact wpAny_pure h
theorem sorted_t {l : Addr} {us : List Value} {kw : List (Str × Value)} {Q : Value → Shared → Prop} (hl : s.heap.IsTuple l us.toArray) (hz : us.length ≤ sizeLine) (h1 : argsOk "sorted" ⟨[.ref l], kw⟩) (h2 : ∀ x, argsOk "list.sort" ⟨[.ref x], kw⟩)
    (body : ∀ E' : Value → Shared → Prop, wpAny (model prog w) A.in1.in1 (Builtin.«list.sort» ⟨[.ref (s.heap.objs.size + 1)], kw⟩) (fun f s' => f = .done (.ret .none) ∧ Q (.ref (s.heap.objs.size + 1)) s') E' { s with heap := copyHeap s.heap us }) :
    wpAny (model prog w) A (call (.builtin "sorted") [.ref l] kw) Q E s := by
  refine call_function_entry_kw kind_sorted plain_sorted entry_sorted h1 ?_
  unfold Builtin.«sorted»
  refine wpAny_bind (m := checkCount "sorted" 1 1 _) (wpAny_pure (wpAny_bind (collect_t hl (wpAny_bind (wpAny_newList ?_ hz)) hz)))
  have e : ((s.heap.push (seqObj "list" #[] 0)).update s.heap.objs.size (Obj.mapSeq (· ++ us.toArray))).objs.size = s.heap.objs.size + 1 := by rw [Heap.size_update, size_push']
  show wpAny _ _ _ _ _ { s with heap := copyHeap s.heap us }
  rw [e]
  refine wpAny_bind (wpAny_holding (wpAny_call_entry_kw slot_list_sort ⟨_, copyHeap_at s.heap us, rfl⟩ entry_list_sort ?body (h2 _)))
  case body =>
    refine wpAny_mono (body _) (fun f s' hf => ?_) fun _ _ x => x
    obtain ⟨rfl, hq⟩ := hf
    exact ⟨_, rfl, wpAny_pure ⟨_, rfl, hq⟩⟩
/-- the keys are made one by one -/
theorem keys_rest {f : Value} {a kS : Addr} {b : Bool} {vs : List Value} {e1 : Nat} {P : PySem.Fin → Shared → Prop} (J : Nat → Array Value → Shared → Prop)
    (at_ : ∀ i kA s', J i kA s' → ∃ e, s'.heap.get? kS = some (seqObj "list" kA e))
    (turn : ∀ (i : Nat) (v : Value) (kA : Array Value) (s' : Shared), vs[i]? = some v → J i kA s' → wpAny (model prog w) A (call f [v]) (fun k s2 => ∃ e, s2.heap.get? kS = some (seqObj "list" kA e) ∧ kA.size ≤ sizeLine ∧ J (i + 1) (kA.push k) { s2 with heap := s2.heap.update kS (Obj.mapSeq (·.push k)) }) (fun _ _ => False) s')
    (fin : ∀ kA s', J vs.length kA s' → wpAny (model prog w) A (ksk_end a b vs.toArray e1 (.ref kS) kA) P E s') (h0 : J 0 #[] s) : wpAny (model prog w) A (ksk_rest a f b vs.toArray e1 (.ref kS)) P E s := by
  unfold ksk_rest
  refine wpAny_bind (wpAny_rule ?_)
  first
    | rw [List.forIn_toArray]
    | (rw [← Array.forIn_toList]; simp only [List.toList_toArray])
    | rw [← Array.forIn_toList]
  refine wpAny_bind (ksk_fold (fun i s' => ∃ kA, J i kA s') vs 0 s ⟨#[], h0⟩ ?step ?done)
  case step =>
    rintro j x s' hx ⟨kA, hJ⟩
    simp only [Nat.zero_add] at hJ ⊢
    refine wpAny_bind (wpAny_attempt (wpAny_mono (turn j x kA s' hx hJ) (fun k s2 he => ?_) fun _ _ hF => hF.elim))
    obtain ⟨e, nk, hz, hn⟩ := he
    try dsimp only
    refine wpAny_bind (listUpdate_at nk rfl ?_ hz (by rw [Array.size_push]; omega))
    exact wpAny_pure ⟨rfl, _, hn⟩
  case done =>
    rintro s' ⟨kA, hJ⟩
    rw [Nat.zero_add] at hJ
    obtain ⟨e, nk⟩ := at_ _ _ _ hJ
    exact wpAny_bind (listItems_at nk rfl (fin kA s' hJ))
theorem keys_tree {f : Value} {a : Addr} {b : Bool} {vs : List Value} {n : Nat} {P : PySem.Fin → Shared → Prop} (ho : s.heap.get? a = some (seqObj "list" vs.toArray n)) (hz : vs.length ≤ sizeLine)
    (body : ∀ e1, (sortingHeap s.heap a vs).get? (s.heap.objs.size + 1) = some (seqObj "list" #[] 0) → (sortingHeap s.heap a vs).get? a = some (seqObj "list" #[] e1) →
      wpAny (model prog w) A (ksk_rest a f b vs.toArray e1 (.ref (s.heap.objs.size + 1))) P E { s with heap := sortingHeap s.heap a vs }) : wpAny (model prog w) A (ksk_tree a f b) P E s := by
  obtain ⟨e1, ho1⟩ : ∃ e1, (s.heap.update a (Obj.mapSeq fun _ => (#[] : Array Value))).get? a = some (seqObj "list" #[] e1) := ⟨_, get?_update_seq ho fun _ => #[]⟩
  have ek : ((s.heap.update a (Obj.mapSeq fun _ => (#[] : Array Value))).push (seqObj "tuple" vs.toArray 0)).objs.size = s.heap.objs.size + 1 := by rw [size_push', Heap.size_update]
  unfold ksk_tree
  refine wpAny_bind (listItems_at ho rfl (wpAny_bind (listUpdate_at ho rfl (wpAny_bind (seqEpoch_at ho1 rfl (wpAny_bind (wpAny_newTuple (wpAny_bind (wpAny_newList (wpAny_holding ?_) (Nat.zero_le _))) (by show vs.length ≤ _; exact hz))))) (by rw [List.size_toArray]; exact hz) (Nat.zero_le _))))
  have q1 : (sortingHeap s.heap a vs).get? (s.heap.objs.size + 1) = some (seqObj "list" #[] 0) := by
    unfold sortingHeap
    rw [← ek]
    exact Heap.get?_push_size _ rfl
  have q2 : (sortingHeap s.heap a vs).get? a = some (seqObj "list" #[] e1) := Heap.get?_push_of_some _ (Heap.get?_push_of_some _ ho1)
  have := body e1 q1 q2
  rw [← ek] at this
  exact this
end
end DL

/-! DMg: sorted(t, key=f) over data -/
namespace DL
open PySem PySem.Spec PyProof.Rows L2 PySem.W PySem.SeqAt PySem.Calls

section
variable {X : Cx} {pins : List (Addr × Obj)} {σ : L2.St} {H : Hp} {s : Shared}
theorem far_of (I : Inv X pins σ H s) {b : Addr} (hb : s.heap.objs.size ≤ b) : b ≠ X.env.locals ∧ X.s_0.heap.objs.size ≤ b ∧ (∀ x c, X.env.cells.lookup x = some c → c ≠ b) ∧ (∀ p ∈ X.pn ++ pins, p.1 ≠ b) ∧ b ∉ X.fs := by
  refine ⟨?_, Nat.le_trans I.sz hb, fun x c e z => ?_, fun p hp z => ?_, I.nofs hb⟩
  · exact Nat.ne_of_gt (Nat.lt_of_lt_of_le I.lt hb)
  · obtain ⟨v, o, ho, _⟩ := I.cell x c e
    exact Nat.lt_irrefl _ (Nat.lt_of_lt_of_le (Heap.lt_size ho) (by rw [z]; exact hb))
  · exact Nat.lt_irrefl _ (Nat.lt_of_lt_of_le (Heap.lt_size (I.pin p hp).1) (by rw [z]; exact hb))
/-- two untracked objects have changed, one of them is tracked from now on -/
theorem inv_out {h' : Heap} {t' : Nat} {a b : Addr} {o : HO} (I : Inv X pins σ H s) (fa : a ≠ X.env.locals ∧ X.s_0.heap.objs.size ≤ a ∧ (∀ x c, X.env.cells.lookup x = some c → c ≠ a) ∧ (∀ p ∈ X.pn ++ pins, p.1 ≠ a) ∧ a ∉ X.fs)
    (fb : b ≠ X.env.locals ∧ X.s_0.heap.objs.size ≤ b ∧ (∀ x c, X.env.cells.lookup x = some c → c ≠ b) ∧ (∀ p ∈ X.pn ++ pins, p.1 ≠ b) ∧ b ∉ X.fs) (na : H a = none) (nb : H b = none)
    (k : ∀ c u, c ≠ a → c ≠ b → s.heap.get? c = some u → h'.get? c = some u) (new : ObjOk X.prog X.w (upd H a o) h' a o) : Inv X pins σ (upd H a o) { s with heap := h', toks := t' } := by
  have nc : ∀ c, c ∉ [a, b] → c ≠ a ∧ c ≠ b := fun c hc => ⟨fun z => hc (by simp [z]), fun z => hc (by simp [z])⟩
  have ne : ∀ c u, H c = some u → c ≠ a ∧ c ≠ b := fun c u e => ⟨fun z => (by rw [z, na] at e; cases e), fun z => (by rw [z, nb] at e; cases e)⟩
  refine I.step (g' := s.gens) (d' := s.drawn) (ch := [a, b]) (fun c hc => ?_) (fun c u _ _ hc e _ => k c u (nc c hc).1 (nc c hc).2 e) (fun c u _ _ hc e _ => ⟨u.slots, k c u (nc c hc).1 (nc c hc).2 e⟩)
    (fun c u hc _ n => by rw [upd_ne (nc c hc).1]; exact n) (fun c u hc e => ⟨u, k c u (nc c hc).1 (nc c hc).2 e⟩) (fun c xs e => by rw [upd_ne (ne c _ e).1]; exact e) (fun c u v e => by rw [upd_ne (ne c _ e).1]; exact e)
    (fun c ps e => ⟨#[], by rw [upd_ne (ne c _ e).1, e]; simp⟩) (fun m hm => ?_) (fun c u e => ?_) I.bare
  · have hc' : c = a ∨ c = b := by simpa using hc
    rcases hc' with rfl | rfl
    · exact ⟨.inr fa.2.1, fa.1, fa.2.2.1, fa.2.2.2.1⟩
    · exact ⟨.inr fb.2.1, fb.1, fb.2.2.1, fb.2.2.2.1⟩
  · obtain ⟨ob, es, ep, ho, r⟩ := hm
    exact ⟨ob, es, ep, k _ ob (Ne.symm fa.1) (Ne.symm fb.1) ho, r⟩
  · by_cases hc : c = a
    · subst hc
      rw [upd_same] at e
      cases e
      exact new
    · rw [upd_ne hc] at e
      refine (I.hok c u e).stay (fun c' v hc' q => ?_) (fun c' q => by rw [upd_ne (ne c' _ q).1]; exact q) fun c' xs q => by rw [upd_ne (ne c' _ q).1]; exact q
      rcases hc' with rfl | z
      · exact k c' v (ne c' _ e).1 (ne c' _ e).2 q
      · exact k c' v (ne c' _ z).1 (ne c' _ z).2 q
end
theorem vals_app : ∀ {xs zs : List V} {us ws : List Value}, Vals xs us → Vals zs ws → Vals (xs ++ zs) (us ++ ws)
  | _, _, _, _, .nil, r => r
  | _, _, _, _, .cons h q, r => .cons h (vals_app q r)
theorem isL_pairs {K : PySem.W.Frag} {F : Hp} : ∀ {l : List (V × D)}, (∀ p ∈ l, Is K F p.1 p.2) → IsL K F (l.map (·.1)) (l.map (·.2))
  | [], _ => .nil
  | p :: r, h => .cons (h p (List.mem_cons_self ..)) (isL_pairs fun q hq => h q (List.mem_cons_of_mem _ hq))
theorem isL_zip {K : PySem.W.Frag} {F : Hp} : ∀ {xs : List V} {ds : List D}, IsL K F xs ds → ∀ p ∈ xs.zip ds, Is K F p.1 p.2
  | _, _, .nil, p, h => by simp at h
  | _, _, .cons i r, p, h => by
    rw [List.zip_cons_cons] at h
    rcases List.mem_cons.mp h with z | z
    · rw [z]; exact i
    · exact isL_zip r p z
theorem vals_zip : ∀ {xs : List V} {us : List Value} {ds : List D}, Vals xs us → ds.length = xs.length → EachIs (fun v (p : V × D) => RelV p.1 v) us (xs.zip ds)
  | [], [], [], .nil, _ => .nil
  | x :: xs, u :: us, d :: ds, .cons r t, h => .cons r (vals_zip t (by simpa using h))
  | [], [], _ :: _, .nil, h => by simp at h
  | _ :: _, _ :: _, [], .cons _ _, h => by simp at h
theorem vals_each : ∀ {us : List Value} {l : List (V × D)}, EachIs (fun v (p : V × D) => RelV p.1 v) us l → Vals (l.map (·.1)) us
  | _, _, .nil => .nil
  | _, _, .cons r t => .cons r (vals_each t)
theorem isL_reads {X : Cx} {pins : List (Addr × Obj)} {σ : L2.St} {H F : Hp} {s : Shared} (I : Inv X pins σ H s) (sb : Same F H) : ∀ {vs : List V} {us : List Value} {ds : List D}, Vals vs us → IsL X.K F vs ds → (∀ d ∈ ds, gd d = true) → EachIs (fun v k => ∃ as, Reads s.heap v k as) us (ds.map toPy)
  | _, _, _, .nil, .nil, _ => .nil
  | _, _, d :: ds, .cons r t, .cons i q, h => by
    have hd := gd_ok (h d (List.mem_cons_self ..))
    exact .cons (Dp.reads I _ _ _ (Is.dp sb i hd.1 hd.2.1) r) (isL_reads I sb t q fun e he => h e (List.mem_cons_of_mem _ he))
/-- a key: a tuple of plain things -/
structure KeyOk (d : D) : Prop where
  good : gd d = true
  tup : ∃ es, d = .tup es
  dep : dpt d ≤ 40
/-- the order of the keys -/
def keyLe (kf : D → D) : D → D → Bool := dataLe false fun d => toPy (kf d)
def rSortK (K : PySem.W.Frag) (f : Addr) (m : List D → W D) : List V → List V → Hp → VK → Prop := fun vs zs H Qh => ∃ (l : Addr) (xs : List V) (F : Hp) (ds : List D) (μ : Mem) (ED : XD) (kf : D → D) (Q : D → Mem → Prop), vs = [.ref l] ∧ zs = [.ref f] ∧ SqT K F l xs ∧ IsL K F xs ds ∧ Rep K F H μ ∧ NoX ED ∧
  (∀ d ∈ ds, ∀ R : D → Mem → Prop, R (kf d) μ → m [d] μ R ED) ∧ (∀ d ∈ ds, KeyOk (kf d)) ∧ AllAlike (ds.map fun d => toPy (kf d)) ∧ Q (.lst (ds.mergeSort (keyLe kf))) μ ∧ Back K F (Is K) Q Qh
theorem cr_sortK {X : Cx} {k : Nat} {f : Addr} {fd : FuncData} {ps : List Str} {m : List D → W D} (Fn : FnG X.prog X.w X.K X.mg X.base CX0 k f fd ps (spD X.K 1 m)) (hgd : X.A.guards = some []) (hr : Room (k + 1) X.A) (hb : KBinds X.K fd ps [] (fun us _ => us) (fun vs _ => vs)) :
    CallRK X (.builtin "sorted") [Str.ofString "key"] (rSortK X.K f m) := by
  intro pins s σ H vs zs us ws Qh I rv rz h
  obtain ⟨l, xs, F, ds, μ, ED, kf, Q, rfl, rfl, hs, hl, rep, nox, hm, hk, hal, q, bk⟩ := h
  obtain rfl := Vals.ref1 rv
  obtain rfl := Vals.ref1 rz
  obtain ⟨its, ri, ⟨ob, g1, g2, n, g3⟩, hz⟩ := I.tuple (sqt_up rep.sub hs)
  have lx := hl.length
  have li := ri.length
  have hzi : its.length ≤ sizeLine := by omega
  have r2 : Room k X.A.in1.in1 := ⟨hr.hd, by have := hr.dp; show X.A.depth + 3 * k + 5 < _; omega, by have := hr.un; show X.A.units + 1 + 1 + 16 * k + 200 < _; omega⟩
  show wpAny (model X.prog X.w) X.A (call (.builtin "sorted") [.ref l] [(Str.ofString "key", .ref f)]) (EP X pins σ Qh) X.xe s
  refine sorted_t ⟨ob, g1, g2, n, g3⟩ hzi (ksk_s1 _ _) (fun _ => ksk_l1 _ _) fun E' => ?_
  rw [ksk_t1]
  have ca := copyHeap_at s.heap its
  have csz : (copyHeap s.heap its).objs.size = s.heap.objs.size + 2 := by
    unfold copyHeap
    rw [size_push', Heap.size_update, size_push']
  refine keys_tree (s := { s with heap := copyHeap s.heap its }) ca hzi fun e1 nk0 na0 => ?_
  show wpAny (model X.prog X.w) X.A.in1.in1 (ksk_rest (s.heap.objs.size + 1) (.ref f) false its.toArray e1 (.ref ((copyHeap s.heap its).objs.size + 1))) _ _ { s with heap := sortingHeap (copyHeap s.heap its) (s.heap.objs.size + 1) its }
  rw [csz] at nk0 ⊢
  have hka : s.heap.objs.size + 2 + 1 ≠ s.heap.objs.size + 1 := by omega
  have fa := far_of I (b := s.heap.objs.size + 1) (by omega)
  have fk := far_of I (b := s.heap.objs.size + 2 + 1) (by omega)
  have hdl : ds.length = its.length := by omega
  refine keys_rest (fun i kA s' => ∃ H' F' vks e, Inv X pins σ H' s' ∧ Same F F' ∧ Rep X.K F' H' μ ∧ s'.heap.get? (s.heap.objs.size + 2 + 1) = some (seqObj "list" kA e) ∧ s'.heap.get? (s.heap.objs.size + 1) = some (seqObj "list" #[] e1) ∧ H' (s.heap.objs.size + 2 + 1) = none ∧ H' (s.heap.objs.size + 1) = none ∧ Vals vks kA.toList ∧ IsL X.K F' vks ((ds.take i).map kf))
    (fun i kA s' ⟨H', F', vks, e, _, _, _, z, _⟩ => ⟨e, z⟩) (fun i v kA s' hv hJ => ?_) (fun kA s' hJ => ?_) ?_
  · obtain ⟨H', F', vks, e, J, sf, rp, hkS, haS, nk, na, vk, ik⟩ := hJ
    have hi : i < its.length := (List.getElem?_eq_some_iff.mp hv).1
    have hxi : xs[i]? = some (xs[i]'(by omega)) := List.getElem?_eq_getElem (by omega)
    have hdi : ds[i]? = some (ds[i]'(by omega)) := List.getElem?_eq_getElem (by omega)
    obtain ⟨u, hu, ru⟩ := ri.get hxi
    rw [hv] at hu
    cases hu
    obtain ⟨x', hx', ix⟩ := hl.get hdi
    rw [hxi] at hx'
    cases hx'
    have J2 : Inv X (pins ++ [(s.heap.objs.size + 2 + 1, seqObj "list" kA e), (s.heap.objs.size + 1, seqObj "list" #[] e1)]) σ H' s' := J.pins_of fun p hp => by
      rcases List.mem_append.mp hp with z | z
      · exact J.pin p (List.mem_append_right _ z)
      · have z' : p = (s.heap.objs.size + 2 + 1, seqObj "list" kA e) ∨ p = (s.heap.objs.size + 1, seqObj "list" #[] e1) := by simpa using z
        rcases z' with rfl | rfl
        · exact ⟨hkS, nk, fk.1, fk.2.2.2.2, fun v z => nomatch z⟩
        · exact ⟨haS, na, fa.1, fa.2.2.2.2, fun v z => nomatch z⟩
    have e0 := J2.env0
    have sp : spD X.K 1 m [xs[i]'(by omega)] H' (fun v H2 => ∃ F2, Same F' F2 ∧ Rep X.K F2 H2 μ ∧ Is X.K F2 v (kf (ds[i]'(by omega)))) (fun _ _ _ => False) :=
      ⟨rfl, F', [ds[i]'(by omega)], μ, fun d μ' => d = kf (ds[i]'(by omega)) ∧ μ' = μ, ED, .cons (ix.up sf) .nil, rp, nox, hm _ (List.getElem_mem _) _ ⟨rfl, rfl⟩, fun v H2 d F2 μ2 s2 r2 i2 q2 => by
        obtain ⟨rfl, rfl⟩ := q2
        exact ⟨F2, s2, r2, i2⟩⟩
    have hpl : ps.length = 1 := (Fn.len _ _ _ _ sp).symm
    refine wpAny_call (codeAny_mono (Fn.go X.A.in1.in1 X.stack s' H' ⟨[v], []⟩ [v] [xs[i]'(by omega)] _ (fun _ _ _ => False) hgd r2 ⟨e0.frames, e0.mod, e0.bs, e0.bsz, e0.funs, e0.frf, e0.hok, e0.bare⟩ (hb.to s' [v] [] J.kIn hpl.symm) (.cons ru .nil) sp) fun r s2 hq => ?_)
    cases r with
    | error e => exact hq.elim
    | ok fl =>
      cases fl with
      | ret u =>
        obtain ⟨vk', H2, J3, rk, F2, sf2, rp2, ik2⟩ := J2.after hq
        have p1 := J3.pin (s.heap.objs.size + 2 + 1, seqObj "list" kA e) (List.mem_append_right _ (List.mem_append_right _ (by simp)))
        have p2 := J3.pin (s.heap.objs.size + 1, seqObj "list" #[] e1) (List.mem_append_right _ (List.mem_append_right _ (by simp)))
        have J4 : Inv X pins σ H2 s2 := J3.pins_of fun p hp => J3.pin p (List.mem_append_right _ (List.mem_append_left _ hp))
        have hsz : kA.size ≤ i := by
          have h1 : vks.length = kA.toList.length := vk.length
          have h2 : vks.length = ((ds.take i).map kf).length := ik.length
          have h3 : kA.toList.length = kA.size := Array.length_toList
          rw [List.length_map, List.length_take] at h2
          omega
        have su := Heap.SameBut.update s2.heap (s.heap.objs.size + 2 + 1) (Obj.mapSeq (·.push u))
        obtain ⟨c2, hc2⟩ : ∃ c2, (s2.heap.update (s.heap.objs.size + 2 + 1) (Obj.mapSeq (·.push u))).get? (s.heap.objs.size + 2 + 1) = some (seqObj "list" (kA.push u) c2) := ⟨_, get?_update_seq p1.1 (·.push u)⟩
        refine ⟨e, p1.1, by omega, H2, F2, vks ++ [vk'], c2, J4.turned (t' := s2.toks) (it := s.heap.objs.size + 2 + 1) (fun b o hb e => (su.2 b hb).trans e) p1.2.1 fk.1 (.inr fk.2.1) fk.2.2.1 fk.2.2.2.1, sf.trans sf2, rp2, hc2, (su.2 _ hka.symm).trans p2.1, p1.2.1, p2.2.1, ?_, ?_⟩
        · rw [Array.toList_push]
          exact vals_app vk (.cons rk .nil)
        · rw [List.take_succ, hdi, List.map_append]
          exact (ik.up sf2).app (.cons ik2 .nil)
      | _ => exact hq.elim
  · obtain ⟨H', F', vks, e, J, sf, rp, hkS, haS, nk, na, vk, ik⟩ := hJ
    rw [← hdl, List.take_length] at ik
    have hk' : EachIs (fun v k => ∃ as, Reads s'.heap v k as) kA.toList (ds.map fun d => toPy (kf d)) := by
      have z := isL_reads J rp.sub vk ik fun d hd => by
        obtain ⟨d', hd', rfl⟩ := List.mem_map.mp hd
        exact (hk d' hd').good
      rw [List.map_map] at z
      exact z
    have hszk : kA.size = its.length := by
      have h1 := hk'.length
      rw [Array.length_toList, List.length_map] at h1
      omega
    have S : SortsAt X.prog X.w X.A.in1.in1 s' (dataKind s'.heap (ds.map fun d => toPy (kf d))) kA.toList := sorts_tups hk' hal (fun d hd => by
      obtain ⟨d', hd', rfl⟩ := List.mem_map.mp hd
      obtain ⟨es, e⟩ := (hk d' hd').tup
      rw [e]
      exact ⟨_, rfl⟩) fun d hd => by
        obtain ⟨d', hd', rfl⟩ := List.mem_map.mp hd
        have h1 := (gd_ok (hk d' hd').good).2.2.2.1
        have h2 := (hk d' hd').dep
        have h3 := r2.un
        rw [h1]
        omega
    refine keyH_end (κ := dataKind s'.heap (ds.map fun d => toPy (kf d))) (h₁ := hideAll s'.heap [s.heap.objs.size + 2 + 1]) (fun b o _ e => of_hideAll _ e) (hideAll_none _ (by simp)) hkS haS hka S hszk hzi fun h3 tk c k3 n3 => ⟨rfl, ?_⟩
    have ko : KeyedOut false ((xs.zip ds).map fun p => toPy (kf p.2)) its (sortVals (dataKind s'.heap (ds.map fun d => toPy (kf d))) false kA.toList its) := by
      have e2 : ((xs.zip ds).map fun p => toPy (kf p.2)) = ds.map fun d => toPy (kf d) := by
        have e3 : (xs.zip ds).map (·.2) = ds := List.map_snd_zip (by omega)
        have e4 : ((xs.zip ds).map fun p => toPy (kf p.2)) = ((xs.zip ds).map (·.2)).map fun d => toPy (kf d) := by rw [List.map_map]; rfl
        rw [e4, e3]
      rw [e2]
      exact ⟨s'.heap, kA.toList, hal, rfl, hk'⟩
    have eo := keyedOut_each (fun p : V × D => toPy (kf p.2)) ko (vals_zip ri (by omega))
    have em : ((xs.zip ds).mergeSort (dataLe false fun p : V × D => toPy (kf p.2))).map (·.2) = ds.mergeSort (keyLe kf) := by
      rw [List.map_mergeSort (r := dataLe false fun p : V × D => toPy (kf p.2)) (s := keyLe kf) (fun a _ b _ => rfl), List.map_snd_zip (by omega)]
    have il : IsL X.K F' (((xs.zip ds).mergeSort (dataLe false fun p : V × D => toPy (kf p.2))).map (·.1)) (ds.mergeSort (keyLe kf)) := by
      rw [← em]
      exact isL_pairs fun p hp => (isL_zip hl p ((List.mergeSort_perm ..).mem_iff.mp hp)).up sf
    have vo := vals_each eo
    have lo := vo.length
    have lol : (((xs.zip ds).mergeSort (dataLe false fun p : V × D => toPy (kf p.2))).map (·.1)).length ≤ sizeLine := by
      rw [List.length_map, (List.mergeSort_perm ..).length_eq, List.length_zip]
      omega
    have na' := na
    refine ⟨.ref (s.heap.objs.size + 1), upd H' (s.heap.objs.size + 1) (.lst (((xs.zip ds).mergeSort (dataLe false fun p : V × D => toPy (kf p.2))).map (·.1))), inv_out J fa fk na nk (fun b o hb1 hb2 e => k3 b o hb1 (hideAll_get _ e (by simpa using hb2))) ⟨lol, _, c, vo, n3⟩, rfl, ?_⟩
    have sn := same_new (F := F') (p := s.heap.objs.size + 1) (o := .lst (((xs.zip ds).mergeSort (dataLe false fun p : V × D => toPy (kf p.2))).map (·.1))) (rp.nn na)
    exact bk _ _ _ (upd F' (s.heap.objs.size + 1) _) μ (sf.trans sn) (rp.new na) (.lst (.inl (.inl upd_same)) (il.up sn)) q
  · refine ⟨H, F, [], 0, I.kept (t' := s.toks) (fun b o e => sortingHeap_old (Nat.ne_of_lt (Nat.lt_succ_of_lt (Heap.lt_size e))) (copyHeap_old e)), Same.refl F, rep, nk0, na0, I.hok.fresh (by omega), I.hok.fresh (by omega), .nil, .nil⟩
end DL

/-! DMh: sorted(t, key=f) as a word -/
namespace DL
open PySem PySem.Spec PyProof.Rows L2 PySem.W

def sortKD (m : List D → W D) (as : List D) : W D := match as with
  | [.tup ds] => fun μ Q E => ∃ kf : D → D, (∀ d ∈ ds, ∀ R : D → Mem → Prop, R (kf d) μ → m [d] μ R E) ∧ (∀ d ∈ ds, KeyOk (kf d)) ∧ AllAlike (ds.map fun d => toPy (kf d)) ∧ Q (.lst (ds.mergeSort (keyLe kf))) μ
  | _ => W.bad
def eSortK (m : List D → W D) (ma : Rho → W (List D)) (ρ : Rho) : W D := W.bnd (ma ρ) (sortKD m)
theorem de_sortK {X : Cx} {k : Nat} {f : Addr} {fd : FuncData} {ps : List Str} {m : List D → W D} {e : Expr} {ma : Rho → W (List D)} {fx : Str} {p np kp pos : Pos} (Fn : FnG X.prog X.w X.K X.mg X.base CX0 k f fd ps (spD X.K 1 m)) (hgd : X.A.guards = some []) (hr : Room (k + 1) X.A) (hb : KBinds X.K fd ps [] (fun us _ => us) (fun vs _ => vs))
    (hgs : Gl X "sorted") (hms : X.mg "sorted" = none) (ha : DA X none [e] ma) (hgf : Gl X fx) (hmf : X.mg fx = some (.ref f)) (hdb : (fx == ("__debug__" : Str)) = false)
    (he : backTo pos (starEach [e] X.env) = (false, eval e X.env) :: backTo pos (starEach [] X.env)) (hpl : (backTo pos (starEach [e] X.env)).any (·.1) = false)
    (hall : (backToKw pos (keywordEach [⟨some (Str.ofString "key"), .Name fx np, kp⟩] X.env)).all (·.1.isSome) = true) (hnone : (backToKw pos (keywordEach [⟨some (Str.ofString "key"), .Name fx np, kp⟩] X.env)).any (·.1.isNone) = false) (hks : (backToKw pos (keywordEach [⟨some (Str.ofString "key"), .Name fx np, kp⟩] X.env)).filterMap (·.1) = [Str.ofString "key"]) :
    DE X none (.Call (.Name "sorted" p) [e] [⟨some (Str.ofString "key"), .Name fx np, kp⟩] pos) (eSortK m ma) := by
  refine PE.imp (pe_callBK (cr_sortK Fn hgd hr hb) hgs hms bt_sorted ha (pk_cons (pe_glob (v := .ref f) hgf hmf rfl hdb) pk_nil) (by decide) (by decide) he hpl hall hnone hks) fun σ H Qh h => ?_
  obtain ⟨F, ρ, μ, Q, ED, env, rep, lnk, hm, bk⟩ := h
  refine ⟨F, ρ, μ, _, ED, env, rep, lnk, hm, fun v1 H1 d1 F1 μ1 s1 r1 i1 q1 => ?_⟩
  show rSortK X.K f m v1 [.ref f] H1 Qh
  have q1' : sortKD m d1 μ1 Q ED := q1
  unfold sortKD at q1'
  split at q1'
  · obtain ⟨v, rfl, i⟩ := isL1 i1
    obtain ⟨kf, a1, a2, a3, a4⟩ := q1'
    cases i with
    | tup hs hl => exact ⟨_, _, F1, _, μ1, ED, kf, Q, rfl, rfl, hs, hl, r1, lnk, a1, a2, a3, a4, fun v2 H2 d2 F2 μ2 s2 r2 i2 q2 => bk v2 H2 d2 F2 μ2 (s1.trans s2) r2 i2 q2⟩
  · exact q1'.elim
end DL

namespace Lk03
open PySem PySem.Spec PyProof.Rows L2 DL
/-! ### the text: printed by gen.py -/
def topS (i : Nat) : Stmt := PySem.Challenge.pw_stillfiles_k03_rows_rising.main.body.getD i (.Pass ⟨0, 0, 0, 0⟩)
abbrev s__law_deck : Stmt := topS 5
abbrev NN__law_deck : List Str := ["_law_script"]
theorem sc__law_deck : FnScope NN__law_deck ["_law_script"] (defScope s__law_deck) := ⟨rfl, rfl, rfl, by decide +kernel, rfl, by decide +kernel, by decide +kernel⟩
theorem vi__law_deck_0 : Vis (defScope s__law_deck) "_law_script" := .inl (by decide +kernel)
theorem lo__law_deck_0 : Loc (defScope s__law_deck) "_law_script" := .inl (by decide +kernel)
theorem ll__law_deck_0 : (defScope s__law_deck).names.lookup ("_law_script" : Str) = some NameKind.local := by decide +kernel
abbrev s__law_draw : Stmt := topS 6
abbrev NN__law_draw : List Str := ["_law_deck_here", "_law_most", "_law_seed", "_law_mixed"]
theorem sc__law_draw : FnScope NN__law_draw ["_law_deck_here", "_law_most"] (defScope s__law_draw) := ⟨rfl, rfl, rfl, by decide +kernel, rfl, by decide +kernel, by decide +kernel⟩
theorem vi__law_draw_0 : Vis (defScope s__law_draw) "_law_deck_here" := .inl (by decide +kernel)
theorem lo__law_draw_0 : Loc (defScope s__law_draw) "_law_deck_here" := .inl (by decide +kernel)
theorem ll__law_draw_0 : (defScope s__law_draw).names.lookup ("_law_deck_here" : Str) = some NameKind.local := by decide +kernel
theorem vi__law_draw_1 : Vis (defScope s__law_draw) "_law_most" := .inl (by decide +kernel)
theorem lo__law_draw_1 : Loc (defScope s__law_draw) "_law_most" := .inl (by decide +kernel)
theorem ll__law_draw_1 : (defScope s__law_draw).names.lookup ("_law_most" : Str) = some NameKind.local := by decide +kernel
theorem vi__law_draw_2 : Vis (defScope s__law_draw) "_law_seed" := .inl (by decide +kernel)
theorem lo__law_draw_2 : Loc (defScope s__law_draw) "_law_seed" := .inl (by decide +kernel)
theorem ll__law_draw_2 : (defScope s__law_draw).names.lookup ("_law_seed" : Str) = some NameKind.local := by decide +kernel
theorem vi__law_draw_3 : Vis (defScope s__law_draw) "_law_mixed" := .inl (by decide +kernel)
theorem lo__law_draw_3 : Loc (defScope s__law_draw) "_law_mixed" := .inl (by decide +kernel)
theorem ll__law_draw_3 : (defScope s__law_draw).names.lookup ("_law_mixed" : Str) = some NameKind.local := by decide +kernel
abbrev s__law_pick : Stmt := topS 7
abbrev NN__law_pick : List Str := ["_law_deck_here", "_law_some"]
theorem sc__law_pick : FnScope NN__law_pick ["_law_deck_here", "_law_some"] (defScope s__law_pick) := ⟨rfl, rfl, rfl, by decide +kernel, rfl, by decide +kernel, by decide +kernel⟩
theorem vi__law_pick_0 : Vis (defScope s__law_pick) "_law_deck_here" := .inl (by decide +kernel)
theorem lo__law_pick_0 : Loc (defScope s__law_pick) "_law_deck_here" := .inl (by decide +kernel)
theorem ll__law_pick_0 : (defScope s__law_pick).names.lookup ("_law_deck_here" : Str) = some NameKind.local := by decide +kernel
theorem vi__law_pick_1 : Vis (defScope s__law_pick) "_law_some" := .inl (by decide +kernel)
theorem lo__law_pick_1 : Loc (defScope s__law_pick) "_law_some" := .inl (by decide +kernel)
theorem ll__law_pick_1 : (defScope s__law_pick).names.lookup ("_law_some" : Str) = some NameKind.local := by decide +kernel
abbrev s__law_worth : Stmt := topS 8
abbrev NN__law_worth : List Str := ["_law_deck_here", "_law_sort", "_law_letters", "_law_k"]
theorem sc__law_worth : FnScope NN__law_worth ["_law_deck_here"] (defScope s__law_worth) := ⟨rfl, rfl, rfl, by decide +kernel, rfl, by decide +kernel, by decide +kernel⟩
theorem vi__law_worth_0 : Vis (defScope s__law_worth) "_law_deck_here" := .inr (.inl (by decide +kernel))
theorem lo__law_worth_0 : Loc (defScope s__law_worth) "_law_deck_here" := .inr (by decide +kernel)
theorem vi__law_worth_1 : Vis (defScope s__law_worth) "_law_sort" := .inl (by decide +kernel)
theorem lo__law_worth_1 : Loc (defScope s__law_worth) "_law_sort" := .inl (by decide +kernel)
theorem ll__law_worth_1 : (defScope s__law_worth).names.lookup ("_law_sort" : Str) = some NameKind.local := by decide +kernel
theorem vi__law_worth_2 : Vis (defScope s__law_worth) "_law_letters" := .inr (.inl (by decide +kernel))
theorem lo__law_worth_2 : Loc (defScope s__law_worth) "_law_letters" := .inr (by decide +kernel)
abbrev s__law_lines : Stmt := topS 9
abbrev NN__law_lines : List Str := ["_law_deck_here", "_law_many", "_law_found", "_law_k", "_law_begun", "_law_line", "_law_j"]
theorem sc__law_lines : FnScope NN__law_lines ["_law_deck_here", "_law_many"] (defScope s__law_lines) := ⟨rfl, rfl, rfl, by decide +kernel, rfl, by decide +kernel, by decide +kernel⟩
theorem vi__law_lines_0 : Vis (defScope s__law_lines) "_law_deck_here" := .inr (.inl (by decide +kernel))
theorem lo__law_lines_0 : Loc (defScope s__law_lines) "_law_deck_here" := .inr (by decide +kernel)
theorem vi__law_lines_1 : Vis (defScope s__law_lines) "_law_many" := .inl (by decide +kernel)
theorem lo__law_lines_1 : Loc (defScope s__law_lines) "_law_many" := .inl (by decide +kernel)
theorem ll__law_lines_1 : (defScope s__law_lines).names.lookup ("_law_many" : Str) = some NameKind.local := by decide +kernel
theorem vi__law_lines_2 : Vis (defScope s__law_lines) "_law_found" := .inl (by decide +kernel)
theorem lo__law_lines_2 : Loc (defScope s__law_lines) "_law_found" := .inl (by decide +kernel)
theorem ll__law_lines_2 : (defScope s__law_lines).names.lookup ("_law_found" : Str) = some NameKind.local := by decide +kernel
theorem vi__law_lines_3 : Vis (defScope s__law_lines) "_law_k" := .inl (by decide +kernel)
theorem lo__law_lines_3 : Loc (defScope s__law_lines) "_law_k" := .inl (by decide +kernel)
theorem ll__law_lines_3 : (defScope s__law_lines).names.lookup ("_law_k" : Str) = some NameKind.local := by decide +kernel
theorem vi__law_lines_4 : Vis (defScope s__law_lines) "_law_begun" := .inl (by decide +kernel)
theorem lo__law_lines_4 : Loc (defScope s__law_lines) "_law_begun" := .inl (by decide +kernel)
theorem ll__law_lines_4 : (defScope s__law_lines).names.lookup ("_law_begun" : Str) = some NameKind.local := by decide +kernel
theorem vi__law_lines_5 : Vis (defScope s__law_lines) "_law_line" := .inl (by decide +kernel)
theorem lo__law_lines_5 : Loc (defScope s__law_lines) "_law_line" := .inl (by decide +kernel)
theorem ll__law_lines_5 : (defScope s__law_lines).names.lookup ("_law_line" : Str) = some NameKind.local := by decide +kernel
abbrev s_worth_key : Stmt := topS 1
abbrev NN_worth_key : List Str := ["worth"]
theorem sc_worth_key : FnScope NN_worth_key ["worth"] (defScope s_worth_key) := ⟨rfl, rfl, rfl, by decide +kernel, rfl, by decide +kernel, by decide +kernel⟩
theorem vi_worth_key_0 : Vis (defScope s_worth_key) "worth" := .inl (by decide +kernel)
theorem lo_worth_key_0 : Loc (defScope s_worth_key) "worth" := .inl (by decide +kernel)
theorem ll_worth_key_0 : (defScope s_worth_key).names.lookup ("worth" : Str) = some NameKind.local := by decide +kernel
abbrev s_row_key : Stmt := topS 2
abbrev NN_row_key : List Str := ["row", "worth"]
theorem sc_row_key : FnScope NN_row_key ["row"] (defScope s_row_key) := ⟨rfl, rfl, rfl, by decide +kernel, rfl, by decide +kernel, by decide +kernel⟩
theorem vi_row_key_0 : Vis (defScope s_row_key) "row" := .inl (by decide +kernel)
theorem lo_row_key_0 : Loc (defScope s_row_key) "row" := .inl (by decide +kernel)
theorem ll_row_key_0 : (defScope s_row_key).names.lookup ("row" : Str) = some NameKind.local := by decide +kernel
abbrev s_rising : Stmt := topS 3
abbrev NN_rising : List Str := ["rows"]
theorem sc_rising : FnScope NN_rising ["rows"] (defScope s_rising) := ⟨rfl, rfl, rfl, by decide +kernel, rfl, by decide +kernel, by decide +kernel⟩
theorem vi_rising_0 : Vis (defScope s_rising) "rows" := .inl (by decide +kernel)
theorem lo_rising_0 : Loc (defScope s_rising) "rows" := .inl (by decide +kernel)
theorem ll_rising_0 : (defScope s_rising).names.lookup ("rows" : Str) = some NameKind.local := by decide +kernel
abbrev s__law_rank : Stmt := topS 10
abbrev NN__law_rank : List Str := ["_law_worth_here"]
theorem sc__law_rank : FnScope NN__law_rank ["_law_worth_here"] (defScope s__law_rank) := ⟨rfl, rfl, rfl, by decide +kernel, rfl, by decide +kernel, by decide +kernel⟩
theorem vi__law_rank_0 : Vis (defScope s__law_rank) "_law_worth_here" := .inl (by decide +kernel)
theorem lo__law_rank_0 : Loc (defScope s__law_rank) "_law_worth_here" := .inl (by decide +kernel)
theorem ll__law_rank_0 : (defScope s__law_rank).names.lookup ("_law_worth_here" : Str) = some NameKind.local := by decide +kernel
abbrev s__law_is_less : Stmt := topS 11
abbrev NN__law_is_less : List Str := ["_law_one", "_law_two", "_law_k"]
theorem sc__law_is_less : FnScope NN__law_is_less ["_law_one", "_law_two"] (defScope s__law_is_less) := ⟨rfl, rfl, rfl, by decide +kernel, rfl, by decide +kernel, by decide +kernel⟩
theorem vi__law_is_less_0 : Vis (defScope s__law_is_less) "_law_one" := .inl (by decide +kernel)
theorem lo__law_is_less_0 : Loc (defScope s__law_is_less) "_law_one" := .inl (by decide +kernel)
theorem ll__law_is_less_0 : (defScope s__law_is_less).names.lookup ("_law_one" : Str) = some NameKind.local := by decide +kernel
theorem vi__law_is_less_1 : Vis (defScope s__law_is_less) "_law_two" := .inl (by decide +kernel)
theorem lo__law_is_less_1 : Loc (defScope s__law_is_less) "_law_two" := .inl (by decide +kernel)
theorem ll__law_is_less_1 : (defScope s__law_is_less).names.lookup ("_law_two" : Str) = some NameKind.local := by decide +kernel
theorem vi__law_is_less_2 : Vis (defScope s__law_is_less) "_law_k" := .inl (by decide +kernel)
theorem lo__law_is_less_2 : Loc (defScope s__law_is_less) "_law_k" := .inl (by decide +kernel)
theorem ll__law_is_less_2 : (defScope s__law_is_less).names.lookup ("_law_k" : Str) = some NameKind.local := by decide +kernel
abbrev s__law_due : Stmt := topS 12
abbrev NN__law_due : List Str := ["_law_lines_here", "_law_found", "_law_line", "_law_spot", "_law_one"]
theorem sc__law_due : FnScope NN__law_due ["_law_lines_here"] (defScope s__law_due) := ⟨rfl, rfl, rfl, by decide +kernel, rfl, by decide +kernel, by decide +kernel⟩
theorem vi__law_due_0 : Vis (defScope s__law_due) "_law_lines_here" := .inl (by decide +kernel)
theorem lo__law_due_0 : Loc (defScope s__law_due) "_law_lines_here" := .inl (by decide +kernel)
theorem ll__law_due_0 : (defScope s__law_due).names.lookup ("_law_lines_here" : Str) = some NameKind.local := by decide +kernel
theorem vi__law_due_1 : Vis (defScope s__law_due) "_law_found" := .inl (by decide +kernel)
theorem lo__law_due_1 : Loc (defScope s__law_due) "_law_found" := .inl (by decide +kernel)
theorem ll__law_due_1 : (defScope s__law_due).names.lookup ("_law_found" : Str) = some NameKind.local := by decide +kernel
theorem vi__law_due_2 : Vis (defScope s__law_due) "_law_line" := .inr (.inl (by decide +kernel))
theorem lo__law_due_2 : Loc (defScope s__law_due) "_law_line" := .inr (by decide +kernel)
theorem vi__law_due_3 : Vis (defScope s__law_due) "_law_spot" := .inl (by decide +kernel)
theorem lo__law_due_3 : Loc (defScope s__law_due) "_law_spot" := .inl (by decide +kernel)
theorem ll__law_due_3 : (defScope s__law_due).names.lookup ("_law_spot" : Str) = some NameKind.local := by decide +kernel
abbrev s_law : Stmt := topS 13
abbrev NN_law : List Str := ["_law_script", "_law_deck_here", "_law_turn", "_law_great", "_law_lines_here", "_law_kept", "_law_due_here", "_law_told"]
theorem sc_law : FnScope NN_law ["_law_script"] (defScope s_law) := ⟨rfl, rfl, rfl, by decide +kernel, rfl, by decide +kernel, by decide +kernel⟩
theorem vi_law_0 : Vis (defScope s_law) "_law_script" := .inl (by decide +kernel)
theorem lo_law_0 : Loc (defScope s_law) "_law_script" := .inl (by decide +kernel)
theorem ll_law_0 : (defScope s_law).names.lookup ("_law_script" : Str) = some NameKind.local := by decide +kernel
theorem vi_law_1 : Vis (defScope s_law) "_law_deck_here" := .inl (by decide +kernel)
theorem lo_law_1 : Loc (defScope s_law) "_law_deck_here" := .inl (by decide +kernel)
theorem ll_law_1 : (defScope s_law).names.lookup ("_law_deck_here" : Str) = some NameKind.local := by decide +kernel
theorem vi_law_2 : Vis (defScope s_law) "_law_turn" := .inl (by decide +kernel)
theorem lo_law_2 : Loc (defScope s_law) "_law_turn" := .inl (by decide +kernel)
theorem ll_law_2 : (defScope s_law).names.lookup ("_law_turn" : Str) = some NameKind.local := by decide +kernel
theorem vi_law_3 : Vis (defScope s_law) "_law_great" := .inl (by decide +kernel)
theorem lo_law_3 : Loc (defScope s_law) "_law_great" := .inl (by decide +kernel)
theorem ll_law_3 : (defScope s_law).names.lookup ("_law_great" : Str) = some NameKind.local := by decide +kernel
theorem vi_law_4 : Vis (defScope s_law) "_law_lines_here" := .inl (by decide +kernel)
theorem lo_law_4 : Loc (defScope s_law) "_law_lines_here" := .inl (by decide +kernel)
theorem ll_law_4 : (defScope s_law).names.lookup ("_law_lines_here" : Str) = some NameKind.local := by decide +kernel
theorem vi_law_5 : Vis (defScope s_law) "_law_kept" := .inl (by decide +kernel)
theorem lo_law_5 : Loc (defScope s_law) "_law_kept" := .inl (by decide +kernel)
theorem ll_law_5 : (defScope s_law).names.lookup ("_law_kept" : Str) = some NameKind.local := by decide +kernel
theorem vi_law_6 : Vis (defScope s_law) "_law_due_here" := .inl (by decide +kernel)
theorem lo_law_6 : Loc (defScope s_law) "_law_due_here" := .inl (by decide +kernel)
theorem ll_law_6 : (defScope s_law).names.lookup ("_law_due_here" : Str) = some NameKind.local := by decide +kernel
theorem vi_law_7 : Vis (defScope s_law) "_law_told" := .inl (by decide +kernel)
theorem lo_law_7 : Loc (defScope s_law) "_law_told" := .inl (by decide +kernel)
theorem ll_law_7 : (defScope s_law).names.lookup ("_law_told" : Str) = some NameKind.local := by decide +kernel
theorem nd_0 : (("_law_script" : Str) == ("__debug__" : Str)) = false := by decide +kernel
theorem nc_0 : (("_law_script" : Str) == ("__classdict__" : Str)) = false := by decide +kernel
theorem nd_1 : (("_law_deck_here" : Str) == ("__debug__" : Str)) = false := by decide +kernel
theorem nc_1 : (("_law_deck_here" : Str) == ("__classdict__" : Str)) = false := by decide +kernel
theorem nd_2 : (("_law_seed" : Str) == ("__debug__" : Str)) = false := by decide +kernel
theorem nc_2 : (("_law_seed" : Str) == ("__classdict__" : Str)) = false := by decide +kernel
theorem nd_3 : (("_law_most" : Str) == ("__debug__" : Str)) = false := by decide +kernel
theorem nc_3 : (("_law_most" : Str) == ("__classdict__" : Str)) = false := by decide +kernel
theorem nd_4 : (("_law_mixed" : Str) == ("__debug__" : Str)) = false := by decide +kernel
theorem nc_4 : (("_law_mixed" : Str) == ("__classdict__" : Str)) = false := by decide +kernel
theorem nd_5 : (("_law_some" : Str) == ("__debug__" : Str)) = false := by decide +kernel
theorem nc_5 : (("_law_some" : Str) == ("__classdict__" : Str)) = false := by decide +kernel
theorem nd_6 : (("_law_draw" : Str) == ("__debug__" : Str)) = false := by decide +kernel
theorem nc_6 : (("_law_draw" : Str) == ("__classdict__" : Str)) = false := by decide +kernel
theorem nd_7 : (("_law_sort" : Str) == ("__debug__" : Str)) = false := by decide +kernel
theorem nc_7 : (("_law_sort" : Str) == ("__classdict__" : Str)) = false := by decide +kernel
theorem nd_8 : (("_law_pick" : Str) == ("__debug__" : Str)) = false := by decide +kernel
theorem nc_8 : (("_law_pick" : Str) == ("__classdict__" : Str)) = false := by decide +kernel
theorem nd_9 : (("_law_letters" : Str) == ("__debug__" : Str)) = false := by decide +kernel
theorem nc_9 : (("_law_letters" : Str) == ("__classdict__" : Str)) = false := by decide +kernel
theorem nd_10 : (("_law_many" : Str) == ("__debug__" : Str)) = false := by decide +kernel
theorem nc_10 : (("_law_many" : Str) == ("__classdict__" : Str)) = false := by decide +kernel
theorem nd_11 : (("_law_found" : Str) == ("__debug__" : Str)) = false := by decide +kernel
theorem nc_11 : (("_law_found" : Str) == ("__classdict__" : Str)) = false := by decide +kernel
theorem nd_12 : (("_law_begun" : Str) == ("__debug__" : Str)) = false := by decide +kernel
theorem nc_12 : (("_law_begun" : Str) == ("__classdict__" : Str)) = false := by decide +kernel
theorem nd_13 : (("_law_worth" : Str) == ("__debug__" : Str)) = false := by decide +kernel
theorem nc_13 : (("_law_worth" : Str) == ("__classdict__" : Str)) = false := by decide +kernel
theorem nd_14 : (("_law_line" : Str) == ("__debug__" : Str)) = false := by decide +kernel
theorem nc_14 : (("_law_line" : Str) == ("__classdict__" : Str)) = false := by decide +kernel
theorem nd_15 : (("worth" : Str) == ("__debug__" : Str)) = false := by decide +kernel
theorem nc_15 : (("worth" : Str) == ("__classdict__" : Str)) = false := by decide +kernel
theorem nd_16 : (("row" : Str) == ("__debug__" : Str)) = false := by decide +kernel
theorem nc_16 : (("row" : Str) == ("__classdict__" : Str)) = false := by decide +kernel
theorem nd_17 : (("worth_key" : Str) == ("__debug__" : Str)) = false := by decide +kernel
theorem nc_17 : (("worth_key" : Str) == ("__classdict__" : Str)) = false := by decide +kernel
theorem nd_18 : (("row_key" : Str) == ("__debug__" : Str)) = false := by decide +kernel
theorem nc_18 : (("row_key" : Str) == ("__classdict__" : Str)) = false := by decide +kernel
theorem nd_19 : (("rows" : Str) == ("__debug__" : Str)) = false := by decide +kernel
theorem nc_19 : (("rows" : Str) == ("__classdict__" : Str)) = false := by decide +kernel
theorem nd_20 : (("_law_worth_here" : Str) == ("__debug__" : Str)) = false := by decide +kernel
theorem nc_20 : (("_law_worth_here" : Str) == ("__classdict__" : Str)) = false := by decide +kernel
theorem nd_21 : (("_law_two" : Str) == ("__debug__" : Str)) = false := by decide +kernel
theorem nc_21 : (("_law_two" : Str) == ("__classdict__" : Str)) = false := by decide +kernel
theorem nd_22 : (("_law_one" : Str) == ("__debug__" : Str)) = false := by decide +kernel
theorem nc_22 : (("_law_one" : Str) == ("__classdict__" : Str)) = false := by decide +kernel
theorem nd_23 : (("_law_rank" : Str) == ("__debug__" : Str)) = false := by decide +kernel
theorem nc_23 : (("_law_rank" : Str) == ("__classdict__" : Str)) = false := by decide +kernel
theorem nd_24 : (("_law_k" : Str) == ("__debug__" : Str)) = false := by decide +kernel
theorem nc_24 : (("_law_k" : Str) == ("__classdict__" : Str)) = false := by decide +kernel
theorem nd_25 : (("_law_lines_here" : Str) == ("__debug__" : Str)) = false := by decide +kernel
theorem nc_25 : (("_law_lines_here" : Str) == ("__classdict__" : Str)) = false := by decide +kernel
theorem nd_26 : (("_law_is_less" : Str) == ("__debug__" : Str)) = false := by decide +kernel
theorem nc_26 : (("_law_is_less" : Str) == ("__classdict__" : Str)) = false := by decide +kernel
theorem nd_27 : (("_law_spot" : Str) == ("__debug__" : Str)) = false := by decide +kernel
theorem nc_27 : (("_law_spot" : Str) == ("__classdict__" : Str)) = false := by decide +kernel
theorem nd_28 : (("_law_deck" : Str) == ("__debug__" : Str)) = false := by decide +kernel
theorem nc_28 : (("_law_deck" : Str) == ("__classdict__" : Str)) = false := by decide +kernel
theorem nd_29 : (("_law_lines" : Str) == ("__debug__" : Str)) = false := by decide +kernel
theorem nc_29 : (("_law_lines" : Str) == ("__classdict__" : Str)) = false := by decide +kernel
theorem nd_30 : (("_law_great" : Str) == ("__debug__" : Str)) = false := by decide +kernel
theorem nc_30 : (("_law_great" : Str) == ("__classdict__" : Str)) = false := by decide +kernel
theorem nd_31 : (("_law_due" : Str) == ("__debug__" : Str)) = false := by decide +kernel
theorem nc_31 : (("_law_due" : Str) == ("__classdict__" : Str)) = false := by decide +kernel
theorem nd_32 : (("rising" : Str) == ("__debug__" : Str)) = false := by decide +kernel
theorem nc_32 : (("rising" : Str) == ("__classdict__" : Str)) = false := by decide +kernel
theorem nd_33 : (("_law_told" : Str) == ("__debug__" : Str)) = false := by decide +kernel
theorem nc_33 : (("_law_told" : Str) == ("__classdict__" : Str)) = false := by decide +kernel
theorem nd_34 : (("_law_due_here" : Str) == ("__debug__" : Str)) = false := by decide +kernel
theorem nc_34 : (("_law_due_here" : Str) == ("__classdict__" : Str)) = false := by decide +kernel
theorem nd_35 : (("_law_kept" : Str) == ("__debug__" : Str)) = false := by decide +kernel
theorem nc_35 : (("_law_kept" : Str) == ("__classdict__" : Str)) = false := by decide +kernel
end Lk03

namespace Lk03
open PySem PySem.Spec PyProof.Rows L2 DL
/-! ### the mirrors: printed by gen.py -/
def b__law_deck : Rho → W Out :=
    (sRet (eDisM (pCons (eC (.str (PySem.Str.ofString "cells"))) (eCall listMD (aCons (eSl (eVar 0) oNone (oSome (eC (.int 63)))) aNil)) (pCons (eC (.str (PySem.Str.ofString "turns"))) (eC (.int 0)) (pCons (eC (.str (PySem.Str.ofString "seed"))) (eBin modD (eBin addD (eCall sumD (aCons (eSl (eVar 0) oNone (oSome (eC (.int 63)))) aNil)) (eBin mulAD (eC (.int 104729)) (eCall lenD (aCons (eSl (eVar 0) oNone (oSome (eC (.int 63)))) aNil)))) (eC (.int 2147483549))) pNil)))))
def m__law_deck : List D → W D := bodyD 1 b__law_deck
def b__law_draw : Rho → W Out :=
    (sSeq (sAsg (eBin addD (eBin dgetD (eVar 0) (eC (.str (PySem.Str.ofString "turns")))) (eC (.int 1))) (gDix (eVar 0) (eC (.str (PySem.Str.ofString "turns")))))
    (sSeq (sSet 2 (eBin dgetD (eVar 0) (eC (.str (PySem.Str.ofString "seed")))))
    (sSeq (sIf (tBin neD (eBin dgetD (eVar 0) (eC (.str (PySem.Str.ofString "cells")))) (eLst aNil)) (sSeq (sSet 2 (eMeth "list" popAtD (eBin dgetD (eVar 0) (eC (.str (PySem.Str.ofString "cells")))) (aCons (eC (.int 0)) aNil)))
    (sIf (tBin geD (eVar 2) (eBin powD (eC (.int 10)) (eC (.int 18)))) (sSeq (sDrop (eMeth "list" insertD (eBin dgetD (eVar 0) (eC (.str (PySem.Str.ofString "cells")))) (aCons (eC (.int 0)) (aCons (eBin divD (eVar 2) (eVar 1)) aNil))))
    (sRet (eBin modD (eVar 2) (eVar 1)))) sNil)) sNil)
    (sSeq (sSet 3 (eBin modD (eBin mulAD (eBin addD (eBin addD (eBin modD (eVar 2) (eC (.int 2147483629))) (eBin mulAD (eC (.int 1000003)) (eBin dgetD (eVar 0) (eC (.str (PySem.Str.ofString "turns")))))) (eC (.int 77))) (eC (.int 48271))) (eC (.int 2147483647))))
    (sSeq (sAsg (eBin modD (eBin addD (eBin mulAD (eBin dgetD (eVar 0) (eC (.str (PySem.Str.ofString "seed")))) (eC (.int 31))) (eVar 3)) (eC (.int 2147483549))) (gDix (eVar 0) (eC (.str (PySem.Str.ofString "seed")))))
    (sSeq (sSet 3 (eBin modD (eBin mulAD (eVar 3) (eBin addD (eVar 3) (eC (.int 69621)))) (eC (.int 2147483587))))
    (sRet (eBin modD (eBin addD (eBin divD (eVar 3) (eC (.int 128))) (eBin divD (eBin modD (eBin mulAD (eVar 3) (eC (.int 39373))) (eC (.int 2147483563))) (eC (.int 64)))) (eVar 1)))))))))
def m__law_draw : List D → W D := bodyD 4 b__law_draw
def b__law_pick : Rho → W Out :=
    (sRet (eBin ixD (eVar 1) (eCallD 2 m__law_draw (aCons (eVar 0) (aCons (eCall lenD (aCons (eVar 1) aNil)) aNil)))))
def m__law_pick : List D → W D := bodyD 2 b__law_pick
def b__law_worth : Rho → W Out :=
    (sSeq (sSet 1 (eCallD 2 m__law_draw (aCons (eVar 0) (aCons (eC (.int 7)) aNil))))
    (sSeq (sIf (tBin eqD (eVar 1) (eC (.int 0))) (sRet (eC .non)) sNil)
    (sSeq (sIf (tBin ltD (eVar 1) (eC (.int 4))) (sRet (eCallD 2 m__law_pick (aCons (eVar 0) (aCons (eLst (aCons (eC (.int 0)) (aCons (eC (.int 1)) (aCons (eUn negD (eC (.int 1))) (aCons (eC (.int 9)) (aCons (eC (.int 10)) (aCons (eUn negD (eC (.int 9))) (aCons (eUn negD (eC (.int 10))) (aCons (eC (.int 99)) (aCons (eC (.int 100)) (aCons (eBin powD (eC (.int 10)) (eC (.int 12))) (aCons (eBin subD (eC (.int 0)) (eBin powD (eC (.int 10)) (eC (.int 12)))) (aCons (eCallD 2 m__law_draw (aCons (eVar 0) (aCons (eBin powD (eC (.int 10)) (eC (.int 9))) aNil))) aNil))))))))))))) aNil)))) sNil)
    (sSeq (sSet 2 (eC (.str (PySem.Str.ofString "abcdefghijklmnopqrstuvwxyz"))))
    (sSeq (sIf (tBin eqD (eVar 1) (eC (.int 4))) (sRet (eCallD 2 m__law_pick (aCons (eVar 0) (aCons (eLst (aCons (eC (.str (PySem.Str.ofString ""))) (aCons (eC (.str (PySem.Str.ofString "a"))) (aCons (eC (.str (PySem.Str.ofString "aa"))) (aCons (eC (.str (PySem.Str.ofString "ab"))) (aCons (eC (.str (PySem.Str.ofString "b"))) (aCons (eC (.str (PySem.Str.ofString "z"))) (aCons (eC (.str (PySem.Str.ofString "zz"))) (aCons (eC (.str (PySem.Str.ofString "zzzzzzzz"))) (aCons (eC (.str (PySem.Str.ofString "none"))) aNil)))))))))) aNil)))) sNil)
    (sRet (eMeth "str" joinD (eC (.str (PySem.Str.ofString ""))) (aCons (eLc (iRg1 (aCons (eCallD 2 m__law_draw (aCons (eVar 0) (aCons (eC (.int 9)) aNil))) aNil)) (gNm 3) tsYes (eCallD 2 m__law_pick (aCons (eVar 0) (aCons (eVar 2) aNil))) [3]) aNil))))))))
def m__law_worth : List D → W D := bodyD 4 b__law_worth
def b__law_lines : Rho → W Out :=
    (sSeq (sSet 2 (eLstM aNil))
    (sSeq (sFor (iRg1 (aCons (eVar 1) aNil)) (gNm 3) (sSeq (sSet 4 (eTup aNil))
    (sSeq (sIf (tAndW (tBin neD (eVar 2) (eLst aNil)) (tBin eqD (eCallD 2 m__law_draw (aCons (eVar 0) (aCons (eC (.int 2)) aNil))) (eC (.int 1)))) (sSeq (sSet 4 (eCallD 2 m__law_pick (aCons (eVar 0) (aCons (eVar 2) aNil))))
    (sSet 4 (eSl (eVar 4) oNone (oSome (eCallD 2 m__law_draw (aCons (eVar 0) (aCons (eBin addD (eCall lenD (aCons (eVar 4) aNil)) (eC (.int 1))) aNil))))))) sNil)
    (sSeq (sSet 5 (eBin addD (eVar 4) (eCall tupleD (aCons (eLc (iRg1 (aCons (eCallD 2 m__law_draw (aCons (eVar 0) (aCons (eBin subD (eC (.int 9)) (eCall lenD (aCons (eVar 4) aNil))) aNil))) aNil)) (gNm 6) tsYes (eCallD 1 m__law_worth (aCons (eVar 0) aNil)) [6]) aNil))))
    (sSeq (sIf (tAndW (tBin neD (eVar 2) (eLst aNil)) (tBin eqD (eCallD 2 m__law_draw (aCons (eVar 0) (aCons (eC (.int 3)) aNil))) (eC (.int 0)))) (sSet 5 (eCallD 2 m__law_pick (aCons (eVar 0) (aCons (eVar 2) aNil)))) sNil)
    (sDrop (eMeth "list" appendD (eVar 2) (aCons (eVar 5) aNil))))))))
    (sRet (eCall tupleD (aCons (eVar 2) aNil)))))
def m__law_lines : List D → W D := bodyD 7 b__law_lines
def b_worth_key : Rho → W Out :=
    (sSeq (sIf (tBin (isND id) (eVar 0) (eC .non)) (sRet (eTup (aCons (eC (.int 0)) (aCons (eC (.int 0)) (aCons (eC (.str (PySem.Str.ofString ""))) aNil))))) sNil)
    (sSeq (sIf (tTru (eCall isiD (aCons (eVar 0) (aCons (eC (.ty "str")) aNil)))) (sRet (eTup (aCons (eC (.int 2)) (aCons (eC (.int 0)) (aCons (eVar 0) aNil))))) sNil)
    (sRet (eTup (aCons (eC (.int 1)) (aCons (eVar 0) (aCons (eC (.str (PySem.Str.ofString ""))) aNil)))))))
def m_worth_key : List D → W D := bodyD 1 b_worth_key
def b_row_key : Rho → W Out :=
    (sRet (eCall tupleD (aCons (eLc (iSeq (eVar 0)) (gNm 1) tsYes (eCallD 1 m_worth_key (aCons (eVar 1) aNil)) [1]) aNil)))
def m_row_key : List D → W D := bodyD 2 b_row_key
def b_rising : Rho → W Out :=
    (sRet (eCall tupleD (aCons (eSortK m_row_key (aCons (eVar 0) aNil)) aNil)))
def m_rising : List D → W D := bodyD 1 b_rising
def b__law_rank : Rho → W Out :=
    (sSeq (sIf (tBin (isND id) (eVar 0) (eC .non)) (sRet (eC (.int 0))) sNil)
    (sRet (eIf (tTru (eCall isiD (aCons (eVar 0) (aCons (eC (.ty "str")) aNil)))) (eC (.int 2)) (eC (.int 1)))))
def m__law_rank : List D → W D := bodyD 1 b__law_rank
def b__law_is_less : Rho → W Out :=
    (sSeq (sFor (iRg1 (aCons (eCall minD (aCons (eCall lenD (aCons (eVar 0) aNil)) (aCons (eCall lenD (aCons (eVar 1) aNil)) aNil))) aNil)) (gNm 2) (sSeq (sIf (tBin neD (eCallD 1 m__law_rank (aCons (eBin ixD (eVar 0) (eVar 2)) aNil)) (eCallD 1 m__law_rank (aCons (eBin ixD (eVar 1) (eVar 2)) aNil))) (sRet (eBin ltD (eCallD 1 m__law_rank (aCons (eBin ixD (eVar 0) (eVar 2)) aNil)) (eCallD 1 m__law_rank (aCons (eBin ixD (eVar 1) (eVar 2)) aNil)))) sNil)
    (sIf (tBin neD (eBin ixD (eVar 0) (eVar 2)) (eBin ixD (eVar 1) (eVar 2))) (sRet (eBin ltD (eBin ixD (eVar 0) (eVar 2)) (eBin ixD (eVar 1) (eVar 2)))) sNil)))
    (sRet (eBin ltD (eCall lenD (aCons (eVar 0) aNil)) (eCall lenD (aCons (eVar 1) aNil)))))
def m__law_is_less : List D → W D := bodyD 3 b__law_is_less
def b__law_due : Rho → W Out :=
    (sSeq (sSet 1 (eLstM aNil))
    (sSeq (sFor (iSeq (eVar 0)) (gNm 2) (sSeq (sSet 3 (eCall lenD (aCons (eLc (iSeq (eVar 1)) (gNm 4) (tNotW (tTru (eCallD 2 m__law_is_less (aCons (eVar 2) (aCons (eVar 4) aNil))))) (eVar 4) [4]) aNil)))
    (sDrop (eMeth "list" insertD (eVar 1) (aCons (eVar 3) (aCons (eVar 2) aNil))))))
    (sRet (eCall tupleD (aCons (eVar 1) aNil)))))
def m__law_due : List D → W D := bodyD 5 b__law_due
def b_law : Rho → W Out :=
    (sSeq (sSet 1 (eCallD 1 m__law_deck (aCons (eVar 0) aNil)))
    (sSeq (sFor (iRg1 (aCons (eC (.int 2)) aNil)) (gNm 2) (sSeq (sSet 3 (eBin eqD (eCallD 2 m__law_draw (aCons (eVar 1) (aCons (eC (.int 8)) aNil))) (eC (.int 5))))
    (sSeq (sSet 4 (eCallD 2 m__law_lines (aCons (eVar 1) (aCons (eIf (tTru (eVar 3)) (eC (.int 40)) (eCallD 2 m__law_draw (aCons (eVar 1) (aCons (eC (.int 21)) aNil)))) aNil))))
    (sSeq (sPar2 5 6 (aCons (eCall reprAD (aCons (eVar 4) aNil)) (aCons (eCall reprAD (aCons (eCallD 1 m__law_due (aCons (eVar 4) aNil)) aNil)) aNil)))
    (sSeq (sSet 7 (eCallD 1 m_rising (aCons (eVar 4) aNil)))
    (sSeq (sIf (tOrW (tBin neD (eCall reprAD (aCons (eVar 7) aNil)) (eVar 6)) (tOrW (tBin neD (eCall reprAD (aCons (eCallK [0] 1 m_rising (aCons (eVar 4) aNil)) aNil)) (eVar 6)) (tBin neD (eCall reprAD (aCons (eCallD 1 m_rising (aCons (eVar 7) aNil)) aNil)) (eVar 6)))) (sRet (eC (.bl false))) sNil)
    (sIf (tOrW (tBin neD (eCall reprAD (aCons (eVar 4) aNil)) (eVar 5)) (tBin neD (eCall reprAD (aCons (eCallD 1 m_rising (aCons (eUn revTD (eVar 4)) aNil)) aNil)) (eVar 6))) (sRet (eC (.bl false))) sNil)))))))
    (sRet (eC (.bl true)))))
def m_law : List D → W D := bodyD 8 b_law
end Lk03

namespace Lk03
open PySem PySem.Spec PyProof.Rows L2 DL
/-! ### the derivations: printed by gen.py -/
structure Facts (P : Params) (K : PySem.W.Frag) (mg : Str → Option Value) (a__law_deck a__law_draw a__law_pick a__law_worth a__law_lines a_worth_key a_row_key a_rising a__law_rank a__law_is_less a__law_due a_law : Addr) (d__law_deck d__law_draw d__law_pick d__law_worth d__law_lines d_worth_key d_row_key d_rising d__law_rank d__law_is_less d__law_due d_law : FuncData) : Prop where
  F__law_deck : Fun K "_law_deck" "_law_deck" s__law_deck a__law_deck d__law_deck
  g__law_deck : mg "_law_deck" = some (.ref a__law_deck)
  F__law_draw : Fun K "_law_draw" "_law_draw" s__law_draw a__law_draw d__law_draw
  g__law_draw : mg "_law_draw" = some (.ref a__law_draw)
  F__law_pick : Fun K "_law_pick" "_law_pick" s__law_pick a__law_pick d__law_pick
  g__law_pick : mg "_law_pick" = some (.ref a__law_pick)
  F__law_worth : Fun K "_law_worth" "_law_worth" s__law_worth a__law_worth d__law_worth
  g__law_worth : mg "_law_worth" = some (.ref a__law_worth)
  F__law_lines : Fun K "_law_lines" "_law_lines" s__law_lines a__law_lines d__law_lines
  g__law_lines : mg "_law_lines" = some (.ref a__law_lines)
  F_worth_key : Fun K "worth_key" "worth_key" s_worth_key a_worth_key d_worth_key
  g_worth_key : mg "worth_key" = some (.ref a_worth_key)
  F_row_key : Fun K "row_key" "row_key" s_row_key a_row_key d_row_key
  g_row_key : mg "row_key" = some (.ref a_row_key)
  F_rising : Fun K "rising" "rising" s_rising a_rising d_rising
  g_rising : mg "rising" = some (.ref a_rising)
  F__law_rank : Fun K "_law_rank" "_law_rank" s__law_rank a__law_rank d__law_rank
  g__law_rank : mg "_law_rank" = some (.ref a__law_rank)
  F__law_is_less : Fun K "_law_is_less" "_law_is_less" s__law_is_less a__law_is_less d__law_is_less
  g__law_is_less : mg "_law_is_less" = some (.ref a__law_is_less)
  F__law_due : Fun K "_law_due" "_law_due" s__law_due a__law_due d__law_due
  g__law_due : mg "_law_due" = some (.ref a__law_due)
  F_law : Fun K "law" "law" s_law a_law d_law
  g_law : mg "law" = some (.ref a_law)
  n_isinstance : mg "isinstance" = none
  n_len : mg "len" = none
  n_list : mg "list" = none
  n_min : mg "min" = none
  n_range : mg "range" = none
  n_repr : mg "repr" = none
  n_sorted : mg "sorted" = none
  n_str : mg "str" = none
  n_sum : mg "sum" = none
  n_tuple : mg "tuple" = none
section
variable {P : Program} {w : World} {K : PySem.W.Frag} {mg : Str → Option Value} {base : Heap} {a__law_deck a__law_draw a__law_pick a__law_worth a__law_lines a_worth_key a_row_key a_rising a__law_rank a__law_is_less a__law_due a_law : Addr} {d__law_deck d__law_draw d__law_pick d__law_worth d__law_lines d_worth_key d_row_key d_rising d__law_rank d__law_is_less d__law_due d_law : FuncData}
theorem kp__law_deck (T : Facts w.params K mg a__law_deck a__law_draw a__law_pick a__law_worth a__law_lines a_worth_key a_row_key a_rising a__law_rank a__law_is_less a__law_due a_law d__law_deck d__law_draw d__law_pick d__law_worth d__law_lines d_worth_key d_row_key d_rising d__law_rank d__law_is_less d__law_due d_law ) : KBinds K d__law_deck ["_law_script"] [] (fun us _ => us) (fun vs _ => vs) := Fun.kpos T.F__law_deck fun _ _ _ _ _ _ us hl => match us, hl with | [_], _ => rfl
theorem ok__law_deck (T : Facts w.params K mg a__law_deck a__law_draw a__law_pick a__law_worth a__law_lines a_worth_key a_row_key a_rising a__law_rank a__law_is_less a__law_due a_law d__law_deck d__law_draw d__law_pick d__law_worth d__law_lines d_worth_key d_row_key d_rising d__law_rank d__law_is_less d__law_due d_law ) : FnG P w K mg base CX0 1 a__law_deck d__law_deck ["_law_script"] (spD K 1 m__law_deck) :=
  fnd_of (N := NN__law_deck) (ps := ["_law_script"]) (m := b__law_deck) T.F__law_deck sc__law_deck fun cdv A outer s H E hg hr =>
    (dss_one (ds_ret (de_disM (dp_cons de_str (de_callTy call_list_of cd_listM (by rfl) T.n_list bt_list (by decide) (by decide) (da_cons (de_slice (de_var (i := 0) rfl vi__law_deck_0 nd_0 nc_0) do_none (do_some de_int)) da_nil (by rfl)) (by rfl) (by rfl)) (dp_cons de_str de_int (dp_cons de_str (de_op op_mod opd_mod (de_op op_addA opd_add (de_callB (cr_sum rfl) cd_sum (by rfl) T.n_sum bt_sum (by decide) (by decide) (da_cons (de_slice (de_var (i := 0) rfl vi__law_deck_0 nd_0 nc_0) do_none (do_some de_int)) da_nil (by rfl)) (by rfl) (by rfl)) (de_op op_mulA opd_mulA de_int (de_callB call_len cd_len (by rfl) T.n_len bt_len (by decide) (by decide) (da_cons (de_slice (de_var (i := 0) rfl vi__law_deck_0 nd_0 nc_0) do_none (do_some de_int)) da_nil (by rfl)) (by rfl) (by rfl)))) de_int) dp_nil))) (by rfl) (by rfl) (by simp) (by decide))))
theorem kp__law_draw (T : Facts w.params K mg a__law_deck a__law_draw a__law_pick a__law_worth a__law_lines a_worth_key a_row_key a_rising a__law_rank a__law_is_less a__law_due a_law d__law_deck d__law_draw d__law_pick d__law_worth d__law_lines d_worth_key d_row_key d_rising d__law_rank d__law_is_less d__law_due d_law ) : KBinds K d__law_draw ["_law_deck_here", "_law_most"] [] (fun us _ => us) (fun vs _ => vs) := Fun.kpos T.F__law_draw fun _ _ _ _ _ _ us hl => match us, hl with | [_, _], _ => rfl
theorem ok__law_draw (T : Facts w.params K mg a__law_deck a__law_draw a__law_pick a__law_worth a__law_lines a_worth_key a_row_key a_rising a__law_rank a__law_is_less a__law_due a_law d__law_deck d__law_draw d__law_pick d__law_worth d__law_lines d_worth_key d_row_key d_rising d__law_rank d__law_is_less d__law_due d_law ) : FnG P w K mg base CX0 1 a__law_draw d__law_draw ["_law_deck_here", "_law_most"] (spD K 2 m__law_draw) :=
  fnd_of (N := NN__law_draw) (ps := ["_law_deck_here", "_law_most"]) (m := b__law_draw) T.F__law_draw sc__law_draw fun cdv A outer s H E hg hr =>
    (dss_cons (ds_asg (de_op op_addA opd_add (de_dget (hu1 hr) (de_var (i := 0) rfl vi__law_draw_0 nd_1 nc_1) de_str (fun _ _ => rfl)) de_int) (dg_dix (hu1 hr) (de_var (i := 0) rfl vi__law_draw_0 nd_1 nc_1) de_str (by intro _; rfl)) (by rfl) (by rfl) (by rfl))
    (dss_cons (ds_set (i := 2) sc__law_draw.nd rfl lo__law_draw_2 (.inl rfl) (de_dget (hu1 hr) (de_var (i := 0) rfl vi__law_draw_0 nd_1 nc_1) de_str (fun _ _ => rfl)) (by rfl))
    (dss_cons (ds_if (dt_cmp (op_neA hr.units) opd_ne (de_dget (hu1 hr) (de_var (i := 0) rfl vi__law_draw_0 nd_1 nc_1) de_str (fun _ _ => rfl)) (de_lst da_nil) (nomark _)) (dss_cons (ds_set (i := 2) sc__law_draw.nd rfl lo__law_draw_2 (.inl rfl) (de_bm PySem.F.plainAttrs_list PySem.F.slot_list_pop PySem.F.type_list_pop mt_popAt md_popAt (de_dget (hu1 hr) (de_var (i := 0) rfl vi__law_draw_0 nd_1 nc_1) de_str (fun _ _ => rfl)) (da_cons de_int da_nil (by rfl)) (by rfl) (by rfl) (by rfl) (by rfl) (by rfl)) (by rfl))
    (dss_one (ds_if (dt_cmp op_geA opd_cmp (de_var (i := 2) rfl vi__law_draw_2 nd_2 nc_2) (de_op op_pow opd_pow de_int de_int) (nomark _)) (dss_cons (ds_expr (de_bm PySem.F.plainAttrs_list PySem.F.slot_list_insert PySem.F.type_list_insert mt_insert md_insert (de_dget (hu1 hr) (de_var (i := 0) rfl vi__law_draw_0 nd_1 nc_1) de_str (fun _ _ => rfl)) (da_cons de_int (da_cons (de_op op_fdivW opd_div (de_var (i := 2) rfl vi__law_draw_2 nd_2 nc_2) (de_var (i := 1) rfl vi__law_draw_1 nd_3 nc_3)) da_nil (by rfl)) (by rfl)) (by rfl) (by rfl) (by rfl) (by rfl) (by rfl)) (by rfl))
    (dss_one (ds_ret (de_op op_mod opd_mod (de_var (i := 2) rfl vi__law_draw_2 nd_2 nc_2) (de_var (i := 1) rfl vi__law_draw_1 nd_3 nc_3))))) dss_nil))) dss_nil)
    (dss_cons (ds_set (i := 3) sc__law_draw.nd rfl lo__law_draw_3 (.inl rfl) (de_op op_mod opd_mod (de_op op_mulA opd_mulA (de_op op_addA opd_add (de_op op_addA opd_add (de_op op_mod opd_mod (de_var (i := 2) rfl vi__law_draw_2 nd_2 nc_2) de_int) (de_op op_mulA opd_mulA de_int (de_dget (hu1 hr) (de_var (i := 0) rfl vi__law_draw_0 nd_1 nc_1) de_str (fun _ _ => rfl)))) de_int) de_int) de_int) (by rfl))
    (dss_cons (ds_asg (de_op op_mod opd_mod (de_op op_addA opd_add (de_op op_mulA opd_mulA (de_dget (hu1 hr) (de_var (i := 0) rfl vi__law_draw_0 nd_1 nc_1) de_str (fun _ _ => rfl)) de_int) (de_var (i := 3) rfl vi__law_draw_3 nd_4 nc_4)) de_int) (dg_dix (hu1 hr) (de_var (i := 0) rfl vi__law_draw_0 nd_1 nc_1) de_str (by intro _; rfl)) (by rfl) (by rfl) (by rfl))
    (dss_cons (ds_set (i := 3) sc__law_draw.nd rfl lo__law_draw_3 (.inl rfl) (de_op op_mod opd_mod (de_op op_mulA opd_mulA (de_var (i := 3) rfl vi__law_draw_3 nd_4 nc_4) (de_op op_addA opd_add (de_var (i := 3) rfl vi__law_draw_3 nd_4 nc_4) de_int)) de_int) (by rfl))
    (dss_one (ds_ret (de_op op_mod opd_mod (de_op op_addA opd_add (de_op op_fdivW opd_div (de_var (i := 3) rfl vi__law_draw_3 nd_4 nc_4) de_int) (de_op op_fdivW opd_div (de_op op_mod opd_mod (de_op op_mulA opd_mulA (de_var (i := 3) rfl vi__law_draw_3 nd_4 nc_4) de_int) de_int) de_int)) (de_var (i := 1) rfl vi__law_draw_1 nd_3 nc_3))))))))))
theorem kp__law_pick (T : Facts w.params K mg a__law_deck a__law_draw a__law_pick a__law_worth a__law_lines a_worth_key a_row_key a_rising a__law_rank a__law_is_less a__law_due a_law d__law_deck d__law_draw d__law_pick d__law_worth d__law_lines d_worth_key d_row_key d_rising d__law_rank d__law_is_less d__law_due d_law ) : KBinds K d__law_pick ["_law_deck_here", "_law_some"] [] (fun us _ => us) (fun vs _ => vs) := Fun.kpos T.F__law_pick fun _ _ _ _ _ _ us hl => match us, hl with | [_, _], _ => rfl
theorem ok__law_pick (T : Facts w.params K mg a__law_deck a__law_draw a__law_pick a__law_worth a__law_lines a_worth_key a_row_key a_rising a__law_rank a__law_is_less a__law_due a_law d__law_deck d__law_draw d__law_pick d__law_worth d__law_lines d_worth_key d_row_key d_rising d__law_rank d__law_is_less d__law_due d_law ) : FnG P w K mg base CX0 2 a__law_pick d__law_pick ["_law_deck_here", "_law_some"] (spD K 2 m__law_pick) :=
  fnd_of (N := NN__law_pick) (ps := ["_law_deck_here", "_law_some"]) (m := b__law_pick) T.F__law_pick sc__law_pick fun cdv A outer s H E hg hr =>
    (dss_one (ds_ret (de_ix ix_seq opd_ix (de_var (i := 1) rfl vi__law_pick_1 nd_5 nc_5) (de_call (ok__law_draw T) hg (hr.mono (by decide)) (by rfl) T.g__law_draw T.F__law_draw.kp (kp__law_draw T) nd_6 (da_cons (de_var (i := 0) rfl vi__law_pick_0 nd_1 nc_1) (da_cons (de_callB call_len cd_len (by rfl) T.n_len bt_len (by decide) (by decide) (da_cons (de_var (i := 1) rfl vi__law_pick_1 nd_5 nc_5) da_nil (by rfl)) (by rfl) (by rfl)) da_nil (by rfl)) (by rfl)) (by rfl) (by rfl)) (fun _ _ => rfl))))
theorem kp__law_worth (T : Facts w.params K mg a__law_deck a__law_draw a__law_pick a__law_worth a__law_lines a_worth_key a_row_key a_rising a__law_rank a__law_is_less a__law_due a_law d__law_deck d__law_draw d__law_pick d__law_worth d__law_lines d_worth_key d_row_key d_rising d__law_rank d__law_is_less d__law_due d_law ) : KBinds K d__law_worth ["_law_deck_here"] [] (fun us _ => us) (fun vs _ => vs) := Fun.kpos T.F__law_worth fun _ _ _ _ _ _ us hl => match us, hl with | [_], _ => rfl
theorem ok__law_worth (T : Facts w.params K mg a__law_deck a__law_draw a__law_pick a__law_worth a__law_lines a_worth_key a_row_key a_rising a__law_rank a__law_is_less a__law_due a_law d__law_deck d__law_draw d__law_pick d__law_worth d__law_lines d_worth_key d_row_key d_rising d__law_rank d__law_is_less d__law_due d_law ) : FnG P w K mg base CX0 3 a__law_worth d__law_worth ["_law_deck_here"] (spD K 1 m__law_worth) :=
  fnd_of (N := NN__law_worth) (ps := ["_law_deck_here"]) (m := b__law_worth) T.F__law_worth sc__law_worth fun cdv A outer s H E hg hr =>
    (dss_cons (ds_set (i := 1) sc__law_worth.nd rfl lo__law_worth_1 (.inl rfl) (de_call (ok__law_draw T) hg (hr.mono (by decide)) (by rfl) T.g__law_draw T.F__law_draw.kp (kp__law_draw T) nd_6 (da_cons (de_var (i := 0) rfl vi__law_worth_0 nd_1 nc_1) (da_cons de_int da_nil (by rfl)) (by rfl)) (by rfl) (by rfl)) (by rfl))
    (dss_cons (ds_if (dt_cmp (op_eqA hr.units) opd_eq (de_var (i := 1) rfl vi__law_worth_1 nd_7 nc_7) de_int (nomark _)) (dss_one (ds_ret de_non)) dss_nil)
    (dss_cons (ds_if (dt_cmp op_ltA opd_cmp (de_var (i := 1) rfl vi__law_worth_1 nd_7 nc_7) de_int (nomark _)) (dss_one (ds_ret (de_call (ok__law_pick T) hg (hr.mono (by decide)) (by rfl) T.g__law_pick T.F__law_pick.kp (kp__law_pick T) nd_8 (da_cons (de_var (i := 0) rfl vi__law_worth_0 nd_1 nc_1) (da_cons (de_lst (da_cons de_int (da_cons de_int (da_cons (de_neg de_int) (da_cons de_int (da_cons de_int (da_cons (de_neg de_int) (da_cons (de_neg de_int) (da_cons de_int (da_cons de_int (da_cons (de_op op_pow opd_pow de_int de_int) (da_cons (de_op op_sub opd_sub de_int (de_op op_pow opd_pow de_int de_int)) (da_cons (de_call (ok__law_draw T) hg (hr.mono (by decide)) (by rfl) T.g__law_draw T.F__law_draw.kp (kp__law_draw T) nd_6 (da_cons (de_var (i := 0) rfl vi__law_worth_0 nd_1 nc_1) (da_cons (de_op op_pow opd_pow de_int de_int) da_nil (by rfl)) (by rfl)) (by rfl) (by rfl)) da_nil (by rfl)) (by rfl)) (by rfl)) (by rfl)) (by rfl)) (by rfl)) (by rfl)) (by rfl)) (by rfl)) (by rfl)) (by rfl)) (by rfl))) da_nil (by rfl)) (by rfl)) (by rfl) (by rfl)))) dss_nil)
    (dss_cons (ds_set (i := 2) sc__law_worth.nd rfl lo__law_worth_2 (.inl rfl) de_str (by rfl))
    (dss_cons (ds_if (dt_cmp (op_eqA hr.units) opd_eq (de_var (i := 1) rfl vi__law_worth_1 nd_7 nc_7) de_int (nomark _)) (dss_one (ds_ret (de_call (ok__law_pick T) hg (hr.mono (by decide)) (by rfl) T.g__law_pick T.F__law_pick.kp (kp__law_pick T) nd_8 (da_cons (de_var (i := 0) rfl vi__law_worth_0 nd_1 nc_1) (da_cons (de_lst (da_cons de_str (da_cons de_str (da_cons de_str (da_cons de_str (da_cons de_str (da_cons de_str (da_cons de_str (da_cons de_str (da_cons de_str da_nil (by rfl)) (by rfl)) (by rfl)) (by rfl)) (by rfl)) (by rfl)) (by rfl)) (by rfl)) (by rfl))) da_nil (by rfl)) (by rfl)) (by rfl) (by rfl)))) dss_nil)
    (dss_one (ds_ret (de_bm PySem.F.plainAttrs_str PySem.F.slot_str_join PySem.F.type_str_join mt_join md_join de_str (da_cons (de_lc (ts := [3]) (own := [("_law_k", 3)]) rfl sc__law_worth.nd (di_range1 (by rfl) T.n_range (da_cons (de_call (ok__law_draw T) hg (hr.mono (by decide)) (by rfl) T.g__law_draw T.F__law_draw.kp (kp__law_draw T) nd_6 (da_cons (de_var (i := 0) rfl vi__law_worth_0 nd_1 nc_1) (da_cons de_int da_nil (by rfl)) (by rfl)) (by rfl) (by rfl)) da_nil (by rfl)) (by rfl)) (blkOk_by (own := [("_law_k", 3)]) (N := NN__law_worth) (sc := defScope s__law_worth) (by decide +kernel)) (by decide) (fun _ _ _ _ _ => (dg_name (i := 3) sc__law_worth.nd rfl (.inl rfl) (.inr rfl))) (fun _ _ _ _ _ => dts_nil) (fun _ _ _ _ _ => (de_call (ok__law_pick T) hg (hr.mono (by decide)) (by rfl) T.g__law_pick T.F__law_pick.kp (kp__law_pick T) nd_8 (da_cons (de_varB (i := 0) rfl (.inr (by decide +kernel)) nd_1 nc_1) (da_cons (de_varB (i := 2) rfl (.inr (by decide +kernel)) nd_9 nc_9) da_nil (by rfl)) (by rfl)) (by rfl) (by rfl))) (by intro _; rfl)) da_nil (by rfl)) (by rfl) (by rfl) (by rfl) (by rfl) (by rfl)))))))))
theorem kp__law_lines (T : Facts w.params K mg a__law_deck a__law_draw a__law_pick a__law_worth a__law_lines a_worth_key a_row_key a_rising a__law_rank a__law_is_less a__law_due a_law d__law_deck d__law_draw d__law_pick d__law_worth d__law_lines d_worth_key d_row_key d_rising d__law_rank d__law_is_less d__law_due d_law ) : KBinds K d__law_lines ["_law_deck_here", "_law_many"] [] (fun us _ => us) (fun vs _ => vs) := Fun.kpos T.F__law_lines fun _ _ _ _ _ _ us hl => match us, hl with | [_, _], _ => rfl
theorem ok__law_lines (T : Facts w.params K mg a__law_deck a__law_draw a__law_pick a__law_worth a__law_lines a_worth_key a_row_key a_rising a__law_rank a__law_is_less a__law_due a_law d__law_deck d__law_draw d__law_pick d__law_worth d__law_lines d_worth_key d_row_key d_rising d__law_rank d__law_is_less d__law_due d_law ) : FnG P w K mg base CX0 4 a__law_lines d__law_lines ["_law_deck_here", "_law_many"] (spD K 2 m__law_lines) :=
  fnd_of (N := NN__law_lines) (ps := ["_law_deck_here", "_law_many"]) (m := b__law_lines) T.F__law_lines sc__law_lines fun cdv A outer s H E hg hr =>
    (dss_cons (ds_set (i := 2) sc__law_lines.nd rfl lo__law_lines_2 (.inl rfl) (de_lstM da_nil) (by rfl))
    (dss_cons (ds_for PassesOwn.never rfl (di_range1 (by rfl) T.n_range (da_cons (de_var (i := 1) rfl vi__law_lines_1 nd_10 nc_10) da_nil (by rfl)) (by rfl)) (dg_name (i := 3) sc__law_lines.nd rfl lo__law_lines_3 (.inl rfl)) (dss_cons (ds_set (i := 4) sc__law_lines.nd rfl lo__law_lines_4 (.inl rfl) (de_tup da_nil) (by rfl))
    (dss_cons (ds_if (dw_and (dt_cmp (op_neA hr.units) opd_ne (de_var (i := 2) rfl vi__law_lines_2 nd_11 nc_11) (de_lst da_nil) (nomark _)) (dw_and1 (dt_cmp (op_eqA hr.units) opd_eq (de_call (ok__law_draw T) hg (hr.mono (by decide)) (by rfl) T.g__law_draw T.F__law_draw.kp (kp__law_draw T) nd_6 (da_cons (de_var (i := 0) rfl vi__law_lines_0 nd_1 nc_1) (da_cons de_int da_nil (by rfl)) (by rfl)) (by rfl) (by rfl)) de_int (nomark _)))).pt (dss_cons (ds_set (i := 4) sc__law_lines.nd rfl lo__law_lines_4 (.inl rfl) (de_call (ok__law_pick T) hg (hr.mono (by decide)) (by rfl) T.g__law_pick T.F__law_pick.kp (kp__law_pick T) nd_8 (da_cons (de_var (i := 0) rfl vi__law_lines_0 nd_1 nc_1) (da_cons (de_var (i := 2) rfl vi__law_lines_2 nd_11 nc_11) da_nil (by rfl)) (by rfl)) (by rfl) (by rfl)) (by rfl))
    (dss_one (ds_set (i := 4) sc__law_lines.nd rfl lo__law_lines_4 (.inl rfl) (de_slice (de_var (i := 4) rfl vi__law_lines_4 nd_12 nc_12) do_none (do_some (de_call (ok__law_draw T) hg (hr.mono (by decide)) (by rfl) T.g__law_draw T.F__law_draw.kp (kp__law_draw T) nd_6 (da_cons (de_var (i := 0) rfl vi__law_lines_0 nd_1 nc_1) (da_cons (de_op op_addA opd_add (de_callB call_len cd_len (by rfl) T.n_len bt_len (by decide) (by decide) (da_cons (de_var (i := 4) rfl vi__law_lines_4 nd_12 nc_12) da_nil (by rfl)) (by rfl) (by rfl)) de_int) da_nil (by rfl)) (by rfl)) (by rfl) (by rfl)))) (by rfl)))) dss_nil)
    (dss_cons (ds_set (i := 5) sc__law_lines.nd rfl lo__law_lines_5 (.inl rfl) (de_op op_addA opd_add (de_var (i := 4) rfl vi__law_lines_4 nd_12 nc_12) (de_callTy call_tuple_of cd_tuple (by rfl) T.n_tuple bt_tuple (by decide) (by decide) (da_cons (de_lc (ts := [6]) (own := [("_law_j", 6)]) rfl sc__law_lines.nd (di_range1 (by rfl) T.n_range (da_cons (de_call (ok__law_draw T) hg (hr.mono (by decide)) (by rfl) T.g__law_draw T.F__law_draw.kp (kp__law_draw T) nd_6 (da_cons (de_var (i := 0) rfl vi__law_lines_0 nd_1 nc_1) (da_cons (de_op op_sub opd_sub de_int (de_callB call_len cd_len (by rfl) T.n_len bt_len (by decide) (by decide) (da_cons (de_var (i := 4) rfl vi__law_lines_4 nd_12 nc_12) da_nil (by rfl)) (by rfl) (by rfl))) da_nil (by rfl)) (by rfl)) (by rfl) (by rfl)) da_nil (by rfl)) (by rfl)) (blkOk_by (own := [("_law_j", 6)]) (N := NN__law_lines) (sc := defScope s__law_lines) (by decide +kernel)) (by decide) (fun _ _ _ _ _ => (dg_name (i := 6) sc__law_lines.nd rfl (.inl rfl) (.inr rfl))) (fun _ _ _ _ _ => dts_nil) (fun _ _ _ _ _ => (de_call (ok__law_worth T) hg (hr.mono (by decide)) (by rfl) T.g__law_worth T.F__law_worth.kp (kp__law_worth T) nd_13 (da_cons (de_varB (i := 0) rfl (.inr (by decide +kernel)) nd_1 nc_1) da_nil (by rfl)) (by rfl) (by rfl))) (by intro _; rfl)) da_nil (by rfl)) (by rfl) (by rfl))) (by rfl))
    (dss_cons (ds_if (dw_and (dt_cmp (op_neA hr.units) opd_ne (de_var (i := 2) rfl vi__law_lines_2 nd_11 nc_11) (de_lst da_nil) (nomark _)) (dw_and1 (dt_cmp (op_eqA hr.units) opd_eq (de_call (ok__law_draw T) hg (hr.mono (by decide)) (by rfl) T.g__law_draw T.F__law_draw.kp (kp__law_draw T) nd_6 (da_cons (de_var (i := 0) rfl vi__law_lines_0 nd_1 nc_1) (da_cons de_int da_nil (by rfl)) (by rfl)) (by rfl) (by rfl)) de_int (nomark _)))).pt (dss_one (ds_set (i := 5) sc__law_lines.nd rfl lo__law_lines_5 (.inl rfl) (de_call (ok__law_pick T) hg (hr.mono (by decide)) (by rfl) T.g__law_pick T.F__law_pick.kp (kp__law_pick T) nd_8 (da_cons (de_var (i := 0) rfl vi__law_lines_0 nd_1 nc_1) (da_cons (de_var (i := 2) rfl vi__law_lines_2 nd_11 nc_11) da_nil (by rfl)) (by rfl)) (by rfl) (by rfl)) (by rfl))) dss_nil)
    (dss_one (ds_expr (de_bm PySem.F.plainAttrs_list PySem.F.slot_list_append PySem.F.type_list_append mt_append md_append (de_var (i := 2) rfl vi__law_lines_2 nd_11 nc_11) (da_cons (de_var (i := 5) rfl vi__law_lines_5 nd_14 nc_14) da_nil (by rfl)) (by rfl) (by rfl) (by rfl) (by rfl) (by rfl)) (by rfl))))))) (by intro _; rfl))
    (dss_one (ds_ret (de_callTy call_tuple_of cd_tuple (by rfl) T.n_tuple bt_tuple (by decide) (by decide) (da_cons (de_var (i := 2) rfl vi__law_lines_2 nd_11 nc_11) da_nil (by rfl)) (by rfl) (by rfl))))))
theorem kp_worth_key (T : Facts w.params K mg a__law_deck a__law_draw a__law_pick a__law_worth a__law_lines a_worth_key a_row_key a_rising a__law_rank a__law_is_less a__law_due a_law d__law_deck d__law_draw d__law_pick d__law_worth d__law_lines d_worth_key d_row_key d_rising d__law_rank d__law_is_less d__law_due d_law ) : KBinds K d_worth_key ["worth"] [] (fun us _ => us) (fun vs _ => vs) := Fun.kpos T.F_worth_key fun _ _ _ _ _ _ us hl => match us, hl with | [_], _ => rfl
theorem ok_worth_key (T : Facts w.params K mg a__law_deck a__law_draw a__law_pick a__law_worth a__law_lines a_worth_key a_row_key a_rising a__law_rank a__law_is_less a__law_due a_law d__law_deck d__law_draw d__law_pick d__law_worth d__law_lines d_worth_key d_row_key d_rising d__law_rank d__law_is_less d__law_due d_law ) : FnG P w K mg base CX0 1 a_worth_key d_worth_key ["worth"] (spD K 1 m_worth_key) :=
  fnd_of (N := NN_worth_key) (ps := ["worth"]) (m := b_worth_key) T.F_worth_key sc_worth_key fun cdv A outer s H E hg hr =>
    (dss_cons (ds_if (dt_cmp op_isN opd_isN (de_var (i := 0) rfl vi_worth_key_0 nd_15 nc_15) de_non (nomark _)) (dss_one (ds_ret (de_tup (da_cons de_int (da_cons de_int (da_cons de_str da_nil (by rfl)) (by rfl)) (by rfl))))) dss_nil)
    (dss_cons (ds_if (dt_truth (de_callB call_isi cd_isi (by rfl) T.n_isinstance bt_isinstance (by decide) (by decide) (da_cons (de_var (i := 0) rfl vi_worth_key_0 nd_15 nc_15) (da_cons (de_ty (by rfl) T.n_str bt_str (by decide) (by decide)) da_nil (by rfl)) (by rfl)) (by rfl) (by rfl)) (by intro _; rfl)) (dss_one (ds_ret (de_tup (da_cons de_int (da_cons de_int (da_cons (de_var (i := 0) rfl vi_worth_key_0 nd_15 nc_15) da_nil (by rfl)) (by rfl)) (by rfl))))) dss_nil)
    (dss_one (ds_ret (de_tup (da_cons de_int (da_cons (de_var (i := 0) rfl vi_worth_key_0 nd_15 nc_15) (da_cons de_str da_nil (by rfl)) (by rfl)) (by rfl)))))))
theorem kp_row_key (T : Facts w.params K mg a__law_deck a__law_draw a__law_pick a__law_worth a__law_lines a_worth_key a_row_key a_rising a__law_rank a__law_is_less a__law_due a_law d__law_deck d__law_draw d__law_pick d__law_worth d__law_lines d_worth_key d_row_key d_rising d__law_rank d__law_is_less d__law_due d_law ) : KBinds K d_row_key ["row"] [] (fun us _ => us) (fun vs _ => vs) := Fun.kpos T.F_row_key fun _ _ _ _ _ _ us hl => match us, hl with | [_], _ => rfl
theorem ok_row_key (T : Facts w.params K mg a__law_deck a__law_draw a__law_pick a__law_worth a__law_lines a_worth_key a_row_key a_rising a__law_rank a__law_is_less a__law_due a_law d__law_deck d__law_draw d__law_pick d__law_worth d__law_lines d_worth_key d_row_key d_rising d__law_rank d__law_is_less d__law_due d_law ) : FnG P w K mg base CX0 2 a_row_key d_row_key ["row"] (spD K 1 m_row_key) :=
  fnd_of (N := NN_row_key) (ps := ["row"]) (m := b_row_key) T.F_row_key sc_row_key fun cdv A outer s H E hg hr =>
    (dss_one (ds_ret (de_callTy call_tuple_of cd_tuple (by rfl) T.n_tuple bt_tuple (by decide) (by decide) (da_cons (de_lc (ts := [1]) (own := [("worth", 1)]) rfl sc_row_key.nd (di_seq (de_var (i := 0) rfl vi_row_key_0 nd_16 nc_16)) (blkOk_by (own := [("worth", 1)]) (N := NN_row_key) (sc := defScope s_row_key) (by decide +kernel)) (by decide) (fun _ _ _ _ _ => (dg_name (i := 1) sc_row_key.nd rfl (.inl rfl) (.inr rfl))) (fun _ _ _ _ _ => dts_nil) (fun _ _ _ _ _ => (de_call (ok_worth_key T) hg (hr.mono (by decide)) (by rfl) T.g_worth_key T.F_worth_key.kp (kp_worth_key T) nd_17 (da_cons (de_varB (i := 1) rfl (.inl (by decide +kernel)) nd_15 nc_15) da_nil (by rfl)) (by rfl) (by rfl))) (by intro _; rfl)) da_nil (by rfl)) (by rfl) (by rfl))))
theorem kp_rising (T : Facts w.params K mg a__law_deck a__law_draw a__law_pick a__law_worth a__law_lines a_worth_key a_row_key a_rising a__law_rank a__law_is_less a__law_due a_law d__law_deck d__law_draw d__law_pick d__law_worth d__law_lines d_worth_key d_row_key d_rising d__law_rank d__law_is_less d__law_due d_law ) : KBinds K d_rising ["rows"] [] (fun us _ => us) (fun vs _ => vs) := Fun.kpos T.F_rising fun _ _ _ _ _ _ us hl => match us, hl with | [_], _ => rfl
theorem kw_rising_0 (T : Facts w.params K mg a__law_deck a__law_draw a__law_pick a__law_worth a__law_lines a_worth_key a_row_key a_rising a__law_rank a__law_is_less a__law_due a_law d__law_deck d__law_draw d__law_pick d__law_worth d__law_lines d_worth_key d_row_key d_rising d__law_rank d__law_is_less d__law_due d_law ) : KBinds K d_rising ["rows"] ["rows"] (gKw [0]) (gKw [0]) := Fun.kkw ["rows"] [0] T.F_rising (by decide) fun _ _ _ _ _ _ ws hl => match ws, hl with | _ :: _, _ => rfl | [], h => absurd h (by simp [pick])
theorem ok_rising (T : Facts w.params K mg a__law_deck a__law_draw a__law_pick a__law_worth a__law_lines a_worth_key a_row_key a_rising a__law_rank a__law_is_less a__law_due a_law d__law_deck d__law_draw d__law_pick d__law_worth d__law_lines d_worth_key d_row_key d_rising d__law_rank d__law_is_less d__law_due d_law ) : FnG P w K mg base CX0 4 a_rising d_rising ["rows"] (spD K 1 m_rising) :=
  fnd_of (N := NN_rising) (ps := ["rows"]) (m := b_rising) T.F_rising sc_rising fun cdv A outer s H E hg hr =>
    (dss_one (ds_ret (de_callTy call_tuple_of cd_tuple (by rfl) T.n_tuple bt_tuple (by decide) (by decide) (da_cons (de_sortK (ok_row_key T) hg (hr.mono (by decide)) (kp_row_key T) (by rfl) T.n_sorted (da_cons (de_var (i := 0) rfl vi_rising_0 nd_19 nc_19) da_nil (by rfl)) (by rfl) T.g_row_key nd_18 (by rfl) (by rfl) (by rfl) (by rfl) (by rfl)) da_nil (by rfl)) (by rfl) (by rfl))))
theorem kp__law_rank (T : Facts w.params K mg a__law_deck a__law_draw a__law_pick a__law_worth a__law_lines a_worth_key a_row_key a_rising a__law_rank a__law_is_less a__law_due a_law d__law_deck d__law_draw d__law_pick d__law_worth d__law_lines d_worth_key d_row_key d_rising d__law_rank d__law_is_less d__law_due d_law ) : KBinds K d__law_rank ["_law_worth_here"] [] (fun us _ => us) (fun vs _ => vs) := Fun.kpos T.F__law_rank fun _ _ _ _ _ _ us hl => match us, hl with | [_], _ => rfl
theorem ok__law_rank (T : Facts w.params K mg a__law_deck a__law_draw a__law_pick a__law_worth a__law_lines a_worth_key a_row_key a_rising a__law_rank a__law_is_less a__law_due a_law d__law_deck d__law_draw d__law_pick d__law_worth d__law_lines d_worth_key d_row_key d_rising d__law_rank d__law_is_less d__law_due d_law ) : FnG P w K mg base CX0 1 a__law_rank d__law_rank ["_law_worth_here"] (spD K 1 m__law_rank) :=
  fnd_of (N := NN__law_rank) (ps := ["_law_worth_here"]) (m := b__law_rank) T.F__law_rank sc__law_rank fun cdv A outer s H E hg hr =>
    (dss_cons (ds_if (dt_cmp op_isN opd_isN (de_var (i := 0) rfl vi__law_rank_0 nd_20 nc_20) de_non (nomark _)) (dss_one (ds_ret de_int)) dss_nil)
    (dss_one (ds_ret (de_if (dt_truth (de_callB call_isi cd_isi (by rfl) T.n_isinstance bt_isinstance (by decide) (by decide) (da_cons (de_var (i := 0) rfl vi__law_rank_0 nd_20 nc_20) (da_cons (de_ty (by rfl) T.n_str bt_str (by decide) (by decide)) da_nil (by rfl)) (by rfl)) (by rfl) (by rfl)) (by intro _; rfl)) de_int de_int))))
theorem kp__law_is_less (T : Facts w.params K mg a__law_deck a__law_draw a__law_pick a__law_worth a__law_lines a_worth_key a_row_key a_rising a__law_rank a__law_is_less a__law_due a_law d__law_deck d__law_draw d__law_pick d__law_worth d__law_lines d_worth_key d_row_key d_rising d__law_rank d__law_is_less d__law_due d_law ) : KBinds K d__law_is_less ["_law_one", "_law_two"] [] (fun us _ => us) (fun vs _ => vs) := Fun.kpos T.F__law_is_less fun _ _ _ _ _ _ us hl => match us, hl with | [_, _], _ => rfl
theorem ok__law_is_less (T : Facts w.params K mg a__law_deck a__law_draw a__law_pick a__law_worth a__law_lines a_worth_key a_row_key a_rising a__law_rank a__law_is_less a__law_due a_law d__law_deck d__law_draw d__law_pick d__law_worth d__law_lines d_worth_key d_row_key d_rising d__law_rank d__law_is_less d__law_due d_law ) : FnG P w K mg base CX0 2 a__law_is_less d__law_is_less ["_law_one", "_law_two"] (spD K 2 m__law_is_less) :=
  fnd_of (N := NN__law_is_less) (ps := ["_law_one", "_law_two"]) (m := b__law_is_less) T.F__law_is_less sc__law_is_less fun cdv A outer s H E hg hr =>
    (dss_cons (ds_for PassesOwn.never rfl (di_range1 (by rfl) T.n_range (da_cons (de_callB (call_minA rfl hr.units) cd_min (by rfl) T.n_min bt_min (by decide) (by decide) (da_cons (de_callB call_len cd_len (by rfl) T.n_len bt_len (by decide) (by decide) (da_cons (de_var (i := 0) rfl vi__law_is_less_0 nd_22 nc_22) da_nil (by rfl)) (by rfl) (by rfl)) (da_cons (de_callB call_len cd_len (by rfl) T.n_len bt_len (by decide) (by decide) (da_cons (de_var (i := 1) rfl vi__law_is_less_1 nd_21 nc_21) da_nil (by rfl)) (by rfl) (by rfl)) da_nil (by rfl)) (by rfl)) (by rfl) (by rfl)) da_nil (by rfl)) (by rfl)) (dg_name (i := 2) sc__law_is_less.nd rfl lo__law_is_less_2 (.inl rfl)) (dss_cons (ds_if (dt_cmp (op_neA hr.units) opd_ne (de_call (ok__law_rank T) hg (hr.mono (by decide)) (by rfl) T.g__law_rank T.F__law_rank.kp (kp__law_rank T) nd_23 (da_cons (de_ix ix_seq opd_ix (de_var (i := 0) rfl vi__law_is_less_0 nd_22 nc_22) (de_var (i := 2) rfl vi__law_is_less_2 nd_24 nc_24) (fun _ _ => rfl)) da_nil (by rfl)) (by rfl) (by rfl)) (de_call (ok__law_rank T) hg (hr.mono (by decide)) (by rfl) T.g__law_rank T.F__law_rank.kp (kp__law_rank T) nd_23 (da_cons (de_ix ix_seq opd_ix (de_var (i := 1) rfl vi__law_is_less_1 nd_21 nc_21) (de_var (i := 2) rfl vi__law_is_less_2 nd_24 nc_24) (fun _ _ => rfl)) da_nil (by rfl)) (by rfl) (by rfl)) (nomark _)) (dss_one (ds_ret (de_cmp op_ltA opd_cmp (de_call (ok__law_rank T) hg (hr.mono (by decide)) (by rfl) T.g__law_rank T.F__law_rank.kp (kp__law_rank T) nd_23 (da_cons (de_ix ix_seq opd_ix (de_var (i := 0) rfl vi__law_is_less_0 nd_22 nc_22) (de_var (i := 2) rfl vi__law_is_less_2 nd_24 nc_24) (fun _ _ => rfl)) da_nil (by rfl)) (by rfl) (by rfl)) (de_call (ok__law_rank T) hg (hr.mono (by decide)) (by rfl) T.g__law_rank T.F__law_rank.kp (kp__law_rank T) nd_23 (da_cons (de_ix ix_seq opd_ix (de_var (i := 1) rfl vi__law_is_less_1 nd_21 nc_21) (de_var (i := 2) rfl vi__law_is_less_2 nd_24 nc_24) (fun _ _ => rfl)) da_nil (by rfl)) (by rfl) (by rfl)) (nomark _)))) dss_nil)
    (dss_one (ds_if (dt_cmp (op_neA hr.units) opd_ne (de_ix ix_seq opd_ix (de_var (i := 0) rfl vi__law_is_less_0 nd_22 nc_22) (de_var (i := 2) rfl vi__law_is_less_2 nd_24 nc_24) (fun _ _ => rfl)) (de_ix ix_seq opd_ix (de_var (i := 1) rfl vi__law_is_less_1 nd_21 nc_21) (de_var (i := 2) rfl vi__law_is_less_2 nd_24 nc_24) (fun _ _ => rfl)) (nomark _)) (dss_one (ds_ret (de_cmp op_ltA opd_cmp (de_ix ix_seq opd_ix (de_var (i := 0) rfl vi__law_is_less_0 nd_22 nc_22) (de_var (i := 2) rfl vi__law_is_less_2 nd_24 nc_24) (fun _ _ => rfl)) (de_ix ix_seq opd_ix (de_var (i := 1) rfl vi__law_is_less_1 nd_21 nc_21) (de_var (i := 2) rfl vi__law_is_less_2 nd_24 nc_24) (fun _ _ => rfl)) (nomark _)))) dss_nil))) (by intro _; rfl))
    (dss_one (ds_ret (de_cmp op_ltA opd_cmp (de_callB call_len cd_len (by rfl) T.n_len bt_len (by decide) (by decide) (da_cons (de_var (i := 0) rfl vi__law_is_less_0 nd_22 nc_22) da_nil (by rfl)) (by rfl) (by rfl)) (de_callB call_len cd_len (by rfl) T.n_len bt_len (by decide) (by decide) (da_cons (de_var (i := 1) rfl vi__law_is_less_1 nd_21 nc_21) da_nil (by rfl)) (by rfl) (by rfl)) (nomark _)))))
theorem kp__law_due (T : Facts w.params K mg a__law_deck a__law_draw a__law_pick a__law_worth a__law_lines a_worth_key a_row_key a_rising a__law_rank a__law_is_less a__law_due a_law d__law_deck d__law_draw d__law_pick d__law_worth d__law_lines d_worth_key d_row_key d_rising d__law_rank d__law_is_less d__law_due d_law ) : KBinds K d__law_due ["_law_lines_here"] [] (fun us _ => us) (fun vs _ => vs) := Fun.kpos T.F__law_due fun _ _ _ _ _ _ us hl => match us, hl with | [_], _ => rfl
theorem ok__law_due (T : Facts w.params K mg a__law_deck a__law_draw a__law_pick a__law_worth a__law_lines a_worth_key a_row_key a_rising a__law_rank a__law_is_less a__law_due a_law d__law_deck d__law_draw d__law_pick d__law_worth d__law_lines d_worth_key d_row_key d_rising d__law_rank d__law_is_less d__law_due d_law ) : FnG P w K mg base CX0 3 a__law_due d__law_due ["_law_lines_here"] (spD K 1 m__law_due) :=
  fnd_of (N := NN__law_due) (ps := ["_law_lines_here"]) (m := b__law_due) T.F__law_due sc__law_due fun cdv A outer s H E hg hr =>
    (dss_cons (ds_set (i := 1) sc__law_due.nd rfl lo__law_due_1 (.inl rfl) (de_lstM da_nil) (by rfl))
    (dss_cons (ds_for PassesOwn.never rfl (di_seq (de_var (i := 0) rfl vi__law_due_0 nd_25 nc_25)) (dg_name (i := 2) sc__law_due.nd rfl lo__law_due_2 (.inl rfl)) (dss_cons (ds_set (i := 3) sc__law_due.nd rfl lo__law_due_3 (.inl rfl) (de_callB call_len cd_len (by rfl) T.n_len bt_len (by decide) (by decide) (da_cons (de_lc (ts := [4]) (own := [("_law_one", 4)]) rfl sc__law_due.nd (di_seq (de_var (i := 1) rfl vi__law_due_1 nd_11 nc_11)) (blkOk_by (own := [("_law_one", 4)]) (N := NN__law_due) (sc := defScope s__law_due) (by decide +kernel)) (by decide) (fun _ _ _ _ _ => (dg_name (i := 4) sc__law_due.nd rfl (.inl rfl) (.inr rfl))) (fun _ _ _ _ _ => (dts_one (dt_not (dt_truth (de_call (ok__law_is_less T) hg (hr.mono (by decide)) (by rfl) T.g__law_is_less T.F__law_is_less.kp (kp__law_is_less T) nd_26 (da_cons (de_varB (i := 2) rfl (.inr (by decide +kernel)) nd_14 nc_14) (da_cons (de_varB (i := 4) rfl (.inl (by decide +kernel)) nd_22 nc_22) da_nil (by rfl)) (by rfl)) (by rfl) (by rfl)) (by intro _; rfl))))) (fun _ _ _ _ _ => (de_varB (i := 4) rfl (.inl (by decide +kernel)) nd_22 nc_22)) (by intro _; rfl)) da_nil (by rfl)) (by rfl) (by rfl)) (by rfl))
    (dss_one (ds_expr (de_bm PySem.F.plainAttrs_list PySem.F.slot_list_insert PySem.F.type_list_insert mt_insert md_insert (de_var (i := 1) rfl vi__law_due_1 nd_11 nc_11) (da_cons (de_var (i := 3) rfl vi__law_due_3 nd_27 nc_27) (da_cons (de_var (i := 2) rfl vi__law_due_2 nd_14 nc_14) da_nil (by rfl)) (by rfl)) (by rfl) (by rfl) (by rfl) (by rfl) (by rfl)) (by rfl)))) (by intro _; rfl))
    (dss_one (ds_ret (de_callTy call_tuple_of cd_tuple (by rfl) T.n_tuple bt_tuple (by decide) (by decide) (da_cons (de_var (i := 1) rfl vi__law_due_1 nd_11 nc_11) da_nil (by rfl)) (by rfl) (by rfl))))))
theorem kp_law (T : Facts w.params K mg a__law_deck a__law_draw a__law_pick a__law_worth a__law_lines a_worth_key a_row_key a_rising a__law_rank a__law_is_less a__law_due a_law d__law_deck d__law_draw d__law_pick d__law_worth d__law_lines d_worth_key d_row_key d_rising d__law_rank d__law_is_less d__law_due d_law ) : KBinds K d_law ["_law_script"] [] (fun us _ => us) (fun vs _ => vs) := Fun.kpos T.F_law fun _ _ _ _ _ _ us hl => match us, hl with | [_], _ => rfl
theorem ok_law (T : Facts w.params K mg a__law_deck a__law_draw a__law_pick a__law_worth a__law_lines a_worth_key a_row_key a_rising a__law_rank a__law_is_less a__law_due a_law d__law_deck d__law_draw d__law_pick d__law_worth d__law_lines d_worth_key d_row_key d_rising d__law_rank d__law_is_less d__law_due d_law ) : FnG P w K mg base CX0 5 a_law d_law ["_law_script"] (spD K 1 m_law) :=
  fnd_of (N := NN_law) (ps := ["_law_script"]) (m := b_law) T.F_law sc_law fun cdv A outer s H E hg hr =>
    (dss_cons (ds_set (i := 1) sc_law.nd rfl lo_law_1 (.inl rfl) (de_call (ok__law_deck T) hg (hr.mono (by decide)) (by rfl) T.g__law_deck T.F__law_deck.kp (kp__law_deck T) nd_28 (da_cons (de_var (i := 0) rfl vi_law_0 nd_0 nc_0) da_nil (by rfl)) (by rfl) (by rfl)) (by rfl))
    (dss_cons (ds_for PassesOwn.never rfl (di_range1 (by rfl) T.n_range (da_cons de_int da_nil (by rfl)) (by rfl)) (dg_name (i := 2) sc_law.nd rfl lo_law_2 (.inl rfl)) (dss_cons (ds_set (i := 3) sc_law.nd rfl lo_law_3 (.inl rfl) (de_cmp (op_eqA hr.units) opd_eq (de_call (ok__law_draw T) hg (hr.mono (by decide)) (by rfl) T.g__law_draw T.F__law_draw.kp (kp__law_draw T) nd_6 (da_cons (de_var (i := 1) rfl vi_law_1 nd_1 nc_1) (da_cons de_int da_nil (by rfl)) (by rfl)) (by rfl) (by rfl)) de_int (nomark _)) (by rfl))
    (dss_cons (ds_set (i := 4) sc_law.nd rfl lo_law_4 (.inl rfl) (de_call (ok__law_lines T) hg (hr.mono (by decide)) (by rfl) T.g__law_lines T.F__law_lines.kp (kp__law_lines T) nd_29 (da_cons (de_var (i := 1) rfl vi_law_1 nd_1 nc_1) (da_cons (de_if (dt_truth (de_var (i := 3) rfl vi_law_3 nd_30 nc_30) (by intro _; rfl)) de_int (de_call (ok__law_draw T) hg (hr.mono (by decide)) (by rfl) T.g__law_draw T.F__law_draw.kp (kp__law_draw T) nd_6 (da_cons (de_var (i := 1) rfl vi_law_1 nd_1 nc_1) (da_cons de_int da_nil (by rfl)) (by rfl)) (by rfl) (by rfl))) da_nil (by rfl)) (by rfl)) (by rfl) (by rfl)) (by rfl))
    (dss_cons (ds_par2 rfl sc_law.nd (i := 5) (j := 6) rfl rfl (by decide) ll_law_5 ll_law_6 (da_cons (de_callB (DL.CallR.or (call_repr hg hr.units) (call_reprD hg hr.units)) cd_reprA (by rfl) T.n_repr bt_repr (by decide) (by decide) (da_cons (de_var (i := 4) rfl vi_law_4 nd_25 nc_25) da_nil (by rfl)) (by rfl) (by rfl)) (da_cons (de_callB (DL.CallR.or (call_repr hg hr.units) (call_reprD hg hr.units)) cd_reprA (by rfl) T.n_repr bt_repr (by decide) (by decide) (da_cons (de_call (ok__law_due T) hg (hr.mono (by decide)) (by rfl) T.g__law_due T.F__law_due.kp (kp__law_due T) nd_31 (da_cons (de_var (i := 4) rfl vi_law_4 nd_25 nc_25) da_nil (by rfl)) (by rfl) (by rfl)) da_nil (by rfl)) (by rfl) (by rfl)) da_nil (by rfl)) (by rfl)) (by rfl) (by rfl))
    (dss_cons (ds_set (i := 7) sc_law.nd rfl lo_law_7 (.inl rfl) (de_call (ok_rising T) hg (hr.mono (by decide)) (by rfl) T.g_rising T.F_rising.kp (kp_rising T) nd_32 (da_cons (de_var (i := 4) rfl vi_law_4 nd_25 nc_25) da_nil (by rfl)) (by rfl) (by rfl)) (by rfl))
    (dss_cons (ds_if (dw_or (dt_cmp (op_neA hr.units) opd_ne (de_callB (DL.CallR.or (call_repr hg hr.units) (call_reprD hg hr.units)) cd_reprA (by rfl) T.n_repr bt_repr (by decide) (by decide) (da_cons (de_var (i := 7) rfl vi_law_7 nd_33 nc_33) da_nil (by rfl)) (by rfl) (by rfl)) (de_var (i := 6) rfl vi_law_6 nd_34 nc_34) (nomark _)) (dw_or (dt_cmp (op_neA hr.units) opd_ne (de_callB (DL.CallR.or (call_repr hg hr.units) (call_reprD hg hr.units)) cd_reprA (by rfl) T.n_repr bt_repr (by decide) (by decide) (da_cons (de_callK (is := [0]) (ok_rising T) hg (hr.mono (by decide)) (by rfl) T.g_rising T.F_rising.kp (kw_rising_0 T) nd_32 (dk_cons (de_var (i := 4) rfl vi_law_4 nd_25 nc_25) dk_nil) (by rfl) (by rfl) (by rfl)) da_nil (by rfl)) (by rfl) (by rfl)) (de_var (i := 6) rfl vi_law_6 nd_34 nc_34) (nomark _)) (dw_or1 (dt_cmp (op_neA hr.units) opd_ne (de_callB (DL.CallR.or (call_repr hg hr.units) (call_reprD hg hr.units)) cd_reprA (by rfl) T.n_repr bt_repr (by decide) (by decide) (da_cons (de_call (ok_rising T) hg (hr.mono (by decide)) (by rfl) T.g_rising T.F_rising.kp (kp_rising T) nd_32 (da_cons (de_var (i := 7) rfl vi_law_7 nd_33 nc_33) da_nil (by rfl)) (by rfl) (by rfl)) da_nil (by rfl)) (by rfl) (by rfl)) (de_var (i := 6) rfl vi_law_6 nd_34 nc_34) (nomark _))))).pt (dss_one (ds_ret de_bl)) dss_nil)
    (dss_one (ds_if (dw_or (dt_cmp (op_neA hr.units) opd_ne (de_callB (DL.CallR.or (call_repr hg hr.units) (call_reprD hg hr.units)) cd_reprA (by rfl) T.n_repr bt_repr (by decide) (by decide) (da_cons (de_var (i := 4) rfl vi_law_4 nd_25 nc_25) da_nil (by rfl)) (by rfl) (by rfl)) (de_var (i := 5) rfl vi_law_5 nd_35 nc_35) (nomark _)) (dw_or1 (dt_cmp (op_neA hr.units) opd_ne (de_callB (DL.CallR.or (call_repr hg hr.units) (call_reprD hg hr.units)) cd_reprA (by rfl) T.n_repr bt_repr (by decide) (by decide) (da_cons (de_call (ok_rising T) hg (hr.mono (by decide)) (by rfl) T.g_rising T.F_rising.kp (kp_rising T) nd_32 (da_cons (de_rev (de_var (i := 4) rfl vi_law_4 nd_25 nc_25)) da_nil (by rfl)) (by rfl) (by rfl)) da_nil (by rfl)) (by rfl) (by rfl)) (de_var (i := 6) rfl vi_law_6 nd_34 nc_34) (nomark _)))).pt (dss_one (ds_ret de_bl)) dss_nil))))))) (by intro _; rfl))
    (dss_one (ds_ret de_bl))))
end
/-! ### what the top has written: printed by gen.py -/
theorem all_mk {l : PySem.W.OpenLaw} {w : World} {K : PySem.W.Frag} {h : Heap} {mg : Str → Option Value} {fa a__law_deck a__law_draw a__law_pick a__law_worth a__law_lines a_worth_key a_row_key a_rising a__law_rank a__law_is_less a__law_due a_law : Addr} (X : K.In h) (G : h.Ns mainGlobals mg) (hfa : mg "law" = some (.ref fa))
    {od0 an0 : Option Addr} {sl0 : Array (Option Value)} {oc0 kV0 dc0 pm0 cd0 ct0 : Value}
    {od1 an1 : Option Addr} {sl1 : Array (Option Value)} {oc1 kV1 dc1 pm1 cd1 ct1 : Value}
    {od2 an2 : Option Addr} {sl2 : Array (Option Value)} {oc2 kV2 dc2 pm2 cd2 ct2 : Value}
    {od3 an3 : Option Addr} {sl3 : Array (Option Value)} {oc3 kV3 dc3 pm3 cd3 ct3 : Value}
    {od4 an4 : Option Addr} {sl4 : Array (Option Value)} {oc4 kV4 dc4 pm4 cd4 ct4 : Value}
    {od5 an5 : Option Addr} {sl5 : Array (Option Value)} {oc5 kV5 dc5 pm5 cd5 ct5 : Value}
    {od6 an6 : Option Addr} {sl6 : Array (Option Value)} {oc6 kV6 dc6 pm6 cd6 ct6 : Value}
    {od7 an7 : Option Addr} {sl7 : Array (Option Value)} {oc7 kV7 dc7 pm7 cd7 ct7 : Value}
    {od8 an8 : Option Addr} {sl8 : Array (Option Value)} {oc8 kV8 dc8 pm8 cd8 ct8 : Value}
    {od9 an9 : Option Addr} {sl9 : Array (Option Value)} {oc9 kV9 dc9 pm9 cd9 ct9 : Value}
    {od10 an10 : Option Addr} {sl10 : Array (Option Value)} {oc10 kV10 dc10 pm10 cd10 ct10 : Value}
    {od11 an11 : Option Addr} {sl11 : Array (Option Value)} {oc11 kV11 dc11 pm11 cd11 ct11 : Value}
    (a0 : PySem.W.nsIn K mainGlobals "_law_deck" = some (some (.ref a__law_deck))) (l0 : K.lookup a__law_deck = some ⟨oc0, od0, .func (PySem.W.fnOf "_law_deck" "_law_deck" (defArgs s__law_deck) (defBody s__law_deck) (defScope s__law_deck) .none kV0 dc0 pm0 an0 cd0 ct0), sl0⟩) (c0 : PySem.W.codeIn K cd0 "_law_deck" = true) (k0 : PySem.W.keepIn K (.ref a__law_deck) = true)
    (a1 : PySem.W.nsIn K mainGlobals "_law_draw" = some (some (.ref a__law_draw))) (l1 : K.lookup a__law_draw = some ⟨oc1, od1, .func (PySem.W.fnOf "_law_draw" "_law_draw" (defArgs s__law_draw) (defBody s__law_draw) (defScope s__law_draw) .none kV1 dc1 pm1 an1 cd1 ct1), sl1⟩) (c1 : PySem.W.codeIn K cd1 "_law_draw" = true) (k1 : PySem.W.keepIn K (.ref a__law_draw) = true)
    (a2 : PySem.W.nsIn K mainGlobals "_law_pick" = some (some (.ref a__law_pick))) (l2 : K.lookup a__law_pick = some ⟨oc2, od2, .func (PySem.W.fnOf "_law_pick" "_law_pick" (defArgs s__law_pick) (defBody s__law_pick) (defScope s__law_pick) .none kV2 dc2 pm2 an2 cd2 ct2), sl2⟩) (c2 : PySem.W.codeIn K cd2 "_law_pick" = true) (k2 : PySem.W.keepIn K (.ref a__law_pick) = true)
    (a3 : PySem.W.nsIn K mainGlobals "_law_worth" = some (some (.ref a__law_worth))) (l3 : K.lookup a__law_worth = some ⟨oc3, od3, .func (PySem.W.fnOf "_law_worth" "_law_worth" (defArgs s__law_worth) (defBody s__law_worth) (defScope s__law_worth) .none kV3 dc3 pm3 an3 cd3 ct3), sl3⟩) (c3 : PySem.W.codeIn K cd3 "_law_worth" = true) (k3 : PySem.W.keepIn K (.ref a__law_worth) = true)
    (a4 : PySem.W.nsIn K mainGlobals "_law_lines" = some (some (.ref a__law_lines))) (l4 : K.lookup a__law_lines = some ⟨oc4, od4, .func (PySem.W.fnOf "_law_lines" "_law_lines" (defArgs s__law_lines) (defBody s__law_lines) (defScope s__law_lines) .none kV4 dc4 pm4 an4 cd4 ct4), sl4⟩) (c4 : PySem.W.codeIn K cd4 "_law_lines" = true) (k4 : PySem.W.keepIn K (.ref a__law_lines) = true)
    (a5 : PySem.W.nsIn K mainGlobals "worth_key" = some (some (.ref a_worth_key))) (l5 : K.lookup a_worth_key = some ⟨oc5, od5, .func (PySem.W.fnOf "worth_key" "worth_key" (defArgs s_worth_key) (defBody s_worth_key) (defScope s_worth_key) .none kV5 dc5 pm5 an5 cd5 ct5), sl5⟩) (c5 : PySem.W.codeIn K cd5 "worth_key" = true) (k5 : PySem.W.keepIn K (.ref a_worth_key) = true)
    (a6 : PySem.W.nsIn K mainGlobals "row_key" = some (some (.ref a_row_key))) (l6 : K.lookup a_row_key = some ⟨oc6, od6, .func (PySem.W.fnOf "row_key" "row_key" (defArgs s_row_key) (defBody s_row_key) (defScope s_row_key) .none kV6 dc6 pm6 an6 cd6 ct6), sl6⟩) (c6 : PySem.W.codeIn K cd6 "row_key" = true) (k6 : PySem.W.keepIn K (.ref a_row_key) = true)
    (a7 : PySem.W.nsIn K mainGlobals "rising" = some (some (.ref a_rising))) (l7 : K.lookup a_rising = some ⟨oc7, od7, .func (PySem.W.fnOf "rising" "rising" (defArgs s_rising) (defBody s_rising) (defScope s_rising) .none kV7 dc7 pm7 an7 cd7 ct7), sl7⟩) (c7 : PySem.W.codeIn K cd7 "rising" = true) (k7 : PySem.W.keepIn K (.ref a_rising) = true)
    (a8 : PySem.W.nsIn K mainGlobals "_law_rank" = some (some (.ref a__law_rank))) (l8 : K.lookup a__law_rank = some ⟨oc8, od8, .func (PySem.W.fnOf "_law_rank" "_law_rank" (defArgs s__law_rank) (defBody s__law_rank) (defScope s__law_rank) .none kV8 dc8 pm8 an8 cd8 ct8), sl8⟩) (c8 : PySem.W.codeIn K cd8 "_law_rank" = true) (k8 : PySem.W.keepIn K (.ref a__law_rank) = true)
    (a9 : PySem.W.nsIn K mainGlobals "_law_is_less" = some (some (.ref a__law_is_less))) (l9 : K.lookup a__law_is_less = some ⟨oc9, od9, .func (PySem.W.fnOf "_law_is_less" "_law_is_less" (defArgs s__law_is_less) (defBody s__law_is_less) (defScope s__law_is_less) .none kV9 dc9 pm9 an9 cd9 ct9), sl9⟩) (c9 : PySem.W.codeIn K cd9 "_law_is_less" = true) (k9 : PySem.W.keepIn K (.ref a__law_is_less) = true)
    (a10 : PySem.W.nsIn K mainGlobals "_law_due" = some (some (.ref a__law_due))) (l10 : K.lookup a__law_due = some ⟨oc10, od10, .func (PySem.W.fnOf "_law_due" "_law_due" (defArgs s__law_due) (defBody s__law_due) (defScope s__law_due) .none kV10 dc10 pm10 an10 cd10 ct10), sl10⟩) (c10 : PySem.W.codeIn K cd10 "_law_due" = true) (k10 : PySem.W.keepIn K (.ref a__law_due) = true)
    (a11 : PySem.W.nsIn K mainGlobals "law" = some (some (.ref a_law))) (l11 : K.lookup a_law = some ⟨oc11, od11, .func (PySem.W.fnOf "law" "law" (defArgs s_law) (defBody s_law) (defScope s_law) .none kV11 dc11 pm11 an11 cd11 ct11), sl11⟩) (c11 : PySem.W.codeIn K cd11 "law" = true) (k11 : PySem.W.keepIn K (.ref a_law) = true)
    (z0 : PySem.W.nsIn K mainGlobals "isinstance" = some none)
    (z1 : PySem.W.nsIn K mainGlobals "len" = some none)
    (z2 : PySem.W.nsIn K mainGlobals "list" = some none)
    (z3 : PySem.W.nsIn K mainGlobals "min" = some none)
    (z4 : PySem.W.nsIn K mainGlobals "range" = some none)
    (z5 : PySem.W.nsIn K mainGlobals "repr" = some none)
    (z6 : PySem.W.nsIn K mainGlobals "sorted" = some none)
    (z7 : PySem.W.nsIn K mainGlobals "str" = some none)
    (z8 : PySem.W.nsIn K mainGlobals "sum" = some none)
    (z9 : PySem.W.nsIn K mainGlobals "tuple" = some none)
    : ∃ fd : FuncData, (∀ (s : Shared) (v : Value), BindsTo s fd ⟨[v], []⟩ [("_law_script", v)]) ∧ ∀ base : Heap, K.In base → base.Ns mainGlobals mg → FnG l.prog w K mg base CX0 5 fa fd ["_law_script"] (spD K 1 m_law) := by
  have e := hfa.symm.trans (PySem.W.mg_of X G a11)
  cases e
  have T : Facts w.params K mg a__law_deck a__law_draw a__law_pick a__law_worth a__law_lines a_worth_key a_row_key a_rising a__law_rank a__law_is_less a__law_due fa (PySem.W.fnOf "_law_deck" "_law_deck" (defArgs s__law_deck) (defBody s__law_deck) (defScope s__law_deck) .none kV0 dc0 pm0 an0 cd0 ct0) (PySem.W.fnOf "_law_draw" "_law_draw" (defArgs s__law_draw) (defBody s__law_draw) (defScope s__law_draw) .none kV1 dc1 pm1 an1 cd1 ct1) (PySem.W.fnOf "_law_pick" "_law_pick" (defArgs s__law_pick) (defBody s__law_pick) (defScope s__law_pick) .none kV2 dc2 pm2 an2 cd2 ct2) (PySem.W.fnOf "_law_worth" "_law_worth" (defArgs s__law_worth) (defBody s__law_worth) (defScope s__law_worth) .none kV3 dc3 pm3 an3 cd3 ct3) (PySem.W.fnOf "_law_lines" "_law_lines" (defArgs s__law_lines) (defBody s__law_lines) (defScope s__law_lines) .none kV4 dc4 pm4 an4 cd4 ct4) (PySem.W.fnOf "worth_key" "worth_key" (defArgs s_worth_key) (defBody s_worth_key) (defScope s_worth_key) .none kV5 dc5 pm5 an5 cd5 ct5) (PySem.W.fnOf "row_key" "row_key" (defArgs s_row_key) (defBody s_row_key) (defScope s_row_key) .none kV6 dc6 pm6 an6 cd6 ct6) (PySem.W.fnOf "rising" "rising" (defArgs s_rising) (defBody s_rising) (defScope s_rising) .none kV7 dc7 pm7 an7 cd7 ct7) (PySem.W.fnOf "_law_rank" "_law_rank" (defArgs s__law_rank) (defBody s__law_rank) (defScope s__law_rank) .none kV8 dc8 pm8 an8 cd8 ct8) (PySem.W.fnOf "_law_is_less" "_law_is_less" (defArgs s__law_is_less) (defBody s__law_is_less) (defScope s__law_is_less) .none kV9 dc9 pm9 an9 cd9 ct9) (PySem.W.fnOf "_law_due" "_law_due" (defArgs s__law_due) (defBody s__law_due) (defScope s__law_due) .none kV10 dc10 pm10 an10 cd10 ct10) (PySem.W.fnOf "law" "law" (defArgs s_law) (defBody s_law) (defScope s_law) .none kV11 dc11 pm11 an11 cd11 ct11)  := ⟨fun_mk (st := s__law_deck) l0 c0 k0, PySem.W.mg_of X G a0, fun_mk (st := s__law_draw) l1 c1 k1, PySem.W.mg_of X G a1, fun_mk (st := s__law_pick) l2 c2 k2, PySem.W.mg_of X G a2, fun_mk (st := s__law_worth) l3 c3 k3, PySem.W.mg_of X G a3, fun_mk (st := s__law_lines) l4 c4 k4, PySem.W.mg_of X G a4, fun_mk (st := s_worth_key) l5 c5 k5, PySem.W.mg_of X G a5, fun_mk (st := s_row_key) l6 c6 k6, PySem.W.mg_of X G a6, fun_mk (st := s_rising) l7 c7 k7, PySem.W.mg_of X G a7, fun_mk (st := s__law_rank) l8 c8 k8, PySem.W.mg_of X G a8, fun_mk (st := s__law_is_less) l9 c9 k9, PySem.W.mg_of X G a9, fun_mk (st := s__law_due) l10 c10 k10, PySem.W.mg_of X G a10, fun_mk (st := s_law) l11 c11 k11, PySem.W.mg_of X G a11, PySem.W.mg_none_of X G z0, PySem.W.mg_none_of X G z1, PySem.W.mg_none_of X G z2, PySem.W.mg_none_of X G z3, PySem.W.mg_none_of X G z4, PySem.W.mg_none_of X G z5, PySem.W.mg_none_of X G z6, PySem.W.mg_none_of X G z7, PySem.W.mg_none_of X G z8, PySem.W.mg_none_of X G z9⟩
  exact ⟨_, fun s v => .of_eq rfl, fun base _ _ => ok_law T⟩
end Lk03

local macro_rules | `(tactic| walk_at "ws") => `(tactic| simp only [DL.x_bnd, DL.x_ret, DL.x_req, DL.x_get, DL.x_opt, DL.x_seq, DL.x_on, DL.x_or, DL.x_ob, DL.x_oc, DL.x_nil, DL.x_rt, DL.x_rtN, DL.x_drop, DL.x_break, DL.x_cont, DL.x_if, DL.x_ift, DL.x_iff, DL.x_set, DL.x_asg, DL.x_par2, DL.x_par3, DL.x_for, DL.x_v0, DL.x_vS, DL.x_c, DL.x_bin, DL.x_un, DL.x_tbin, DL.x_tru, DL.x_trb, DL.x_not, DL.x_tand, DL.x_tor, DL.x_and, DL.x_orE, DL.x_notE, DL.x_ifE, DL.x_tup, DL.x_lst, DL.x_lstM, DL.x_anil, DL.x_acons, DL.x_call, DL.x_callD, DL.x_callK, DL.x_meth, DL.x_sl, DL.x_oN, DL.x_oS, DL.x_gn, DL.x_gt, DL.x_gc, DL.x_g0, DL.x_gi, DL.x_body, DL.x_yes, DL.x_add, DL.x_addS, DL.x_addT, DL.x_addL, DL.x_sub, DL.x_mul, DL.x_div, DL.x_mod, DL.x_pow, DL.x_neg, DL.x_cmp, DL.x_cmpS, DL.x_isN, DL.x_mmL, DL.x_mm2, DL.x_eqS, DL.x_eqI, DL.x_intb, DL.onB_bl, DL.onI_int, DL.onO_nx, DL.onO_rt, DL.onL_ml, DL.addD_ol, DL.isNon_non, DL.isNon_int, DL.isNon_str, DL.isNon_tup, DL.ix_tup, DL.ix_lst, DL.ix_str, DL.ix_obj, DL.atI_0, DL.atI_1, DL.atI_2, DL.atI_3, DL.len_tup, DL.len_lst, DL.len_str, DL.len_obj, DL.ty_obj, DL.ty_str, DL.ty_lst, DL.append_obj, DL.pop_obj, DL.set_obj, DL.ixN_3_2, DL.tuple_obj, DL.tuple_lst, DL.list_tup, DL.list_lst, DL.sl_str, DL.sl_tup, DL.sl_lst, DL.rev_tup, DL.revM_lst, DL.sum_lst, DL.put_same, DL.startD, DL.pick, List.map_cons, List.map_nil, List.replicate, List.cons_append, List.nil_append, List.append_nil, List.length_cons, List.length_nil, List.getElem?_cons_zero, List.getElem?_cons_succ, List.set_cons_zero, List.set_cons_succ, List.filterMap_cons, List.filterMap_nil, Nat.zero_add, Nat.add_zero, Nat.reduceAdd, Nat.reduceSub, true_and, and_true, id_eq, if_true, if_false, Bool.false_eq_true, Bool.not_true, Bool.not_false, DL.x_idx, DL.rev_obj, DL.wipeD, DL.x_addM, DL.x_addMl, DL.x_isi, DL.ty_nonM, DL.ty_blM, DL.ty_intM, DL.ty_strM, DL.ty_tupM, DL.ty_lstM, DL.ty_dctM, DL.kb_non_str, DL.kb_non_int, DL.kb_non_bool, DL.kb_non_tuple, DL.kb_non_list, DL.kb_non_dict, DL.kb_bl_str, DL.kb_bl_int, DL.kb_bl_bool, DL.kb_bl_tuple, DL.kb_bl_list, DL.kb_bl_dict, DL.kb_int_str, DL.kb_int_int, DL.kb_int_bool, DL.kb_int_tuple, DL.kb_int_list, DL.kb_int_dict, DL.kb_str_str, DL.kb_str_int, DL.kb_str_bool, DL.kb_str_tuple, DL.kb_str_list, DL.kb_str_dict, DL.kb_tup_str, DL.kb_tup_int, DL.kb_tup_bool, DL.kb_tup_tuple, DL.kb_tup_list, DL.kb_tup_dict, DL.kb_lst_str, DL.kb_lst_int, DL.kb_lst_bool, DL.kb_lst_tuple, DL.kb_lst_list, DL.kb_lst_dict, DL.kb_dct_str, DL.kb_dct_int, DL.kb_dct_bool, DL.kb_dct_tuple, DL.kb_dct_list, DL.kb_dct_dict, DL.isNon_bl, DL.isNon_lst, DL.isNon_dct, DL.x_tOf, DL.x_tOfE, DL.x_chain, DL.x_kix, DL.x_kin, DL.x_kgt, DL.x_allL, DL.x_anyL, DL.x_istr, DL.x_dgetO, DL.x_dgetS, DL.x_dgetI, DL.x_gdix, DL.x_dset, DL.x_popAt, DL.x_insert, DL.ty_dct, DL.x_getS1, DL.x_getI1, DL.x_getS2, DL.x_getI2, DL.x_pnil, DL.x_pcons, DL.x_disM, DL.x_dis0M, DL.x_listM, DL.x_listMT, DL.x_gst, DL.x_mulS, DL.x_mulL, DL.x_dict, DL.onM_md, DL.onS_str, DL.kfind_nil, DL.kfind_cons, DL.lit_beq, DL.x_iseq, DL.onIt_lst, DL.onIt_tup, DL.sl_obj, DL.x_rg1, DL.valD_nil, DL.valD_cons, DL.key_rr, DL.key_ll, DL.key_lr, DL.key_rl, String.reduceBEq, Option.isSome_some, Option.isSome_none, Option.getD_some, Option.getD_none, Bool.true_and, Bool.and_true, Bool.false_and, Bool.and_false, Bool.or_false, Bool.false_or, Bool.or_true, Bool.true_or, beq_self_eq_true, DL.x_addBb, DL.x_addBi, DL.x_addBs, DL.x_addBt, DL.x_addBl, DL.x_subBb, DL.x_subBib, DL.x_subBi, DL.x_mulBb, DL.x_mulBi, DL.x_strI, DL.x_strB, DL.x_up, DL.x_eqT, DL.x_eqL])
local macro_rules | `(tactic| walk_at "wn") => `(tactic| simp only [DL.x_bnd, DL.x_ret, DL.x_req, DL.x_get, DL.x_opt, DL.x_seq, DL.x_or, DL.x_ob, DL.x_oc, DL.x_nil, DL.x_rt, DL.x_rtN, DL.x_drop, DL.x_break, DL.x_cont, DL.x_if, DL.x_ift, DL.x_iff, DL.x_set, DL.x_asg, DL.x_par2, DL.x_par3, DL.x_for, DL.x_v0, DL.x_vS, DL.x_c, DL.x_bin, DL.x_un, DL.x_tbin, DL.x_tru, DL.x_trb, DL.x_not, DL.x_tand, DL.x_tor, DL.x_and, DL.x_orE, DL.x_notE, DL.x_ifE, DL.x_tup, DL.x_lst, DL.x_lstM, DL.x_anil, DL.x_acons, DL.x_call, DL.x_callD, DL.x_callK, DL.x_meth, DL.x_sl, DL.x_oN, DL.x_oS, DL.x_gn, DL.x_gt, DL.x_gc, DL.x_g0, DL.x_gi, DL.x_body, DL.x_yes, DL.x_add, DL.x_addS, DL.x_addT, DL.x_addL, DL.x_sub, DL.x_mul, DL.x_div, DL.x_mod, DL.x_pow, DL.x_neg, DL.x_cmp, DL.x_cmpS, DL.x_isN, DL.x_mmL, DL.x_mm2, DL.x_eqS, DL.x_eqI, DL.x_intb, DL.onB_bl, DL.onI_int, DL.onO_nx, DL.onO_rt, DL.onL_ml, DL.addD_ol, DL.isNon_non, DL.isNon_int, DL.isNon_str, DL.isNon_tup, DL.ix_tup, DL.ix_lst, DL.ix_str, DL.ix_obj, DL.atI_0, DL.atI_1, DL.atI_2, DL.atI_3, DL.len_tup, DL.len_lst, DL.len_str, DL.len_obj, DL.ty_obj, DL.ty_str, DL.ty_lst, DL.append_obj, DL.pop_obj, DL.set_obj, DL.ixN_3_2, DL.tuple_obj, DL.tuple_lst, DL.list_tup, DL.list_lst, DL.sl_str, DL.sl_tup, DL.sl_lst, DL.rev_tup, DL.revM_lst, DL.sum_lst, DL.put_same, DL.startD, DL.pick, List.map_cons, List.map_nil, List.replicate, List.cons_append, List.nil_append, List.append_nil, List.length_cons, List.length_nil, List.getElem?_cons_zero, List.getElem?_cons_succ, List.set_cons_zero, List.set_cons_succ, List.filterMap_cons, List.filterMap_nil, Nat.zero_add, Nat.add_zero, Nat.reduceAdd, Nat.reduceSub, true_and, and_true, id_eq, if_true, if_false, Bool.false_eq_true, Bool.not_true, Bool.not_false, DL.x_idx, DL.rev_obj, DL.wipeD, DL.x_addM, DL.x_addMl, DL.x_isi, DL.ty_nonM, DL.ty_blM, DL.ty_intM, DL.ty_strM, DL.ty_tupM, DL.ty_lstM, DL.ty_dctM, DL.kb_non_str, DL.kb_non_int, DL.kb_non_bool, DL.kb_non_tuple, DL.kb_non_list, DL.kb_non_dict, DL.kb_bl_str, DL.kb_bl_int, DL.kb_bl_bool, DL.kb_bl_tuple, DL.kb_bl_list, DL.kb_bl_dict, DL.kb_int_str, DL.kb_int_int, DL.kb_int_bool, DL.kb_int_tuple, DL.kb_int_list, DL.kb_int_dict, DL.kb_str_str, DL.kb_str_int, DL.kb_str_bool, DL.kb_str_tuple, DL.kb_str_list, DL.kb_str_dict, DL.kb_tup_str, DL.kb_tup_int, DL.kb_tup_bool, DL.kb_tup_tuple, DL.kb_tup_list, DL.kb_tup_dict, DL.kb_lst_str, DL.kb_lst_int, DL.kb_lst_bool, DL.kb_lst_tuple, DL.kb_lst_list, DL.kb_lst_dict, DL.kb_dct_str, DL.kb_dct_int, DL.kb_dct_bool, DL.kb_dct_tuple, DL.kb_dct_list, DL.kb_dct_dict, DL.isNon_bl, DL.isNon_lst, DL.isNon_dct, DL.x_tOf, DL.x_tOfE, DL.x_chain, DL.x_kix, DL.x_kin, DL.x_kgt, DL.x_allL, DL.x_anyL, DL.x_istr, DL.x_dgetO, DL.x_dgetS, DL.x_dgetI, DL.x_gdix, DL.x_dset, DL.x_popAt, DL.x_insert, DL.ty_dct, DL.x_getS1, DL.x_getI1, DL.x_getS2, DL.x_getI2, DL.x_pnil, DL.x_pcons, DL.x_disM, DL.x_dis0M, DL.x_listM, DL.x_listMT, DL.x_gst, DL.x_mulS, DL.x_mulL, DL.x_dict, DL.onM_md, DL.onS_str, DL.kfind_nil, DL.kfind_cons, DL.lit_beq, DL.x_iseq, DL.onIt_lst, DL.onIt_tup, DL.sl_obj, DL.x_rg1, DL.valD_nil, DL.valD_cons, DL.key_rr, DL.key_ll, DL.key_lr, DL.key_rl, String.reduceBEq, Option.isSome_some, Option.isSome_none, Option.getD_some, Option.getD_none, Bool.true_and, Bool.and_true, Bool.false_and, Bool.and_false, Bool.or_false, Bool.false_or, Bool.or_true, Bool.true_or, beq_self_eq_true, DL.x_addBb, DL.x_addBi, DL.x_addBs, DL.x_addBt, DL.x_addBl, DL.x_subBb, DL.x_subBib, DL.x_subBi, DL.x_mulBb, DL.x_mulBi, DL.x_strI, DL.x_strB, DL.x_up, DL.x_eqT, DL.x_eqL])
local macro_rules | `(tactic| walk_at "side") => `(tactic| first | exact True.intro | decide | omega | (simp only [DL.sz_eq, List.length_map, List.length_append, List.length_range, List.length_cons, List.length_nil, List.length_replicate, List.length_reverse, List.length_set, DL.rangeL_len, Nat.add_zero, Nat.zero_add]; omega) | exact DL.cmul_l (by omega) (by omega) | exact DL.cmul_r (by omega) (by omega) | exact DL.cdiv_w (by omega) (by omega) | exact DL.cpow_w (by decide) (by decide) (by decide) | assumption | (simp; done))
local macro_rules | `(tactic| walk_at "go") => `(tactic| repeat (first | ((with_reducible refine And.intro ?sd ?_); (case sd => walk_at "side")) | walk_at "ws"))
local macro_rules | `(tactic| walk_at "gn") => `(tactic| repeat (first | ((with_reducible refine And.intro ?sd ?_); (case sd => walk_at "side")) | walk_at "wn"))
namespace Lk03
open PySem PySem.Spec PyProof.Rows L2 DL

abbrev kC : Key := .inr (PySem.Str.ofString "cells")
abbrev kT : Key := .inr (PySem.Str.ofString "turns")
abbrev kS : Key := .inr (PySem.Str.ofString "seed")
/-- {"cells": .., "turns": .., "seed": ..} -/
def shD : Addr → Int → Int → MO := fun c seed turns => .md [(kC, .obj c), (kT, .int turns), (kS, .int seed)]
theorem put_T (x y z v : D) : putD [(kC, x), (kT, y), (kS, z)] kT v = [(kC, x), (kT, v), (kS, z)] := by
  have h1 : kC ≠ kT := by decide +kernel
  have h2 : kS ≠ kT := by decide +kernel
  simp [putD, h1, h2]
theorem put_S (x y z v : D) : putD [(kC, x), (kT, y), (kS, z)] kS v = [(kC, x), (kT, y), (kS, v)] := by
  have h1 : kC ≠ kS := by decide +kernel
  have h2 : kT ≠ kS := by decide +kernel
  simp [putD, h1, h2]
theorem key_CT : decide (kC = kT) = false := by decide +kernel
theorem pop_0 {k : Nat} : seqIndex? 0 (k + 1) = some 0 := by
  unfold seqIndex?
  simp
theorem draw_g {a c : Addr} {w : Int} (w0 : 0 < w) (w1 : w ≤ 2000000000000) : Gen shD a c 1 (m__law_draw [.obj a, .int w]) (fun d => ∃ k : Int, d = .int k ∧ 0 ≤ k ∧ k < w) := by
  intro μ0 μ t Q E h ht q
  obtain ⟨⟨ne, ⟨seed, u, ha, hu0, hu1, s0, s1⟩, ns, hc, hl⟩, fr⟩ := h
  have hac : a ≠ c := Ne.symm ne
  unfold shD at ha
  have dx : ∀ (x m : Int), 0 < m → 0 ≤ x % m ∧ x % m < m := fun x m hm => ⟨Int.emod_nonneg _ (by omega), Int.emod_lt_of_pos _ hm⟩
  have fin : ∀ (k sd : Int) (ms : List Int) (μ' : Mem), μ' a = some (shD c sd (u + 1)) → 0 ≤ k → k < w → 0 ≤ sd → sd < 4611686018427387904 → ms.length ≤ 63 → μ' c = some (.ml (ms.map .int)) → (∀ b, b ≠ a → b ≠ c → μ' b = μ b) → Q (.int k) μ' := fun k sd ms μ' e1 k0 k1 d0 d1 hm e2 e3 =>
    q _ _ ⟨k, rfl, k0, k1⟩ ⟨⟨ne, ⟨sd, u + 1, e1, by omega, by omega, d0, d1⟩, ms, e2, hm⟩, fun b mo b1 b2 e => by rw [e3 b b1 b2]; exact fr b mo b1 b2 e⟩
  simp only [m__law_draw, b__law_draw, DL.x_bnd, DL.x_ret, DL.x_req, DL.x_get, DL.x_opt, DL.x_seq, DL.x_on, DL.x_or, DL.x_ob, DL.x_oc, DL.x_nil, DL.x_rt, DL.x_rtN, DL.x_drop, DL.x_break, DL.x_cont, DL.x_if, DL.x_ift, DL.x_iff, DL.x_set, DL.x_asg, DL.x_par2, DL.x_par3, DL.x_for, DL.x_v0, DL.x_vS, DL.x_c, DL.x_bin, DL.x_un, DL.x_tbin, DL.x_tru, DL.x_trb, DL.x_not, DL.x_tand, DL.x_tor, DL.x_and, DL.x_orE, DL.x_notE, DL.x_ifE, DL.x_tup, DL.x_lst, DL.x_lstM, DL.x_anil, DL.x_acons, DL.x_call, DL.x_callD, DL.x_callK, DL.x_meth, DL.x_sl, DL.x_oN, DL.x_oS, DL.x_gn, DL.x_gt, DL.x_gc, DL.x_g0, DL.x_gi, DL.x_body, DL.x_yes, DL.x_add, DL.x_addS, DL.x_addT, DL.x_addL, DL.x_sub, DL.x_mul, DL.x_div, DL.x_mod, DL.x_pow, DL.x_neg, DL.x_cmp, DL.x_cmpS, DL.x_isN, DL.x_mmL, DL.x_mm2, DL.x_eqS, DL.x_eqI, DL.x_intb, DL.onB_bl, DL.onI_int, DL.onO_nx, DL.onO_rt, DL.onL_ml, DL.addD_ol, DL.isNon_non, DL.isNon_int, DL.isNon_str, DL.isNon_tup, DL.ix_tup, DL.ix_lst, DL.ix_str, DL.ix_obj, DL.atI_0, DL.atI_1, DL.atI_2, DL.atI_3, DL.len_tup, DL.len_lst, DL.len_str, DL.len_obj, DL.ty_obj, DL.ty_str, DL.ty_lst, DL.append_obj, DL.pop_obj, DL.set_obj, DL.ixN_3_2, DL.tuple_obj, DL.tuple_lst, DL.list_tup, DL.list_lst, DL.sl_str, DL.sl_tup, DL.sl_lst, DL.rev_tup, DL.revM_lst, DL.sum_lst, DL.put_same, DL.startD, DL.pick, List.map_cons, List.map_nil, List.replicate, List.cons_append, List.nil_append, List.append_nil, List.length_cons, List.length_nil, List.getElem?_cons_zero, List.getElem?_cons_succ, List.set_cons_zero, List.set_cons_succ, List.filterMap_cons, List.filterMap_nil, Nat.zero_add, Nat.add_zero, Nat.reduceAdd, Nat.reduceSub, true_and, and_true, id_eq, if_true, if_false, Bool.false_eq_true, Bool.not_true, Bool.not_false, DL.x_idx, DL.rev_obj, DL.wipeD, DL.x_addM, DL.x_addMl, DL.x_isi, DL.ty_nonM, DL.ty_blM, DL.ty_intM, DL.ty_strM, DL.ty_tupM, DL.ty_lstM, DL.ty_dctM, DL.kb_non_str, DL.kb_non_int, DL.kb_non_bool, DL.kb_non_tuple, DL.kb_non_list, DL.kb_non_dict, DL.kb_bl_str, DL.kb_bl_int, DL.kb_bl_bool, DL.kb_bl_tuple, DL.kb_bl_list, DL.kb_bl_dict, DL.kb_int_str, DL.kb_int_int, DL.kb_int_bool, DL.kb_int_tuple, DL.kb_int_list, DL.kb_int_dict, DL.kb_str_str, DL.kb_str_int, DL.kb_str_bool, DL.kb_str_tuple, DL.kb_str_list, DL.kb_str_dict, DL.kb_tup_str, DL.kb_tup_int, DL.kb_tup_bool, DL.kb_tup_tuple, DL.kb_tup_list, DL.kb_tup_dict, DL.kb_lst_str, DL.kb_lst_int, DL.kb_lst_bool, DL.kb_lst_tuple, DL.kb_lst_list, DL.kb_lst_dict, DL.kb_dct_str, DL.kb_dct_int, DL.kb_dct_bool, DL.kb_dct_tuple, DL.kb_dct_list, DL.kb_dct_dict, DL.isNon_bl, DL.isNon_lst, DL.isNon_dct, DL.x_tOf, DL.x_tOfE, DL.x_chain, DL.x_kix, DL.x_kin, DL.x_kgt, DL.x_allL, DL.x_anyL, DL.x_istr, DL.x_dgetO, DL.x_dgetS, DL.x_dgetI, DL.x_gdix, DL.x_dset, DL.x_popAt, DL.x_insert, DL.ty_dct, DL.x_getS1, DL.x_getI1, DL.x_getS2, DL.x_getI2, DL.x_pnil, DL.x_pcons, DL.x_disM, DL.x_dis0M, DL.x_listM, DL.x_listMT, DL.x_gst, DL.x_mulS, DL.x_mulL, DL.x_dict, DL.onM_md, DL.onS_str, DL.kfind_nil, DL.kfind_cons, DL.lit_beq, DL.x_iseq, DL.onIt_lst, DL.onIt_tup, DL.sl_obj, DL.x_rg1, DL.valD_nil, DL.valD_cons, DL.key_rr, DL.key_ll, DL.key_lr, DL.key_rl, String.reduceBEq, Option.isSome_some, Option.isSome_none, Option.getD_some, Option.getD_none, Bool.true_and, Bool.and_true, Bool.false_and, Bool.and_false, Bool.or_false, Bool.false_or, Bool.or_true, Bool.true_or, beq_self_eq_true, DL.x_addBb, DL.x_addBi, DL.x_addBs, DL.x_addBt, DL.x_addBl, DL.x_subBb, DL.x_subBib, DL.x_subBi, DL.x_mulBb, DL.x_mulBi, DL.x_strI, DL.x_strB, DL.x_up, DL.x_eqT, DL.x_eqL, ha, put_T, put_ne ne, put_ne hac, hc]
  refine ⟨by decide, by decide, ne_nil_w (ns := ns) (by rw [put_ne ne]; exact hc) ?_⟩
  cases ns with
  | nil =>
    simp only [decide_true, DL.x_bnd, DL.x_ret, DL.x_req, DL.x_get, DL.x_opt, DL.x_seq, DL.x_on, DL.x_or, DL.x_ob, DL.x_oc, DL.x_nil, DL.x_rt, DL.x_rtN, DL.x_drop, DL.x_break, DL.x_cont, DL.x_if, DL.x_ift, DL.x_iff, DL.x_set, DL.x_asg, DL.x_par2, DL.x_par3, DL.x_for, DL.x_v0, DL.x_vS, DL.x_c, DL.x_bin, DL.x_un, DL.x_tbin, DL.x_tru, DL.x_trb, DL.x_not, DL.x_tand, DL.x_tor, DL.x_and, DL.x_orE, DL.x_notE, DL.x_ifE, DL.x_tup, DL.x_lst, DL.x_lstM, DL.x_anil, DL.x_acons, DL.x_call, DL.x_callD, DL.x_callK, DL.x_meth, DL.x_sl, DL.x_oN, DL.x_oS, DL.x_gn, DL.x_gt, DL.x_gc, DL.x_g0, DL.x_gi, DL.x_body, DL.x_yes, DL.x_add, DL.x_addS, DL.x_addT, DL.x_addL, DL.x_sub, DL.x_mul, DL.x_div, DL.x_mod, DL.x_pow, DL.x_neg, DL.x_cmp, DL.x_cmpS, DL.x_isN, DL.x_mmL, DL.x_mm2, DL.x_eqS, DL.x_eqI, DL.x_intb, DL.onB_bl, DL.onI_int, DL.onO_nx, DL.onO_rt, DL.onL_ml, DL.addD_ol, DL.isNon_non, DL.isNon_int, DL.isNon_str, DL.isNon_tup, DL.ix_tup, DL.ix_lst, DL.ix_str, DL.ix_obj, DL.atI_0, DL.atI_1, DL.atI_2, DL.atI_3, DL.len_tup, DL.len_lst, DL.len_str, DL.len_obj, DL.ty_obj, DL.ty_str, DL.ty_lst, DL.append_obj, DL.pop_obj, DL.set_obj, DL.ixN_3_2, DL.tuple_obj, DL.tuple_lst, DL.list_tup, DL.list_lst, DL.sl_str, DL.sl_tup, DL.sl_lst, DL.rev_tup, DL.revM_lst, DL.sum_lst, DL.put_same, DL.startD, DL.pick, List.map_cons, List.map_nil, List.replicate, List.cons_append, List.nil_append, List.append_nil, List.length_cons, List.length_nil, List.getElem?_cons_zero, List.getElem?_cons_succ, List.set_cons_zero, List.set_cons_succ, List.filterMap_cons, List.filterMap_nil, Nat.zero_add, Nat.add_zero, Nat.reduceAdd, Nat.reduceSub, true_and, and_true, id_eq, if_true, if_false, Bool.false_eq_true, Bool.not_true, Bool.not_false, DL.x_idx, DL.rev_obj, DL.wipeD, DL.x_addM, DL.x_addMl, DL.x_isi, DL.ty_nonM, DL.ty_blM, DL.ty_intM, DL.ty_strM, DL.ty_tupM, DL.ty_lstM, DL.ty_dctM, DL.kb_non_str, DL.kb_non_int, DL.kb_non_bool, DL.kb_non_tuple, DL.kb_non_list, DL.kb_non_dict, DL.kb_bl_str, DL.kb_bl_int, DL.kb_bl_bool, DL.kb_bl_tuple, DL.kb_bl_list, DL.kb_bl_dict, DL.kb_int_str, DL.kb_int_int, DL.kb_int_bool, DL.kb_int_tuple, DL.kb_int_list, DL.kb_int_dict, DL.kb_str_str, DL.kb_str_int, DL.kb_str_bool, DL.kb_str_tuple, DL.kb_str_list, DL.kb_str_dict, DL.kb_tup_str, DL.kb_tup_int, DL.kb_tup_bool, DL.kb_tup_tuple, DL.kb_tup_list, DL.kb_tup_dict, DL.kb_lst_str, DL.kb_lst_int, DL.kb_lst_bool, DL.kb_lst_tuple, DL.kb_lst_list, DL.kb_lst_dict, DL.kb_dct_str, DL.kb_dct_int, DL.kb_dct_bool, DL.kb_dct_tuple, DL.kb_dct_list, DL.kb_dct_dict, DL.isNon_bl, DL.isNon_lst, DL.isNon_dct, DL.x_tOf, DL.x_tOfE, DL.x_chain, DL.x_kix, DL.x_kin, DL.x_kgt, DL.x_allL, DL.x_anyL, DL.x_istr, DL.x_dgetO, DL.x_dgetS, DL.x_dgetI, DL.x_gdix, DL.x_dset, DL.x_popAt, DL.x_insert, DL.ty_dct, DL.x_getS1, DL.x_getI1, DL.x_getS2, DL.x_getI2, DL.x_pnil, DL.x_pcons, DL.x_disM, DL.x_dis0M, DL.x_listM, DL.x_listMT, DL.x_gst, DL.x_mulS, DL.x_mulL, DL.x_dict, DL.onM_md, DL.onS_str, DL.kfind_nil, DL.kfind_cons, DL.lit_beq, DL.x_iseq, DL.onIt_lst, DL.onIt_tup, DL.sl_obj, DL.x_rg1, DL.valD_nil, DL.valD_cons, DL.key_rr, DL.key_ll, DL.key_lr, DL.key_rl, String.reduceBEq, Option.isSome_some, Option.isSome_none, Option.getD_some, Option.getD_none, Bool.true_and, Bool.and_true, Bool.false_and, Bool.and_false, Bool.or_false, Bool.false_or, Bool.or_true, Bool.true_or, beq_self_eq_true, DL.x_addBb, DL.x_addBi, DL.x_addBs, DL.x_addBt, DL.x_addBl, DL.x_subBb, DL.x_subBib, DL.x_subBi, DL.x_mulBb, DL.x_mulBi, DL.x_strI, DL.x_strB, DL.x_up, DL.x_eqT, DL.x_eqL, put_S]
    repeat (refine ⟨(by walk_at "side"), ?_⟩)
    exact fin _ _ [] _ (by rw [put_put, put_same]; rfl) (dx _ _ w0).1 (dx _ _ w0).2 (by omega) (by omega) (Nat.zero_le _) (by rw [put_put, put_ne ne]; exact hc) (fun b b1 b2 => by rw [put_put, put_ne b1])
  | cons n r =>
    have hl' : r.length ≤ 62 := by simpa using hl
    simp only [reduceCtorEq, decide_false, DL.x_bnd, DL.x_ret, DL.x_req, DL.x_get, DL.x_opt, DL.x_seq, DL.x_on, DL.x_or, DL.x_ob, DL.x_oc, DL.x_nil, DL.x_rt, DL.x_rtN, DL.x_drop, DL.x_break, DL.x_cont, DL.x_if, DL.x_ift, DL.x_iff, DL.x_set, DL.x_asg, DL.x_par2, DL.x_par3, DL.x_for, DL.x_v0, DL.x_vS, DL.x_c, DL.x_bin, DL.x_un, DL.x_tbin, DL.x_tru, DL.x_trb, DL.x_not, DL.x_tand, DL.x_tor, DL.x_and, DL.x_orE, DL.x_notE, DL.x_ifE, DL.x_tup, DL.x_lst, DL.x_lstM, DL.x_anil, DL.x_acons, DL.x_call, DL.x_callD, DL.x_callK, DL.x_meth, DL.x_sl, DL.x_oN, DL.x_oS, DL.x_gn, DL.x_gt, DL.x_gc, DL.x_g0, DL.x_gi, DL.x_body, DL.x_yes, DL.x_add, DL.x_addS, DL.x_addT, DL.x_addL, DL.x_sub, DL.x_mul, DL.x_div, DL.x_mod, DL.x_pow, DL.x_neg, DL.x_cmp, DL.x_cmpS, DL.x_isN, DL.x_mmL, DL.x_mm2, DL.x_eqS, DL.x_eqI, DL.x_intb, DL.onB_bl, DL.onI_int, DL.onO_nx, DL.onO_rt, DL.onL_ml, DL.addD_ol, DL.isNon_non, DL.isNon_int, DL.isNon_str, DL.isNon_tup, DL.ix_tup, DL.ix_lst, DL.ix_str, DL.ix_obj, DL.atI_0, DL.atI_1, DL.atI_2, DL.atI_3, DL.len_tup, DL.len_lst, DL.len_str, DL.len_obj, DL.ty_obj, DL.ty_str, DL.ty_lst, DL.append_obj, DL.pop_obj, DL.set_obj, DL.ixN_3_2, DL.tuple_obj, DL.tuple_lst, DL.list_tup, DL.list_lst, DL.sl_str, DL.sl_tup, DL.sl_lst, DL.rev_tup, DL.revM_lst, DL.sum_lst, DL.put_same, DL.startD, DL.pick, List.map_cons, List.map_nil, List.replicate, List.cons_append, List.nil_append, List.append_nil, List.length_cons, List.length_nil, List.getElem?_cons_zero, List.getElem?_cons_succ, List.set_cons_zero, List.set_cons_succ, List.filterMap_cons, List.filterMap_nil, Nat.zero_add, Nat.add_zero, Nat.reduceAdd, Nat.reduceSub, true_and, and_true, id_eq, if_true, if_false, Bool.false_eq_true, Bool.not_true, Bool.not_false, DL.x_idx, DL.rev_obj, DL.wipeD, DL.x_addM, DL.x_addMl, DL.x_isi, DL.ty_nonM, DL.ty_blM, DL.ty_intM, DL.ty_strM, DL.ty_tupM, DL.ty_lstM, DL.ty_dctM, DL.kb_non_str, DL.kb_non_int, DL.kb_non_bool, DL.kb_non_tuple, DL.kb_non_list, DL.kb_non_dict, DL.kb_bl_str, DL.kb_bl_int, DL.kb_bl_bool, DL.kb_bl_tuple, DL.kb_bl_list, DL.kb_bl_dict, DL.kb_int_str, DL.kb_int_int, DL.kb_int_bool, DL.kb_int_tuple, DL.kb_int_list, DL.kb_int_dict, DL.kb_str_str, DL.kb_str_int, DL.kb_str_bool, DL.kb_str_tuple, DL.kb_str_list, DL.kb_str_dict, DL.kb_tup_str, DL.kb_tup_int, DL.kb_tup_bool, DL.kb_tup_tuple, DL.kb_tup_list, DL.kb_tup_dict, DL.kb_lst_str, DL.kb_lst_int, DL.kb_lst_bool, DL.kb_lst_tuple, DL.kb_lst_list, DL.kb_lst_dict, DL.kb_dct_str, DL.kb_dct_int, DL.kb_dct_bool, DL.kb_dct_tuple, DL.kb_dct_list, DL.kb_dct_dict, DL.isNon_bl, DL.isNon_lst, DL.isNon_dct, DL.x_tOf, DL.x_tOfE, DL.x_chain, DL.x_kix, DL.x_kin, DL.x_kgt, DL.x_allL, DL.x_anyL, DL.x_istr, DL.x_dgetO, DL.x_dgetS, DL.x_dgetI, DL.x_gdix, DL.x_dset, DL.x_popAt, DL.x_insert, DL.ty_dct, DL.x_getS1, DL.x_getI1, DL.x_getS2, DL.x_getI2, DL.x_pnil, DL.x_pcons, DL.x_disM, DL.x_dis0M, DL.x_listM, DL.x_listMT, DL.x_gst, DL.x_mulS, DL.x_mulL, DL.x_dict, DL.onM_md, DL.onS_str, DL.kfind_nil, DL.kfind_cons, DL.lit_beq, DL.x_iseq, DL.onIt_lst, DL.onIt_tup, DL.sl_obj, DL.x_rg1, DL.valD_nil, DL.valD_cons, DL.key_rr, DL.key_ll, DL.key_lr, DL.key_rl, String.reduceBEq, Option.isSome_some, Option.isSome_none, Option.getD_some, Option.getD_none, Bool.true_and, Bool.and_true, Bool.false_and, Bool.and_false, Bool.or_false, Bool.false_or, Bool.or_true, Bool.true_or, beq_self_eq_true, DL.x_addBb, DL.x_addBi, DL.x_addBs, DL.x_addBt, DL.x_addBl, DL.x_subBb, DL.x_subBib, DL.x_subBi, DL.x_mulBb, DL.x_mulBi, DL.x_strI, DL.x_strB, DL.x_up, DL.x_eqT, DL.x_eqL, put_ne ne, hc, pop_0, List.eraseIdx_cons_zero]
    repeat (refine ⟨(by walk_at "side"), ?_⟩)
    by_cases hb : (10 : Int) ^ Int.toNat 18 ≤ n
    · simp only [hb, decide_true, DL.x_bnd, DL.x_ret, DL.x_req, DL.x_get, DL.x_opt, DL.x_seq, DL.x_on, DL.x_or, DL.x_ob, DL.x_oc, DL.x_nil, DL.x_rt, DL.x_rtN, DL.x_drop, DL.x_break, DL.x_cont, DL.x_if, DL.x_ift, DL.x_iff, DL.x_set, DL.x_asg, DL.x_par2, DL.x_par3, DL.x_for, DL.x_v0, DL.x_vS, DL.x_c, DL.x_bin, DL.x_un, DL.x_tbin, DL.x_tru, DL.x_trb, DL.x_not, DL.x_tand, DL.x_tor, DL.x_and, DL.x_orE, DL.x_notE, DL.x_ifE, DL.x_tup, DL.x_lst, DL.x_lstM, DL.x_anil, DL.x_acons, DL.x_call, DL.x_callD, DL.x_callK, DL.x_meth, DL.x_sl, DL.x_oN, DL.x_oS, DL.x_gn, DL.x_gt, DL.x_gc, DL.x_g0, DL.x_gi, DL.x_body, DL.x_yes, DL.x_add, DL.x_addS, DL.x_addT, DL.x_addL, DL.x_sub, DL.x_mul, DL.x_div, DL.x_mod, DL.x_pow, DL.x_neg, DL.x_cmp, DL.x_cmpS, DL.x_isN, DL.x_mmL, DL.x_mm2, DL.x_eqS, DL.x_eqI, DL.x_intb, DL.onB_bl, DL.onI_int, DL.onO_nx, DL.onO_rt, DL.onL_ml, DL.addD_ol, DL.isNon_non, DL.isNon_int, DL.isNon_str, DL.isNon_tup, DL.ix_tup, DL.ix_lst, DL.ix_str, DL.ix_obj, DL.atI_0, DL.atI_1, DL.atI_2, DL.atI_3, DL.len_tup, DL.len_lst, DL.len_str, DL.len_obj, DL.ty_obj, DL.ty_str, DL.ty_lst, DL.append_obj, DL.pop_obj, DL.set_obj, DL.ixN_3_2, DL.tuple_obj, DL.tuple_lst, DL.list_tup, DL.list_lst, DL.sl_str, DL.sl_tup, DL.sl_lst, DL.rev_tup, DL.revM_lst, DL.sum_lst, DL.put_same, DL.startD, DL.pick, List.map_cons, List.map_nil, List.replicate, List.cons_append, List.nil_append, List.append_nil, List.length_cons, List.length_nil, List.getElem?_cons_zero, List.getElem?_cons_succ, List.set_cons_zero, List.set_cons_succ, List.filterMap_cons, List.filterMap_nil, Nat.zero_add, Nat.add_zero, Nat.reduceAdd, Nat.reduceSub, true_and, and_true, id_eq, if_true, if_false, Bool.false_eq_true, Bool.not_true, Bool.not_false, DL.x_idx, DL.rev_obj, DL.wipeD, DL.x_addM, DL.x_addMl, DL.x_isi, DL.ty_nonM, DL.ty_blM, DL.ty_intM, DL.ty_strM, DL.ty_tupM, DL.ty_lstM, DL.ty_dctM, DL.kb_non_str, DL.kb_non_int, DL.kb_non_bool, DL.kb_non_tuple, DL.kb_non_list, DL.kb_non_dict, DL.kb_bl_str, DL.kb_bl_int, DL.kb_bl_bool, DL.kb_bl_tuple, DL.kb_bl_list, DL.kb_bl_dict, DL.kb_int_str, DL.kb_int_int, DL.kb_int_bool, DL.kb_int_tuple, DL.kb_int_list, DL.kb_int_dict, DL.kb_str_str, DL.kb_str_int, DL.kb_str_bool, DL.kb_str_tuple, DL.kb_str_list, DL.kb_str_dict, DL.kb_tup_str, DL.kb_tup_int, DL.kb_tup_bool, DL.kb_tup_tuple, DL.kb_tup_list, DL.kb_tup_dict, DL.kb_lst_str, DL.kb_lst_int, DL.kb_lst_bool, DL.kb_lst_tuple, DL.kb_lst_list, DL.kb_lst_dict, DL.kb_dct_str, DL.kb_dct_int, DL.kb_dct_bool, DL.kb_dct_tuple, DL.kb_dct_list, DL.kb_dct_dict, DL.isNon_bl, DL.isNon_lst, DL.isNon_dct, DL.x_tOf, DL.x_tOfE, DL.x_chain, DL.x_kix, DL.x_kin, DL.x_kgt, DL.x_allL, DL.x_anyL, DL.x_istr, DL.x_dgetO, DL.x_dgetS, DL.x_dgetI, DL.x_gdix, DL.x_dset, DL.x_popAt, DL.x_insert, DL.ty_dct, DL.x_getS1, DL.x_getI1, DL.x_getS2, DL.x_getI2, DL.x_pnil, DL.x_pcons, DL.x_disM, DL.x_dis0M, DL.x_listM, DL.x_listMT, DL.x_gst, DL.x_mulS, DL.x_mulL, DL.x_dict, DL.onM_md, DL.onS_str, DL.kfind_nil, DL.kfind_cons, DL.lit_beq, DL.x_iseq, DL.onIt_lst, DL.onIt_tup, DL.sl_obj, DL.x_rg1, DL.valD_nil, DL.valD_cons, DL.key_rr, DL.key_ll, DL.key_lr, DL.key_rl, String.reduceBEq, Option.isSome_some, Option.isSome_none, Option.getD_some, Option.getD_none, Bool.true_and, Bool.and_true, Bool.false_and, Bool.and_false, Bool.or_false, Bool.false_or, Bool.or_true, Bool.true_or, beq_self_eq_true, DL.x_addBb, DL.x_addBi, DL.x_addBs, DL.x_addBt, DL.x_addBl, DL.x_subBb, DL.x_subBib, DL.x_subBi, DL.x_mulBb, DL.x_mulBi, DL.x_strI, DL.x_strB, DL.x_up, DL.x_eqT, DL.x_eqL, put_ne hac]
      repeat (refine ⟨(by walk_at "side"), ?_⟩)
      exact fin _ seed ((n / w) :: r) _ (by rw [put_ne hac, put_ne hac, put_same]; rfl) (dx _ _ w0).1 (dx _ _ w0).2 s0 s1 (by simpa using hl) (by rw [put_same]; simp) (fun b b1 b2 => by rw [put_ne b2, put_ne b2, put_ne b1])
    · simp only [hb, decide_false, DL.x_bnd, DL.x_ret, DL.x_req, DL.x_get, DL.x_opt, DL.x_seq, DL.x_on, DL.x_or, DL.x_ob, DL.x_oc, DL.x_nil, DL.x_rt, DL.x_rtN, DL.x_drop, DL.x_break, DL.x_cont, DL.x_if, DL.x_ift, DL.x_iff, DL.x_set, DL.x_asg, DL.x_par2, DL.x_par3, DL.x_for, DL.x_v0, DL.x_vS, DL.x_c, DL.x_bin, DL.x_un, DL.x_tbin, DL.x_tru, DL.x_trb, DL.x_not, DL.x_tand, DL.x_tor, DL.x_and, DL.x_orE, DL.x_notE, DL.x_ifE, DL.x_tup, DL.x_lst, DL.x_lstM, DL.x_anil, DL.x_acons, DL.x_call, DL.x_callD, DL.x_callK, DL.x_meth, DL.x_sl, DL.x_oN, DL.x_oS, DL.x_gn, DL.x_gt, DL.x_gc, DL.x_g0, DL.x_gi, DL.x_body, DL.x_yes, DL.x_add, DL.x_addS, DL.x_addT, DL.x_addL, DL.x_sub, DL.x_mul, DL.x_div, DL.x_mod, DL.x_pow, DL.x_neg, DL.x_cmp, DL.x_cmpS, DL.x_isN, DL.x_mmL, DL.x_mm2, DL.x_eqS, DL.x_eqI, DL.x_intb, DL.onB_bl, DL.onI_int, DL.onO_nx, DL.onO_rt, DL.onL_ml, DL.addD_ol, DL.isNon_non, DL.isNon_int, DL.isNon_str, DL.isNon_tup, DL.ix_tup, DL.ix_lst, DL.ix_str, DL.ix_obj, DL.atI_0, DL.atI_1, DL.atI_2, DL.atI_3, DL.len_tup, DL.len_lst, DL.len_str, DL.len_obj, DL.ty_obj, DL.ty_str, DL.ty_lst, DL.append_obj, DL.pop_obj, DL.set_obj, DL.ixN_3_2, DL.tuple_obj, DL.tuple_lst, DL.list_tup, DL.list_lst, DL.sl_str, DL.sl_tup, DL.sl_lst, DL.rev_tup, DL.revM_lst, DL.sum_lst, DL.put_same, DL.startD, DL.pick, List.map_cons, List.map_nil, List.replicate, List.cons_append, List.nil_append, List.append_nil, List.length_cons, List.length_nil, List.getElem?_cons_zero, List.getElem?_cons_succ, List.set_cons_zero, List.set_cons_succ, List.filterMap_cons, List.filterMap_nil, Nat.zero_add, Nat.add_zero, Nat.reduceAdd, Nat.reduceSub, true_and, and_true, id_eq, if_true, if_false, Bool.false_eq_true, Bool.not_true, Bool.not_false, DL.x_idx, DL.rev_obj, DL.wipeD, DL.x_addM, DL.x_addMl, DL.x_isi, DL.ty_nonM, DL.ty_blM, DL.ty_intM, DL.ty_strM, DL.ty_tupM, DL.ty_lstM, DL.ty_dctM, DL.kb_non_str, DL.kb_non_int, DL.kb_non_bool, DL.kb_non_tuple, DL.kb_non_list, DL.kb_non_dict, DL.kb_bl_str, DL.kb_bl_int, DL.kb_bl_bool, DL.kb_bl_tuple, DL.kb_bl_list, DL.kb_bl_dict, DL.kb_int_str, DL.kb_int_int, DL.kb_int_bool, DL.kb_int_tuple, DL.kb_int_list, DL.kb_int_dict, DL.kb_str_str, DL.kb_str_int, DL.kb_str_bool, DL.kb_str_tuple, DL.kb_str_list, DL.kb_str_dict, DL.kb_tup_str, DL.kb_tup_int, DL.kb_tup_bool, DL.kb_tup_tuple, DL.kb_tup_list, DL.kb_tup_dict, DL.kb_lst_str, DL.kb_lst_int, DL.kb_lst_bool, DL.kb_lst_tuple, DL.kb_lst_list, DL.kb_lst_dict, DL.kb_dct_str, DL.kb_dct_int, DL.kb_dct_bool, DL.kb_dct_tuple, DL.kb_dct_list, DL.kb_dct_dict, DL.isNon_bl, DL.isNon_lst, DL.isNon_dct, DL.x_tOf, DL.x_tOfE, DL.x_chain, DL.x_kix, DL.x_kin, DL.x_kgt, DL.x_allL, DL.x_anyL, DL.x_istr, DL.x_dgetO, DL.x_dgetS, DL.x_dgetI, DL.x_gdix, DL.x_dset, DL.x_popAt, DL.x_insert, DL.ty_dct, DL.x_getS1, DL.x_getI1, DL.x_getS2, DL.x_getI2, DL.x_pnil, DL.x_pcons, DL.x_disM, DL.x_dis0M, DL.x_listM, DL.x_listMT, DL.x_gst, DL.x_mulS, DL.x_mulL, DL.x_dict, DL.onM_md, DL.onS_str, DL.kfind_nil, DL.kfind_cons, DL.lit_beq, DL.x_iseq, DL.onIt_lst, DL.onIt_tup, DL.sl_obj, DL.x_rg1, DL.valD_nil, DL.valD_cons, DL.key_rr, DL.key_ll, DL.key_lr, DL.key_rl, String.reduceBEq, Option.isSome_some, Option.isSome_none, Option.getD_some, Option.getD_none, Bool.true_and, Bool.and_true, Bool.false_and, Bool.and_false, Bool.or_false, Bool.false_or, Bool.or_true, Bool.true_or, beq_self_eq_true, DL.x_addBb, DL.x_addBi, DL.x_addBs, DL.x_addBt, DL.x_addBl, DL.x_subBb, DL.x_subBib, DL.x_subBi, DL.x_mulBb, DL.x_mulBi, DL.x_strI, DL.x_strB, DL.x_up, DL.x_eqT, DL.x_eqL, put_ne hac, put_S]
      repeat (refine ⟨(by walk_at "side"), ?_⟩)
      exact fin _ _ r _ (by rw [put_same]; rfl) (dx _ _ w0).1 (dx _ _ w0).2 (by omega) (by omega) (by omega) (by rw [put_ne ne, put_same]) (fun b b1 b2 => by rw [put_ne b1, put_ne b2, put_ne b1])

theorem merge3 (x y z : D) : mergeD [] [(kC, x), (kT, y), (kS, z)] = [(kC, x), (kT, y), (kS, z)] := by
  have h1 : kC ≠ kT := by decide +kernel
  have h2 : kC ≠ kS := by decide +kernel
  have h3 : kT ≠ kS := by decide +kernel
  simp [mergeD, putD, h1, h2, h3]
theorem deck_w {ns : List Int} {μ : Mem} {Q : D → Mem → Prop} {E : XD} (hl : ns.length ≤ 63) (hμ : ∀ b, μ b = none)
    (q : ∀ a c μ', Dk shD μ' a c 0 → Q (.obj a) μ') : m__law_deck [.lst (ns.map .int)] μ Q E := by
  have hc : DL.cutD (ns.map D.int) none (some 63) = ns.map D.int := cut_all (by rw [List.length_map]; omega)
  simp only [m__law_deck, b__law_deck, DL.x_bnd, DL.x_ret, DL.x_req, DL.x_get, DL.x_opt, DL.x_seq, DL.x_on, DL.x_or, DL.x_ob, DL.x_oc, DL.x_nil, DL.x_rt, DL.x_rtN, DL.x_drop, DL.x_break, DL.x_cont, DL.x_if, DL.x_ift, DL.x_iff, DL.x_set, DL.x_asg, DL.x_par2, DL.x_par3, DL.x_for, DL.x_v0, DL.x_vS, DL.x_c, DL.x_bin, DL.x_un, DL.x_tbin, DL.x_tru, DL.x_trb, DL.x_not, DL.x_tand, DL.x_tor, DL.x_and, DL.x_orE, DL.x_notE, DL.x_ifE, DL.x_tup, DL.x_lst, DL.x_lstM, DL.x_anil, DL.x_acons, DL.x_call, DL.x_callD, DL.x_callK, DL.x_meth, DL.x_sl, DL.x_oN, DL.x_oS, DL.x_gn, DL.x_gt, DL.x_gc, DL.x_g0, DL.x_gi, DL.x_body, DL.x_yes, DL.x_add, DL.x_addS, DL.x_addT, DL.x_addL, DL.x_sub, DL.x_mul, DL.x_div, DL.x_mod, DL.x_pow, DL.x_neg, DL.x_cmp, DL.x_cmpS, DL.x_isN, DL.x_mmL, DL.x_mm2, DL.x_eqS, DL.x_eqI, DL.x_intb, DL.onB_bl, DL.onI_int, DL.onO_nx, DL.onO_rt, DL.onL_ml, DL.addD_ol, DL.isNon_non, DL.isNon_int, DL.isNon_str, DL.isNon_tup, DL.ix_tup, DL.ix_lst, DL.ix_str, DL.ix_obj, DL.atI_0, DL.atI_1, DL.atI_2, DL.atI_3, DL.len_tup, DL.len_lst, DL.len_str, DL.len_obj, DL.ty_obj, DL.ty_str, DL.ty_lst, DL.append_obj, DL.pop_obj, DL.set_obj, DL.ixN_3_2, DL.tuple_obj, DL.tuple_lst, DL.list_tup, DL.list_lst, DL.sl_str, DL.sl_tup, DL.sl_lst, DL.rev_tup, DL.revM_lst, DL.sum_lst, DL.put_same, DL.startD, DL.pick, List.map_cons, List.map_nil, List.replicate, List.cons_append, List.nil_append, List.append_nil, List.length_cons, List.length_nil, List.getElem?_cons_zero, List.getElem?_cons_succ, List.set_cons_zero, List.set_cons_succ, List.filterMap_cons, List.filterMap_nil, Nat.zero_add, Nat.add_zero, Nat.reduceAdd, Nat.reduceSub, true_and, and_true, id_eq, if_true, if_false, Bool.false_eq_true, Bool.not_true, Bool.not_false, DL.x_idx, DL.rev_obj, DL.wipeD, DL.x_addM, DL.x_addMl, DL.x_isi, DL.ty_nonM, DL.ty_blM, DL.ty_intM, DL.ty_strM, DL.ty_tupM, DL.ty_lstM, DL.ty_dctM, DL.kb_non_str, DL.kb_non_int, DL.kb_non_bool, DL.kb_non_tuple, DL.kb_non_list, DL.kb_non_dict, DL.kb_bl_str, DL.kb_bl_int, DL.kb_bl_bool, DL.kb_bl_tuple, DL.kb_bl_list, DL.kb_bl_dict, DL.kb_int_str, DL.kb_int_int, DL.kb_int_bool, DL.kb_int_tuple, DL.kb_int_list, DL.kb_int_dict, DL.kb_str_str, DL.kb_str_int, DL.kb_str_bool, DL.kb_str_tuple, DL.kb_str_list, DL.kb_str_dict, DL.kb_tup_str, DL.kb_tup_int, DL.kb_tup_bool, DL.kb_tup_tuple, DL.kb_tup_list, DL.kb_tup_dict, DL.kb_lst_str, DL.kb_lst_int, DL.kb_lst_bool, DL.kb_lst_tuple, DL.kb_lst_list, DL.kb_lst_dict, DL.kb_dct_str, DL.kb_dct_int, DL.kb_dct_bool, DL.kb_dct_tuple, DL.kb_dct_list, DL.kb_dct_dict, DL.isNon_bl, DL.isNon_lst, DL.isNon_dct, DL.x_tOf, DL.x_tOfE, DL.x_chain, DL.x_kix, DL.x_kin, DL.x_kgt, DL.x_allL, DL.x_anyL, DL.x_istr, DL.x_dgetO, DL.x_dgetS, DL.x_dgetI, DL.x_gdix, DL.x_dset, DL.x_popAt, DL.x_insert, DL.ty_dct, DL.x_getS1, DL.x_getI1, DL.x_getS2, DL.x_getI2, DL.x_pnil, DL.x_pcons, DL.x_disM, DL.x_dis0M, DL.x_listM, DL.x_listMT, DL.x_gst, DL.x_mulS, DL.x_mulL, DL.x_dict, DL.onM_md, DL.onS_str, DL.kfind_nil, DL.kfind_cons, DL.lit_beq, DL.x_iseq, DL.onIt_lst, DL.onIt_tup, DL.sl_obj, DL.x_rg1, DL.valD_nil, DL.valD_cons, DL.key_rr, DL.key_ll, DL.key_lr, DL.key_rl, String.reduceBEq, Option.isSome_some, Option.isSome_none, Option.getD_some, Option.getD_none, Bool.true_and, Bool.and_true, Bool.false_and, Bool.and_false, Bool.or_false, Bool.false_or, Bool.or_true, Bool.true_or, beq_self_eq_true, DL.x_addBb, DL.x_addBi, DL.x_addBs, DL.x_addBt, DL.x_addBl, DL.x_subBb, DL.x_subBib, DL.x_subBi, DL.x_mulBb, DL.x_mulBi, DL.x_strI, DL.x_strB, DL.x_up, DL.x_eqT, DL.x_eqL, hc, List.length_map]
  intro a ha c hca
  repeat (refine ⟨(by walk_at "side"), ?_⟩)
  obtain ⟨h1, h2⟩ := put_none hca
  refine ⟨by rw [put_ne (Ne.symm h1), put_same], [(kC, .obj c), (kT, .int 0), (kS, .int _)], rfl, (show (3 : Nat) ≤ 15 by decide), ?_⟩
  rw [merge3]
  exact q a c _ ⟨h1, ⟨_, 0, put_same, by omega, by omega, Int.emod_nonneg _ (by decide), by have := Int.emod_lt_of_pos (ns.sum + 104729 * (ns.length : Int)) (show (0 : Int) < 2147483549 by decide); omega⟩, ns, by rw [put_ne h1, put_same], hl⟩
end Lk03

namespace Lk03
open PySem PySem.Spec PyProof.Rows L2 DL

theorem pick_g {a c : Addr} {ds : List D} (h0 : 0 < ds.length) (h1 : ds.length ≤ 1000000) : Gen shD a c 1 (m__law_pick [.obj a, .lst ds]) (fun d => d ∈ ds) := by
  intro μ0 μ t Q E h ht q
  simp only [m__law_pick, b__law_pick, DL.x_bnd, DL.x_ret, DL.x_req, DL.x_get, DL.x_opt, DL.x_seq, DL.x_on, DL.x_or, DL.x_ob, DL.x_oc, DL.x_nil, DL.x_rt, DL.x_rtN, DL.x_drop, DL.x_break, DL.x_cont, DL.x_if, DL.x_ift, DL.x_iff, DL.x_set, DL.x_asg, DL.x_par2, DL.x_par3, DL.x_for, DL.x_v0, DL.x_vS, DL.x_c, DL.x_bin, DL.x_un, DL.x_tbin, DL.x_tru, DL.x_trb, DL.x_not, DL.x_tand, DL.x_tor, DL.x_and, DL.x_orE, DL.x_notE, DL.x_ifE, DL.x_tup, DL.x_lst, DL.x_lstM, DL.x_anil, DL.x_acons, DL.x_call, DL.x_callD, DL.x_callK, DL.x_meth, DL.x_sl, DL.x_oN, DL.x_oS, DL.x_gn, DL.x_gt, DL.x_gc, DL.x_g0, DL.x_gi, DL.x_body, DL.x_yes, DL.x_add, DL.x_addS, DL.x_addT, DL.x_addL, DL.x_sub, DL.x_mul, DL.x_div, DL.x_mod, DL.x_pow, DL.x_neg, DL.x_cmp, DL.x_cmpS, DL.x_isN, DL.x_mmL, DL.x_mm2, DL.x_eqS, DL.x_eqI, DL.x_intb, DL.onB_bl, DL.onI_int, DL.onO_nx, DL.onO_rt, DL.onL_ml, DL.addD_ol, DL.isNon_non, DL.isNon_int, DL.isNon_str, DL.isNon_tup, DL.ix_tup, DL.ix_lst, DL.ix_str, DL.ix_obj, DL.atI_0, DL.atI_1, DL.atI_2, DL.atI_3, DL.len_tup, DL.len_lst, DL.len_str, DL.len_obj, DL.ty_obj, DL.ty_str, DL.ty_lst, DL.append_obj, DL.pop_obj, DL.set_obj, DL.ixN_3_2, DL.tuple_obj, DL.tuple_lst, DL.list_tup, DL.list_lst, DL.sl_str, DL.sl_tup, DL.sl_lst, DL.rev_tup, DL.revM_lst, DL.sum_lst, DL.put_same, DL.startD, DL.pick, List.map_cons, List.map_nil, List.replicate, List.cons_append, List.nil_append, List.append_nil, List.length_cons, List.length_nil, List.getElem?_cons_zero, List.getElem?_cons_succ, List.set_cons_zero, List.set_cons_succ, List.filterMap_cons, List.filterMap_nil, Nat.zero_add, Nat.add_zero, Nat.reduceAdd, Nat.reduceSub, true_and, and_true, id_eq, if_true, if_false, Bool.false_eq_true, Bool.not_true, Bool.not_false, DL.x_idx, DL.rev_obj, DL.wipeD, DL.x_addM, DL.x_addMl, DL.x_isi, DL.ty_nonM, DL.ty_blM, DL.ty_intM, DL.ty_strM, DL.ty_tupM, DL.ty_lstM, DL.ty_dctM, DL.kb_non_str, DL.kb_non_int, DL.kb_non_bool, DL.kb_non_tuple, DL.kb_non_list, DL.kb_non_dict, DL.kb_bl_str, DL.kb_bl_int, DL.kb_bl_bool, DL.kb_bl_tuple, DL.kb_bl_list, DL.kb_bl_dict, DL.kb_int_str, DL.kb_int_int, DL.kb_int_bool, DL.kb_int_tuple, DL.kb_int_list, DL.kb_int_dict, DL.kb_str_str, DL.kb_str_int, DL.kb_str_bool, DL.kb_str_tuple, DL.kb_str_list, DL.kb_str_dict, DL.kb_tup_str, DL.kb_tup_int, DL.kb_tup_bool, DL.kb_tup_tuple, DL.kb_tup_list, DL.kb_tup_dict, DL.kb_lst_str, DL.kb_lst_int, DL.kb_lst_bool, DL.kb_lst_tuple, DL.kb_lst_list, DL.kb_lst_dict, DL.kb_dct_str, DL.kb_dct_int, DL.kb_dct_bool, DL.kb_dct_tuple, DL.kb_dct_list, DL.kb_dct_dict, DL.isNon_bl, DL.isNon_lst, DL.isNon_dct, DL.x_tOf, DL.x_tOfE, DL.x_chain, DL.x_kix, DL.x_kin, DL.x_kgt, DL.x_allL, DL.x_anyL, DL.x_istr, DL.x_dgetO, DL.x_dgetS, DL.x_dgetI, DL.x_gdix, DL.x_dset, DL.x_popAt, DL.x_insert, DL.ty_dct, DL.x_getS1, DL.x_getI1, DL.x_getS2, DL.x_getI2, DL.x_pnil, DL.x_pcons, DL.x_disM, DL.x_dis0M, DL.x_listM, DL.x_listMT, DL.x_gst, DL.x_mulS, DL.x_mulL, DL.x_dict, DL.onM_md, DL.onS_str, DL.kfind_nil, DL.kfind_cons, DL.lit_beq, DL.x_iseq, DL.onIt_lst, DL.onIt_tup, DL.sl_obj, DL.x_rg1, DL.valD_nil, DL.valD_cons, DL.key_rr, DL.key_ll, DL.key_lr, DL.key_rl, String.reduceBEq, Option.isSome_some, Option.isSome_none, Option.getD_some, Option.getD_none, Bool.true_and, Bool.and_true, Bool.false_and, Bool.and_false, Bool.or_false, Bool.false_or, Bool.or_true, Bool.true_or, beq_self_eq_true, DL.x_addBb, DL.x_addBi, DL.x_addBs, DL.x_addBt, DL.x_addBl, DL.x_subBb, DL.x_subBib, DL.x_subBi, DL.x_mulBb, DL.x_mulBi, DL.x_strI, DL.x_strB, DL.x_up, DL.x_eqT, DL.x_eqL]
  walk_at "go"
  refine draw_g (by omega) (by omega) μ0 μ t _ _ h (by omega) fun d μ1 ⟨k, e, k0, k1⟩ h1 => ?_
  subst e
  simp only [DL.x_bnd, DL.x_ret, DL.x_req, DL.x_get, DL.x_opt, DL.x_seq, DL.x_on, DL.x_or, DL.x_ob, DL.x_oc, DL.x_nil, DL.x_rt, DL.x_rtN, DL.x_drop, DL.x_break, DL.x_cont, DL.x_if, DL.x_ift, DL.x_iff, DL.x_set, DL.x_asg, DL.x_par2, DL.x_par3, DL.x_for, DL.x_v0, DL.x_vS, DL.x_c, DL.x_bin, DL.x_un, DL.x_tbin, DL.x_tru, DL.x_trb, DL.x_not, DL.x_tand, DL.x_tor, DL.x_and, DL.x_orE, DL.x_notE, DL.x_ifE, DL.x_tup, DL.x_lst, DL.x_lstM, DL.x_anil, DL.x_acons, DL.x_call, DL.x_callD, DL.x_callK, DL.x_meth, DL.x_sl, DL.x_oN, DL.x_oS, DL.x_gn, DL.x_gt, DL.x_gc, DL.x_g0, DL.x_gi, DL.x_body, DL.x_yes, DL.x_add, DL.x_addS, DL.x_addT, DL.x_addL, DL.x_sub, DL.x_mul, DL.x_div, DL.x_mod, DL.x_pow, DL.x_neg, DL.x_cmp, DL.x_cmpS, DL.x_isN, DL.x_mmL, DL.x_mm2, DL.x_eqS, DL.x_eqI, DL.x_intb, DL.onB_bl, DL.onI_int, DL.onO_nx, DL.onO_rt, DL.onL_ml, DL.addD_ol, DL.isNon_non, DL.isNon_int, DL.isNon_str, DL.isNon_tup, DL.ix_tup, DL.ix_lst, DL.ix_str, DL.ix_obj, DL.atI_0, DL.atI_1, DL.atI_2, DL.atI_3, DL.len_tup, DL.len_lst, DL.len_str, DL.len_obj, DL.ty_obj, DL.ty_str, DL.ty_lst, DL.append_obj, DL.pop_obj, DL.set_obj, DL.ixN_3_2, DL.tuple_obj, DL.tuple_lst, DL.list_tup, DL.list_lst, DL.sl_str, DL.sl_tup, DL.sl_lst, DL.rev_tup, DL.revM_lst, DL.sum_lst, DL.put_same, DL.startD, DL.pick, List.map_cons, List.map_nil, List.replicate, List.cons_append, List.nil_append, List.append_nil, List.length_cons, List.length_nil, List.getElem?_cons_zero, List.getElem?_cons_succ, List.set_cons_zero, List.set_cons_succ, List.filterMap_cons, List.filterMap_nil, Nat.zero_add, Nat.add_zero, Nat.reduceAdd, Nat.reduceSub, true_and, and_true, id_eq, if_true, if_false, Bool.false_eq_true, Bool.not_true, Bool.not_false, DL.x_idx, DL.rev_obj, DL.wipeD, DL.x_addM, DL.x_addMl, DL.x_isi, DL.ty_nonM, DL.ty_blM, DL.ty_intM, DL.ty_strM, DL.ty_tupM, DL.ty_lstM, DL.ty_dctM, DL.kb_non_str, DL.kb_non_int, DL.kb_non_bool, DL.kb_non_tuple, DL.kb_non_list, DL.kb_non_dict, DL.kb_bl_str, DL.kb_bl_int, DL.kb_bl_bool, DL.kb_bl_tuple, DL.kb_bl_list, DL.kb_bl_dict, DL.kb_int_str, DL.kb_int_int, DL.kb_int_bool, DL.kb_int_tuple, DL.kb_int_list, DL.kb_int_dict, DL.kb_str_str, DL.kb_str_int, DL.kb_str_bool, DL.kb_str_tuple, DL.kb_str_list, DL.kb_str_dict, DL.kb_tup_str, DL.kb_tup_int, DL.kb_tup_bool, DL.kb_tup_tuple, DL.kb_tup_list, DL.kb_tup_dict, DL.kb_lst_str, DL.kb_lst_int, DL.kb_lst_bool, DL.kb_lst_tuple, DL.kb_lst_list, DL.kb_lst_dict, DL.kb_dct_str, DL.kb_dct_int, DL.kb_dct_bool, DL.kb_dct_tuple, DL.kb_dct_list, DL.kb_dct_dict, DL.isNon_bl, DL.isNon_lst, DL.isNon_dct, DL.x_tOf, DL.x_tOfE, DL.x_chain, DL.x_kix, DL.x_kin, DL.x_kgt, DL.x_allL, DL.x_anyL, DL.x_istr, DL.x_dgetO, DL.x_dgetS, DL.x_dgetI, DL.x_gdix, DL.x_dset, DL.x_popAt, DL.x_insert, DL.ty_dct, DL.x_getS1, DL.x_getI1, DL.x_getS2, DL.x_getI2, DL.x_pnil, DL.x_pcons, DL.x_disM, DL.x_dis0M, DL.x_listM, DL.x_listMT, DL.x_gst, DL.x_mulS, DL.x_mulL, DL.x_dict, DL.onM_md, DL.onS_str, DL.kfind_nil, DL.kfind_cons, DL.lit_beq, DL.x_iseq, DL.onIt_lst, DL.onIt_tup, DL.sl_obj, DL.x_rg1, DL.valD_nil, DL.valD_cons, DL.key_rr, DL.key_ll, DL.key_lr, DL.key_rl, String.reduceBEq, Option.isSome_some, Option.isSome_none, Option.getD_some, Option.getD_none, Bool.true_and, Bool.and_true, Bool.false_and, Bool.and_false, Bool.or_false, Bool.false_or, Bool.or_true, Bool.true_or, beq_self_eq_true, DL.x_addBb, DL.x_addBi, DL.x_addBs, DL.x_addBt, DL.x_addBl, DL.x_subBb, DL.x_subBib, DL.x_subBi, DL.x_mulBb, DL.x_mulBi, DL.x_strI, DL.x_strB, DL.x_up, DL.x_eqT, DL.x_eqL]
  exact ix_in k0 (by omega) fun d hd _ => q d μ1 hd h1
theorem pick_s {a c : Addr} {s : Str} (h0 : 0 < s.length) (h1 : s.length ≤ 1000000) (hs : ∀ x ∈ s.cps.toList, x < 1114112) : Gen shD a c 1 (m__law_pick [.obj a, .str s]) (fun d => ∃ ch : Nat, d = .str ⟨#[ch]⟩ ∧ ch < 1114112 ∧ ch ∈ s.cps.toList) := by
  intro μ0 μ t Q E h ht q
  simp only [m__law_pick, b__law_pick, DL.x_bnd, DL.x_ret, DL.x_req, DL.x_get, DL.x_opt, DL.x_seq, DL.x_on, DL.x_or, DL.x_ob, DL.x_oc, DL.x_nil, DL.x_rt, DL.x_rtN, DL.x_drop, DL.x_break, DL.x_cont, DL.x_if, DL.x_ift, DL.x_iff, DL.x_set, DL.x_asg, DL.x_par2, DL.x_par3, DL.x_for, DL.x_v0, DL.x_vS, DL.x_c, DL.x_bin, DL.x_un, DL.x_tbin, DL.x_tru, DL.x_trb, DL.x_not, DL.x_tand, DL.x_tor, DL.x_and, DL.x_orE, DL.x_notE, DL.x_ifE, DL.x_tup, DL.x_lst, DL.x_lstM, DL.x_anil, DL.x_acons, DL.x_call, DL.x_callD, DL.x_callK, DL.x_meth, DL.x_sl, DL.x_oN, DL.x_oS, DL.x_gn, DL.x_gt, DL.x_gc, DL.x_g0, DL.x_gi, DL.x_body, DL.x_yes, DL.x_add, DL.x_addS, DL.x_addT, DL.x_addL, DL.x_sub, DL.x_mul, DL.x_div, DL.x_mod, DL.x_pow, DL.x_neg, DL.x_cmp, DL.x_cmpS, DL.x_isN, DL.x_mmL, DL.x_mm2, DL.x_eqS, DL.x_eqI, DL.x_intb, DL.onB_bl, DL.onI_int, DL.onO_nx, DL.onO_rt, DL.onL_ml, DL.addD_ol, DL.isNon_non, DL.isNon_int, DL.isNon_str, DL.isNon_tup, DL.ix_tup, DL.ix_lst, DL.ix_str, DL.ix_obj, DL.atI_0, DL.atI_1, DL.atI_2, DL.atI_3, DL.len_tup, DL.len_lst, DL.len_str, DL.len_obj, DL.ty_obj, DL.ty_str, DL.ty_lst, DL.append_obj, DL.pop_obj, DL.set_obj, DL.ixN_3_2, DL.tuple_obj, DL.tuple_lst, DL.list_tup, DL.list_lst, DL.sl_str, DL.sl_tup, DL.sl_lst, DL.rev_tup, DL.revM_lst, DL.sum_lst, DL.put_same, DL.startD, DL.pick, List.map_cons, List.map_nil, List.replicate, List.cons_append, List.nil_append, List.append_nil, List.length_cons, List.length_nil, List.getElem?_cons_zero, List.getElem?_cons_succ, List.set_cons_zero, List.set_cons_succ, List.filterMap_cons, List.filterMap_nil, Nat.zero_add, Nat.add_zero, Nat.reduceAdd, Nat.reduceSub, true_and, and_true, id_eq, if_true, if_false, Bool.false_eq_true, Bool.not_true, Bool.not_false, DL.x_idx, DL.rev_obj, DL.wipeD, DL.x_addM, DL.x_addMl, DL.x_isi, DL.ty_nonM, DL.ty_blM, DL.ty_intM, DL.ty_strM, DL.ty_tupM, DL.ty_lstM, DL.ty_dctM, DL.kb_non_str, DL.kb_non_int, DL.kb_non_bool, DL.kb_non_tuple, DL.kb_non_list, DL.kb_non_dict, DL.kb_bl_str, DL.kb_bl_int, DL.kb_bl_bool, DL.kb_bl_tuple, DL.kb_bl_list, DL.kb_bl_dict, DL.kb_int_str, DL.kb_int_int, DL.kb_int_bool, DL.kb_int_tuple, DL.kb_int_list, DL.kb_int_dict, DL.kb_str_str, DL.kb_str_int, DL.kb_str_bool, DL.kb_str_tuple, DL.kb_str_list, DL.kb_str_dict, DL.kb_tup_str, DL.kb_tup_int, DL.kb_tup_bool, DL.kb_tup_tuple, DL.kb_tup_list, DL.kb_tup_dict, DL.kb_lst_str, DL.kb_lst_int, DL.kb_lst_bool, DL.kb_lst_tuple, DL.kb_lst_list, DL.kb_lst_dict, DL.kb_dct_str, DL.kb_dct_int, DL.kb_dct_bool, DL.kb_dct_tuple, DL.kb_dct_list, DL.kb_dct_dict, DL.isNon_bl, DL.isNon_lst, DL.isNon_dct, DL.x_tOf, DL.x_tOfE, DL.x_chain, DL.x_kix, DL.x_kin, DL.x_kgt, DL.x_allL, DL.x_anyL, DL.x_istr, DL.x_dgetO, DL.x_dgetS, DL.x_dgetI, DL.x_gdix, DL.x_dset, DL.x_popAt, DL.x_insert, DL.ty_dct, DL.x_getS1, DL.x_getI1, DL.x_getS2, DL.x_getI2, DL.x_pnil, DL.x_pcons, DL.x_disM, DL.x_dis0M, DL.x_listM, DL.x_listMT, DL.x_gst, DL.x_mulS, DL.x_mulL, DL.x_dict, DL.onM_md, DL.onS_str, DL.kfind_nil, DL.kfind_cons, DL.lit_beq, DL.x_iseq, DL.onIt_lst, DL.onIt_tup, DL.sl_obj, DL.x_rg1, DL.valD_nil, DL.valD_cons, DL.key_rr, DL.key_ll, DL.key_lr, DL.key_rl, String.reduceBEq, Option.isSome_some, Option.isSome_none, Option.getD_some, Option.getD_none, Bool.true_and, Bool.and_true, Bool.false_and, Bool.and_false, Bool.or_false, Bool.false_or, Bool.or_true, Bool.true_or, beq_self_eq_true, DL.x_addBb, DL.x_addBi, DL.x_addBs, DL.x_addBt, DL.x_addBl, DL.x_subBb, DL.x_subBib, DL.x_subBi, DL.x_mulBb, DL.x_mulBi, DL.x_strI, DL.x_strB, DL.x_up, DL.x_eqT, DL.x_eqL]
  walk_at "go"
  refine draw_g (by omega) (by omega) μ0 μ t _ _ h (by omega) fun d μ1 ⟨k, e, k0, k1⟩ h1 => ?_
  subst e
  walk_at "go"
  have hl : s.cps.toList.length = s.length := by rw [Array.length_toList]; rfl
  obtain ⟨x, e, m⟩ := atI_nat' (xs := s.cps.toList) k0 (by rw [hl]; omega)
  rw [e]
  exact q _ μ1 ⟨x, rfl, hs x m, m⟩ h1
end Lk03

namespace Lk03
open PySem PySem.Spec PyProof.Rows L2 DL PySem.W

abbrev AZ : Str := PySem.Str.ofString "abcdefghijklmnopqrstuvwxyz"
theorem az_len : AZ.length = 26 := by decide +kernel
theorem az_ok : ∀ x ∈ AZ.cps.toList, 97 ≤ x ∧ x ≤ 122 := by decide +kernel
theorem az_lt : ∀ x ∈ AZ.cps.toList, x < 1114112 := fun x hx => by have := az_ok x hx; omega
/-- small letters, at least m, at most n -/
def Lt (m n : Nat) (s : Str) : Prop := m ≤ s.length ∧ s.length ≤ n ∧ ∀ x ∈ s.cps.toList, 97 ≤ x ∧ x ≤ 122
/-- a worth -/
def OkV (d : D) : Prop := d = .non ∨ (∃ i : Int, d = .int i ∧ -1000000000000 ≤ i ∧ i ≤ 1000000000000) ∨ ∃ x : Str, d = .str x ∧ Lt 0 8 x
/-- a row -/
structure Row (ws : List D) : Prop where
  most : ws.length ≤ 8
  ok : ∀ w ∈ ws, OkV w
def e0 : Str := PySem.Str.ofString ""
def wk (d : D) : D := match d with
  | .non => .tup [.int 0, .int 0, .str e0]
  | .str s => .tup [.int 2, .int 0, .str s]
  | d => .tup [.int 1, d, .str e0]
def kf (d : D) : D := match d with
  | .tup ws => .tup (ws.map wk)
  | d => d
abbrev Tok := Int ⊕ List Nat
def tk (d : D) : List Tok := match d with
  | .non => [.inl 1, .inl 0, .inl 1, .inl 0, .inl 1, .inr [], .inl 0]
  | .str s => [.inl 1, .inl 2, .inl 1, .inl 0, .inl 1, .inr s.cps.toList, .inl 0]
  | .int i => [.inl 1, .inl 1, .inl 1, .inl i, .inl 1, .inr [], .inl 0]
  | _ => []
def rtk : List D → List Tok
  | [] => [.inl 0]
  | d :: r => .inl 1 :: (tk d ++ rtk r)
theorem e0_cps : e0.cps.toList = [] := by decide +kernel
theorem toks_wk {d : D} (h : OkV d) : keyToks (toPy (wk d)) = tk d := by
  rcases h with rfl | ⟨i, rfl, _, _⟩ | ⟨s, rfl, _⟩
  · show [Sum.inl 1, Sum.inl 0, Sum.inl 1, Sum.inl 0, Sum.inl 1, Sum.inr e0.cps.toList, Sum.inl 0] = _
    rw [e0_cps]
    rfl
  · show [Sum.inl 1, Sum.inl 1, Sum.inl 1, Sum.inl i, Sum.inl 1, Sum.inr e0.cps.toList, Sum.inl 0] = _
    rw [e0_cps]
    rfl
  · rfl
theorem toks_row : ∀ {ws : List D}, (∀ w ∈ ws, OkV w) → keyToksAll (toPyL (ws.map wk)) = rtk ws
  | [], _ => rfl
  | w :: r, h => by
    show Sum.inl 1 :: (keyToks (toPy (wk w)) ++ keyToksAll (toPyL (r.map wk))) = _
    rw [toks_wk (h w (List.mem_cons_self ..)), toks_row fun x hx => h x (List.mem_cons_of_mem _ hx)]
    rfl
def rlt (xs ys : List D) : Bool := lexLt itemOrd (rtk xs) (rtk ys)
theorem le_row {xs ys : List D} (hx : ∀ w ∈ xs, OkV w) (hy : ∀ w ∈ ys, OkV w) : keyLe kf (.tup xs) (.tup ys) = !rlt ys xs := by
  show (!lexLt itemOrd (keyToksAll (toPyL (ys.map wk))) (keyToksAll (toPyL (xs.map wk)))) = _
  rw [toks_row hx, toks_row hy]
  rfl
theorem tk_inj {x y : D} {l m : List Tok} (hx : OkV x) (hy : OkV y) (e : tk x ++ l = tk y ++ m) : x = y ∧ l = m := by
  rcases hx with rfl | ⟨i, rfl, _, _⟩ | ⟨s, rfl, _⟩ <;> rcases hy with rfl | ⟨j, rfl, _, _⟩ | ⟨t, rfl, _⟩
  all_goals simp only [tk, List.cons_append, List.nil_append, List.cons.injEq, Sum.inl.injEq, Sum.inr.injEq, true_and] at e
  · exact ⟨rfl, e⟩
  · exact absurd e.1 (by decide)
  · exact absurd e.1 (by decide)
  · exact absurd e.1 (by decide)
  · exact ⟨by rw [e.1], e.2⟩
  · exact absurd e.1 (by decide)
  · exact absurd e.1 (by decide)
  · exact absurd e.1 (by decide)
  · exact ⟨by rw [str_of_cps e.1], e.2⟩
theorem rtk_inj : ∀ {xs ys : List D}, (∀ w ∈ xs, OkV w) → (∀ w ∈ ys, OkV w) → rtk xs = rtk ys → xs = ys
  | [], [], _, _, _ => rfl
  | [], _ :: _, _, _, e => by
    have := (List.cons.inj e).1
    exact absurd (Sum.inl.inj this) (by decide)
  | _ :: _, [], _, _, e => by
    have := (List.cons.inj e).1
    exact absurd (Sum.inl.inj this) (by decide)
  | x :: xs, y :: ys, hx, hy, e => by
    obtain ⟨e1, e2⟩ := tk_inj (hx x (List.mem_cons_self ..)) (hy y (List.mem_cons_self ..)) (List.cons.inj e).2
    rw [e1, rtk_inj (fun w hw => hx w (List.mem_cons_of_mem _ hw)) (fun w hw => hy w (List.mem_cons_of_mem _ hw)) e2]
theorem rlt_anti {xs ys : List D} (hx : ∀ w ∈ xs, OkV w) (hy : ∀ w ∈ ys, OkV w) (h1 : rlt xs ys = false) (h2 : rlt ys xs = false) : xs = ys :=
  rtk_inj hx hy ((listOrd itemOrd).total _ _ h1 h2)
def rank (d : D) : Int := match d with
  | .non => 0
  | .str _ => 2
  | _ => 1
def eqB (x y : D) : Bool := match x, y with
  | .non, .non => true
  | .int i, .int j => decide (i = j)
  | .str s, .str t => s == t
  | _, _ => false
def wlt (x y : D) : Bool := match x, y with
  | .int i, .int j => decide (i < j)
  | .str s, .str t => decide (s.cps.toList < t.cps.toList)
  | _, _ => false
theorem item_str (s t : Str) : itemLt (.inr s.cps.toList) (.inr t.cps.toList) = decide (s.cps.toList < t.cps.toList) := by
  rw [← lex_one]
  exact dataLt_str s t
theorem rlt_cons {x y : D} {xs ys : List D} (hx : OkV x) (hy : OkV y) : rlt (x :: xs) (y :: ys) = if rank x = rank y then (if eqB x y = true then rlt xs ys else wlt x y) else decide (rank x < rank y) := by
  unfold rlt
  show lexLt itemOrd (Sum.inl 1 :: (tk x ++ rtk xs)) (Sum.inl 1 :: (tk y ++ rtk ys)) = _
  rw [lex_self (O := itemOrd)]
  have d1 : ∀ {a b : Int} {l m : List Tok}, a ≠ b → lexLt itemOrd (Sum.inl 1 :: Sum.inl a :: l) (Sum.inl 1 :: Sum.inl b :: m) = decide (a < b) := fun {a b l m} hne => by
    rw [lex_self (O := itemOrd), lex_diff (O := itemOrd) (fun e => hne (Sum.inl.inj e))]
    rfl
  have s1 : ∀ {a : Tok} {l m : List Tok}, lexLt itemOrd (a :: l) (a :: m) = lexLt itemOrd l m := fun {a l m} => lex_self (O := itemOrd) a l m
  rcases hx with rfl | ⟨i, rfl, _, _⟩ | ⟨s, rfl, _⟩ <;> rcases hy with rfl | ⟨j, rfl, _, _⟩ | ⟨t, rfl, _⟩
  · rw [if_pos (show rank D.non = rank D.non from rfl), if_pos (show eqB D.non D.non = true from rfl)]
    simp only [tk, List.cons_append, List.nil_append, s1]
  · exact d1 (a := 0) (b := 1) (by decide)
  · exact d1 (a := 0) (b := 2) (by decide)
  · exact d1 (a := 1) (b := 0) (by decide)
  · rw [if_pos (show rank (.int i) = rank (.int j) from rfl)]
    simp only [tk, List.cons_append, List.nil_append, s1]
    by_cases h : i = j
    · subst h
      rw [if_pos (by simp [eqB])]
      simp only [s1]
    · rw [lex_diff (O := itemOrd) (fun e => h (Sum.inl.inj e)), if_neg (by simpa [eqB] using h)]
      rfl
  · exact d1 (a := 1) (b := 2) (by decide)
  · exact d1 (a := 2) (b := 0) (by decide)
  · exact d1 (a := 2) (b := 1) (by decide)
  · rw [if_pos (show rank (.str s) = rank (.str t) from rfl)]
    simp only [tk, List.cons_append, List.nil_append, s1]
    by_cases h : s = t
    · subst h
      rw [if_pos (by simp [eqB])]
      simp only [s1]
    · rw [lex_diff (O := itemOrd) (fun e => h (str_of_cps (Sum.inr.inj e))), if_neg (by simpa [eqB] using h)]
      exact item_str s t
theorem rlt_nn : rlt [] [] = false := by decide +kernel
theorem rlt_nc {y : D} {ys : List D} : rlt [] (y :: ys) = true := by
  unfold rlt
  show lexLt itemOrd [Sum.inl 0] (Sum.inl 1 :: (tk y ++ rtk ys)) = true
  rw [lex_diff (O := itemOrd) (fun e => absurd (Sum.inl.inj e) (by decide))]
  rfl
theorem rlt_cn {x : D} {xs : List D} : rlt (x :: xs) [] = false := by
  unfold rlt
  show lexLt itemOrd (Sum.inl 1 :: (tk x ++ rtk xs)) [Sum.inl 0] = false
  rw [lex_diff (O := itemOrd) (fun e => absurd (Sum.inl.inj e) (by decide))]
  rfl
theorem rlt_len {xs ys : List D} (h : xs = [] ∨ ys = []) : rlt xs ys = decide ((xs.length : Int) < (ys.length : Int)) := by
  cases xs with
  | nil =>
    cases ys with
    | nil => rw [rlt_nn]; rfl
    | cons y r => rw [rlt_nc, decide_eq_true]; show ((0 : Nat) : Int) < ((r.length + 1 : Nat) : Int); omega
  | cons x r =>
    rcases h with z | z
    · cases z
    · subst z
      rw [rlt_cn, decide_eq_false]
      show ¬ ((r.length + 1 : Nat) : Int) < ((0 : Nat) : Int)
      omega
theorem eqB_eq {x y : D} (hx : OkV x) (hy : OkV y) : eqB x y = true ↔ x = y := by
  rcases hx with rfl | ⟨i, rfl, _, _⟩ | ⟨s, rfl, _⟩ <;> rcases hy with rfl | ⟨j, rfl, _, _⟩ | ⟨t, rfl, _⟩ <;> simp [eqB]
end Lk03

namespace Lk03
open PySem PySem.Spec PyProof.Rows L2 DL PySem.W

theorem le_tot : TotalLe (keyLe kf) := sortLe_total (listOrd itemOrd) false fun d => keyToks (toPy (kf d))
/-- all are rows -/
def Rows (ds : List D) : Prop := ∀ d ∈ ds, ∃ ws, d = .tup ws ∧ Row ws
def srt (ds : List D) : List D := ds.mergeSort (keyLe kf)
theorem srt_perm (ds : List D) : (srt ds).Perm ds := List.mergeSort_perm ..
theorem srt_pw (ds : List D) : (srt ds).Pairwise fun x y => keyLe kf x y = true := List.pairwise_mergeSort le_tot.trans (fun a b => by
  rcases le_tot.total a b with h | h
  · rw [h]; rfl
  · rw [h, Bool.or_true]) ds
theorem le_anti {x y : D} (hx : ∃ ws, x = .tup ws ∧ Row ws) (hy : ∃ ws, y = .tup ws ∧ Row ws) (h1 : keyLe kf x y = true) (h2 : keyLe kf y x = true) : x = y := by
  obtain ⟨xs, rfl, rx⟩ := hx
  obtain ⟨ys, rfl, ry⟩ := hy
  rw [le_row rx.ok ry.ok] at h1
  rw [le_row ry.ok rx.ok] at h2
  rw [rlt_anti rx.ok ry.ok (by simpa using h2) (by simpa using h1)]
/-- rows in order are the only ones -/
theorem only {l m : List D} (hl : Rows l) (hp : l.Perm m) (h1 : l.Pairwise fun x y => keyLe kf x y = true) (h2 : m.Pairwise fun x y => keyLe kf x y = true) : l = m :=
  hp.eq_of_pairwise (fun a b ha hb x y => le_anti (hl a ha) (hl b (hp.mem_iff.mpr hb)) x y) h1 h2
theorem srt_only {l m : List D} (hm : Rows m) (hp : l.Perm m) (h1 : l.Pairwise fun x y => keyLe kf x y = true) : l = srt m :=
  only (fun d hd => hm d (hp.mem_iff.mp hd)) (hp.trans (srt_perm m).symm) h1 (srt_pw m)
theorem srt_of {l m : List D} (hm : Rows m) (hp : l.Perm m) : srt l = srt m := srt_only hm ((srt_perm l).trans hp) (srt_pw l)
theorem Rows.of {l m : List D} (hm : Rows m) (hp : l.Perm m) : Rows l := fun d hd => hm d (hp.mem_iff.mp hd)
/-- where p holds of a beginning alone -/
theorem cut_by (p : D → Bool) : ∀ {l : List D}, l.Pairwise (fun x y => p y = true → p x = true) → l.take (l.filter p).length = l.filter p ∧ ∀ x ∈ l.drop (l.filter p).length, p x = false
  | [], _ => ⟨rfl, fun _ h => by simp at h⟩
  | d :: r, h => by
    rw [List.pairwise_cons] at h
    obtain ⟨i1, i2⟩ := cut_by p h.2
    by_cases hd : p d = true
    · rw [List.filter_cons, if_pos hd, List.length_cons, List.take_succ_cons, List.drop_succ_cons, i1]
      exact ⟨rfl, i2⟩
    · have e : (d :: r).filter p = [] := by
        rw [List.filter_cons, if_neg hd, List.filter_eq_nil_iff]
        exact fun x hx z => hd (h.1 x hx z)
      rw [e]
      refine ⟨rfl, fun x hx => ?_⟩
      rcases List.mem_cons.mp hx with z | z
      · rw [z]; simpa using hd
      · rw [Bool.eq_false_iff]
        exact fun y => hd (h.1 x z y)
/-- a row is put in -/
def ins (d : D) (l : List D) : List D := l.take (l.filter fun o => keyLe kf o d).length ++ [d] ++ l.drop (l.filter fun o => keyLe kf o d).length
theorem ins_perm (d : D) (l : List D) : (ins d l).Perm (l ++ [d]) := by
  unfold ins
  have e : l.Perm (l.take (l.filter fun o => keyLe kf o d).length ++ l.drop (l.filter fun o => keyLe kf o d).length) := by rw [List.take_append_drop]
  refine List.Perm.trans ?_ (e.symm.append_right [d])
  rw [List.append_assoc, List.append_assoc]
  exact List.Perm.append_left _ List.perm_append_comm
theorem ins_pw {d : D} {l : List D} (h : l.Pairwise fun x y => keyLe kf x y = true) : (ins d l).Pairwise fun x y => keyLe kf x y = true := by
  have hc : l.Pairwise (fun x y => keyLe kf y d = true → keyLe kf x d = true) := h.imp fun {x y} a b => le_tot.trans x y d a b
  obtain ⟨c1, c2⟩ := cut_by (fun o => keyLe kf o d) hc
  unfold ins
  have hd : ∀ y ∈ l.drop (l.filter fun o => keyLe kf o d).length, keyLe kf d y = true := fun y hy => by
    rcases le_tot.total d y with z | z
    · exact z
    · rw [c2 y hy] at z; cases z
  have ht : ∀ x ∈ l.take (l.filter fun o => keyLe kf o d).length, keyLe kf x d = true := fun x hx => by
    rw [c1] at hx
    exact (List.mem_filter.mp hx).2
  rw [List.append_assoc, List.pairwise_append]
  refine ⟨h.sublist (List.take_sublist ..), ?_, fun x hx y hy => ?_⟩
  · show (d :: l.drop _).Pairwise _
    rw [List.pairwise_cons]
    exact ⟨hd, h.sublist (List.drop_sublist ..)⟩
  · rcases List.mem_cons.mp hy with z | z
    · rw [z]; exact ht x hx
    · exact le_tot.trans x d y (ht x hx) (hd y z)
/-- the keys can be sorted by -/
theorem okv_gd {d : D} (h : OkV d) : gd d = true ∧ dpt d = 0 := by
  rcases h with rfl | ⟨i, rfl, a, b⟩ | ⟨s, rfl, a⟩
  · exact ⟨rfl, rfl⟩
  · refine ⟨?_, rfl⟩
    exact (Pl.int (i := i) (Nat.lt_of_lt_of_le (show i.natAbs < 2 ^ 40 by omega) (Nat.pow_le_pow_right (by decide) (by decide)))).good
  · exact ⟨(Pl.str (n := 8) (fun c hc => by have := a.2.2 c hc; omega) a.2.1).good, rfl⟩
theorem e0_gd : gd (.str e0) = true := by decide +kernel
theorem wk_gd {d : D} (h : OkV d) : gd (wk d) = true ∧ dpt (wk d) ≤ 1 := by
  have hd := okv_gd h
  have n0 : gd (.int 0) = true := by decide +kernel
  have n1 : gd (.int 1) = true := by decide +kernel
  have n2 : gd (.int 2) = true := by decide +kernel
  rcases h with rfl | ⟨i, rfl, a, b⟩ | ⟨s, rfl, a⟩
  · refine ⟨?_, Nat.le_refl _⟩
    show (gd (.int 0) && (gd (.int 0) && (gd (.str e0) && true))) = true
    rw [n0, e0_gd]; rfl
  · refine ⟨?_, Nat.le_refl _⟩
    show (gd (.int 1) && (gd (.int i) && (gd (.str e0) && true))) = true
    rw [n1, e0_gd, hd.1]; rfl
  · refine ⟨?_, Nat.le_refl _⟩
    show (gd (.int 2) && (gd (.int 0) && (gd (.str s) && true))) = true
    rw [n2, n0, hd.1]; rfl
theorem key_ok {d : D} (h : ∃ ws, d = .tup ws ∧ Row ws) : KeyOk (kf d) := by
  obtain ⟨ws, rfl, r⟩ := h
  refine ⟨gdL_mem fun x hx => ?_, ⟨_, rfl⟩, Nat.le_trans (Nat.succ_le_succ (dptL_mem (n := 1) fun x hx => ?_)) (by decide)⟩
  · obtain ⟨w, hw, rfl⟩ := List.mem_map.mp hx
    exact (wk_gd (r.ok w hw)).1
  · obtain ⟨w, hw, rfl⟩ := List.mem_map.mp hx
    exact (wk_gd (r.ok w hw)).2
theorem wk_alike {x y : D} (hx : OkV x) (hy : OkV y) : alike (toPy (wk x)) (toPy (wk y)) = true := by
  rcases hx with rfl | ⟨i, rfl, _, _⟩ | ⟨s, rfl, _⟩ <;> rcases hy with rfl | ⟨j, rfl, _, _⟩ | ⟨t, rfl, _⟩ <;> rfl
theorem keys_alike : ∀ {xs ys : List D}, (∀ w ∈ xs, OkV w) → (∀ w ∈ ys, OkV w) → alikeAll (toPyL (xs.map wk)) (toPyL (ys.map wk)) = true
  | [], ys, _, _ => by cases ys <;> rfl
  | _ :: _, [], _, _ => rfl
  | x :: xs, y :: ys, hx, hy => by
    show (alike (toPy (wk x)) (toPy (wk y)) && alikeAll (toPyL (xs.map wk)) (toPyL (ys.map wk))) = true
    rw [wk_alike (hx x (List.mem_cons_self ..)) (hy y (List.mem_cons_self ..)), keys_alike (fun w hw => hx w (List.mem_cons_of_mem _ hw)) fun w hw => hy w (List.mem_cons_of_mem _ hw)]
    rfl
theorem all_alike {ds : List D} (h : Rows ds) : AllAlike (ds.map fun d => toPy (kf d)) := by
  intro a ha b hb
  obtain ⟨x, hx, rfl⟩ := List.mem_map.mp ha
  obtain ⟨y, hy, rfl⟩ := List.mem_map.mp hb
  obtain ⟨xs, rfl, rx⟩ := h x hx
  obtain ⟨ys, rfl, ry⟩ := h y hy
  exact keys_alike rx.ok ry.ok
theorem wkey_w {d : D} {μ : Mem} {Q : D → Mem → Prop} {E : XD} (h : OkV d) (q : Q (wk d) μ) : m_worth_key [d] μ Q E := by
  simp only [m_worth_key, b_worth_key, DL.x_bnd, DL.x_ret, DL.x_req, DL.x_get, DL.x_opt, DL.x_seq, DL.x_on, DL.x_or, DL.x_ob, DL.x_oc, DL.x_nil, DL.x_rt, DL.x_rtN, DL.x_drop, DL.x_break, DL.x_cont, DL.x_if, DL.x_ift, DL.x_iff, DL.x_set, DL.x_asg, DL.x_par2, DL.x_par3, DL.x_for, DL.x_v0, DL.x_vS, DL.x_c, DL.x_bin, DL.x_un, DL.x_tbin, DL.x_tru, DL.x_trb, DL.x_not, DL.x_tand, DL.x_tor, DL.x_and, DL.x_orE, DL.x_notE, DL.x_ifE, DL.x_tup, DL.x_lst, DL.x_lstM, DL.x_anil, DL.x_acons, DL.x_call, DL.x_callD, DL.x_callK, DL.x_meth, DL.x_sl, DL.x_oN, DL.x_oS, DL.x_gn, DL.x_gt, DL.x_gc, DL.x_g0, DL.x_gi, DL.x_body, DL.x_yes, DL.x_add, DL.x_addS, DL.x_addT, DL.x_addL, DL.x_sub, DL.x_mul, DL.x_div, DL.x_mod, DL.x_pow, DL.x_neg, DL.x_cmp, DL.x_cmpS, DL.x_isN, DL.x_mmL, DL.x_mm2, DL.x_eqS, DL.x_eqI, DL.x_intb, DL.onB_bl, DL.onI_int, DL.onO_nx, DL.onO_rt, DL.onL_ml, DL.addD_ol, DL.isNon_non, DL.isNon_int, DL.isNon_str, DL.isNon_tup, DL.ix_tup, DL.ix_lst, DL.ix_str, DL.ix_obj, DL.atI_0, DL.atI_1, DL.atI_2, DL.atI_3, DL.len_tup, DL.len_lst, DL.len_str, DL.len_obj, DL.ty_obj, DL.ty_str, DL.ty_lst, DL.append_obj, DL.pop_obj, DL.set_obj, DL.ixN_3_2, DL.tuple_obj, DL.tuple_lst, DL.list_tup, DL.list_lst, DL.sl_str, DL.sl_tup, DL.sl_lst, DL.rev_tup, DL.revM_lst, DL.sum_lst, DL.put_same, DL.startD, DL.pick, List.map_cons, List.map_nil, List.replicate, List.cons_append, List.nil_append, List.append_nil, List.length_cons, List.length_nil, List.getElem?_cons_zero, List.getElem?_cons_succ, List.set_cons_zero, List.set_cons_succ, List.filterMap_cons, List.filterMap_nil, Nat.zero_add, Nat.add_zero, Nat.reduceAdd, Nat.reduceSub, true_and, and_true, id_eq, if_true, if_false, Bool.false_eq_true, Bool.not_true, Bool.not_false, DL.x_idx, DL.rev_obj, DL.wipeD, DL.x_addM, DL.x_addMl, DL.x_isi, DL.ty_nonM, DL.ty_blM, DL.ty_intM, DL.ty_strM, DL.ty_tupM, DL.ty_lstM, DL.ty_dctM, DL.kb_non_str, DL.kb_non_int, DL.kb_non_bool, DL.kb_non_tuple, DL.kb_non_list, DL.kb_non_dict, DL.kb_bl_str, DL.kb_bl_int, DL.kb_bl_bool, DL.kb_bl_tuple, DL.kb_bl_list, DL.kb_bl_dict, DL.kb_int_str, DL.kb_int_int, DL.kb_int_bool, DL.kb_int_tuple, DL.kb_int_list, DL.kb_int_dict, DL.kb_str_str, DL.kb_str_int, DL.kb_str_bool, DL.kb_str_tuple, DL.kb_str_list, DL.kb_str_dict, DL.kb_tup_str, DL.kb_tup_int, DL.kb_tup_bool, DL.kb_tup_tuple, DL.kb_tup_list, DL.kb_tup_dict, DL.kb_lst_str, DL.kb_lst_int, DL.kb_lst_bool, DL.kb_lst_tuple, DL.kb_lst_list, DL.kb_lst_dict, DL.kb_dct_str, DL.kb_dct_int, DL.kb_dct_bool, DL.kb_dct_tuple, DL.kb_dct_list, DL.kb_dct_dict, DL.isNon_bl, DL.isNon_lst, DL.isNon_dct, DL.x_tOf, DL.x_tOfE, DL.x_chain, DL.x_kix, DL.x_kin, DL.x_kgt, DL.x_allL, DL.x_anyL, DL.x_istr, DL.x_dgetO, DL.x_dgetS, DL.x_dgetI, DL.x_gdix, DL.x_dset, DL.x_popAt, DL.x_insert, DL.ty_dct, DL.x_getS1, DL.x_getI1, DL.x_getS2, DL.x_getI2, DL.x_pnil, DL.x_pcons, DL.x_disM, DL.x_dis0M, DL.x_listM, DL.x_listMT, DL.x_gst, DL.x_mulS, DL.x_mulL, DL.x_dict, DL.onM_md, DL.onS_str, DL.kfind_nil, DL.kfind_cons, DL.lit_beq, DL.x_iseq, DL.onIt_lst, DL.onIt_tup, DL.sl_obj, DL.x_rg1, DL.valD_nil, DL.valD_cons, DL.key_rr, DL.key_ll, DL.key_lr, DL.key_rl, String.reduceBEq, Option.isSome_some, Option.isSome_none, Option.getD_some, Option.getD_none, Bool.true_and, Bool.and_true, Bool.false_and, Bool.and_false, Bool.or_false, Bool.false_or, Bool.or_true, Bool.true_or, beq_self_eq_true, DL.x_addBb, DL.x_addBi, DL.x_addBs, DL.x_addBt, DL.x_addBl, DL.x_subBb, DL.x_subBib, DL.x_subBi, DL.x_mulBb, DL.x_mulBi, DL.x_strI, DL.x_strB, DL.x_up, DL.x_eqT, DL.x_eqL]
  rcases h with rfl | ⟨i, rfl, a, b⟩ | ⟨s, rfl, a⟩
  · walk_at "go"
    exact q
  · walk_at "go"
    exact q
  · walk_at "go"
    exact q
theorem rkey_w {ws : List D} {μ : Mem} {Q : D → Mem → Prop} {E : XD} (h : Row ws) (q : Q (kf (.tup ws)) μ) : m_row_key [.tup ws] μ Q E := by
  have h8 := h.most
  simp only [m_row_key, b_row_key, DL.x_bnd, DL.x_ret, DL.x_req, DL.x_get, DL.x_opt, DL.x_seq, DL.x_on, DL.x_or, DL.x_ob, DL.x_oc, DL.x_nil, DL.x_rt, DL.x_rtN, DL.x_drop, DL.x_break, DL.x_cont, DL.x_if, DL.x_ift, DL.x_iff, DL.x_set, DL.x_asg, DL.x_par2, DL.x_par3, DL.x_for, DL.x_v0, DL.x_vS, DL.x_c, DL.x_bin, DL.x_un, DL.x_tbin, DL.x_tru, DL.x_trb, DL.x_not, DL.x_tand, DL.x_tor, DL.x_and, DL.x_orE, DL.x_notE, DL.x_ifE, DL.x_tup, DL.x_lst, DL.x_lstM, DL.x_anil, DL.x_acons, DL.x_call, DL.x_callD, DL.x_callK, DL.x_meth, DL.x_sl, DL.x_oN, DL.x_oS, DL.x_gn, DL.x_gt, DL.x_gc, DL.x_g0, DL.x_gi, DL.x_body, DL.x_yes, DL.x_add, DL.x_addS, DL.x_addT, DL.x_addL, DL.x_sub, DL.x_mul, DL.x_div, DL.x_mod, DL.x_pow, DL.x_neg, DL.x_cmp, DL.x_cmpS, DL.x_isN, DL.x_mmL, DL.x_mm2, DL.x_eqS, DL.x_eqI, DL.x_intb, DL.onB_bl, DL.onI_int, DL.onO_nx, DL.onO_rt, DL.onL_ml, DL.addD_ol, DL.isNon_non, DL.isNon_int, DL.isNon_str, DL.isNon_tup, DL.ix_tup, DL.ix_lst, DL.ix_str, DL.ix_obj, DL.atI_0, DL.atI_1, DL.atI_2, DL.atI_3, DL.len_tup, DL.len_lst, DL.len_str, DL.len_obj, DL.ty_obj, DL.ty_str, DL.ty_lst, DL.append_obj, DL.pop_obj, DL.set_obj, DL.ixN_3_2, DL.tuple_obj, DL.tuple_lst, DL.list_tup, DL.list_lst, DL.sl_str, DL.sl_tup, DL.sl_lst, DL.rev_tup, DL.revM_lst, DL.sum_lst, DL.put_same, DL.startD, DL.pick, List.map_cons, List.map_nil, List.replicate, List.cons_append, List.nil_append, List.append_nil, List.length_cons, List.length_nil, List.getElem?_cons_zero, List.getElem?_cons_succ, List.set_cons_zero, List.set_cons_succ, List.filterMap_cons, List.filterMap_nil, Nat.zero_add, Nat.add_zero, Nat.reduceAdd, Nat.reduceSub, true_and, and_true, id_eq, if_true, if_false, Bool.false_eq_true, Bool.not_true, Bool.not_false, DL.x_idx, DL.rev_obj, DL.wipeD, DL.x_addM, DL.x_addMl, DL.x_isi, DL.ty_nonM, DL.ty_blM, DL.ty_intM, DL.ty_strM, DL.ty_tupM, DL.ty_lstM, DL.ty_dctM, DL.kb_non_str, DL.kb_non_int, DL.kb_non_bool, DL.kb_non_tuple, DL.kb_non_list, DL.kb_non_dict, DL.kb_bl_str, DL.kb_bl_int, DL.kb_bl_bool, DL.kb_bl_tuple, DL.kb_bl_list, DL.kb_bl_dict, DL.kb_int_str, DL.kb_int_int, DL.kb_int_bool, DL.kb_int_tuple, DL.kb_int_list, DL.kb_int_dict, DL.kb_str_str, DL.kb_str_int, DL.kb_str_bool, DL.kb_str_tuple, DL.kb_str_list, DL.kb_str_dict, DL.kb_tup_str, DL.kb_tup_int, DL.kb_tup_bool, DL.kb_tup_tuple, DL.kb_tup_list, DL.kb_tup_dict, DL.kb_lst_str, DL.kb_lst_int, DL.kb_lst_bool, DL.kb_lst_tuple, DL.kb_lst_list, DL.kb_lst_dict, DL.kb_dct_str, DL.kb_dct_int, DL.kb_dct_bool, DL.kb_dct_tuple, DL.kb_dct_list, DL.kb_dct_dict, DL.isNon_bl, DL.isNon_lst, DL.isNon_dct, DL.x_tOf, DL.x_tOfE, DL.x_chain, DL.x_kix, DL.x_kin, DL.x_kgt, DL.x_allL, DL.x_anyL, DL.x_istr, DL.x_dgetO, DL.x_dgetS, DL.x_dgetI, DL.x_gdix, DL.x_dset, DL.x_popAt, DL.x_insert, DL.ty_dct, DL.x_getS1, DL.x_getI1, DL.x_getS2, DL.x_getI2, DL.x_pnil, DL.x_pcons, DL.x_disM, DL.x_dis0M, DL.x_listM, DL.x_listMT, DL.x_gst, DL.x_mulS, DL.x_mulL, DL.x_dict, DL.onM_md, DL.onS_str, DL.kfind_nil, DL.kfind_cons, DL.lit_beq, DL.x_iseq, DL.onIt_lst, DL.onIt_tup, DL.sl_obj, DL.x_rg1, DL.valD_nil, DL.valD_cons, DL.key_rr, DL.key_ll, DL.key_lr, DL.key_rl, String.reduceBEq, Option.isSome_some, Option.isSome_none, Option.getD_some, Option.getD_none, Bool.true_and, Bool.and_true, Bool.false_and, Bool.and_false, Bool.or_false, Bool.false_or, Bool.or_true, Bool.true_or, beq_self_eq_true, DL.x_addBb, DL.x_addBi, DL.x_addBs, DL.x_addBt, DL.x_addBl, DL.x_subBb, DL.x_subBib, DL.x_subBi, DL.x_mulBb, DL.x_mulBi, DL.x_strI, DL.x_strB, DL.x_up, DL.x_eqT, DL.x_eqL]
  refine elc_nm (items := ws) (chk := fun _ => True) (fun _ => true) wk (fun R h => by walk_at "go"; exact h) (by rw [sz_eq]; omega) (fun _ _ _ => trivial) (fun x hx p acc hp R hR => by walk_at "go"; exact hR) (fun x hx _ p acc hp R hR => ?_) ?_
  · simp only [DL.x_bnd, DL.x_ret, DL.x_req, DL.x_get, DL.x_opt, DL.x_seq, DL.x_on, DL.x_or, DL.x_ob, DL.x_oc, DL.x_nil, DL.x_rt, DL.x_rtN, DL.x_drop, DL.x_break, DL.x_cont, DL.x_if, DL.x_ift, DL.x_iff, DL.x_set, DL.x_asg, DL.x_par2, DL.x_par3, DL.x_for, DL.x_v0, DL.x_vS, DL.x_c, DL.x_bin, DL.x_un, DL.x_tbin, DL.x_tru, DL.x_trb, DL.x_not, DL.x_tand, DL.x_tor, DL.x_and, DL.x_orE, DL.x_notE, DL.x_ifE, DL.x_tup, DL.x_lst, DL.x_lstM, DL.x_anil, DL.x_acons, DL.x_call, DL.x_callD, DL.x_callK, DL.x_meth, DL.x_sl, DL.x_oN, DL.x_oS, DL.x_gn, DL.x_gt, DL.x_gc, DL.x_g0, DL.x_gi, DL.x_body, DL.x_yes, DL.x_add, DL.x_addS, DL.x_addT, DL.x_addL, DL.x_sub, DL.x_mul, DL.x_div, DL.x_mod, DL.x_pow, DL.x_neg, DL.x_cmp, DL.x_cmpS, DL.x_isN, DL.x_mmL, DL.x_mm2, DL.x_eqS, DL.x_eqI, DL.x_intb, DL.onB_bl, DL.onI_int, DL.onO_nx, DL.onO_rt, DL.onL_ml, DL.addD_ol, DL.isNon_non, DL.isNon_int, DL.isNon_str, DL.isNon_tup, DL.ix_tup, DL.ix_lst, DL.ix_str, DL.ix_obj, DL.atI_0, DL.atI_1, DL.atI_2, DL.atI_3, DL.len_tup, DL.len_lst, DL.len_str, DL.len_obj, DL.ty_obj, DL.ty_str, DL.ty_lst, DL.append_obj, DL.pop_obj, DL.set_obj, DL.ixN_3_2, DL.tuple_obj, DL.tuple_lst, DL.list_tup, DL.list_lst, DL.sl_str, DL.sl_tup, DL.sl_lst, DL.rev_tup, DL.revM_lst, DL.sum_lst, DL.put_same, DL.startD, DL.pick, List.map_cons, List.map_nil, List.replicate, List.cons_append, List.nil_append, List.append_nil, List.length_cons, List.length_nil, List.getElem?_cons_zero, List.getElem?_cons_succ, List.set_cons_zero, List.set_cons_succ, List.filterMap_cons, List.filterMap_nil, Nat.zero_add, Nat.add_zero, Nat.reduceAdd, Nat.reduceSub, true_and, and_true, id_eq, if_true, if_false, Bool.false_eq_true, Bool.not_true, Bool.not_false, DL.x_idx, DL.rev_obj, DL.wipeD, DL.x_addM, DL.x_addMl, DL.x_isi, DL.ty_nonM, DL.ty_blM, DL.ty_intM, DL.ty_strM, DL.ty_tupM, DL.ty_lstM, DL.ty_dctM, DL.kb_non_str, DL.kb_non_int, DL.kb_non_bool, DL.kb_non_tuple, DL.kb_non_list, DL.kb_non_dict, DL.kb_bl_str, DL.kb_bl_int, DL.kb_bl_bool, DL.kb_bl_tuple, DL.kb_bl_list, DL.kb_bl_dict, DL.kb_int_str, DL.kb_int_int, DL.kb_int_bool, DL.kb_int_tuple, DL.kb_int_list, DL.kb_int_dict, DL.kb_str_str, DL.kb_str_int, DL.kb_str_bool, DL.kb_str_tuple, DL.kb_str_list, DL.kb_str_dict, DL.kb_tup_str, DL.kb_tup_int, DL.kb_tup_bool, DL.kb_tup_tuple, DL.kb_tup_list, DL.kb_tup_dict, DL.kb_lst_str, DL.kb_lst_int, DL.kb_lst_bool, DL.kb_lst_tuple, DL.kb_lst_list, DL.kb_lst_dict, DL.kb_dct_str, DL.kb_dct_int, DL.kb_dct_bool, DL.kb_dct_tuple, DL.kb_dct_list, DL.kb_dct_dict, DL.isNon_bl, DL.isNon_lst, DL.isNon_dct, DL.x_tOf, DL.x_tOfE, DL.x_chain, DL.x_kix, DL.x_kin, DL.x_kgt, DL.x_allL, DL.x_anyL, DL.x_istr, DL.x_dgetO, DL.x_dgetS, DL.x_dgetI, DL.x_gdix, DL.x_dset, DL.x_popAt, DL.x_insert, DL.ty_dct, DL.x_getS1, DL.x_getI1, DL.x_getS2, DL.x_getI2, DL.x_pnil, DL.x_pcons, DL.x_disM, DL.x_dis0M, DL.x_listM, DL.x_listMT, DL.x_gst, DL.x_mulS, DL.x_mulL, DL.x_dict, DL.onM_md, DL.onS_str, DL.kfind_nil, DL.kfind_cons, DL.lit_beq, DL.x_iseq, DL.onIt_lst, DL.onIt_tup, DL.sl_obj, DL.x_rg1, DL.valD_nil, DL.valD_cons, DL.key_rr, DL.key_ll, DL.key_lr, DL.key_rl, String.reduceBEq, Option.isSome_some, Option.isSome_none, Option.getD_some, Option.getD_none, Bool.true_and, Bool.and_true, Bool.false_and, Bool.and_false, Bool.or_false, Bool.false_or, Bool.or_true, Bool.true_or, beq_self_eq_true, DL.x_addBb, DL.x_addBi, DL.x_addBs, DL.x_addBt, DL.x_addBl, DL.x_subBb, DL.x_subBib, DL.x_subBi, DL.x_mulBb, DL.x_mulBi, DL.x_strI, DL.x_strB, DL.x_up, DL.x_eqT, DL.x_eqL, wipeD]
    exact wkey_w (h.ok x hx) hR
  · walk_at "go"
    have e : (ws.filter fun _ => true) = ws := List.filter_eq_self.mpr fun _ _ => rfl
    rw [e]
    exact q
theorem rising_w {ds : List D} {μ : Mem} {Q : D → Mem → Prop} {E : XD} (h : Rows ds) (q : Q (.tup (srt ds)) μ) : m_rising [.tup ds] μ Q E := by
  simp only [m_rising, b_rising, DL.x_bnd, DL.x_ret, DL.x_req, DL.x_get, DL.x_opt, DL.x_seq, DL.x_on, DL.x_or, DL.x_ob, DL.x_oc, DL.x_nil, DL.x_rt, DL.x_rtN, DL.x_drop, DL.x_break, DL.x_cont, DL.x_if, DL.x_ift, DL.x_iff, DL.x_set, DL.x_asg, DL.x_par2, DL.x_par3, DL.x_for, DL.x_v0, DL.x_vS, DL.x_c, DL.x_bin, DL.x_un, DL.x_tbin, DL.x_tru, DL.x_trb, DL.x_not, DL.x_tand, DL.x_tor, DL.x_and, DL.x_orE, DL.x_notE, DL.x_ifE, DL.x_tup, DL.x_lst, DL.x_lstM, DL.x_anil, DL.x_acons, DL.x_call, DL.x_callD, DL.x_callK, DL.x_meth, DL.x_sl, DL.x_oN, DL.x_oS, DL.x_gn, DL.x_gt, DL.x_gc, DL.x_g0, DL.x_gi, DL.x_body, DL.x_yes, DL.x_add, DL.x_addS, DL.x_addT, DL.x_addL, DL.x_sub, DL.x_mul, DL.x_div, DL.x_mod, DL.x_pow, DL.x_neg, DL.x_cmp, DL.x_cmpS, DL.x_isN, DL.x_mmL, DL.x_mm2, DL.x_eqS, DL.x_eqI, DL.x_intb, DL.onB_bl, DL.onI_int, DL.onO_nx, DL.onO_rt, DL.onL_ml, DL.addD_ol, DL.isNon_non, DL.isNon_int, DL.isNon_str, DL.isNon_tup, DL.ix_tup, DL.ix_lst, DL.ix_str, DL.ix_obj, DL.atI_0, DL.atI_1, DL.atI_2, DL.atI_3, DL.len_tup, DL.len_lst, DL.len_str, DL.len_obj, DL.ty_obj, DL.ty_str, DL.ty_lst, DL.append_obj, DL.pop_obj, DL.set_obj, DL.ixN_3_2, DL.tuple_obj, DL.tuple_lst, DL.list_tup, DL.list_lst, DL.sl_str, DL.sl_tup, DL.sl_lst, DL.rev_tup, DL.revM_lst, DL.sum_lst, DL.put_same, DL.startD, DL.pick, List.map_cons, List.map_nil, List.replicate, List.cons_append, List.nil_append, List.append_nil, List.length_cons, List.length_nil, List.getElem?_cons_zero, List.getElem?_cons_succ, List.set_cons_zero, List.set_cons_succ, List.filterMap_cons, List.filterMap_nil, Nat.zero_add, Nat.add_zero, Nat.reduceAdd, Nat.reduceSub, true_and, and_true, id_eq, if_true, if_false, Bool.false_eq_true, Bool.not_true, Bool.not_false, DL.x_idx, DL.rev_obj, DL.wipeD, DL.x_addM, DL.x_addMl, DL.x_isi, DL.ty_nonM, DL.ty_blM, DL.ty_intM, DL.ty_strM, DL.ty_tupM, DL.ty_lstM, DL.ty_dctM, DL.kb_non_str, DL.kb_non_int, DL.kb_non_bool, DL.kb_non_tuple, DL.kb_non_list, DL.kb_non_dict, DL.kb_bl_str, DL.kb_bl_int, DL.kb_bl_bool, DL.kb_bl_tuple, DL.kb_bl_list, DL.kb_bl_dict, DL.kb_int_str, DL.kb_int_int, DL.kb_int_bool, DL.kb_int_tuple, DL.kb_int_list, DL.kb_int_dict, DL.kb_str_str, DL.kb_str_int, DL.kb_str_bool, DL.kb_str_tuple, DL.kb_str_list, DL.kb_str_dict, DL.kb_tup_str, DL.kb_tup_int, DL.kb_tup_bool, DL.kb_tup_tuple, DL.kb_tup_list, DL.kb_tup_dict, DL.kb_lst_str, DL.kb_lst_int, DL.kb_lst_bool, DL.kb_lst_tuple, DL.kb_lst_list, DL.kb_lst_dict, DL.kb_dct_str, DL.kb_dct_int, DL.kb_dct_bool, DL.kb_dct_tuple, DL.kb_dct_list, DL.kb_dct_dict, DL.isNon_bl, DL.isNon_lst, DL.isNon_dct, DL.x_tOf, DL.x_tOfE, DL.x_chain, DL.x_kix, DL.x_kin, DL.x_kgt, DL.x_allL, DL.x_anyL, DL.x_istr, DL.x_dgetO, DL.x_dgetS, DL.x_dgetI, DL.x_gdix, DL.x_dset, DL.x_popAt, DL.x_insert, DL.ty_dct, DL.x_getS1, DL.x_getI1, DL.x_getS2, DL.x_getI2, DL.x_pnil, DL.x_pcons, DL.x_disM, DL.x_dis0M, DL.x_listM, DL.x_listMT, DL.x_gst, DL.x_mulS, DL.x_mulL, DL.x_dict, DL.onM_md, DL.onS_str, DL.kfind_nil, DL.kfind_cons, DL.lit_beq, DL.x_iseq, DL.onIt_lst, DL.onIt_tup, DL.sl_obj, DL.x_rg1, DL.valD_nil, DL.valD_cons, DL.key_rr, DL.key_ll, DL.key_lr, DL.key_rl, String.reduceBEq, Option.isSome_some, Option.isSome_none, Option.getD_some, Option.getD_none, Bool.true_and, Bool.and_true, Bool.false_and, Bool.and_false, Bool.or_false, Bool.false_or, Bool.or_true, Bool.true_or, beq_self_eq_true, DL.x_addBb, DL.x_addBi, DL.x_addBs, DL.x_addBt, DL.x_addBl, DL.x_subBb, DL.x_subBib, DL.x_subBi, DL.x_mulBb, DL.x_mulBi, DL.x_strI, DL.x_strB, DL.x_up, DL.x_eqT, DL.x_eqL]
  show eSortK m_row_key (aCons (eVar 0) aNil) [some (.tup ds)] μ _ E
  refine ⟨kf, fun d hd R hR => ?_, fun d hd => key_ok (h d hd), all_alike h, ?_⟩
  · obtain ⟨ws, rfl, r⟩ := h d hd
    exact rkey_w r hR
  · walk_at "go"
    exact q
end Lk03

namespace Lk03
open PySem PySem.Spec PyProof.Rows L2 DL

theorem signs_l : ∀ {ds : List D}, (∀ d ∈ ds, ∃ ch : Nat, d = .str ⟨#[ch]⟩ ∧ 97 ≤ ch ∧ ch ≤ 122) → ∃ cs : List Nat, ds = cs.map (fun c => .str ⟨#[c]⟩) ∧ cs.length = ds.length ∧ ∀ c ∈ cs, 97 ≤ c ∧ c ≤ 122
  | [], _ => ⟨[], rfl, rfl, fun _ h => nomatch h⟩
  | d :: r, h => by
    obtain ⟨ch, e, hc⟩ := h d (List.mem_cons_self ..)
    obtain ⟨cs, e2, hl, h2⟩ := signs_l fun e he => h e (List.mem_cons_of_mem _ he)
    refine ⟨ch :: cs, by rw [e, e2]; rfl, by rw [List.length_cons, List.length_cons, hl], fun x hx => ?_⟩
    rcases List.mem_cons.mp hx with z | z
    · rw [z]; exact hc
    · exact h2 x z
theorem join_l {ds : List D} {n : Nat} {μ : Mem} {Q : D → Mem → Prop} {E : XD} (hs : ∀ d ∈ ds, ∃ ch : Nat, d = .str ⟨#[ch]⟩ ∧ 97 ≤ ch ∧ ch ≤ 122) (hl : ds.length = n) (hn : n ≤ 1000000) (q : ∀ s, Lt n n s → Q (.str s) μ) : joinD (.str (PySem.Str.ofString "")) [.lst ds] μ Q E := by
  obtain ⟨cs, e1, e2, e3⟩ := signs_l hs
  have es : cs.toArray.size = n := by rw [List.size_toArray]; omega
  refine join_signs (cs := cs) (by rw [e1]; rfl) (by omega) (q _ ⟨Nat.le_of_eq es.symm, Nat.le_of_eq es, by simpa using e3⟩)
theorem p12 : (10 : Int) ^ Int.toNat 12 = 1000000000000 := by decide
theorem p9 : (10 : Int) ^ Int.toNat 9 = 1000000000 := by decide
theorem int_ok {i : Int} (h : -1000000000000 ≤ i) (h' : i ≤ 1000000000000) : OkV (.int i) := .inr (.inl ⟨i, rfl, h, h'⟩)
theorem lit_ok {x : String} (h : (PySem.Str.ofString x).length ≤ 8) (k : ∀ c ∈ (PySem.Str.ofString x).cps.toList, 97 ≤ c ∧ c ≤ 122) : OkV (.str (PySem.Str.ofString x)) := .inr (.inr ⟨_, rfl, Nat.zero_le _, h, k⟩)
theorem worth_g {a c : Addr} : Gen shD a c 11 (m__law_worth [.obj a]) OkV := by
  intro μ0 μ t Q E h ht q
  simp only [m__law_worth, b__law_worth, DL.x_bnd, DL.x_ret, DL.x_req, DL.x_get, DL.x_opt, DL.x_seq, DL.x_or, DL.x_ob, DL.x_oc, DL.x_nil, DL.x_rt, DL.x_rtN, DL.x_drop, DL.x_break, DL.x_cont, DL.x_if, DL.x_ift, DL.x_iff, DL.x_set, DL.x_asg, DL.x_par2, DL.x_par3, DL.x_for, DL.x_v0, DL.x_vS, DL.x_c, DL.x_bin, DL.x_un, DL.x_tbin, DL.x_tru, DL.x_trb, DL.x_not, DL.x_tand, DL.x_tor, DL.x_and, DL.x_orE, DL.x_notE, DL.x_ifE, DL.x_tup, DL.x_lst, DL.x_lstM, DL.x_anil, DL.x_acons, DL.x_call, DL.x_callD, DL.x_callK, DL.x_meth, DL.x_sl, DL.x_oN, DL.x_oS, DL.x_gn, DL.x_gt, DL.x_gc, DL.x_g0, DL.x_gi, DL.x_body, DL.x_yes, DL.x_add, DL.x_addS, DL.x_addT, DL.x_addL, DL.x_sub, DL.x_mul, DL.x_div, DL.x_mod, DL.x_pow, DL.x_neg, DL.x_cmp, DL.x_cmpS, DL.x_isN, DL.x_mmL, DL.x_mm2, DL.x_eqS, DL.x_eqI, DL.x_intb, DL.onB_bl, DL.onI_int, DL.onO_nx, DL.onO_rt, DL.onL_ml, DL.addD_ol, DL.isNon_non, DL.isNon_int, DL.isNon_str, DL.isNon_tup, DL.ix_tup, DL.ix_lst, DL.ix_str, DL.ix_obj, DL.atI_0, DL.atI_1, DL.atI_2, DL.atI_3, DL.len_tup, DL.len_lst, DL.len_str, DL.len_obj, DL.ty_obj, DL.ty_str, DL.ty_lst, DL.append_obj, DL.pop_obj, DL.set_obj, DL.ixN_3_2, DL.tuple_obj, DL.tuple_lst, DL.list_tup, DL.list_lst, DL.sl_str, DL.sl_tup, DL.sl_lst, DL.rev_tup, DL.revM_lst, DL.sum_lst, DL.put_same, DL.startD, DL.pick, List.map_cons, List.map_nil, List.replicate, List.cons_append, List.nil_append, List.append_nil, List.length_cons, List.length_nil, List.getElem?_cons_zero, List.getElem?_cons_succ, List.set_cons_zero, List.set_cons_succ, List.filterMap_cons, List.filterMap_nil, Nat.zero_add, Nat.add_zero, Nat.reduceAdd, Nat.reduceSub, true_and, and_true, id_eq, if_true, if_false, Bool.false_eq_true, Bool.not_true, Bool.not_false, DL.x_idx, DL.rev_obj, DL.wipeD, DL.x_addM, DL.x_addMl, DL.x_isi, DL.ty_nonM, DL.ty_blM, DL.ty_intM, DL.ty_strM, DL.ty_tupM, DL.ty_lstM, DL.ty_dctM, DL.kb_non_str, DL.kb_non_int, DL.kb_non_bool, DL.kb_non_tuple, DL.kb_non_list, DL.kb_non_dict, DL.kb_bl_str, DL.kb_bl_int, DL.kb_bl_bool, DL.kb_bl_tuple, DL.kb_bl_list, DL.kb_bl_dict, DL.kb_int_str, DL.kb_int_int, DL.kb_int_bool, DL.kb_int_tuple, DL.kb_int_list, DL.kb_int_dict, DL.kb_str_str, DL.kb_str_int, DL.kb_str_bool, DL.kb_str_tuple, DL.kb_str_list, DL.kb_str_dict, DL.kb_tup_str, DL.kb_tup_int, DL.kb_tup_bool, DL.kb_tup_tuple, DL.kb_tup_list, DL.kb_tup_dict, DL.kb_lst_str, DL.kb_lst_int, DL.kb_lst_bool, DL.kb_lst_tuple, DL.kb_lst_list, DL.kb_lst_dict, DL.kb_dct_str, DL.kb_dct_int, DL.kb_dct_bool, DL.kb_dct_tuple, DL.kb_dct_list, DL.kb_dct_dict, DL.isNon_bl, DL.isNon_lst, DL.isNon_dct, DL.x_tOf, DL.x_tOfE, DL.x_chain, DL.x_kix, DL.x_kin, DL.x_kgt, DL.x_allL, DL.x_anyL, DL.x_istr, DL.x_dgetO, DL.x_dgetS, DL.x_dgetI, DL.x_gdix, DL.x_dset, DL.x_popAt, DL.x_insert, DL.ty_dct, DL.x_getS1, DL.x_getI1, DL.x_getS2, DL.x_getI2, DL.x_pnil, DL.x_pcons, DL.x_disM, DL.x_dis0M, DL.x_listM, DL.x_listMT, DL.x_gst, DL.x_mulS, DL.x_mulL, DL.x_dict, DL.onM_md, DL.onS_str, DL.kfind_nil, DL.kfind_cons, DL.lit_beq, DL.x_iseq, DL.onIt_lst, DL.onIt_tup, DL.sl_obj, DL.x_rg1, DL.valD_nil, DL.valD_cons, DL.key_rr, DL.key_ll, DL.key_lr, DL.key_rl, String.reduceBEq, Option.isSome_some, Option.isSome_none, Option.getD_some, Option.getD_none, Bool.true_and, Bool.and_true, Bool.false_and, Bool.and_false, Bool.or_false, Bool.false_or, Bool.or_true, Bool.true_or, beq_self_eq_true, DL.x_addBb, DL.x_addBi, DL.x_addBs, DL.x_addBt, DL.x_addBl, DL.x_subBb, DL.x_subBib, DL.x_subBi, DL.x_mulBb, DL.x_mulBi, DL.x_strI, DL.x_strB, DL.x_up, DL.x_eqT, DL.x_eqL]
  refine draw_g (by decide) (by decide) _ _ _ _ _ h (by omega) fun d μ1 ⟨so, e, a0, a1⟩ h => ?_
  subst e
  simp only [DL.x_on]
  walk_at "gn"
  by_cases h0 : so = 0
  · simp only [decide_eq_true h0, if_true]
    walk_at "go"
    exact q _ _ (.inl rfl) (h.mono (by omega))
  · simp only [decide_eq_false h0, Bool.false_eq_true, if_false]
    simp only [DL.x_on]
    walk_at "gn"
    by_cases h4 : so < 4
    · simp only [decide_eq_true h4, if_true]
      walk_at "go"
      simp only [p12, p9]
      refine draw_g (by decide) (by decide) _ _ _ _ _ h (by omega) fun d μ1 ⟨k, e, k0, k1⟩ h => ?_
      subst e
      walk_at "go"
      refine pick_g (by simp only [List.length_cons, List.length_nil]; omega) (by simp only [List.length_cons, List.length_nil]; omega) _ _ _ _ _ h (by omega) fun d μ1 hd h => ?_
      refine q d μ1 ?_ (h.mono (by omega))
      simp only [List.mem_cons, List.not_mem_nil, or_false] at hd
      rcases hd with rfl | rfl | rfl | rfl | rfl | rfl | rfl | rfl | rfl | rfl | rfl | rfl <;> exact int_ok (by omega) (by omega)
    · simp only [decide_eq_false h4, Bool.false_eq_true, if_false]
      simp only [DL.x_on]
      walk_at "gn"
      simp only [DL.x_on]
      walk_at "gn"
      by_cases h5 : so = 4
      · simp only [decide_eq_true h5, if_true]
        walk_at "go"
        refine pick_g (by decide) (by decide) _ _ _ _ _ h (by omega) fun d μ1 hd h => ?_
        refine q d μ1 ?_ (h.mono (by omega))
        simp only [List.mem_cons, List.not_mem_nil, or_false] at hd
        rcases hd with rfl | rfl | rfl | rfl | rfl | rfl | rfl | rfl | rfl <;> exact lit_ok (by decide +kernel) (by decide +kernel)
      · simp only [decide_eq_false h5, Bool.false_eq_true, if_false]
        walk_at "go"
        rw [x_lcI]
        walk_at "go"
        refine draw_g (by decide) (by decide) _ _ _ _ _ h (by omega) fun d μ1 ⟨kk, e, c0, c1⟩ h => ?_
        subst e
        walk_at "go"
        refine elc_gen 1 (fun _ d => ∃ ch : Nat, d = .str ⟨#[ch]⟩ ∧ 97 ≤ ch ∧ ch ≤ 122) h (by rw [rangeL_len]; omega) (by rw [rangeL_len]; omega) (by decide) (fun x hx μ1 μ' t' R hd ht' hR => ?_) fun ds μ' hl hP h => ?_
        · walk_at "go"
          exact pick_s (by rw [az_len]; decide) (by rw [az_len]; decide) az_lt _ _ _ _ _ hd ht' fun d μ'' ⟨ch, e, _, hm⟩ h => hR d μ'' ⟨ch, e, az_ok ch hm⟩ h
        rw [rangeL_len] at hl h
        walk_at "go"
        refine join_l (n := kk.toNat) (fun d hd => by obtain ⟨_, _, z⟩ := hP d hd; exact z) hl (by omega) fun w hw => ?_
        walk_at "go"
        exact q _ _ (.inr (.inr ⟨w, rfl, Nat.zero_le _, by have := hw.2.1; omega, hw.2.2⟩)) (h.mono (by omega))
theorem pick_o {a c p : Addr} {ds : List D} {μ0 μ : Mem} {t : Int} {Q : D → Mem → Prop} {E : XD} (h : DF shD μ0 a c t μ) (ht : t + 1 ≤ 100000000000) (hp : μ p = some (.ml ds)) (pa : p ≠ a) (pc : p ≠ c) (h0 : 0 < ds.length) (h1 : ds.length ≤ 1000000)
    (q : ∀ d μ1, d ∈ ds → μ1 p = some (.ml ds) → DF shD μ0 a c (t + 1) μ1 → Q d μ1) : m__law_pick [.obj a, .obj p] μ Q E := by
  simp only [m__law_pick, b__law_pick, DL.x_bnd, DL.x_ret, DL.x_req, DL.x_get, DL.x_opt, DL.x_seq, DL.x_on, DL.x_or, DL.x_ob, DL.x_oc, DL.x_nil, DL.x_rt, DL.x_rtN, DL.x_drop, DL.x_break, DL.x_cont, DL.x_if, DL.x_ift, DL.x_iff, DL.x_set, DL.x_asg, DL.x_par2, DL.x_par3, DL.x_for, DL.x_v0, DL.x_vS, DL.x_c, DL.x_bin, DL.x_un, DL.x_tbin, DL.x_tru, DL.x_trb, DL.x_not, DL.x_tand, DL.x_tor, DL.x_and, DL.x_orE, DL.x_notE, DL.x_ifE, DL.x_tup, DL.x_lst, DL.x_lstM, DL.x_anil, DL.x_acons, DL.x_call, DL.x_callD, DL.x_callK, DL.x_meth, DL.x_sl, DL.x_oN, DL.x_oS, DL.x_gn, DL.x_gt, DL.x_gc, DL.x_g0, DL.x_gi, DL.x_body, DL.x_yes, DL.x_add, DL.x_addS, DL.x_addT, DL.x_addL, DL.x_sub, DL.x_mul, DL.x_div, DL.x_mod, DL.x_pow, DL.x_neg, DL.x_cmp, DL.x_cmpS, DL.x_isN, DL.x_mmL, DL.x_mm2, DL.x_eqS, DL.x_eqI, DL.x_intb, DL.onB_bl, DL.onI_int, DL.onO_nx, DL.onO_rt, DL.onL_ml, DL.addD_ol, DL.isNon_non, DL.isNon_int, DL.isNon_str, DL.isNon_tup, DL.ix_tup, DL.ix_lst, DL.ix_str, DL.ix_obj, DL.atI_0, DL.atI_1, DL.atI_2, DL.atI_3, DL.len_tup, DL.len_lst, DL.len_str, DL.len_obj, DL.ty_obj, DL.ty_str, DL.ty_lst, DL.append_obj, DL.pop_obj, DL.set_obj, DL.ixN_3_2, DL.tuple_obj, DL.tuple_lst, DL.list_tup, DL.list_lst, DL.sl_str, DL.sl_tup, DL.sl_lst, DL.rev_tup, DL.revM_lst, DL.sum_lst, DL.put_same, DL.startD, DL.pick, List.map_cons, List.map_nil, List.replicate, List.cons_append, List.nil_append, List.append_nil, List.length_cons, List.length_nil, List.getElem?_cons_zero, List.getElem?_cons_succ, List.set_cons_zero, List.set_cons_succ, List.filterMap_cons, List.filterMap_nil, Nat.zero_add, Nat.add_zero, Nat.reduceAdd, Nat.reduceSub, true_and, and_true, id_eq, if_true, if_false, Bool.false_eq_true, Bool.not_true, Bool.not_false, DL.x_idx, DL.rev_obj, DL.wipeD, DL.x_addM, DL.x_addMl, DL.x_isi, DL.ty_nonM, DL.ty_blM, DL.ty_intM, DL.ty_strM, DL.ty_tupM, DL.ty_lstM, DL.ty_dctM, DL.kb_non_str, DL.kb_non_int, DL.kb_non_bool, DL.kb_non_tuple, DL.kb_non_list, DL.kb_non_dict, DL.kb_bl_str, DL.kb_bl_int, DL.kb_bl_bool, DL.kb_bl_tuple, DL.kb_bl_list, DL.kb_bl_dict, DL.kb_int_str, DL.kb_int_int, DL.kb_int_bool, DL.kb_int_tuple, DL.kb_int_list, DL.kb_int_dict, DL.kb_str_str, DL.kb_str_int, DL.kb_str_bool, DL.kb_str_tuple, DL.kb_str_list, DL.kb_str_dict, DL.kb_tup_str, DL.kb_tup_int, DL.kb_tup_bool, DL.kb_tup_tuple, DL.kb_tup_list, DL.kb_tup_dict, DL.kb_lst_str, DL.kb_lst_int, DL.kb_lst_bool, DL.kb_lst_tuple, DL.kb_lst_list, DL.kb_lst_dict, DL.kb_dct_str, DL.kb_dct_int, DL.kb_dct_bool, DL.kb_dct_tuple, DL.kb_dct_list, DL.kb_dct_dict, DL.isNon_bl, DL.isNon_lst, DL.isNon_dct, DL.x_tOf, DL.x_tOfE, DL.x_chain, DL.x_kix, DL.x_kin, DL.x_kgt, DL.x_allL, DL.x_anyL, DL.x_istr, DL.x_dgetO, DL.x_dgetS, DL.x_dgetI, DL.x_gdix, DL.x_dset, DL.x_popAt, DL.x_insert, DL.ty_dct, DL.x_getS1, DL.x_getI1, DL.x_getS2, DL.x_getI2, DL.x_pnil, DL.x_pcons, DL.x_disM, DL.x_dis0M, DL.x_listM, DL.x_listMT, DL.x_gst, DL.x_mulS, DL.x_mulL, DL.x_dict, DL.onM_md, DL.onS_str, DL.kfind_nil, DL.kfind_cons, DL.lit_beq, DL.x_iseq, DL.onIt_lst, DL.onIt_tup, DL.sl_obj, DL.x_rg1, DL.valD_nil, DL.valD_cons, DL.key_rr, DL.key_ll, DL.key_lr, DL.key_rl, String.reduceBEq, Option.isSome_some, Option.isSome_none, Option.getD_some, Option.getD_none, Bool.true_and, Bool.and_true, Bool.false_and, Bool.and_false, Bool.or_false, Bool.false_or, Bool.or_true, Bool.true_or, beq_self_eq_true, DL.x_addBb, DL.x_addBi, DL.x_addBs, DL.x_addBt, DL.x_addBl, DL.x_subBb, DL.x_subBib, DL.x_subBi, DL.x_mulBb, DL.x_mulBi, DL.x_strI, DL.x_strB, DL.x_up, DL.x_eqT, DL.x_eqL, hp]
  walk_at "go"
  refine draw_g (by omega) (by omega) _ _ _ _ _ (DF.start h.dk) (by omega) fun d μ1 ⟨k, e, k0, k1⟩ h2 => ?_
  subst e
  have hp1 := h2.at pa pc hp
  simp only [DL.x_bnd, DL.x_ret, DL.x_req, DL.x_get, DL.x_opt, DL.x_seq, DL.x_on, DL.x_or, DL.x_ob, DL.x_oc, DL.x_nil, DL.x_rt, DL.x_rtN, DL.x_drop, DL.x_break, DL.x_cont, DL.x_if, DL.x_ift, DL.x_iff, DL.x_set, DL.x_asg, DL.x_par2, DL.x_par3, DL.x_for, DL.x_v0, DL.x_vS, DL.x_c, DL.x_bin, DL.x_un, DL.x_tbin, DL.x_tru, DL.x_trb, DL.x_not, DL.x_tand, DL.x_tor, DL.x_and, DL.x_orE, DL.x_notE, DL.x_ifE, DL.x_tup, DL.x_lst, DL.x_lstM, DL.x_anil, DL.x_acons, DL.x_call, DL.x_callD, DL.x_callK, DL.x_meth, DL.x_sl, DL.x_oN, DL.x_oS, DL.x_gn, DL.x_gt, DL.x_gc, DL.x_g0, DL.x_gi, DL.x_body, DL.x_yes, DL.x_add, DL.x_addS, DL.x_addT, DL.x_addL, DL.x_sub, DL.x_mul, DL.x_div, DL.x_mod, DL.x_pow, DL.x_neg, DL.x_cmp, DL.x_cmpS, DL.x_isN, DL.x_mmL, DL.x_mm2, DL.x_eqS, DL.x_eqI, DL.x_intb, DL.onB_bl, DL.onI_int, DL.onO_nx, DL.onO_rt, DL.onL_ml, DL.addD_ol, DL.isNon_non, DL.isNon_int, DL.isNon_str, DL.isNon_tup, DL.ix_tup, DL.ix_lst, DL.ix_str, DL.ix_obj, DL.atI_0, DL.atI_1, DL.atI_2, DL.atI_3, DL.len_tup, DL.len_lst, DL.len_str, DL.len_obj, DL.ty_obj, DL.ty_str, DL.ty_lst, DL.append_obj, DL.pop_obj, DL.set_obj, DL.ixN_3_2, DL.tuple_obj, DL.tuple_lst, DL.list_tup, DL.list_lst, DL.sl_str, DL.sl_tup, DL.sl_lst, DL.rev_tup, DL.revM_lst, DL.sum_lst, DL.put_same, DL.startD, DL.pick, List.map_cons, List.map_nil, List.replicate, List.cons_append, List.nil_append, List.append_nil, List.length_cons, List.length_nil, List.getElem?_cons_zero, List.getElem?_cons_succ, List.set_cons_zero, List.set_cons_succ, List.filterMap_cons, List.filterMap_nil, Nat.zero_add, Nat.add_zero, Nat.reduceAdd, Nat.reduceSub, true_and, and_true, id_eq, if_true, if_false, Bool.false_eq_true, Bool.not_true, Bool.not_false, DL.x_idx, DL.rev_obj, DL.wipeD, DL.x_addM, DL.x_addMl, DL.x_isi, DL.ty_nonM, DL.ty_blM, DL.ty_intM, DL.ty_strM, DL.ty_tupM, DL.ty_lstM, DL.ty_dctM, DL.kb_non_str, DL.kb_non_int, DL.kb_non_bool, DL.kb_non_tuple, DL.kb_non_list, DL.kb_non_dict, DL.kb_bl_str, DL.kb_bl_int, DL.kb_bl_bool, DL.kb_bl_tuple, DL.kb_bl_list, DL.kb_bl_dict, DL.kb_int_str, DL.kb_int_int, DL.kb_int_bool, DL.kb_int_tuple, DL.kb_int_list, DL.kb_int_dict, DL.kb_str_str, DL.kb_str_int, DL.kb_str_bool, DL.kb_str_tuple, DL.kb_str_list, DL.kb_str_dict, DL.kb_tup_str, DL.kb_tup_int, DL.kb_tup_bool, DL.kb_tup_tuple, DL.kb_tup_list, DL.kb_tup_dict, DL.kb_lst_str, DL.kb_lst_int, DL.kb_lst_bool, DL.kb_lst_tuple, DL.kb_lst_list, DL.kb_lst_dict, DL.kb_dct_str, DL.kb_dct_int, DL.kb_dct_bool, DL.kb_dct_tuple, DL.kb_dct_list, DL.kb_dct_dict, DL.isNon_bl, DL.isNon_lst, DL.isNon_dct, DL.x_tOf, DL.x_tOfE, DL.x_chain, DL.x_kix, DL.x_kin, DL.x_kgt, DL.x_allL, DL.x_anyL, DL.x_istr, DL.x_dgetO, DL.x_dgetS, DL.x_dgetI, DL.x_gdix, DL.x_dset, DL.x_popAt, DL.x_insert, DL.ty_dct, DL.x_getS1, DL.x_getI1, DL.x_getS2, DL.x_getI2, DL.x_pnil, DL.x_pcons, DL.x_disM, DL.x_dis0M, DL.x_listM, DL.x_listMT, DL.x_gst, DL.x_mulS, DL.x_mulL, DL.x_dict, DL.onM_md, DL.onS_str, DL.kfind_nil, DL.kfind_cons, DL.lit_beq, DL.x_iseq, DL.onIt_lst, DL.onIt_tup, DL.sl_obj, DL.x_rg1, DL.valD_nil, DL.valD_cons, DL.key_rr, DL.key_ll, DL.key_lr, DL.key_rl, String.reduceBEq, Option.isSome_some, Option.isSome_none, Option.getD_some, Option.getD_none, Bool.true_and, Bool.and_true, Bool.false_and, Bool.and_false, Bool.or_false, Bool.false_or, Bool.or_true, Bool.true_or, beq_self_eq_true, DL.x_addBb, DL.x_addBi, DL.x_addBs, DL.x_addBt, DL.x_addBl, DL.x_subBb, DL.x_subBib, DL.x_subBi, DL.x_mulBb, DL.x_mulBi, DL.x_strI, DL.x_strB, DL.x_up, DL.x_eqT, DL.x_eqL, hp1]
  obtain ⟨d, e, hm⟩ := atI_nat' (xs := ds) k0 (by omega)
  rw [e]
  exact q d μ1 hm hp1 (h.trans h2)
theorem rows_gd {ds : List D} (h : Rows ds) : gdL ds = true ∧ dptL ds ≤ 50 := by
  refine ⟨gdL_mem fun x hx => ?_, Nat.le_trans (dptL_mem (n := 1) fun x hx => ?_) (by decide)⟩
  · obtain ⟨ws, rfl, r⟩ := h x hx
    exact gdL_mem fun w hw => (okv_gd (r.ok w hw)).1
  · obtain ⟨ws, rfl, r⟩ := h x hx
    exact Nat.succ_le_succ (dptL_mem fun w hw => Nat.le_of_eq (okv_gd (r.ok w hw)).2)
section
variable {s2 : Rho → W Out} {a c p : Addr} {ds : List D} {μ0 μ : Mem} {t : Int} {Q : Out → Mem → Prop} {E : XD} {r1 r3 r4 r5 r6 : Option D}
theorem begun_w (h : DF shD μ0 a c t μ) (ht : t + 3 ≤ 100000000000) (hp : μ p = some (.ml ds)) (pa : p ≠ a) (pc : p ≠ c) (hr : Rows ds) (hl : ds.length ≤ 1000)
    (q : ∀ ws μ', Row ws → μ' p = some (.ml ds) → DF shD μ0 a c (t + 3) μ' → s2 [some (.obj a), r1, some (.obj p), r3, some (.tup ws), r5, r6] μ' Q E) :
    sSeq (sIf (tAndW (tBin neD (eVar 2) (eLst aNil)) (tBin eqD (eCallD 2 m__law_draw (aCons (eVar 0) (aCons (eC (.int 2)) aNil))) (eC (.int 1)))) (sSeq (sSet 4 (eCallD 2 m__law_pick (aCons (eVar 0) (aCons (eVar 2) aNil))))
      (sSet 4 (eSl (eVar 4) oNone (oSome (eCallD 2 m__law_draw (aCons (eVar 0) (aCons (eBin addD (eCall lenD (aCons (eVar 4) aNil)) (eC (.int 1))) aNil))))))) sNil) s2 [some (.obj a), r1, some (.obj p), r3, some (.tup []), r5, r6] μ Q E := by
  have q0 : ∀ t' μ', t' ≤ t + 3 → μ' p = some (.ml ds) → DF shD μ0 a c t' μ' → s2 [some (.obj a), r1, some (.obj p), r3, some (.tup []), r5, r6] μ' Q E := fun t' μ' ht' hp' h' => q [] μ' ⟨Nat.zero_le _, fun _ h => nomatch h⟩ hp' (h'.mono ht')
  walk_at "go"
  refine eq_nil_o hp (rows_gd hr).1 (rows_gd hr).2 ?_
  walk_at "go"
  by_cases he : ds = []
  · simp only [decide_eq_true he, DL.x_bnd, DL.x_ret, DL.x_req, DL.x_get, DL.x_opt, DL.x_seq, DL.x_on, DL.x_or, DL.x_ob, DL.x_oc, DL.x_nil, DL.x_rt, DL.x_rtN, DL.x_drop, DL.x_break, DL.x_cont, DL.x_if, DL.x_ift, DL.x_iff, DL.x_set, DL.x_asg, DL.x_par2, DL.x_par3, DL.x_for, DL.x_v0, DL.x_vS, DL.x_c, DL.x_bin, DL.x_un, DL.x_tbin, DL.x_tru, DL.x_trb, DL.x_not, DL.x_tand, DL.x_tor, DL.x_and, DL.x_orE, DL.x_notE, DL.x_ifE, DL.x_tup, DL.x_lst, DL.x_lstM, DL.x_anil, DL.x_acons, DL.x_call, DL.x_callD, DL.x_callK, DL.x_meth, DL.x_sl, DL.x_oN, DL.x_oS, DL.x_gn, DL.x_gt, DL.x_gc, DL.x_g0, DL.x_gi, DL.x_body, DL.x_yes, DL.x_add, DL.x_addS, DL.x_addT, DL.x_addL, DL.x_sub, DL.x_mul, DL.x_div, DL.x_mod, DL.x_pow, DL.x_neg, DL.x_cmp, DL.x_cmpS, DL.x_isN, DL.x_mmL, DL.x_mm2, DL.x_eqS, DL.x_eqI, DL.x_intb, DL.onB_bl, DL.onI_int, DL.onO_nx, DL.onO_rt, DL.onL_ml, DL.addD_ol, DL.isNon_non, DL.isNon_int, DL.isNon_str, DL.isNon_tup, DL.ix_tup, DL.ix_lst, DL.ix_str, DL.ix_obj, DL.atI_0, DL.atI_1, DL.atI_2, DL.atI_3, DL.len_tup, DL.len_lst, DL.len_str, DL.len_obj, DL.ty_obj, DL.ty_str, DL.ty_lst, DL.append_obj, DL.pop_obj, DL.set_obj, DL.ixN_3_2, DL.tuple_obj, DL.tuple_lst, DL.list_tup, DL.list_lst, DL.sl_str, DL.sl_tup, DL.sl_lst, DL.rev_tup, DL.revM_lst, DL.sum_lst, DL.put_same, DL.startD, DL.pick, List.map_cons, List.map_nil, List.replicate, List.cons_append, List.nil_append, List.append_nil, List.length_cons, List.length_nil, List.getElem?_cons_zero, List.getElem?_cons_succ, List.set_cons_zero, List.set_cons_succ, List.filterMap_cons, List.filterMap_nil, Nat.zero_add, Nat.add_zero, Nat.reduceAdd, Nat.reduceSub, true_and, and_true, id_eq, if_true, if_false, Bool.false_eq_true, Bool.not_true, Bool.not_false, DL.x_idx, DL.rev_obj, DL.wipeD, DL.x_addM, DL.x_addMl, DL.x_isi, DL.ty_nonM, DL.ty_blM, DL.ty_intM, DL.ty_strM, DL.ty_tupM, DL.ty_lstM, DL.ty_dctM, DL.kb_non_str, DL.kb_non_int, DL.kb_non_bool, DL.kb_non_tuple, DL.kb_non_list, DL.kb_non_dict, DL.kb_bl_str, DL.kb_bl_int, DL.kb_bl_bool, DL.kb_bl_tuple, DL.kb_bl_list, DL.kb_bl_dict, DL.kb_int_str, DL.kb_int_int, DL.kb_int_bool, DL.kb_int_tuple, DL.kb_int_list, DL.kb_int_dict, DL.kb_str_str, DL.kb_str_int, DL.kb_str_bool, DL.kb_str_tuple, DL.kb_str_list, DL.kb_str_dict, DL.kb_tup_str, DL.kb_tup_int, DL.kb_tup_bool, DL.kb_tup_tuple, DL.kb_tup_list, DL.kb_tup_dict, DL.kb_lst_str, DL.kb_lst_int, DL.kb_lst_bool, DL.kb_lst_tuple, DL.kb_lst_list, DL.kb_lst_dict, DL.kb_dct_str, DL.kb_dct_int, DL.kb_dct_bool, DL.kb_dct_tuple, DL.kb_dct_list, DL.kb_dct_dict, DL.isNon_bl, DL.isNon_lst, DL.isNon_dct, DL.x_tOf, DL.x_tOfE, DL.x_chain, DL.x_kix, DL.x_kin, DL.x_kgt, DL.x_allL, DL.x_anyL, DL.x_istr, DL.x_dgetO, DL.x_dgetS, DL.x_dgetI, DL.x_gdix, DL.x_dset, DL.x_popAt, DL.x_insert, DL.ty_dct, DL.x_getS1, DL.x_getI1, DL.x_getS2, DL.x_getI2, DL.x_pnil, DL.x_pcons, DL.x_disM, DL.x_dis0M, DL.x_listM, DL.x_listMT, DL.x_gst, DL.x_mulS, DL.x_mulL, DL.x_dict, DL.onM_md, DL.onS_str, DL.kfind_nil, DL.kfind_cons, DL.lit_beq, DL.x_iseq, DL.onIt_lst, DL.onIt_tup, DL.sl_obj, DL.x_rg1, DL.valD_nil, DL.valD_cons, DL.key_rr, DL.key_ll, DL.key_lr, DL.key_rl, String.reduceBEq, Option.isSome_some, Option.isSome_none, Option.getD_some, Option.getD_none, Bool.true_and, Bool.and_true, Bool.false_and, Bool.and_false, Bool.or_false, Bool.false_or, Bool.or_true, Bool.true_or, beq_self_eq_true, DL.x_addBb, DL.x_addBi, DL.x_addBs, DL.x_addBt, DL.x_addBl, DL.x_subBb, DL.x_subBib, DL.x_subBi, DL.x_mulBb, DL.x_mulBi, DL.x_strI, DL.x_strB, DL.x_up, DL.x_eqT, DL.x_eqL]
    exact q0 t μ (by omega) hp h
  · simp only [decide_eq_false he, DL.x_bnd, DL.x_ret, DL.x_req, DL.x_get, DL.x_opt, DL.x_seq, DL.x_on, DL.x_or, DL.x_ob, DL.x_oc, DL.x_nil, DL.x_rt, DL.x_rtN, DL.x_drop, DL.x_break, DL.x_cont, DL.x_if, DL.x_ift, DL.x_iff, DL.x_set, DL.x_asg, DL.x_par2, DL.x_par3, DL.x_for, DL.x_v0, DL.x_vS, DL.x_c, DL.x_bin, DL.x_un, DL.x_tbin, DL.x_tru, DL.x_trb, DL.x_not, DL.x_tand, DL.x_tor, DL.x_and, DL.x_orE, DL.x_notE, DL.x_ifE, DL.x_tup, DL.x_lst, DL.x_lstM, DL.x_anil, DL.x_acons, DL.x_call, DL.x_callD, DL.x_callK, DL.x_meth, DL.x_sl, DL.x_oN, DL.x_oS, DL.x_gn, DL.x_gt, DL.x_gc, DL.x_g0, DL.x_gi, DL.x_body, DL.x_yes, DL.x_add, DL.x_addS, DL.x_addT, DL.x_addL, DL.x_sub, DL.x_mul, DL.x_div, DL.x_mod, DL.x_pow, DL.x_neg, DL.x_cmp, DL.x_cmpS, DL.x_isN, DL.x_mmL, DL.x_mm2, DL.x_eqS, DL.x_eqI, DL.x_intb, DL.onB_bl, DL.onI_int, DL.onO_nx, DL.onO_rt, DL.onL_ml, DL.addD_ol, DL.isNon_non, DL.isNon_int, DL.isNon_str, DL.isNon_tup, DL.ix_tup, DL.ix_lst, DL.ix_str, DL.ix_obj, DL.atI_0, DL.atI_1, DL.atI_2, DL.atI_3, DL.len_tup, DL.len_lst, DL.len_str, DL.len_obj, DL.ty_obj, DL.ty_str, DL.ty_lst, DL.append_obj, DL.pop_obj, DL.set_obj, DL.ixN_3_2, DL.tuple_obj, DL.tuple_lst, DL.list_tup, DL.list_lst, DL.sl_str, DL.sl_tup, DL.sl_lst, DL.rev_tup, DL.revM_lst, DL.sum_lst, DL.put_same, DL.startD, DL.pick, List.map_cons, List.map_nil, List.replicate, List.cons_append, List.nil_append, List.append_nil, List.length_cons, List.length_nil, List.getElem?_cons_zero, List.getElem?_cons_succ, List.set_cons_zero, List.set_cons_succ, List.filterMap_cons, List.filterMap_nil, Nat.zero_add, Nat.add_zero, Nat.reduceAdd, Nat.reduceSub, true_and, and_true, id_eq, if_true, if_false, Bool.false_eq_true, Bool.not_true, Bool.not_false, DL.x_idx, DL.rev_obj, DL.wipeD, DL.x_addM, DL.x_addMl, DL.x_isi, DL.ty_nonM, DL.ty_blM, DL.ty_intM, DL.ty_strM, DL.ty_tupM, DL.ty_lstM, DL.ty_dctM, DL.kb_non_str, DL.kb_non_int, DL.kb_non_bool, DL.kb_non_tuple, DL.kb_non_list, DL.kb_non_dict, DL.kb_bl_str, DL.kb_bl_int, DL.kb_bl_bool, DL.kb_bl_tuple, DL.kb_bl_list, DL.kb_bl_dict, DL.kb_int_str, DL.kb_int_int, DL.kb_int_bool, DL.kb_int_tuple, DL.kb_int_list, DL.kb_int_dict, DL.kb_str_str, DL.kb_str_int, DL.kb_str_bool, DL.kb_str_tuple, DL.kb_str_list, DL.kb_str_dict, DL.kb_tup_str, DL.kb_tup_int, DL.kb_tup_bool, DL.kb_tup_tuple, DL.kb_tup_list, DL.kb_tup_dict, DL.kb_lst_str, DL.kb_lst_int, DL.kb_lst_bool, DL.kb_lst_tuple, DL.kb_lst_list, DL.kb_lst_dict, DL.kb_dct_str, DL.kb_dct_int, DL.kb_dct_bool, DL.kb_dct_tuple, DL.kb_dct_list, DL.kb_dct_dict, DL.isNon_bl, DL.isNon_lst, DL.isNon_dct, DL.x_tOf, DL.x_tOfE, DL.x_chain, DL.x_kix, DL.x_kin, DL.x_kgt, DL.x_allL, DL.x_anyL, DL.x_istr, DL.x_dgetO, DL.x_dgetS, DL.x_dgetI, DL.x_gdix, DL.x_dset, DL.x_popAt, DL.x_insert, DL.ty_dct, DL.x_getS1, DL.x_getI1, DL.x_getS2, DL.x_getI2, DL.x_pnil, DL.x_pcons, DL.x_disM, DL.x_dis0M, DL.x_listM, DL.x_listMT, DL.x_gst, DL.x_mulS, DL.x_mulL, DL.x_dict, DL.onM_md, DL.onS_str, DL.kfind_nil, DL.kfind_cons, DL.lit_beq, DL.x_iseq, DL.onIt_lst, DL.onIt_tup, DL.sl_obj, DL.x_rg1, DL.valD_nil, DL.valD_cons, DL.key_rr, DL.key_ll, DL.key_lr, DL.key_rl, String.reduceBEq, Option.isSome_some, Option.isSome_none, Option.getD_some, Option.getD_none, Bool.true_and, Bool.and_true, Bool.false_and, Bool.and_false, Bool.or_false, Bool.false_or, Bool.or_true, Bool.true_or, beq_self_eq_true, DL.x_addBb, DL.x_addBi, DL.x_addBs, DL.x_addBt, DL.x_addBl, DL.x_subBb, DL.x_subBib, DL.x_subBi, DL.x_mulBb, DL.x_mulBi, DL.x_strI, DL.x_strB, DL.x_up, DL.x_eqT, DL.x_eqL]
    have hpos : 0 < ds.length := List.length_pos_iff.mpr he
    refine draw_g (by decide) (by decide) _ _ _ _ _ (DF.start h.dk) (by omega) fun d μ1 ⟨w, e, w0, w1⟩ h1 => ?_
    subst e
    have hp1 := h1.at pa pc hp
    walk_at "go"
    by_cases hw : w = 1
    · simp only [decide_eq_true hw, DL.x_bnd, DL.x_ret, DL.x_req, DL.x_get, DL.x_opt, DL.x_seq, DL.x_on, DL.x_or, DL.x_ob, DL.x_oc, DL.x_nil, DL.x_rt, DL.x_rtN, DL.x_drop, DL.x_break, DL.x_cont, DL.x_if, DL.x_ift, DL.x_iff, DL.x_set, DL.x_asg, DL.x_par2, DL.x_par3, DL.x_for, DL.x_v0, DL.x_vS, DL.x_c, DL.x_bin, DL.x_un, DL.x_tbin, DL.x_tru, DL.x_trb, DL.x_not, DL.x_tand, DL.x_tor, DL.x_and, DL.x_orE, DL.x_notE, DL.x_ifE, DL.x_tup, DL.x_lst, DL.x_lstM, DL.x_anil, DL.x_acons, DL.x_call, DL.x_callD, DL.x_callK, DL.x_meth, DL.x_sl, DL.x_oN, DL.x_oS, DL.x_gn, DL.x_gt, DL.x_gc, DL.x_g0, DL.x_gi, DL.x_body, DL.x_yes, DL.x_add, DL.x_addS, DL.x_addT, DL.x_addL, DL.x_sub, DL.x_mul, DL.x_div, DL.x_mod, DL.x_pow, DL.x_neg, DL.x_cmp, DL.x_cmpS, DL.x_isN, DL.x_mmL, DL.x_mm2, DL.x_eqS, DL.x_eqI, DL.x_intb, DL.onB_bl, DL.onI_int, DL.onO_nx, DL.onO_rt, DL.onL_ml, DL.addD_ol, DL.isNon_non, DL.isNon_int, DL.isNon_str, DL.isNon_tup, DL.ix_tup, DL.ix_lst, DL.ix_str, DL.ix_obj, DL.atI_0, DL.atI_1, DL.atI_2, DL.atI_3, DL.len_tup, DL.len_lst, DL.len_str, DL.len_obj, DL.ty_obj, DL.ty_str, DL.ty_lst, DL.append_obj, DL.pop_obj, DL.set_obj, DL.ixN_3_2, DL.tuple_obj, DL.tuple_lst, DL.list_tup, DL.list_lst, DL.sl_str, DL.sl_tup, DL.sl_lst, DL.rev_tup, DL.revM_lst, DL.sum_lst, DL.put_same, DL.startD, DL.pick, List.map_cons, List.map_nil, List.replicate, List.cons_append, List.nil_append, List.append_nil, List.length_cons, List.length_nil, List.getElem?_cons_zero, List.getElem?_cons_succ, List.set_cons_zero, List.set_cons_succ, List.filterMap_cons, List.filterMap_nil, Nat.zero_add, Nat.add_zero, Nat.reduceAdd, Nat.reduceSub, true_and, and_true, id_eq, if_true, if_false, Bool.false_eq_true, Bool.not_true, Bool.not_false, DL.x_idx, DL.rev_obj, DL.wipeD, DL.x_addM, DL.x_addMl, DL.x_isi, DL.ty_nonM, DL.ty_blM, DL.ty_intM, DL.ty_strM, DL.ty_tupM, DL.ty_lstM, DL.ty_dctM, DL.kb_non_str, DL.kb_non_int, DL.kb_non_bool, DL.kb_non_tuple, DL.kb_non_list, DL.kb_non_dict, DL.kb_bl_str, DL.kb_bl_int, DL.kb_bl_bool, DL.kb_bl_tuple, DL.kb_bl_list, DL.kb_bl_dict, DL.kb_int_str, DL.kb_int_int, DL.kb_int_bool, DL.kb_int_tuple, DL.kb_int_list, DL.kb_int_dict, DL.kb_str_str, DL.kb_str_int, DL.kb_str_bool, DL.kb_str_tuple, DL.kb_str_list, DL.kb_str_dict, DL.kb_tup_str, DL.kb_tup_int, DL.kb_tup_bool, DL.kb_tup_tuple, DL.kb_tup_list, DL.kb_tup_dict, DL.kb_lst_str, DL.kb_lst_int, DL.kb_lst_bool, DL.kb_lst_tuple, DL.kb_lst_list, DL.kb_lst_dict, DL.kb_dct_str, DL.kb_dct_int, DL.kb_dct_bool, DL.kb_dct_tuple, DL.kb_dct_list, DL.kb_dct_dict, DL.isNon_bl, DL.isNon_lst, DL.isNon_dct, DL.x_tOf, DL.x_tOfE, DL.x_chain, DL.x_kix, DL.x_kin, DL.x_kgt, DL.x_allL, DL.x_anyL, DL.x_istr, DL.x_dgetO, DL.x_dgetS, DL.x_dgetI, DL.x_gdix, DL.x_dset, DL.x_popAt, DL.x_insert, DL.ty_dct, DL.x_getS1, DL.x_getI1, DL.x_getS2, DL.x_getI2, DL.x_pnil, DL.x_pcons, DL.x_disM, DL.x_dis0M, DL.x_listM, DL.x_listMT, DL.x_gst, DL.x_mulS, DL.x_mulL, DL.x_dict, DL.onM_md, DL.onS_str, DL.kfind_nil, DL.kfind_cons, DL.lit_beq, DL.x_iseq, DL.onIt_lst, DL.onIt_tup, DL.sl_obj, DL.x_rg1, DL.valD_nil, DL.valD_cons, DL.key_rr, DL.key_ll, DL.key_lr, DL.key_rl, String.reduceBEq, Option.isSome_some, Option.isSome_none, Option.getD_some, Option.getD_none, Bool.true_and, Bool.and_true, Bool.false_and, Bool.and_false, Bool.or_false, Bool.false_or, Bool.or_true, Bool.true_or, beq_self_eq_true, DL.x_addBb, DL.x_addBi, DL.x_addBs, DL.x_addBt, DL.x_addBl, DL.x_subBb, DL.x_subBib, DL.x_subBi, DL.x_mulBb, DL.x_mulBi, DL.x_strI, DL.x_strB, DL.x_up, DL.x_eqT, DL.x_eqL]
      refine pick_o (h.trans h1) (by omega) hp1 pa pc hpos (by omega) fun d μ2 hd hp2 h2 => ?_
      obtain ⟨ws, rfl, rw'⟩ := hr d hd
      have h8 := rw'.most
      walk_at "go"
      refine draw_g (by omega) (by omega) _ _ _ _ _ (DF.start h2.dk) (by omega) fun d μ3 ⟨k, e, k0, k1⟩ h3 => ?_
      subst e
      walk_at "go"
      exact q _ _ ⟨Nat.le_trans cutD_len h8, fun w hw => rw'.ok w (cutD_mem hw)⟩ (h3.at pa pc hp2) ((h2.trans h3).mono (by omega))
    · simp only [decide_eq_false hw, DL.x_bnd, DL.x_ret, DL.x_req, DL.x_get, DL.x_opt, DL.x_seq, DL.x_on, DL.x_or, DL.x_ob, DL.x_oc, DL.x_nil, DL.x_rt, DL.x_rtN, DL.x_drop, DL.x_break, DL.x_cont, DL.x_if, DL.x_ift, DL.x_iff, DL.x_set, DL.x_asg, DL.x_par2, DL.x_par3, DL.x_for, DL.x_v0, DL.x_vS, DL.x_c, DL.x_bin, DL.x_un, DL.x_tbin, DL.x_tru, DL.x_trb, DL.x_not, DL.x_tand, DL.x_tor, DL.x_and, DL.x_orE, DL.x_notE, DL.x_ifE, DL.x_tup, DL.x_lst, DL.x_lstM, DL.x_anil, DL.x_acons, DL.x_call, DL.x_callD, DL.x_callK, DL.x_meth, DL.x_sl, DL.x_oN, DL.x_oS, DL.x_gn, DL.x_gt, DL.x_gc, DL.x_g0, DL.x_gi, DL.x_body, DL.x_yes, DL.x_add, DL.x_addS, DL.x_addT, DL.x_addL, DL.x_sub, DL.x_mul, DL.x_div, DL.x_mod, DL.x_pow, DL.x_neg, DL.x_cmp, DL.x_cmpS, DL.x_isN, DL.x_mmL, DL.x_mm2, DL.x_eqS, DL.x_eqI, DL.x_intb, DL.onB_bl, DL.onI_int, DL.onO_nx, DL.onO_rt, DL.onL_ml, DL.addD_ol, DL.isNon_non, DL.isNon_int, DL.isNon_str, DL.isNon_tup, DL.ix_tup, DL.ix_lst, DL.ix_str, DL.ix_obj, DL.atI_0, DL.atI_1, DL.atI_2, DL.atI_3, DL.len_tup, DL.len_lst, DL.len_str, DL.len_obj, DL.ty_obj, DL.ty_str, DL.ty_lst, DL.append_obj, DL.pop_obj, DL.set_obj, DL.ixN_3_2, DL.tuple_obj, DL.tuple_lst, DL.list_tup, DL.list_lst, DL.sl_str, DL.sl_tup, DL.sl_lst, DL.rev_tup, DL.revM_lst, DL.sum_lst, DL.put_same, DL.startD, DL.pick, List.map_cons, List.map_nil, List.replicate, List.cons_append, List.nil_append, List.append_nil, List.length_cons, List.length_nil, List.getElem?_cons_zero, List.getElem?_cons_succ, List.set_cons_zero, List.set_cons_succ, List.filterMap_cons, List.filterMap_nil, Nat.zero_add, Nat.add_zero, Nat.reduceAdd, Nat.reduceSub, true_and, and_true, id_eq, if_true, if_false, Bool.false_eq_true, Bool.not_true, Bool.not_false, DL.x_idx, DL.rev_obj, DL.wipeD, DL.x_addM, DL.x_addMl, DL.x_isi, DL.ty_nonM, DL.ty_blM, DL.ty_intM, DL.ty_strM, DL.ty_tupM, DL.ty_lstM, DL.ty_dctM, DL.kb_non_str, DL.kb_non_int, DL.kb_non_bool, DL.kb_non_tuple, DL.kb_non_list, DL.kb_non_dict, DL.kb_bl_str, DL.kb_bl_int, DL.kb_bl_bool, DL.kb_bl_tuple, DL.kb_bl_list, DL.kb_bl_dict, DL.kb_int_str, DL.kb_int_int, DL.kb_int_bool, DL.kb_int_tuple, DL.kb_int_list, DL.kb_int_dict, DL.kb_str_str, DL.kb_str_int, DL.kb_str_bool, DL.kb_str_tuple, DL.kb_str_list, DL.kb_str_dict, DL.kb_tup_str, DL.kb_tup_int, DL.kb_tup_bool, DL.kb_tup_tuple, DL.kb_tup_list, DL.kb_tup_dict, DL.kb_lst_str, DL.kb_lst_int, DL.kb_lst_bool, DL.kb_lst_tuple, DL.kb_lst_list, DL.kb_lst_dict, DL.kb_dct_str, DL.kb_dct_int, DL.kb_dct_bool, DL.kb_dct_tuple, DL.kb_dct_list, DL.kb_dct_dict, DL.isNon_bl, DL.isNon_lst, DL.isNon_dct, DL.x_tOf, DL.x_tOfE, DL.x_chain, DL.x_kix, DL.x_kin, DL.x_kgt, DL.x_allL, DL.x_anyL, DL.x_istr, DL.x_dgetO, DL.x_dgetS, DL.x_dgetI, DL.x_gdix, DL.x_dset, DL.x_popAt, DL.x_insert, DL.ty_dct, DL.x_getS1, DL.x_getI1, DL.x_getS2, DL.x_getI2, DL.x_pnil, DL.x_pcons, DL.x_disM, DL.x_dis0M, DL.x_listM, DL.x_listMT, DL.x_gst, DL.x_mulS, DL.x_mulL, DL.x_dict, DL.onM_md, DL.onS_str, DL.kfind_nil, DL.kfind_cons, DL.lit_beq, DL.x_iseq, DL.onIt_lst, DL.onIt_tup, DL.sl_obj, DL.x_rg1, DL.valD_nil, DL.valD_cons, DL.key_rr, DL.key_ll, DL.key_lr, DL.key_rl, String.reduceBEq, Option.isSome_some, Option.isSome_none, Option.getD_some, Option.getD_none, Bool.true_and, Bool.and_true, Bool.false_and, Bool.and_false, Bool.or_false, Bool.false_or, Bool.or_true, Bool.true_or, beq_self_eq_true, DL.x_addBb, DL.x_addBi, DL.x_addBs, DL.x_addBt, DL.x_addBl, DL.x_subBb, DL.x_subBib, DL.x_subBi, DL.x_mulBb, DL.x_mulBi, DL.x_strI, DL.x_strB, DL.x_up, DL.x_eqT, DL.x_eqL]
      exact q0 (t + 1) μ1 (by omega) hp1 (h.trans h1)
theorem again_w {ws : List D} (h : DF shD μ0 a c t μ) (ht : t + 2 ≤ 100000000000) (hp : μ p = some (.ml ds)) (pa : p ≠ a) (pc : p ≠ c) (hr : Rows ds) (hl : ds.length ≤ 1000) (hw : Row ws)
    (q : ∀ ws μ', Row ws → μ' p = some (.ml ds) → DF shD μ0 a c (t + 2) μ' → s2 [some (.obj a), r1, some (.obj p), r3, r4, some (.tup ws), r6] μ' Q E) :
    sSeq (sIf (tAndW (tBin neD (eVar 2) (eLst aNil)) (tBin eqD (eCallD 2 m__law_draw (aCons (eVar 0) (aCons (eC (.int 3)) aNil))) (eC (.int 0)))) (sSet 5 (eCallD 2 m__law_pick (aCons (eVar 0) (aCons (eVar 2) aNil)))) sNil) s2
      [some (.obj a), r1, some (.obj p), r3, r4, some (.tup ws), r6] μ Q E := by
  walk_at "go"
  refine eq_nil_o hp (rows_gd hr).1 (rows_gd hr).2 ?_
  walk_at "go"
  by_cases he : ds = []
  · simp only [decide_eq_true he, DL.x_bnd, DL.x_ret, DL.x_req, DL.x_get, DL.x_opt, DL.x_seq, DL.x_on, DL.x_or, DL.x_ob, DL.x_oc, DL.x_nil, DL.x_rt, DL.x_rtN, DL.x_drop, DL.x_break, DL.x_cont, DL.x_if, DL.x_ift, DL.x_iff, DL.x_set, DL.x_asg, DL.x_par2, DL.x_par3, DL.x_for, DL.x_v0, DL.x_vS, DL.x_c, DL.x_bin, DL.x_un, DL.x_tbin, DL.x_tru, DL.x_trb, DL.x_not, DL.x_tand, DL.x_tor, DL.x_and, DL.x_orE, DL.x_notE, DL.x_ifE, DL.x_tup, DL.x_lst, DL.x_lstM, DL.x_anil, DL.x_acons, DL.x_call, DL.x_callD, DL.x_callK, DL.x_meth, DL.x_sl, DL.x_oN, DL.x_oS, DL.x_gn, DL.x_gt, DL.x_gc, DL.x_g0, DL.x_gi, DL.x_body, DL.x_yes, DL.x_add, DL.x_addS, DL.x_addT, DL.x_addL, DL.x_sub, DL.x_mul, DL.x_div, DL.x_mod, DL.x_pow, DL.x_neg, DL.x_cmp, DL.x_cmpS, DL.x_isN, DL.x_mmL, DL.x_mm2, DL.x_eqS, DL.x_eqI, DL.x_intb, DL.onB_bl, DL.onI_int, DL.onO_nx, DL.onO_rt, DL.onL_ml, DL.addD_ol, DL.isNon_non, DL.isNon_int, DL.isNon_str, DL.isNon_tup, DL.ix_tup, DL.ix_lst, DL.ix_str, DL.ix_obj, DL.atI_0, DL.atI_1, DL.atI_2, DL.atI_3, DL.len_tup, DL.len_lst, DL.len_str, DL.len_obj, DL.ty_obj, DL.ty_str, DL.ty_lst, DL.append_obj, DL.pop_obj, DL.set_obj, DL.ixN_3_2, DL.tuple_obj, DL.tuple_lst, DL.list_tup, DL.list_lst, DL.sl_str, DL.sl_tup, DL.sl_lst, DL.rev_tup, DL.revM_lst, DL.sum_lst, DL.put_same, DL.startD, DL.pick, List.map_cons, List.map_nil, List.replicate, List.cons_append, List.nil_append, List.append_nil, List.length_cons, List.length_nil, List.getElem?_cons_zero, List.getElem?_cons_succ, List.set_cons_zero, List.set_cons_succ, List.filterMap_cons, List.filterMap_nil, Nat.zero_add, Nat.add_zero, Nat.reduceAdd, Nat.reduceSub, true_and, and_true, id_eq, if_true, if_false, Bool.false_eq_true, Bool.not_true, Bool.not_false, DL.x_idx, DL.rev_obj, DL.wipeD, DL.x_addM, DL.x_addMl, DL.x_isi, DL.ty_nonM, DL.ty_blM, DL.ty_intM, DL.ty_strM, DL.ty_tupM, DL.ty_lstM, DL.ty_dctM, DL.kb_non_str, DL.kb_non_int, DL.kb_non_bool, DL.kb_non_tuple, DL.kb_non_list, DL.kb_non_dict, DL.kb_bl_str, DL.kb_bl_int, DL.kb_bl_bool, DL.kb_bl_tuple, DL.kb_bl_list, DL.kb_bl_dict, DL.kb_int_str, DL.kb_int_int, DL.kb_int_bool, DL.kb_int_tuple, DL.kb_int_list, DL.kb_int_dict, DL.kb_str_str, DL.kb_str_int, DL.kb_str_bool, DL.kb_str_tuple, DL.kb_str_list, DL.kb_str_dict, DL.kb_tup_str, DL.kb_tup_int, DL.kb_tup_bool, DL.kb_tup_tuple, DL.kb_tup_list, DL.kb_tup_dict, DL.kb_lst_str, DL.kb_lst_int, DL.kb_lst_bool, DL.kb_lst_tuple, DL.kb_lst_list, DL.kb_lst_dict, DL.kb_dct_str, DL.kb_dct_int, DL.kb_dct_bool, DL.kb_dct_tuple, DL.kb_dct_list, DL.kb_dct_dict, DL.isNon_bl, DL.isNon_lst, DL.isNon_dct, DL.x_tOf, DL.x_tOfE, DL.x_chain, DL.x_kix, DL.x_kin, DL.x_kgt, DL.x_allL, DL.x_anyL, DL.x_istr, DL.x_dgetO, DL.x_dgetS, DL.x_dgetI, DL.x_gdix, DL.x_dset, DL.x_popAt, DL.x_insert, DL.ty_dct, DL.x_getS1, DL.x_getI1, DL.x_getS2, DL.x_getI2, DL.x_pnil, DL.x_pcons, DL.x_disM, DL.x_dis0M, DL.x_listM, DL.x_listMT, DL.x_gst, DL.x_mulS, DL.x_mulL, DL.x_dict, DL.onM_md, DL.onS_str, DL.kfind_nil, DL.kfind_cons, DL.lit_beq, DL.x_iseq, DL.onIt_lst, DL.onIt_tup, DL.sl_obj, DL.x_rg1, DL.valD_nil, DL.valD_cons, DL.key_rr, DL.key_ll, DL.key_lr, DL.key_rl, String.reduceBEq, Option.isSome_some, Option.isSome_none, Option.getD_some, Option.getD_none, Bool.true_and, Bool.and_true, Bool.false_and, Bool.and_false, Bool.or_false, Bool.false_or, Bool.or_true, Bool.true_or, beq_self_eq_true, DL.x_addBb, DL.x_addBi, DL.x_addBs, DL.x_addBt, DL.x_addBl, DL.x_subBb, DL.x_subBib, DL.x_subBi, DL.x_mulBb, DL.x_mulBi, DL.x_strI, DL.x_strB, DL.x_up, DL.x_eqT, DL.x_eqL]
    exact q ws μ hw hp (h.mono (by omega))
  · simp only [decide_eq_false he, DL.x_bnd, DL.x_ret, DL.x_req, DL.x_get, DL.x_opt, DL.x_seq, DL.x_on, DL.x_or, DL.x_ob, DL.x_oc, DL.x_nil, DL.x_rt, DL.x_rtN, DL.x_drop, DL.x_break, DL.x_cont, DL.x_if, DL.x_ift, DL.x_iff, DL.x_set, DL.x_asg, DL.x_par2, DL.x_par3, DL.x_for, DL.x_v0, DL.x_vS, DL.x_c, DL.x_bin, DL.x_un, DL.x_tbin, DL.x_tru, DL.x_trb, DL.x_not, DL.x_tand, DL.x_tor, DL.x_and, DL.x_orE, DL.x_notE, DL.x_ifE, DL.x_tup, DL.x_lst, DL.x_lstM, DL.x_anil, DL.x_acons, DL.x_call, DL.x_callD, DL.x_callK, DL.x_meth, DL.x_sl, DL.x_oN, DL.x_oS, DL.x_gn, DL.x_gt, DL.x_gc, DL.x_g0, DL.x_gi, DL.x_body, DL.x_yes, DL.x_add, DL.x_addS, DL.x_addT, DL.x_addL, DL.x_sub, DL.x_mul, DL.x_div, DL.x_mod, DL.x_pow, DL.x_neg, DL.x_cmp, DL.x_cmpS, DL.x_isN, DL.x_mmL, DL.x_mm2, DL.x_eqS, DL.x_eqI, DL.x_intb, DL.onB_bl, DL.onI_int, DL.onO_nx, DL.onO_rt, DL.onL_ml, DL.addD_ol, DL.isNon_non, DL.isNon_int, DL.isNon_str, DL.isNon_tup, DL.ix_tup, DL.ix_lst, DL.ix_str, DL.ix_obj, DL.atI_0, DL.atI_1, DL.atI_2, DL.atI_3, DL.len_tup, DL.len_lst, DL.len_str, DL.len_obj, DL.ty_obj, DL.ty_str, DL.ty_lst, DL.append_obj, DL.pop_obj, DL.set_obj, DL.ixN_3_2, DL.tuple_obj, DL.tuple_lst, DL.list_tup, DL.list_lst, DL.sl_str, DL.sl_tup, DL.sl_lst, DL.rev_tup, DL.revM_lst, DL.sum_lst, DL.put_same, DL.startD, DL.pick, List.map_cons, List.map_nil, List.replicate, List.cons_append, List.nil_append, List.append_nil, List.length_cons, List.length_nil, List.getElem?_cons_zero, List.getElem?_cons_succ, List.set_cons_zero, List.set_cons_succ, List.filterMap_cons, List.filterMap_nil, Nat.zero_add, Nat.add_zero, Nat.reduceAdd, Nat.reduceSub, true_and, and_true, id_eq, if_true, if_false, Bool.false_eq_true, Bool.not_true, Bool.not_false, DL.x_idx, DL.rev_obj, DL.wipeD, DL.x_addM, DL.x_addMl, DL.x_isi, DL.ty_nonM, DL.ty_blM, DL.ty_intM, DL.ty_strM, DL.ty_tupM, DL.ty_lstM, DL.ty_dctM, DL.kb_non_str, DL.kb_non_int, DL.kb_non_bool, DL.kb_non_tuple, DL.kb_non_list, DL.kb_non_dict, DL.kb_bl_str, DL.kb_bl_int, DL.kb_bl_bool, DL.kb_bl_tuple, DL.kb_bl_list, DL.kb_bl_dict, DL.kb_int_str, DL.kb_int_int, DL.kb_int_bool, DL.kb_int_tuple, DL.kb_int_list, DL.kb_int_dict, DL.kb_str_str, DL.kb_str_int, DL.kb_str_bool, DL.kb_str_tuple, DL.kb_str_list, DL.kb_str_dict, DL.kb_tup_str, DL.kb_tup_int, DL.kb_tup_bool, DL.kb_tup_tuple, DL.kb_tup_list, DL.kb_tup_dict, DL.kb_lst_str, DL.kb_lst_int, DL.kb_lst_bool, DL.kb_lst_tuple, DL.kb_lst_list, DL.kb_lst_dict, DL.kb_dct_str, DL.kb_dct_int, DL.kb_dct_bool, DL.kb_dct_tuple, DL.kb_dct_list, DL.kb_dct_dict, DL.isNon_bl, DL.isNon_lst, DL.isNon_dct, DL.x_tOf, DL.x_tOfE, DL.x_chain, DL.x_kix, DL.x_kin, DL.x_kgt, DL.x_allL, DL.x_anyL, DL.x_istr, DL.x_dgetO, DL.x_dgetS, DL.x_dgetI, DL.x_gdix, DL.x_dset, DL.x_popAt, DL.x_insert, DL.ty_dct, DL.x_getS1, DL.x_getI1, DL.x_getS2, DL.x_getI2, DL.x_pnil, DL.x_pcons, DL.x_disM, DL.x_dis0M, DL.x_listM, DL.x_listMT, DL.x_gst, DL.x_mulS, DL.x_mulL, DL.x_dict, DL.onM_md, DL.onS_str, DL.kfind_nil, DL.kfind_cons, DL.lit_beq, DL.x_iseq, DL.onIt_lst, DL.onIt_tup, DL.sl_obj, DL.x_rg1, DL.valD_nil, DL.valD_cons, DL.key_rr, DL.key_ll, DL.key_lr, DL.key_rl, String.reduceBEq, Option.isSome_some, Option.isSome_none, Option.getD_some, Option.getD_none, Bool.true_and, Bool.and_true, Bool.false_and, Bool.and_false, Bool.or_false, Bool.false_or, Bool.or_true, Bool.true_or, beq_self_eq_true, DL.x_addBb, DL.x_addBi, DL.x_addBs, DL.x_addBt, DL.x_addBl, DL.x_subBb, DL.x_subBib, DL.x_subBi, DL.x_mulBb, DL.x_mulBi, DL.x_strI, DL.x_strB, DL.x_up, DL.x_eqT, DL.x_eqL]
    have hpos : 0 < ds.length := List.length_pos_iff.mpr he
    refine draw_g (by decide) (by decide) _ _ _ _ _ (DF.start h.dk) (by omega) fun d μ1 ⟨w, e, w0, w1⟩ h1 => ?_
    subst e
    have hp1 := h1.at pa pc hp
    walk_at "go"
    by_cases hw0 : w = 0
    · simp only [decide_eq_true hw0, DL.x_bnd, DL.x_ret, DL.x_req, DL.x_get, DL.x_opt, DL.x_seq, DL.x_on, DL.x_or, DL.x_ob, DL.x_oc, DL.x_nil, DL.x_rt, DL.x_rtN, DL.x_drop, DL.x_break, DL.x_cont, DL.x_if, DL.x_ift, DL.x_iff, DL.x_set, DL.x_asg, DL.x_par2, DL.x_par3, DL.x_for, DL.x_v0, DL.x_vS, DL.x_c, DL.x_bin, DL.x_un, DL.x_tbin, DL.x_tru, DL.x_trb, DL.x_not, DL.x_tand, DL.x_tor, DL.x_and, DL.x_orE, DL.x_notE, DL.x_ifE, DL.x_tup, DL.x_lst, DL.x_lstM, DL.x_anil, DL.x_acons, DL.x_call, DL.x_callD, DL.x_callK, DL.x_meth, DL.x_sl, DL.x_oN, DL.x_oS, DL.x_gn, DL.x_gt, DL.x_gc, DL.x_g0, DL.x_gi, DL.x_body, DL.x_yes, DL.x_add, DL.x_addS, DL.x_addT, DL.x_addL, DL.x_sub, DL.x_mul, DL.x_div, DL.x_mod, DL.x_pow, DL.x_neg, DL.x_cmp, DL.x_cmpS, DL.x_isN, DL.x_mmL, DL.x_mm2, DL.x_eqS, DL.x_eqI, DL.x_intb, DL.onB_bl, DL.onI_int, DL.onO_nx, DL.onO_rt, DL.onL_ml, DL.addD_ol, DL.isNon_non, DL.isNon_int, DL.isNon_str, DL.isNon_tup, DL.ix_tup, DL.ix_lst, DL.ix_str, DL.ix_obj, DL.atI_0, DL.atI_1, DL.atI_2, DL.atI_3, DL.len_tup, DL.len_lst, DL.len_str, DL.len_obj, DL.ty_obj, DL.ty_str, DL.ty_lst, DL.append_obj, DL.pop_obj, DL.set_obj, DL.ixN_3_2, DL.tuple_obj, DL.tuple_lst, DL.list_tup, DL.list_lst, DL.sl_str, DL.sl_tup, DL.sl_lst, DL.rev_tup, DL.revM_lst, DL.sum_lst, DL.put_same, DL.startD, DL.pick, List.map_cons, List.map_nil, List.replicate, List.cons_append, List.nil_append, List.append_nil, List.length_cons, List.length_nil, List.getElem?_cons_zero, List.getElem?_cons_succ, List.set_cons_zero, List.set_cons_succ, List.filterMap_cons, List.filterMap_nil, Nat.zero_add, Nat.add_zero, Nat.reduceAdd, Nat.reduceSub, true_and, and_true, id_eq, if_true, if_false, Bool.false_eq_true, Bool.not_true, Bool.not_false, DL.x_idx, DL.rev_obj, DL.wipeD, DL.x_addM, DL.x_addMl, DL.x_isi, DL.ty_nonM, DL.ty_blM, DL.ty_intM, DL.ty_strM, DL.ty_tupM, DL.ty_lstM, DL.ty_dctM, DL.kb_non_str, DL.kb_non_int, DL.kb_non_bool, DL.kb_non_tuple, DL.kb_non_list, DL.kb_non_dict, DL.kb_bl_str, DL.kb_bl_int, DL.kb_bl_bool, DL.kb_bl_tuple, DL.kb_bl_list, DL.kb_bl_dict, DL.kb_int_str, DL.kb_int_int, DL.kb_int_bool, DL.kb_int_tuple, DL.kb_int_list, DL.kb_int_dict, DL.kb_str_str, DL.kb_str_int, DL.kb_str_bool, DL.kb_str_tuple, DL.kb_str_list, DL.kb_str_dict, DL.kb_tup_str, DL.kb_tup_int, DL.kb_tup_bool, DL.kb_tup_tuple, DL.kb_tup_list, DL.kb_tup_dict, DL.kb_lst_str, DL.kb_lst_int, DL.kb_lst_bool, DL.kb_lst_tuple, DL.kb_lst_list, DL.kb_lst_dict, DL.kb_dct_str, DL.kb_dct_int, DL.kb_dct_bool, DL.kb_dct_tuple, DL.kb_dct_list, DL.kb_dct_dict, DL.isNon_bl, DL.isNon_lst, DL.isNon_dct, DL.x_tOf, DL.x_tOfE, DL.x_chain, DL.x_kix, DL.x_kin, DL.x_kgt, DL.x_allL, DL.x_anyL, DL.x_istr, DL.x_dgetO, DL.x_dgetS, DL.x_dgetI, DL.x_gdix, DL.x_dset, DL.x_popAt, DL.x_insert, DL.ty_dct, DL.x_getS1, DL.x_getI1, DL.x_getS2, DL.x_getI2, DL.x_pnil, DL.x_pcons, DL.x_disM, DL.x_dis0M, DL.x_listM, DL.x_listMT, DL.x_gst, DL.x_mulS, DL.x_mulL, DL.x_dict, DL.onM_md, DL.onS_str, DL.kfind_nil, DL.kfind_cons, DL.lit_beq, DL.x_iseq, DL.onIt_lst, DL.onIt_tup, DL.sl_obj, DL.x_rg1, DL.valD_nil, DL.valD_cons, DL.key_rr, DL.key_ll, DL.key_lr, DL.key_rl, String.reduceBEq, Option.isSome_some, Option.isSome_none, Option.getD_some, Option.getD_none, Bool.true_and, Bool.and_true, Bool.false_and, Bool.and_false, Bool.or_false, Bool.false_or, Bool.or_true, Bool.true_or, beq_self_eq_true, DL.x_addBb, DL.x_addBi, DL.x_addBs, DL.x_addBt, DL.x_addBl, DL.x_subBb, DL.x_subBib, DL.x_subBi, DL.x_mulBb, DL.x_mulBi, DL.x_strI, DL.x_strB, DL.x_up, DL.x_eqT, DL.x_eqL]
      refine pick_o (h.trans h1) (by omega) hp1 pa pc hpos (by omega) fun d μ2 hd hp2 h2 => ?_
      obtain ⟨ws', rfl, rw'⟩ := hr d hd
      walk_at "go"
      exact q ws' μ2 rw' hp2 (h2.mono (by omega))
    · simp only [decide_eq_false hw0, DL.x_bnd, DL.x_ret, DL.x_req, DL.x_get, DL.x_opt, DL.x_seq, DL.x_on, DL.x_or, DL.x_ob, DL.x_oc, DL.x_nil, DL.x_rt, DL.x_rtN, DL.x_drop, DL.x_break, DL.x_cont, DL.x_if, DL.x_ift, DL.x_iff, DL.x_set, DL.x_asg, DL.x_par2, DL.x_par3, DL.x_for, DL.x_v0, DL.x_vS, DL.x_c, DL.x_bin, DL.x_un, DL.x_tbin, DL.x_tru, DL.x_trb, DL.x_not, DL.x_tand, DL.x_tor, DL.x_and, DL.x_orE, DL.x_notE, DL.x_ifE, DL.x_tup, DL.x_lst, DL.x_lstM, DL.x_anil, DL.x_acons, DL.x_call, DL.x_callD, DL.x_callK, DL.x_meth, DL.x_sl, DL.x_oN, DL.x_oS, DL.x_gn, DL.x_gt, DL.x_gc, DL.x_g0, DL.x_gi, DL.x_body, DL.x_yes, DL.x_add, DL.x_addS, DL.x_addT, DL.x_addL, DL.x_sub, DL.x_mul, DL.x_div, DL.x_mod, DL.x_pow, DL.x_neg, DL.x_cmp, DL.x_cmpS, DL.x_isN, DL.x_mmL, DL.x_mm2, DL.x_eqS, DL.x_eqI, DL.x_intb, DL.onB_bl, DL.onI_int, DL.onO_nx, DL.onO_rt, DL.onL_ml, DL.addD_ol, DL.isNon_non, DL.isNon_int, DL.isNon_str, DL.isNon_tup, DL.ix_tup, DL.ix_lst, DL.ix_str, DL.ix_obj, DL.atI_0, DL.atI_1, DL.atI_2, DL.atI_3, DL.len_tup, DL.len_lst, DL.len_str, DL.len_obj, DL.ty_obj, DL.ty_str, DL.ty_lst, DL.append_obj, DL.pop_obj, DL.set_obj, DL.ixN_3_2, DL.tuple_obj, DL.tuple_lst, DL.list_tup, DL.list_lst, DL.sl_str, DL.sl_tup, DL.sl_lst, DL.rev_tup, DL.revM_lst, DL.sum_lst, DL.put_same, DL.startD, DL.pick, List.map_cons, List.map_nil, List.replicate, List.cons_append, List.nil_append, List.append_nil, List.length_cons, List.length_nil, List.getElem?_cons_zero, List.getElem?_cons_succ, List.set_cons_zero, List.set_cons_succ, List.filterMap_cons, List.filterMap_nil, Nat.zero_add, Nat.add_zero, Nat.reduceAdd, Nat.reduceSub, true_and, and_true, id_eq, if_true, if_false, Bool.false_eq_true, Bool.not_true, Bool.not_false, DL.x_idx, DL.rev_obj, DL.wipeD, DL.x_addM, DL.x_addMl, DL.x_isi, DL.ty_nonM, DL.ty_blM, DL.ty_intM, DL.ty_strM, DL.ty_tupM, DL.ty_lstM, DL.ty_dctM, DL.kb_non_str, DL.kb_non_int, DL.kb_non_bool, DL.kb_non_tuple, DL.kb_non_list, DL.kb_non_dict, DL.kb_bl_str, DL.kb_bl_int, DL.kb_bl_bool, DL.kb_bl_tuple, DL.kb_bl_list, DL.kb_bl_dict, DL.kb_int_str, DL.kb_int_int, DL.kb_int_bool, DL.kb_int_tuple, DL.kb_int_list, DL.kb_int_dict, DL.kb_str_str, DL.kb_str_int, DL.kb_str_bool, DL.kb_str_tuple, DL.kb_str_list, DL.kb_str_dict, DL.kb_tup_str, DL.kb_tup_int, DL.kb_tup_bool, DL.kb_tup_tuple, DL.kb_tup_list, DL.kb_tup_dict, DL.kb_lst_str, DL.kb_lst_int, DL.kb_lst_bool, DL.kb_lst_tuple, DL.kb_lst_list, DL.kb_lst_dict, DL.kb_dct_str, DL.kb_dct_int, DL.kb_dct_bool, DL.kb_dct_tuple, DL.kb_dct_list, DL.kb_dct_dict, DL.isNon_bl, DL.isNon_lst, DL.isNon_dct, DL.x_tOf, DL.x_tOfE, DL.x_chain, DL.x_kix, DL.x_kin, DL.x_kgt, DL.x_allL, DL.x_anyL, DL.x_istr, DL.x_dgetO, DL.x_dgetS, DL.x_dgetI, DL.x_gdix, DL.x_dset, DL.x_popAt, DL.x_insert, DL.ty_dct, DL.x_getS1, DL.x_getI1, DL.x_getS2, DL.x_getI2, DL.x_pnil, DL.x_pcons, DL.x_disM, DL.x_dis0M, DL.x_listM, DL.x_listMT, DL.x_gst, DL.x_mulS, DL.x_mulL, DL.x_dict, DL.onM_md, DL.onS_str, DL.kfind_nil, DL.kfind_cons, DL.lit_beq, DL.x_iseq, DL.onIt_lst, DL.onIt_tup, DL.sl_obj, DL.x_rg1, DL.valD_nil, DL.valD_cons, DL.key_rr, DL.key_ll, DL.key_lr, DL.key_rl, String.reduceBEq, Option.isSome_some, Option.isSome_none, Option.getD_some, Option.getD_none, Bool.true_and, Bool.and_true, Bool.false_and, Bool.and_false, Bool.or_false, Bool.false_or, Bool.or_true, Bool.true_or, beq_self_eq_true, DL.x_addBb, DL.x_addBi, DL.x_addBs, DL.x_addBt, DL.x_addBl, DL.x_subBb, DL.x_subBib, DL.x_subBi, DL.x_mulBb, DL.x_mulBi, DL.x_strI, DL.x_strB, DL.x_up, DL.x_eqT, DL.x_eqL]
      exact q ws μ1 hw hp1 ((h.trans h1).mono (by omega))
end
theorem lines_g {a c : Addr} {n : Int} (n0 : 0 ≤ n) (n4 : n ≤ 40) : Gen shD a c 5000 (m__law_lines [.obj a, .int n]) (fun d => ∃ ds, d = .tup ds ∧ Rows ds ∧ ds.length ≤ 40) := by
  intro μ0 μ t Q E h ht q
  simp only [m__law_lines, b__law_lines, DL.x_bnd, DL.x_ret, DL.x_req, DL.x_get, DL.x_opt, DL.x_seq, DL.x_or, DL.x_ob, DL.x_oc, DL.x_nil, DL.x_rt, DL.x_rtN, DL.x_drop, DL.x_break, DL.x_cont, DL.x_if, DL.x_ift, DL.x_iff, DL.x_set, DL.x_asg, DL.x_par2, DL.x_par3, DL.x_for, DL.x_v0, DL.x_vS, DL.x_c, DL.x_bin, DL.x_un, DL.x_tbin, DL.x_tru, DL.x_trb, DL.x_not, DL.x_tand, DL.x_tor, DL.x_and, DL.x_orE, DL.x_notE, DL.x_ifE, DL.x_tup, DL.x_lst, DL.x_lstM, DL.x_anil, DL.x_acons, DL.x_call, DL.x_callD, DL.x_callK, DL.x_meth, DL.x_sl, DL.x_oN, DL.x_oS, DL.x_gn, DL.x_gt, DL.x_gc, DL.x_g0, DL.x_gi, DL.x_body, DL.x_yes, DL.x_add, DL.x_addS, DL.x_addT, DL.x_addL, DL.x_sub, DL.x_mul, DL.x_div, DL.x_mod, DL.x_pow, DL.x_neg, DL.x_cmp, DL.x_cmpS, DL.x_isN, DL.x_mmL, DL.x_mm2, DL.x_eqS, DL.x_eqI, DL.x_intb, DL.onB_bl, DL.onI_int, DL.onO_nx, DL.onO_rt, DL.onL_ml, DL.addD_ol, DL.isNon_non, DL.isNon_int, DL.isNon_str, DL.isNon_tup, DL.ix_tup, DL.ix_lst, DL.ix_str, DL.ix_obj, DL.atI_0, DL.atI_1, DL.atI_2, DL.atI_3, DL.len_tup, DL.len_lst, DL.len_str, DL.len_obj, DL.ty_obj, DL.ty_str, DL.ty_lst, DL.append_obj, DL.pop_obj, DL.set_obj, DL.ixN_3_2, DL.tuple_obj, DL.tuple_lst, DL.list_tup, DL.list_lst, DL.sl_str, DL.sl_tup, DL.sl_lst, DL.rev_tup, DL.revM_lst, DL.sum_lst, DL.put_same, DL.startD, DL.pick, List.map_cons, List.map_nil, List.replicate, List.cons_append, List.nil_append, List.append_nil, List.length_cons, List.length_nil, List.getElem?_cons_zero, List.getElem?_cons_succ, List.set_cons_zero, List.set_cons_succ, List.filterMap_cons, List.filterMap_nil, Nat.zero_add, Nat.add_zero, Nat.reduceAdd, Nat.reduceSub, true_and, and_true, id_eq, if_true, if_false, Bool.false_eq_true, Bool.not_true, Bool.not_false, DL.x_idx, DL.rev_obj, DL.wipeD, DL.x_addM, DL.x_addMl, DL.x_isi, DL.ty_nonM, DL.ty_blM, DL.ty_intM, DL.ty_strM, DL.ty_tupM, DL.ty_lstM, DL.ty_dctM, DL.kb_non_str, DL.kb_non_int, DL.kb_non_bool, DL.kb_non_tuple, DL.kb_non_list, DL.kb_non_dict, DL.kb_bl_str, DL.kb_bl_int, DL.kb_bl_bool, DL.kb_bl_tuple, DL.kb_bl_list, DL.kb_bl_dict, DL.kb_int_str, DL.kb_int_int, DL.kb_int_bool, DL.kb_int_tuple, DL.kb_int_list, DL.kb_int_dict, DL.kb_str_str, DL.kb_str_int, DL.kb_str_bool, DL.kb_str_tuple, DL.kb_str_list, DL.kb_str_dict, DL.kb_tup_str, DL.kb_tup_int, DL.kb_tup_bool, DL.kb_tup_tuple, DL.kb_tup_list, DL.kb_tup_dict, DL.kb_lst_str, DL.kb_lst_int, DL.kb_lst_bool, DL.kb_lst_tuple, DL.kb_lst_list, DL.kb_lst_dict, DL.kb_dct_str, DL.kb_dct_int, DL.kb_dct_bool, DL.kb_dct_tuple, DL.kb_dct_list, DL.kb_dct_dict, DL.isNon_bl, DL.isNon_lst, DL.isNon_dct, DL.x_tOf, DL.x_tOfE, DL.x_chain, DL.x_kix, DL.x_kin, DL.x_kgt, DL.x_allL, DL.x_anyL, DL.x_istr, DL.x_dgetO, DL.x_dgetS, DL.x_dgetI, DL.x_gdix, DL.x_dset, DL.x_popAt, DL.x_insert, DL.ty_dct, DL.x_getS1, DL.x_getI1, DL.x_getS2, DL.x_getI2, DL.x_pnil, DL.x_pcons, DL.x_disM, DL.x_dis0M, DL.x_listM, DL.x_listMT, DL.x_gst, DL.x_mulS, DL.x_mulL, DL.x_dict, DL.onM_md, DL.onS_str, DL.kfind_nil, DL.kfind_cons, DL.lit_beq, DL.x_iseq, DL.onIt_lst, DL.onIt_tup, DL.sl_obj, DL.x_rg1, DL.valD_nil, DL.valD_cons, DL.key_rr, DL.key_ll, DL.key_lr, DL.key_rl, String.reduceBEq, Option.isSome_some, Option.isSome_none, Option.getD_some, Option.getD_none, Bool.true_and, Bool.and_true, Bool.false_and, Bool.and_false, Bool.or_false, Bool.false_or, Bool.or_true, Bool.true_or, beq_self_eq_true, DL.x_addBb, DL.x_addBi, DL.x_addBs, DL.x_addBt, DL.x_addBl, DL.x_subBb, DL.x_subBib, DL.x_subBi, DL.x_mulBb, DL.x_mulBi, DL.x_strI, DL.x_strB, DL.x_up, DL.x_eqT, DL.x_eqL]
  refine ⟨(by walk_at "side"), ?_⟩
  intro p hp
  obtain ⟨pa, pc⟩ := h.dk.apart hp
  have pn := h.free hp
  have h := h.new (o := .ml []) hp
  simp only [DL.x_on]
  walk_at "gn"
  refine for_w (fun i ρ μ' => ∃ ds o3 o4 o5, ρ = [some (.obj a), some (.int n), some (.obj p), o3, o4, o5, none] ∧ μ' p = some (.ml ds) ∧ ds.length = i ∧ i ≤ n.toNat ∧ Rows ds ∧ DF shD μ0 a c (t + 100 * (i : Int)) μ') (rangeL 0 n.toNat) ?_ ?_ _ _ ⟨[], none, none, none, rfl, put_same, rfl, Nat.zero_le _, fun _ h => (nomatch h), h.mono (by omega)⟩
  · rintro i v ρ μ2 R hv ⟨ds, o3, o4, o5, rfl, hm, hl, hin, hr, h2⟩ hR _
    have hi : i < n.toNat := by
      rcases Nat.lt_or_ge i n.toNat with z | z
      · exact z
      · rw [List.getElem?_eq_none (by rw [rangeL_len]; exact z)] at hv; cases hv
    refine ⟨trivial, ?_⟩
    walk_at "gn"
    simp only [DL.x_on]
    refine begun_w h2 (by omega) hm pa pc hr (by omega) fun ws μ3 hw hm3 h3 => ?_
    have h8 := hw.most
    walk_at "gn"
    rw [x_lcI]
    walk_at "gn"
    refine draw_g (by omega) (by omega) _ _ _ _ _ (DF.start h3.dk) (by omega) fun d μ4 ⟨k, e, k0, k1⟩ h4 => ?_
    subst e
    have hm4 := h4.at pa pc hm3
    walk_at "gn"
    refine elc_gen 11 (fun _ d => OkV d) (DF.start h4.dk) (by rw [rangeL_len]; omega) (by rw [rangeL_len]; omega) (by decide) (fun x hx μ1 μ' t' R hd ht' hR => ?_) fun us μ5 hul hP h5 => ?_
    · walk_at "go"
      exact worth_g _ _ _ _ _ hd ht' fun d μ'' ho h => hR d μ'' ho h
    rw [rangeL_len] at hul h5
    have hm5 := h5.at pa pc hm4
    walk_at "gn"
    have hw5 : Row (ws ++ us) := ⟨by rw [List.length_append]; omega, fun w hw' => (List.mem_append.mp hw').elim (hw.ok w) fun z => by obtain ⟨_, _, y⟩ := hP w z; exact y⟩
    simp only [DL.x_on]
    refine again_w ((h3.trans h4).trans h5) (by omega) hm5 pa pc hr (by omega) hw5 fun ws' μ6 hw6 hm6 h6 => ?_
    simp only [DL.x_bnd, DL.x_ret, DL.x_req, DL.x_get, DL.x_opt, DL.x_seq, DL.x_on, DL.x_or, DL.x_ob, DL.x_oc, DL.x_nil, DL.x_rt, DL.x_rtN, DL.x_drop, DL.x_break, DL.x_cont, DL.x_if, DL.x_ift, DL.x_iff, DL.x_set, DL.x_asg, DL.x_par2, DL.x_par3, DL.x_for, DL.x_v0, DL.x_vS, DL.x_c, DL.x_bin, DL.x_un, DL.x_tbin, DL.x_tru, DL.x_trb, DL.x_not, DL.x_tand, DL.x_tor, DL.x_and, DL.x_orE, DL.x_notE, DL.x_ifE, DL.x_tup, DL.x_lst, DL.x_lstM, DL.x_anil, DL.x_acons, DL.x_call, DL.x_callD, DL.x_callK, DL.x_meth, DL.x_sl, DL.x_oN, DL.x_oS, DL.x_gn, DL.x_gt, DL.x_gc, DL.x_g0, DL.x_gi, DL.x_body, DL.x_yes, DL.x_add, DL.x_addS, DL.x_addT, DL.x_addL, DL.x_sub, DL.x_mul, DL.x_div, DL.x_mod, DL.x_pow, DL.x_neg, DL.x_cmp, DL.x_cmpS, DL.x_isN, DL.x_mmL, DL.x_mm2, DL.x_eqS, DL.x_eqI, DL.x_intb, DL.onB_bl, DL.onI_int, DL.onO_nx, DL.onO_rt, DL.onL_ml, DL.addD_ol, DL.isNon_non, DL.isNon_int, DL.isNon_str, DL.isNon_tup, DL.ix_tup, DL.ix_lst, DL.ix_str, DL.ix_obj, DL.atI_0, DL.atI_1, DL.atI_2, DL.atI_3, DL.len_tup, DL.len_lst, DL.len_str, DL.len_obj, DL.ty_obj, DL.ty_str, DL.ty_lst, DL.append_obj, DL.pop_obj, DL.set_obj, DL.ixN_3_2, DL.tuple_obj, DL.tuple_lst, DL.list_tup, DL.list_lst, DL.sl_str, DL.sl_tup, DL.sl_lst, DL.rev_tup, DL.revM_lst, DL.sum_lst, DL.put_same, DL.startD, DL.pick, List.map_cons, List.map_nil, List.replicate, List.cons_append, List.nil_append, List.append_nil, List.length_cons, List.length_nil, List.getElem?_cons_zero, List.getElem?_cons_succ, List.set_cons_zero, List.set_cons_succ, List.filterMap_cons, List.filterMap_nil, Nat.zero_add, Nat.add_zero, Nat.reduceAdd, Nat.reduceSub, true_and, and_true, id_eq, if_true, if_false, Bool.false_eq_true, Bool.not_true, Bool.not_false, DL.x_idx, DL.rev_obj, DL.wipeD, DL.x_addM, DL.x_addMl, DL.x_isi, DL.ty_nonM, DL.ty_blM, DL.ty_intM, DL.ty_strM, DL.ty_tupM, DL.ty_lstM, DL.ty_dctM, DL.kb_non_str, DL.kb_non_int, DL.kb_non_bool, DL.kb_non_tuple, DL.kb_non_list, DL.kb_non_dict, DL.kb_bl_str, DL.kb_bl_int, DL.kb_bl_bool, DL.kb_bl_tuple, DL.kb_bl_list, DL.kb_bl_dict, DL.kb_int_str, DL.kb_int_int, DL.kb_int_bool, DL.kb_int_tuple, DL.kb_int_list, DL.kb_int_dict, DL.kb_str_str, DL.kb_str_int, DL.kb_str_bool, DL.kb_str_tuple, DL.kb_str_list, DL.kb_str_dict, DL.kb_tup_str, DL.kb_tup_int, DL.kb_tup_bool, DL.kb_tup_tuple, DL.kb_tup_list, DL.kb_tup_dict, DL.kb_lst_str, DL.kb_lst_int, DL.kb_lst_bool, DL.kb_lst_tuple, DL.kb_lst_list, DL.kb_lst_dict, DL.kb_dct_str, DL.kb_dct_int, DL.kb_dct_bool, DL.kb_dct_tuple, DL.kb_dct_list, DL.kb_dct_dict, DL.isNon_bl, DL.isNon_lst, DL.isNon_dct, DL.x_tOf, DL.x_tOfE, DL.x_chain, DL.x_kix, DL.x_kin, DL.x_kgt, DL.x_allL, DL.x_anyL, DL.x_istr, DL.x_dgetO, DL.x_dgetS, DL.x_dgetI, DL.x_gdix, DL.x_dset, DL.x_popAt, DL.x_insert, DL.ty_dct, DL.x_getS1, DL.x_getI1, DL.x_getS2, DL.x_getI2, DL.x_pnil, DL.x_pcons, DL.x_disM, DL.x_dis0M, DL.x_listM, DL.x_listMT, DL.x_gst, DL.x_mulS, DL.x_mulL, DL.x_dict, DL.onM_md, DL.onS_str, DL.kfind_nil, DL.kfind_cons, DL.lit_beq, DL.x_iseq, DL.onIt_lst, DL.onIt_tup, DL.sl_obj, DL.x_rg1, DL.valD_nil, DL.valD_cons, DL.key_rr, DL.key_ll, DL.key_lr, DL.key_rl, String.reduceBEq, Option.isSome_some, Option.isSome_none, Option.getD_some, Option.getD_none, Bool.true_and, Bool.and_true, Bool.false_and, Bool.and_false, Bool.or_false, Bool.false_or, Bool.or_true, Bool.true_or, beq_self_eq_true, DL.x_addBb, DL.x_addBi, DL.x_addBs, DL.x_addBt, DL.x_addBl, DL.x_subBb, DL.x_subBib, DL.x_subBi, DL.x_mulBb, DL.x_mulBi, DL.x_strI, DL.x_strB, DL.x_up, DL.x_eqT, DL.x_eqL, hm6]
    refine ⟨by rw [sz_eq]; omega, hR _ _ ⟨ds ++ [.tup ws'], _, _, _, rfl, put_same, by rw [List.length_append, hl]; rfl, hi, fun d hd => ?_, (h6.put pa pc pn).mono (by omega)⟩⟩
    rcases List.mem_append.mp hd with z | z
    · exact hr d z
    · rw [List.mem_singleton.mp z]
      exact ⟨ws', rfl, hw6⟩
  · rintro ρ μ2 ⟨ds, o3, o4, o5, rfl, hm, hl, hin, hr, h2⟩
    rw [rangeL_len] at hl h2
    refine ⟨trivial, ?_⟩
    simp only [DL.x_bnd, DL.x_ret, DL.x_req, DL.x_get, DL.x_opt, DL.x_seq, DL.x_on, DL.x_or, DL.x_ob, DL.x_oc, DL.x_nil, DL.x_rt, DL.x_rtN, DL.x_drop, DL.x_break, DL.x_cont, DL.x_if, DL.x_ift, DL.x_iff, DL.x_set, DL.x_asg, DL.x_par2, DL.x_par3, DL.x_for, DL.x_v0, DL.x_vS, DL.x_c, DL.x_bin, DL.x_un, DL.x_tbin, DL.x_tru, DL.x_trb, DL.x_not, DL.x_tand, DL.x_tor, DL.x_and, DL.x_orE, DL.x_notE, DL.x_ifE, DL.x_tup, DL.x_lst, DL.x_lstM, DL.x_anil, DL.x_acons, DL.x_call, DL.x_callD, DL.x_callK, DL.x_meth, DL.x_sl, DL.x_oN, DL.x_oS, DL.x_gn, DL.x_gt, DL.x_gc, DL.x_g0, DL.x_gi, DL.x_body, DL.x_yes, DL.x_add, DL.x_addS, DL.x_addT, DL.x_addL, DL.x_sub, DL.x_mul, DL.x_div, DL.x_mod, DL.x_pow, DL.x_neg, DL.x_cmp, DL.x_cmpS, DL.x_isN, DL.x_mmL, DL.x_mm2, DL.x_eqS, DL.x_eqI, DL.x_intb, DL.onB_bl, DL.onI_int, DL.onO_nx, DL.onO_rt, DL.onL_ml, DL.addD_ol, DL.isNon_non, DL.isNon_int, DL.isNon_str, DL.isNon_tup, DL.ix_tup, DL.ix_lst, DL.ix_str, DL.ix_obj, DL.atI_0, DL.atI_1, DL.atI_2, DL.atI_3, DL.len_tup, DL.len_lst, DL.len_str, DL.len_obj, DL.ty_obj, DL.ty_str, DL.ty_lst, DL.append_obj, DL.pop_obj, DL.set_obj, DL.ixN_3_2, DL.tuple_obj, DL.tuple_lst, DL.list_tup, DL.list_lst, DL.sl_str, DL.sl_tup, DL.sl_lst, DL.rev_tup, DL.revM_lst, DL.sum_lst, DL.put_same, DL.startD, DL.pick, List.map_cons, List.map_nil, List.replicate, List.cons_append, List.nil_append, List.append_nil, List.length_cons, List.length_nil, List.getElem?_cons_zero, List.getElem?_cons_succ, List.set_cons_zero, List.set_cons_succ, List.filterMap_cons, List.filterMap_nil, Nat.zero_add, Nat.add_zero, Nat.reduceAdd, Nat.reduceSub, true_and, and_true, id_eq, if_true, if_false, Bool.false_eq_true, Bool.not_true, Bool.not_false, DL.x_idx, DL.rev_obj, DL.wipeD, DL.x_addM, DL.x_addMl, DL.x_isi, DL.ty_nonM, DL.ty_blM, DL.ty_intM, DL.ty_strM, DL.ty_tupM, DL.ty_lstM, DL.ty_dctM, DL.kb_non_str, DL.kb_non_int, DL.kb_non_bool, DL.kb_non_tuple, DL.kb_non_list, DL.kb_non_dict, DL.kb_bl_str, DL.kb_bl_int, DL.kb_bl_bool, DL.kb_bl_tuple, DL.kb_bl_list, DL.kb_bl_dict, DL.kb_int_str, DL.kb_int_int, DL.kb_int_bool, DL.kb_int_tuple, DL.kb_int_list, DL.kb_int_dict, DL.kb_str_str, DL.kb_str_int, DL.kb_str_bool, DL.kb_str_tuple, DL.kb_str_list, DL.kb_str_dict, DL.kb_tup_str, DL.kb_tup_int, DL.kb_tup_bool, DL.kb_tup_tuple, DL.kb_tup_list, DL.kb_tup_dict, DL.kb_lst_str, DL.kb_lst_int, DL.kb_lst_bool, DL.kb_lst_tuple, DL.kb_lst_list, DL.kb_lst_dict, DL.kb_dct_str, DL.kb_dct_int, DL.kb_dct_bool, DL.kb_dct_tuple, DL.kb_dct_list, DL.kb_dct_dict, DL.isNon_bl, DL.isNon_lst, DL.isNon_dct, DL.x_tOf, DL.x_tOfE, DL.x_chain, DL.x_kix, DL.x_kin, DL.x_kgt, DL.x_allL, DL.x_anyL, DL.x_istr, DL.x_dgetO, DL.x_dgetS, DL.x_dgetI, DL.x_gdix, DL.x_dset, DL.x_popAt, DL.x_insert, DL.ty_dct, DL.x_getS1, DL.x_getI1, DL.x_getS2, DL.x_getI2, DL.x_pnil, DL.x_pcons, DL.x_disM, DL.x_dis0M, DL.x_listM, DL.x_listMT, DL.x_gst, DL.x_mulS, DL.x_mulL, DL.x_dict, DL.onM_md, DL.onS_str, DL.kfind_nil, DL.kfind_cons, DL.lit_beq, DL.x_iseq, DL.onIt_lst, DL.onIt_tup, DL.sl_obj, DL.x_rg1, DL.valD_nil, DL.valD_cons, DL.key_rr, DL.key_ll, DL.key_lr, DL.key_rl, String.reduceBEq, Option.isSome_some, Option.isSome_none, Option.getD_some, Option.getD_none, Bool.true_and, Bool.and_true, Bool.false_and, Bool.and_false, Bool.or_false, Bool.false_or, Bool.or_true, Bool.true_or, beq_self_eq_true, DL.x_addBb, DL.x_addBi, DL.x_addBs, DL.x_addBt, DL.x_addBl, DL.x_subBb, DL.x_subBib, DL.x_subBi, DL.x_mulBb, DL.x_mulBi, DL.x_strI, DL.x_strB, DL.x_up, DL.x_eqT, DL.x_eqL, hm]
    repeat (refine ⟨(by walk_at "side"), ?_⟩)
    exact q _ _ ⟨ds, rfl, hr, by omega⟩ (h2.mono (by omega))
end Lk03

namespace Lk03
open PySem PySem.Spec PyProof.Rows L2 DL

theorem rank_w {d : D} {μ : Mem} {Q : D → Mem → Prop} {E : XD} (h : OkV d) (q : Q (.int (rank d)) μ) : m__law_rank [d] μ Q E := by
  simp only [m__law_rank, b__law_rank, DL.x_bnd, DL.x_ret, DL.x_req, DL.x_get, DL.x_opt, DL.x_seq, DL.x_on, DL.x_or, DL.x_ob, DL.x_oc, DL.x_nil, DL.x_rt, DL.x_rtN, DL.x_drop, DL.x_break, DL.x_cont, DL.x_if, DL.x_ift, DL.x_iff, DL.x_set, DL.x_asg, DL.x_par2, DL.x_par3, DL.x_for, DL.x_v0, DL.x_vS, DL.x_c, DL.x_bin, DL.x_un, DL.x_tbin, DL.x_tru, DL.x_trb, DL.x_not, DL.x_tand, DL.x_tor, DL.x_and, DL.x_orE, DL.x_notE, DL.x_ifE, DL.x_tup, DL.x_lst, DL.x_lstM, DL.x_anil, DL.x_acons, DL.x_call, DL.x_callD, DL.x_callK, DL.x_meth, DL.x_sl, DL.x_oN, DL.x_oS, DL.x_gn, DL.x_gt, DL.x_gc, DL.x_g0, DL.x_gi, DL.x_body, DL.x_yes, DL.x_add, DL.x_addS, DL.x_addT, DL.x_addL, DL.x_sub, DL.x_mul, DL.x_div, DL.x_mod, DL.x_pow, DL.x_neg, DL.x_cmp, DL.x_cmpS, DL.x_isN, DL.x_mmL, DL.x_mm2, DL.x_eqS, DL.x_eqI, DL.x_intb, DL.onB_bl, DL.onI_int, DL.onO_nx, DL.onO_rt, DL.onL_ml, DL.addD_ol, DL.isNon_non, DL.isNon_int, DL.isNon_str, DL.isNon_tup, DL.ix_tup, DL.ix_lst, DL.ix_str, DL.ix_obj, DL.atI_0, DL.atI_1, DL.atI_2, DL.atI_3, DL.len_tup, DL.len_lst, DL.len_str, DL.len_obj, DL.ty_obj, DL.ty_str, DL.ty_lst, DL.append_obj, DL.pop_obj, DL.set_obj, DL.ixN_3_2, DL.tuple_obj, DL.tuple_lst, DL.list_tup, DL.list_lst, DL.sl_str, DL.sl_tup, DL.sl_lst, DL.rev_tup, DL.revM_lst, DL.sum_lst, DL.put_same, DL.startD, DL.pick, List.map_cons, List.map_nil, List.replicate, List.cons_append, List.nil_append, List.append_nil, List.length_cons, List.length_nil, List.getElem?_cons_zero, List.getElem?_cons_succ, List.set_cons_zero, List.set_cons_succ, List.filterMap_cons, List.filterMap_nil, Nat.zero_add, Nat.add_zero, Nat.reduceAdd, Nat.reduceSub, true_and, and_true, id_eq, if_true, if_false, Bool.false_eq_true, Bool.not_true, Bool.not_false, DL.x_idx, DL.rev_obj, DL.wipeD, DL.x_addM, DL.x_addMl, DL.x_isi, DL.ty_nonM, DL.ty_blM, DL.ty_intM, DL.ty_strM, DL.ty_tupM, DL.ty_lstM, DL.ty_dctM, DL.kb_non_str, DL.kb_non_int, DL.kb_non_bool, DL.kb_non_tuple, DL.kb_non_list, DL.kb_non_dict, DL.kb_bl_str, DL.kb_bl_int, DL.kb_bl_bool, DL.kb_bl_tuple, DL.kb_bl_list, DL.kb_bl_dict, DL.kb_int_str, DL.kb_int_int, DL.kb_int_bool, DL.kb_int_tuple, DL.kb_int_list, DL.kb_int_dict, DL.kb_str_str, DL.kb_str_int, DL.kb_str_bool, DL.kb_str_tuple, DL.kb_str_list, DL.kb_str_dict, DL.kb_tup_str, DL.kb_tup_int, DL.kb_tup_bool, DL.kb_tup_tuple, DL.kb_tup_list, DL.kb_tup_dict, DL.kb_lst_str, DL.kb_lst_int, DL.kb_lst_bool, DL.kb_lst_tuple, DL.kb_lst_list, DL.kb_lst_dict, DL.kb_dct_str, DL.kb_dct_int, DL.kb_dct_bool, DL.kb_dct_tuple, DL.kb_dct_list, DL.kb_dct_dict, DL.isNon_bl, DL.isNon_lst, DL.isNon_dct, DL.x_tOf, DL.x_tOfE, DL.x_chain, DL.x_kix, DL.x_kin, DL.x_kgt, DL.x_allL, DL.x_anyL, DL.x_istr, DL.x_dgetO, DL.x_dgetS, DL.x_dgetI, DL.x_gdix, DL.x_dset, DL.x_popAt, DL.x_insert, DL.ty_dct, DL.x_getS1, DL.x_getI1, DL.x_getS2, DL.x_getI2, DL.x_pnil, DL.x_pcons, DL.x_disM, DL.x_dis0M, DL.x_listM, DL.x_listMT, DL.x_gst, DL.x_mulS, DL.x_mulL, DL.x_dict, DL.onM_md, DL.onS_str, DL.kfind_nil, DL.kfind_cons, DL.lit_beq, DL.x_iseq, DL.onIt_lst, DL.onIt_tup, DL.sl_obj, DL.x_rg1, DL.valD_nil, DL.valD_cons, DL.key_rr, DL.key_ll, DL.key_lr, DL.key_rl, String.reduceBEq, Option.isSome_some, Option.isSome_none, Option.getD_some, Option.getD_none, Bool.true_and, Bool.and_true, Bool.false_and, Bool.and_false, Bool.or_false, Bool.false_or, Bool.or_true, Bool.true_or, beq_self_eq_true, DL.x_addBb, DL.x_addBi, DL.x_addBs, DL.x_addBt, DL.x_addBl, DL.x_subBb, DL.x_subBib, DL.x_subBi, DL.x_mulBb, DL.x_mulBi, DL.x_strI, DL.x_strB, DL.x_up, DL.x_eqT, DL.x_eqL]
  rcases h with rfl | ⟨i, rfl, a, b⟩ | ⟨s, rfl, a⟩
  · walk_at "go"
    exact q
  · walk_at "go"
    exact q
  · walk_at "go"
    exact q
theorem okv_pl {d : D} (h : OkV d) : Pl 0 1921 d := by
  rcases h with rfl | ⟨i, rfl, a, b⟩ | ⟨s, rfl, a⟩
  · exact Pl.non.mono (Nat.le_refl _) (by decide)
  · exact Pl.int (Nat.lt_of_lt_of_le (show i.natAbs < 2 ^ 40 by omega) (Nat.pow_le_pow_right (by decide) (by decide)))
  · exact (Pl.str (n := 8) (fun c hc => by have := a.2.2 c hc; omega) a.2.1).mono (Nat.le_refl _) (by decide)
theorem eqv_eqB {x y : D} (hx : OkV x) (hy : OkV y) (hr : rank x = rank y) : PyData.eqv (toPy x) (toPy y) = eqB x y := by
  rcases hx with rfl | ⟨i, rfl, _, _⟩ | ⟨s, rfl, _⟩ <;> rcases hy with rfl | ⟨j, rfl, _, _⟩ | ⟨t, rfl, _⟩
  · rfl
  · cases hr
  · cases hr
  · cases hr
  · show (i == j) = decide (i = j)
    rw [Bool.eq_iff_iff]; simp
  · cases hr
  · cases hr
  · cases hr
  · rfl
theorem at_d {ws : List D} {k : Nat} (hk : k < ws.length) : atI ws (k : Int) = some ws[k] := by
  obtain ⟨x, e, e2, _⟩ := atI_nat ws (k : Int) (by omega) (by omega)
  rw [e]
  have e3 : ((k : Int)).toNat = k := by omega
  rw [e3, List.getElem?_eq_getElem hk] at e2
  exact e2.symm
theorem min_two (n m : Int) : DL.minL (.int n) [.int m] = .int (if m < n then m else n) := by
  show (if decide (m < n) = true then D.int m else .int n) = _
  by_cases h : m < n
  · rw [if_pos h, if_pos (by simpa using h)]
  · rw [if_neg h, if_neg (by simpa using h)]
theorem eqA_ok {f : Bool → Bool} {x y : D} {μ : Mem} {Q : D → Mem → Prop} {E : XD} (hx : OkV x) (hy : OkV y) (hr : rank x = rank y) (q : Q (.bl (f (eqB x y))) μ) : eqA f x y μ Q E := by
  rw [← eqv_eqB hx hy hr] at q
  exact Pl.eq (okv_pl hx) (okv_pl hy) (by decide) (by decide) q
theorem lt_ok {x y : D} {μ : Mem} {Q : D → Mem → Prop} {E : XD} (hx : OkV x) (hy : OkV y) (hr : rank x = rank y) (hne : eqB x y = false) (q : Q (.bl (wlt x y)) μ) : ltD x y μ Q E := by
  rcases hx with rfl | ⟨i, rfl, _, _⟩ | ⟨s, rfl, _⟩ <;> rcases hy with rfl | ⟨j, rfl, _, _⟩ | ⟨t, rfl, _⟩
  · cases hne
  · cases hr
  · cases hr
  · cases hr
  · walk_at "go"
    exact q
  · cases hr
  · cases hr
  · cases hr
  · walk_at "go"
    exact q
theorem less_w {xs ys : List D} {μ : Mem} {Q : D → Mem → Prop} {E : XD} (hx : Row xs) (hy : Row ys) (q : Q (.bl (rlt xs ys)) μ) : m__law_is_less [.tup xs, .tup ys] μ Q E := by
  have x8 := hx.most
  have y8 := hy.most
  simp only [m__law_is_less, b__law_is_less, DL.x_bnd, DL.x_ret, DL.x_req, DL.x_get, DL.x_opt, DL.x_seq, DL.x_on, DL.x_or, DL.x_ob, DL.x_oc, DL.x_nil, DL.x_rt, DL.x_rtN, DL.x_drop, DL.x_break, DL.x_cont, DL.x_if, DL.x_ift, DL.x_iff, DL.x_set, DL.x_asg, DL.x_par2, DL.x_par3, DL.x_for, DL.x_v0, DL.x_vS, DL.x_c, DL.x_bin, DL.x_un, DL.x_tbin, DL.x_tru, DL.x_trb, DL.x_not, DL.x_tand, DL.x_tor, DL.x_and, DL.x_orE, DL.x_notE, DL.x_ifE, DL.x_tup, DL.x_lst, DL.x_lstM, DL.x_anil, DL.x_acons, DL.x_call, DL.x_callD, DL.x_callK, DL.x_meth, DL.x_sl, DL.x_oN, DL.x_oS, DL.x_gn, DL.x_gt, DL.x_gc, DL.x_g0, DL.x_gi, DL.x_body, DL.x_yes, DL.x_add, DL.x_addS, DL.x_addT, DL.x_addL, DL.x_sub, DL.x_mul, DL.x_div, DL.x_mod, DL.x_pow, DL.x_neg, DL.x_cmp, DL.x_cmpS, DL.x_isN, DL.x_mmL, DL.x_mm2, DL.x_eqS, DL.x_eqI, DL.x_intb, DL.onB_bl, DL.onI_int, DL.onO_nx, DL.onO_rt, DL.onL_ml, DL.addD_ol, DL.isNon_non, DL.isNon_int, DL.isNon_str, DL.isNon_tup, DL.ix_tup, DL.ix_lst, DL.ix_str, DL.ix_obj, DL.atI_0, DL.atI_1, DL.atI_2, DL.atI_3, DL.len_tup, DL.len_lst, DL.len_str, DL.len_obj, DL.ty_obj, DL.ty_str, DL.ty_lst, DL.append_obj, DL.pop_obj, DL.set_obj, DL.ixN_3_2, DL.tuple_obj, DL.tuple_lst, DL.list_tup, DL.list_lst, DL.sl_str, DL.sl_tup, DL.sl_lst, DL.rev_tup, DL.revM_lst, DL.sum_lst, DL.put_same, DL.startD, DL.pick, List.map_cons, List.map_nil, List.replicate, List.cons_append, List.nil_append, List.append_nil, List.length_cons, List.length_nil, List.getElem?_cons_zero, List.getElem?_cons_succ, List.set_cons_zero, List.set_cons_succ, List.filterMap_cons, List.filterMap_nil, Nat.zero_add, Nat.add_zero, Nat.reduceAdd, Nat.reduceSub, true_and, and_true, id_eq, if_true, if_false, Bool.false_eq_true, Bool.not_true, Bool.not_false, DL.x_idx, DL.rev_obj, DL.wipeD, DL.x_addM, DL.x_addMl, DL.x_isi, DL.ty_nonM, DL.ty_blM, DL.ty_intM, DL.ty_strM, DL.ty_tupM, DL.ty_lstM, DL.ty_dctM, DL.kb_non_str, DL.kb_non_int, DL.kb_non_bool, DL.kb_non_tuple, DL.kb_non_list, DL.kb_non_dict, DL.kb_bl_str, DL.kb_bl_int, DL.kb_bl_bool, DL.kb_bl_tuple, DL.kb_bl_list, DL.kb_bl_dict, DL.kb_int_str, DL.kb_int_int, DL.kb_int_bool, DL.kb_int_tuple, DL.kb_int_list, DL.kb_int_dict, DL.kb_str_str, DL.kb_str_int, DL.kb_str_bool, DL.kb_str_tuple, DL.kb_str_list, DL.kb_str_dict, DL.kb_tup_str, DL.kb_tup_int, DL.kb_tup_bool, DL.kb_tup_tuple, DL.kb_tup_list, DL.kb_tup_dict, DL.kb_lst_str, DL.kb_lst_int, DL.kb_lst_bool, DL.kb_lst_tuple, DL.kb_lst_list, DL.kb_lst_dict, DL.kb_dct_str, DL.kb_dct_int, DL.kb_dct_bool, DL.kb_dct_tuple, DL.kb_dct_list, DL.kb_dct_dict, DL.isNon_bl, DL.isNon_lst, DL.isNon_dct, DL.x_tOf, DL.x_tOfE, DL.x_chain, DL.x_kix, DL.x_kin, DL.x_kgt, DL.x_allL, DL.x_anyL, DL.x_istr, DL.x_dgetO, DL.x_dgetS, DL.x_dgetI, DL.x_gdix, DL.x_dset, DL.x_popAt, DL.x_insert, DL.ty_dct, DL.x_getS1, DL.x_getI1, DL.x_getS2, DL.x_getI2, DL.x_pnil, DL.x_pcons, DL.x_disM, DL.x_dis0M, DL.x_listM, DL.x_listMT, DL.x_gst, DL.x_mulS, DL.x_mulL, DL.x_dict, DL.onM_md, DL.onS_str, DL.kfind_nil, DL.kfind_cons, DL.lit_beq, DL.x_iseq, DL.onIt_lst, DL.onIt_tup, DL.sl_obj, DL.x_rg1, DL.valD_nil, DL.valD_cons, DL.key_rr, DL.key_ll, DL.key_lr, DL.key_rl, String.reduceBEq, Option.isSome_some, Option.isSome_none, Option.getD_some, Option.getD_none, Bool.true_and, Bool.and_true, Bool.false_and, Bool.and_false, Bool.or_false, Bool.false_or, Bool.or_true, Bool.true_or, beq_self_eq_true, DL.x_addBb, DL.x_addBi, DL.x_addBs, DL.x_addBt, DL.x_addBl, DL.x_subBb, DL.x_subBib, DL.x_subBi, DL.x_mulBb, DL.x_mulBi, DL.x_strI, DL.x_strB, DL.x_up, DL.x_eqT, DL.x_eqL]
  refine ⟨.inl ⟨[_, _], rfl⟩, ?_⟩
  simp only [min_two]
  walk_at "go"
  have em : (if (ys.length : Int) < (xs.length : Int) then (ys.length : Int) else (xs.length : Int)) = ((min xs.length ys.length : Nat) : Int) := by split <;> omega
  simp only [em, Int.toNat_natCast, DL.x_bnd, DL.x_ret, DL.x_req, DL.x_get, DL.x_opt, DL.x_seq, DL.x_on, DL.x_or, DL.x_ob, DL.x_oc, DL.x_nil, DL.x_rt, DL.x_rtN, DL.x_drop, DL.x_break, DL.x_cont, DL.x_if, DL.x_ift, DL.x_iff, DL.x_set, DL.x_asg, DL.x_par2, DL.x_par3, DL.x_for, DL.x_v0, DL.x_vS, DL.x_c, DL.x_bin, DL.x_un, DL.x_tbin, DL.x_tru, DL.x_trb, DL.x_not, DL.x_tand, DL.x_tor, DL.x_and, DL.x_orE, DL.x_notE, DL.x_ifE, DL.x_tup, DL.x_lst, DL.x_lstM, DL.x_anil, DL.x_acons, DL.x_call, DL.x_callD, DL.x_callK, DL.x_meth, DL.x_sl, DL.x_oN, DL.x_oS, DL.x_gn, DL.x_gt, DL.x_gc, DL.x_g0, DL.x_gi, DL.x_body, DL.x_yes, DL.x_add, DL.x_addS, DL.x_addT, DL.x_addL, DL.x_sub, DL.x_mul, DL.x_div, DL.x_mod, DL.x_pow, DL.x_neg, DL.x_cmp, DL.x_cmpS, DL.x_isN, DL.x_mmL, DL.x_mm2, DL.x_eqS, DL.x_eqI, DL.x_intb, DL.onB_bl, DL.onI_int, DL.onO_nx, DL.onO_rt, DL.onL_ml, DL.addD_ol, DL.isNon_non, DL.isNon_int, DL.isNon_str, DL.isNon_tup, DL.ix_tup, DL.ix_lst, DL.ix_str, DL.ix_obj, DL.atI_0, DL.atI_1, DL.atI_2, DL.atI_3, DL.len_tup, DL.len_lst, DL.len_str, DL.len_obj, DL.ty_obj, DL.ty_str, DL.ty_lst, DL.append_obj, DL.pop_obj, DL.set_obj, DL.ixN_3_2, DL.tuple_obj, DL.tuple_lst, DL.list_tup, DL.list_lst, DL.sl_str, DL.sl_tup, DL.sl_lst, DL.rev_tup, DL.revM_lst, DL.sum_lst, DL.put_same, DL.startD, DL.pick, List.map_cons, List.map_nil, List.replicate, List.cons_append, List.nil_append, List.append_nil, List.length_cons, List.length_nil, List.getElem?_cons_zero, List.getElem?_cons_succ, List.set_cons_zero, List.set_cons_succ, List.filterMap_cons, List.filterMap_nil, Nat.zero_add, Nat.add_zero, Nat.reduceAdd, Nat.reduceSub, true_and, and_true, id_eq, if_true, if_false, Bool.false_eq_true, Bool.not_true, Bool.not_false, DL.x_idx, DL.rev_obj, DL.wipeD, DL.x_addM, DL.x_addMl, DL.x_isi, DL.ty_nonM, DL.ty_blM, DL.ty_intM, DL.ty_strM, DL.ty_tupM, DL.ty_lstM, DL.ty_dctM, DL.kb_non_str, DL.kb_non_int, DL.kb_non_bool, DL.kb_non_tuple, DL.kb_non_list, DL.kb_non_dict, DL.kb_bl_str, DL.kb_bl_int, DL.kb_bl_bool, DL.kb_bl_tuple, DL.kb_bl_list, DL.kb_bl_dict, DL.kb_int_str, DL.kb_int_int, DL.kb_int_bool, DL.kb_int_tuple, DL.kb_int_list, DL.kb_int_dict, DL.kb_str_str, DL.kb_str_int, DL.kb_str_bool, DL.kb_str_tuple, DL.kb_str_list, DL.kb_str_dict, DL.kb_tup_str, DL.kb_tup_int, DL.kb_tup_bool, DL.kb_tup_tuple, DL.kb_tup_list, DL.kb_tup_dict, DL.kb_lst_str, DL.kb_lst_int, DL.kb_lst_bool, DL.kb_lst_tuple, DL.kb_lst_list, DL.kb_lst_dict, DL.kb_dct_str, DL.kb_dct_int, DL.kb_dct_bool, DL.kb_dct_tuple, DL.kb_dct_list, DL.kb_dct_dict, DL.isNon_bl, DL.isNon_lst, DL.isNon_dct, DL.x_tOf, DL.x_tOfE, DL.x_chain, DL.x_kix, DL.x_kin, DL.x_kgt, DL.x_allL, DL.x_anyL, DL.x_istr, DL.x_dgetO, DL.x_dgetS, DL.x_dgetI, DL.x_gdix, DL.x_dset, DL.x_popAt, DL.x_insert, DL.ty_dct, DL.x_getS1, DL.x_getI1, DL.x_getS2, DL.x_getI2, DL.x_pnil, DL.x_pcons, DL.x_disM, DL.x_dis0M, DL.x_listM, DL.x_listMT, DL.x_gst, DL.x_mulS, DL.x_mulL, DL.x_dict, DL.onM_md, DL.onS_str, DL.kfind_nil, DL.kfind_cons, DL.lit_beq, DL.x_iseq, DL.onIt_lst, DL.onIt_tup, DL.sl_obj, DL.x_rg1, DL.valD_nil, DL.valD_cons, DL.key_rr, DL.key_ll, DL.key_lr, DL.key_rl, String.reduceBEq, Option.isSome_some, Option.isSome_none, Option.getD_some, Option.getD_none, Bool.true_and, Bool.and_true, Bool.false_and, Bool.and_false, Bool.or_false, Bool.false_or, Bool.or_true, Bool.true_or, beq_self_eq_true, DL.x_addBb, DL.x_addBi, DL.x_addBs, DL.x_addBt, DL.x_addBl, DL.x_subBb, DL.x_subBib, DL.x_subBi, DL.x_mulBb, DL.x_mulBi, DL.x_strI, DL.x_strB, DL.x_up, DL.x_eqT, DL.x_eqL]
  walk_at "go"
  refine for_w (fun i ρ μ' => ∃ o2, ρ = [some (.tup xs), some (.tup ys), o2] ∧ μ' = μ ∧ i ≤ min xs.length ys.length ∧ rlt xs ys = rlt (xs.drop i) (ys.drop i)) (rangeL 0 (min xs.length ys.length)) ?_ ?_ _ _ ⟨none, rfl, rfl, Nat.zero_le _, rfl⟩
  · rintro i v ρ μ2 R hv ⟨o2, rfl, rfl, hi, he⟩ hR hRt
    have hlt : i < min xs.length ys.length := by
      rcases Nat.lt_or_ge i (min xs.length ys.length) with z | z
      · exact z
      · rw [List.getElem?_eq_none (by rw [rangeL_len]; exact z)] at hv; cases hv
    have ev : v = .int (i : Int) := by
      rw [rangeL_get hlt] at hv
      rw [← Option.some.inj hv, Int.zero_add]
    subst ev
    have hxi : i < xs.length := by omega
    have hyi : i < ys.length := by omega
    have ox := hx.ok _ (List.getElem_mem hxi)
    have oy := hy.ok _ (List.getElem_mem hyi)
    have hc : rlt xs ys = if rank xs[i] = rank ys[i] then (if eqB xs[i] ys[i] = true then rlt (xs.drop (i + 1)) (ys.drop (i + 1)) else wlt xs[i] ys[i]) else decide (rank xs[i] < rank ys[i]) := by
      rw [he, List.drop_eq_getElem_cons hxi, List.drop_eq_getElem_cons hyi, rlt_cons ox oy]
    refine ⟨trivial, ?_⟩
    simp only [DL.x_bnd, DL.x_ret, DL.x_req, DL.x_get, DL.x_opt, DL.x_seq, DL.x_on, DL.x_or, DL.x_ob, DL.x_oc, DL.x_nil, DL.x_rt, DL.x_rtN, DL.x_drop, DL.x_break, DL.x_cont, DL.x_if, DL.x_ift, DL.x_iff, DL.x_set, DL.x_asg, DL.x_par2, DL.x_par3, DL.x_for, DL.x_v0, DL.x_vS, DL.x_c, DL.x_bin, DL.x_un, DL.x_tbin, DL.x_tru, DL.x_trb, DL.x_not, DL.x_tand, DL.x_tor, DL.x_and, DL.x_orE, DL.x_notE, DL.x_ifE, DL.x_tup, DL.x_lst, DL.x_lstM, DL.x_anil, DL.x_acons, DL.x_call, DL.x_callD, DL.x_callK, DL.x_meth, DL.x_sl, DL.x_oN, DL.x_oS, DL.x_gn, DL.x_gt, DL.x_gc, DL.x_g0, DL.x_gi, DL.x_body, DL.x_yes, DL.x_add, DL.x_addS, DL.x_addT, DL.x_addL, DL.x_sub, DL.x_mul, DL.x_div, DL.x_mod, DL.x_pow, DL.x_neg, DL.x_cmp, DL.x_cmpS, DL.x_isN, DL.x_mmL, DL.x_mm2, DL.x_eqS, DL.x_eqI, DL.x_intb, DL.onB_bl, DL.onI_int, DL.onO_nx, DL.onO_rt, DL.onL_ml, DL.addD_ol, DL.isNon_non, DL.isNon_int, DL.isNon_str, DL.isNon_tup, DL.ix_tup, DL.ix_lst, DL.ix_str, DL.ix_obj, DL.atI_0, DL.atI_1, DL.atI_2, DL.atI_3, DL.len_tup, DL.len_lst, DL.len_str, DL.len_obj, DL.ty_obj, DL.ty_str, DL.ty_lst, DL.append_obj, DL.pop_obj, DL.set_obj, DL.ixN_3_2, DL.tuple_obj, DL.tuple_lst, DL.list_tup, DL.list_lst, DL.sl_str, DL.sl_tup, DL.sl_lst, DL.rev_tup, DL.revM_lst, DL.sum_lst, DL.put_same, DL.startD, DL.pick, List.map_cons, List.map_nil, List.replicate, List.cons_append, List.nil_append, List.append_nil, List.length_cons, List.length_nil, List.getElem?_cons_zero, List.getElem?_cons_succ, List.set_cons_zero, List.set_cons_succ, List.filterMap_cons, List.filterMap_nil, Nat.zero_add, Nat.add_zero, Nat.reduceAdd, Nat.reduceSub, true_and, and_true, id_eq, if_true, if_false, Bool.false_eq_true, Bool.not_true, Bool.not_false, DL.x_idx, DL.rev_obj, DL.wipeD, DL.x_addM, DL.x_addMl, DL.x_isi, DL.ty_nonM, DL.ty_blM, DL.ty_intM, DL.ty_strM, DL.ty_tupM, DL.ty_lstM, DL.ty_dctM, DL.kb_non_str, DL.kb_non_int, DL.kb_non_bool, DL.kb_non_tuple, DL.kb_non_list, DL.kb_non_dict, DL.kb_bl_str, DL.kb_bl_int, DL.kb_bl_bool, DL.kb_bl_tuple, DL.kb_bl_list, DL.kb_bl_dict, DL.kb_int_str, DL.kb_int_int, DL.kb_int_bool, DL.kb_int_tuple, DL.kb_int_list, DL.kb_int_dict, DL.kb_str_str, DL.kb_str_int, DL.kb_str_bool, DL.kb_str_tuple, DL.kb_str_list, DL.kb_str_dict, DL.kb_tup_str, DL.kb_tup_int, DL.kb_tup_bool, DL.kb_tup_tuple, DL.kb_tup_list, DL.kb_tup_dict, DL.kb_lst_str, DL.kb_lst_int, DL.kb_lst_bool, DL.kb_lst_tuple, DL.kb_lst_list, DL.kb_lst_dict, DL.kb_dct_str, DL.kb_dct_int, DL.kb_dct_bool, DL.kb_dct_tuple, DL.kb_dct_list, DL.kb_dct_dict, DL.isNon_bl, DL.isNon_lst, DL.isNon_dct, DL.x_tOf, DL.x_tOfE, DL.x_chain, DL.x_kix, DL.x_kin, DL.x_kgt, DL.x_allL, DL.x_anyL, DL.x_istr, DL.x_dgetO, DL.x_dgetS, DL.x_dgetI, DL.x_gdix, DL.x_dset, DL.x_popAt, DL.x_insert, DL.ty_dct, DL.x_getS1, DL.x_getI1, DL.x_getS2, DL.x_getI2, DL.x_pnil, DL.x_pcons, DL.x_disM, DL.x_dis0M, DL.x_listM, DL.x_listMT, DL.x_gst, DL.x_mulS, DL.x_mulL, DL.x_dict, DL.onM_md, DL.onS_str, DL.kfind_nil, DL.kfind_cons, DL.lit_beq, DL.x_iseq, DL.onIt_lst, DL.onIt_tup, DL.sl_obj, DL.x_rg1, DL.valD_nil, DL.valD_cons, DL.key_rr, DL.key_ll, DL.key_lr, DL.key_rl, String.reduceBEq, Option.isSome_some, Option.isSome_none, Option.getD_some, Option.getD_none, Bool.true_and, Bool.and_true, Bool.false_and, Bool.and_false, Bool.or_false, Bool.false_or, Bool.or_true, Bool.true_or, beq_self_eq_true, DL.x_addBb, DL.x_addBi, DL.x_addBs, DL.x_addBt, DL.x_addBl, DL.x_subBb, DL.x_subBib, DL.x_subBi, DL.x_mulBb, DL.x_mulBi, DL.x_strI, DL.x_strB, DL.x_up, DL.x_eqT, DL.x_eqL, at_d hxi, at_d hyi]
    refine rank_w ox ?_
    walk_at "go"
    refine rank_w oy ?_
    walk_at "go"
    by_cases hr : rank xs[i] = rank ys[i]
    · rw [if_pos hr] at hc
      simp only [decide_eq_true hr, DL.x_bnd, DL.x_ret, DL.x_req, DL.x_get, DL.x_opt, DL.x_seq, DL.x_on, DL.x_or, DL.x_ob, DL.x_oc, DL.x_nil, DL.x_rt, DL.x_rtN, DL.x_drop, DL.x_break, DL.x_cont, DL.x_if, DL.x_ift, DL.x_iff, DL.x_set, DL.x_asg, DL.x_par2, DL.x_par3, DL.x_for, DL.x_v0, DL.x_vS, DL.x_c, DL.x_bin, DL.x_un, DL.x_tbin, DL.x_tru, DL.x_trb, DL.x_not, DL.x_tand, DL.x_tor, DL.x_and, DL.x_orE, DL.x_notE, DL.x_ifE, DL.x_tup, DL.x_lst, DL.x_lstM, DL.x_anil, DL.x_acons, DL.x_call, DL.x_callD, DL.x_callK, DL.x_meth, DL.x_sl, DL.x_oN, DL.x_oS, DL.x_gn, DL.x_gt, DL.x_gc, DL.x_g0, DL.x_gi, DL.x_body, DL.x_yes, DL.x_add, DL.x_addS, DL.x_addT, DL.x_addL, DL.x_sub, DL.x_mul, DL.x_div, DL.x_mod, DL.x_pow, DL.x_neg, DL.x_cmp, DL.x_cmpS, DL.x_isN, DL.x_mmL, DL.x_mm2, DL.x_eqS, DL.x_eqI, DL.x_intb, DL.onB_bl, DL.onI_int, DL.onO_nx, DL.onO_rt, DL.onL_ml, DL.addD_ol, DL.isNon_non, DL.isNon_int, DL.isNon_str, DL.isNon_tup, DL.ix_tup, DL.ix_lst, DL.ix_str, DL.ix_obj, DL.atI_0, DL.atI_1, DL.atI_2, DL.atI_3, DL.len_tup, DL.len_lst, DL.len_str, DL.len_obj, DL.ty_obj, DL.ty_str, DL.ty_lst, DL.append_obj, DL.pop_obj, DL.set_obj, DL.ixN_3_2, DL.tuple_obj, DL.tuple_lst, DL.list_tup, DL.list_lst, DL.sl_str, DL.sl_tup, DL.sl_lst, DL.rev_tup, DL.revM_lst, DL.sum_lst, DL.put_same, DL.startD, DL.pick, List.map_cons, List.map_nil, List.replicate, List.cons_append, List.nil_append, List.append_nil, List.length_cons, List.length_nil, List.getElem?_cons_zero, List.getElem?_cons_succ, List.set_cons_zero, List.set_cons_succ, List.filterMap_cons, List.filterMap_nil, Nat.zero_add, Nat.add_zero, Nat.reduceAdd, Nat.reduceSub, true_and, and_true, id_eq, if_true, if_false, Bool.false_eq_true, Bool.not_true, Bool.not_false, DL.x_idx, DL.rev_obj, DL.wipeD, DL.x_addM, DL.x_addMl, DL.x_isi, DL.ty_nonM, DL.ty_blM, DL.ty_intM, DL.ty_strM, DL.ty_tupM, DL.ty_lstM, DL.ty_dctM, DL.kb_non_str, DL.kb_non_int, DL.kb_non_bool, DL.kb_non_tuple, DL.kb_non_list, DL.kb_non_dict, DL.kb_bl_str, DL.kb_bl_int, DL.kb_bl_bool, DL.kb_bl_tuple, DL.kb_bl_list, DL.kb_bl_dict, DL.kb_int_str, DL.kb_int_int, DL.kb_int_bool, DL.kb_int_tuple, DL.kb_int_list, DL.kb_int_dict, DL.kb_str_str, DL.kb_str_int, DL.kb_str_bool, DL.kb_str_tuple, DL.kb_str_list, DL.kb_str_dict, DL.kb_tup_str, DL.kb_tup_int, DL.kb_tup_bool, DL.kb_tup_tuple, DL.kb_tup_list, DL.kb_tup_dict, DL.kb_lst_str, DL.kb_lst_int, DL.kb_lst_bool, DL.kb_lst_tuple, DL.kb_lst_list, DL.kb_lst_dict, DL.kb_dct_str, DL.kb_dct_int, DL.kb_dct_bool, DL.kb_dct_tuple, DL.kb_dct_list, DL.kb_dct_dict, DL.isNon_bl, DL.isNon_lst, DL.isNon_dct, DL.x_tOf, DL.x_tOfE, DL.x_chain, DL.x_kix, DL.x_kin, DL.x_kgt, DL.x_allL, DL.x_anyL, DL.x_istr, DL.x_dgetO, DL.x_dgetS, DL.x_dgetI, DL.x_gdix, DL.x_dset, DL.x_popAt, DL.x_insert, DL.ty_dct, DL.x_getS1, DL.x_getI1, DL.x_getS2, DL.x_getI2, DL.x_pnil, DL.x_pcons, DL.x_disM, DL.x_dis0M, DL.x_listM, DL.x_listMT, DL.x_gst, DL.x_mulS, DL.x_mulL, DL.x_dict, DL.onM_md, DL.onS_str, DL.kfind_nil, DL.kfind_cons, DL.lit_beq, DL.x_iseq, DL.onIt_lst, DL.onIt_tup, DL.sl_obj, DL.x_rg1, DL.valD_nil, DL.valD_cons, DL.key_rr, DL.key_ll, DL.key_lr, DL.key_rl, String.reduceBEq, Option.isSome_some, Option.isSome_none, Option.getD_some, Option.getD_none, Bool.true_and, Bool.and_true, Bool.false_and, Bool.and_false, Bool.or_false, Bool.false_or, Bool.or_true, Bool.true_or, beq_self_eq_true, DL.x_addBb, DL.x_addBi, DL.x_addBs, DL.x_addBt, DL.x_addBl, DL.x_subBb, DL.x_subBib, DL.x_subBi, DL.x_mulBb, DL.x_mulBi, DL.x_strI, DL.x_strB, DL.x_up, DL.x_eqT, DL.x_eqL]
      refine eqA_ok ox oy hr ?_
      walk_at "go"
      cases hb : eqB xs[i] ys[i] with
      | true =>
        rw [hb, if_pos rfl] at hc
        simp only [DL.x_bnd, DL.x_ret, DL.x_req, DL.x_get, DL.x_opt, DL.x_seq, DL.x_on, DL.x_or, DL.x_ob, DL.x_oc, DL.x_nil, DL.x_rt, DL.x_rtN, DL.x_drop, DL.x_break, DL.x_cont, DL.x_if, DL.x_ift, DL.x_iff, DL.x_set, DL.x_asg, DL.x_par2, DL.x_par3, DL.x_for, DL.x_v0, DL.x_vS, DL.x_c, DL.x_bin, DL.x_un, DL.x_tbin, DL.x_tru, DL.x_trb, DL.x_not, DL.x_tand, DL.x_tor, DL.x_and, DL.x_orE, DL.x_notE, DL.x_ifE, DL.x_tup, DL.x_lst, DL.x_lstM, DL.x_anil, DL.x_acons, DL.x_call, DL.x_callD, DL.x_callK, DL.x_meth, DL.x_sl, DL.x_oN, DL.x_oS, DL.x_gn, DL.x_gt, DL.x_gc, DL.x_g0, DL.x_gi, DL.x_body, DL.x_yes, DL.x_add, DL.x_addS, DL.x_addT, DL.x_addL, DL.x_sub, DL.x_mul, DL.x_div, DL.x_mod, DL.x_pow, DL.x_neg, DL.x_cmp, DL.x_cmpS, DL.x_isN, DL.x_mmL, DL.x_mm2, DL.x_eqS, DL.x_eqI, DL.x_intb, DL.onB_bl, DL.onI_int, DL.onO_nx, DL.onO_rt, DL.onL_ml, DL.addD_ol, DL.isNon_non, DL.isNon_int, DL.isNon_str, DL.isNon_tup, DL.ix_tup, DL.ix_lst, DL.ix_str, DL.ix_obj, DL.atI_0, DL.atI_1, DL.atI_2, DL.atI_3, DL.len_tup, DL.len_lst, DL.len_str, DL.len_obj, DL.ty_obj, DL.ty_str, DL.ty_lst, DL.append_obj, DL.pop_obj, DL.set_obj, DL.ixN_3_2, DL.tuple_obj, DL.tuple_lst, DL.list_tup, DL.list_lst, DL.sl_str, DL.sl_tup, DL.sl_lst, DL.rev_tup, DL.revM_lst, DL.sum_lst, DL.put_same, DL.startD, DL.pick, List.map_cons, List.map_nil, List.replicate, List.cons_append, List.nil_append, List.append_nil, List.length_cons, List.length_nil, List.getElem?_cons_zero, List.getElem?_cons_succ, List.set_cons_zero, List.set_cons_succ, List.filterMap_cons, List.filterMap_nil, Nat.zero_add, Nat.add_zero, Nat.reduceAdd, Nat.reduceSub, true_and, and_true, id_eq, if_true, if_false, Bool.false_eq_true, Bool.not_true, Bool.not_false, DL.x_idx, DL.rev_obj, DL.wipeD, DL.x_addM, DL.x_addMl, DL.x_isi, DL.ty_nonM, DL.ty_blM, DL.ty_intM, DL.ty_strM, DL.ty_tupM, DL.ty_lstM, DL.ty_dctM, DL.kb_non_str, DL.kb_non_int, DL.kb_non_bool, DL.kb_non_tuple, DL.kb_non_list, DL.kb_non_dict, DL.kb_bl_str, DL.kb_bl_int, DL.kb_bl_bool, DL.kb_bl_tuple, DL.kb_bl_list, DL.kb_bl_dict, DL.kb_int_str, DL.kb_int_int, DL.kb_int_bool, DL.kb_int_tuple, DL.kb_int_list, DL.kb_int_dict, DL.kb_str_str, DL.kb_str_int, DL.kb_str_bool, DL.kb_str_tuple, DL.kb_str_list, DL.kb_str_dict, DL.kb_tup_str, DL.kb_tup_int, DL.kb_tup_bool, DL.kb_tup_tuple, DL.kb_tup_list, DL.kb_tup_dict, DL.kb_lst_str, DL.kb_lst_int, DL.kb_lst_bool, DL.kb_lst_tuple, DL.kb_lst_list, DL.kb_lst_dict, DL.kb_dct_str, DL.kb_dct_int, DL.kb_dct_bool, DL.kb_dct_tuple, DL.kb_dct_list, DL.kb_dct_dict, DL.isNon_bl, DL.isNon_lst, DL.isNon_dct, DL.x_tOf, DL.x_tOfE, DL.x_chain, DL.x_kix, DL.x_kin, DL.x_kgt, DL.x_allL, DL.x_anyL, DL.x_istr, DL.x_dgetO, DL.x_dgetS, DL.x_dgetI, DL.x_gdix, DL.x_dset, DL.x_popAt, DL.x_insert, DL.ty_dct, DL.x_getS1, DL.x_getI1, DL.x_getS2, DL.x_getI2, DL.x_pnil, DL.x_pcons, DL.x_disM, DL.x_dis0M, DL.x_listM, DL.x_listMT, DL.x_gst, DL.x_mulS, DL.x_mulL, DL.x_dict, DL.onM_md, DL.onS_str, DL.kfind_nil, DL.kfind_cons, DL.lit_beq, DL.x_iseq, DL.onIt_lst, DL.onIt_tup, DL.sl_obj, DL.x_rg1, DL.valD_nil, DL.valD_cons, DL.key_rr, DL.key_ll, DL.key_lr, DL.key_rl, String.reduceBEq, Option.isSome_some, Option.isSome_none, Option.getD_some, Option.getD_none, Bool.true_and, Bool.and_true, Bool.false_and, Bool.and_false, Bool.or_false, Bool.false_or, Bool.or_true, Bool.true_or, beq_self_eq_true, DL.x_addBb, DL.x_addBi, DL.x_addBs, DL.x_addBt, DL.x_addBl, DL.x_subBb, DL.x_subBib, DL.x_subBi, DL.x_mulBb, DL.x_mulBi, DL.x_strI, DL.x_strB, DL.x_up, DL.x_eqT, DL.x_eqL]
        exact hR _ _ ⟨_, rfl, rfl, hlt, hc⟩
      | false =>
        rw [hb, if_neg (by decide)] at hc
        simp only [DL.x_bnd, DL.x_ret, DL.x_req, DL.x_get, DL.x_opt, DL.x_seq, DL.x_on, DL.x_or, DL.x_ob, DL.x_oc, DL.x_nil, DL.x_rt, DL.x_rtN, DL.x_drop, DL.x_break, DL.x_cont, DL.x_if, DL.x_ift, DL.x_iff, DL.x_set, DL.x_asg, DL.x_par2, DL.x_par3, DL.x_for, DL.x_v0, DL.x_vS, DL.x_c, DL.x_bin, DL.x_un, DL.x_tbin, DL.x_tru, DL.x_trb, DL.x_not, DL.x_tand, DL.x_tor, DL.x_and, DL.x_orE, DL.x_notE, DL.x_ifE, DL.x_tup, DL.x_lst, DL.x_lstM, DL.x_anil, DL.x_acons, DL.x_call, DL.x_callD, DL.x_callK, DL.x_meth, DL.x_sl, DL.x_oN, DL.x_oS, DL.x_gn, DL.x_gt, DL.x_gc, DL.x_g0, DL.x_gi, DL.x_body, DL.x_yes, DL.x_add, DL.x_addS, DL.x_addT, DL.x_addL, DL.x_sub, DL.x_mul, DL.x_div, DL.x_mod, DL.x_pow, DL.x_neg, DL.x_cmp, DL.x_cmpS, DL.x_isN, DL.x_mmL, DL.x_mm2, DL.x_eqS, DL.x_eqI, DL.x_intb, DL.onB_bl, DL.onI_int, DL.onO_nx, DL.onO_rt, DL.onL_ml, DL.addD_ol, DL.isNon_non, DL.isNon_int, DL.isNon_str, DL.isNon_tup, DL.ix_tup, DL.ix_lst, DL.ix_str, DL.ix_obj, DL.atI_0, DL.atI_1, DL.atI_2, DL.atI_3, DL.len_tup, DL.len_lst, DL.len_str, DL.len_obj, DL.ty_obj, DL.ty_str, DL.ty_lst, DL.append_obj, DL.pop_obj, DL.set_obj, DL.ixN_3_2, DL.tuple_obj, DL.tuple_lst, DL.list_tup, DL.list_lst, DL.sl_str, DL.sl_tup, DL.sl_lst, DL.rev_tup, DL.revM_lst, DL.sum_lst, DL.put_same, DL.startD, DL.pick, List.map_cons, List.map_nil, List.replicate, List.cons_append, List.nil_append, List.append_nil, List.length_cons, List.length_nil, List.getElem?_cons_zero, List.getElem?_cons_succ, List.set_cons_zero, List.set_cons_succ, List.filterMap_cons, List.filterMap_nil, Nat.zero_add, Nat.add_zero, Nat.reduceAdd, Nat.reduceSub, true_and, and_true, id_eq, if_true, if_false, Bool.false_eq_true, Bool.not_true, Bool.not_false, DL.x_idx, DL.rev_obj, DL.wipeD, DL.x_addM, DL.x_addMl, DL.x_isi, DL.ty_nonM, DL.ty_blM, DL.ty_intM, DL.ty_strM, DL.ty_tupM, DL.ty_lstM, DL.ty_dctM, DL.kb_non_str, DL.kb_non_int, DL.kb_non_bool, DL.kb_non_tuple, DL.kb_non_list, DL.kb_non_dict, DL.kb_bl_str, DL.kb_bl_int, DL.kb_bl_bool, DL.kb_bl_tuple, DL.kb_bl_list, DL.kb_bl_dict, DL.kb_int_str, DL.kb_int_int, DL.kb_int_bool, DL.kb_int_tuple, DL.kb_int_list, DL.kb_int_dict, DL.kb_str_str, DL.kb_str_int, DL.kb_str_bool, DL.kb_str_tuple, DL.kb_str_list, DL.kb_str_dict, DL.kb_tup_str, DL.kb_tup_int, DL.kb_tup_bool, DL.kb_tup_tuple, DL.kb_tup_list, DL.kb_tup_dict, DL.kb_lst_str, DL.kb_lst_int, DL.kb_lst_bool, DL.kb_lst_tuple, DL.kb_lst_list, DL.kb_lst_dict, DL.kb_dct_str, DL.kb_dct_int, DL.kb_dct_bool, DL.kb_dct_tuple, DL.kb_dct_list, DL.kb_dct_dict, DL.isNon_bl, DL.isNon_lst, DL.isNon_dct, DL.x_tOf, DL.x_tOfE, DL.x_chain, DL.x_kix, DL.x_kin, DL.x_kgt, DL.x_allL, DL.x_anyL, DL.x_istr, DL.x_dgetO, DL.x_dgetS, DL.x_dgetI, DL.x_gdix, DL.x_dset, DL.x_popAt, DL.x_insert, DL.ty_dct, DL.x_getS1, DL.x_getI1, DL.x_getS2, DL.x_getI2, DL.x_pnil, DL.x_pcons, DL.x_disM, DL.x_dis0M, DL.x_listM, DL.x_listMT, DL.x_gst, DL.x_mulS, DL.x_mulL, DL.x_dict, DL.onM_md, DL.onS_str, DL.kfind_nil, DL.kfind_cons, DL.lit_beq, DL.x_iseq, DL.onIt_lst, DL.onIt_tup, DL.sl_obj, DL.x_rg1, DL.valD_nil, DL.valD_cons, DL.key_rr, DL.key_ll, DL.key_lr, DL.key_rl, String.reduceBEq, Option.isSome_some, Option.isSome_none, Option.getD_some, Option.getD_none, Bool.true_and, Bool.and_true, Bool.false_and, Bool.and_false, Bool.or_false, Bool.false_or, Bool.or_true, Bool.true_or, beq_self_eq_true, DL.x_addBb, DL.x_addBi, DL.x_addBs, DL.x_addBt, DL.x_addBl, DL.x_subBb, DL.x_subBib, DL.x_subBi, DL.x_mulBb, DL.x_mulBi, DL.x_strI, DL.x_strB, DL.x_up, DL.x_eqT, DL.x_eqL]
        refine lt_ok ox oy hr hb ?_
        refine hRt _ _ ?_
        walk_at "go"
        rw [← hc]
        exact q
    · rw [if_neg hr] at hc
      simp only [decide_eq_false hr, DL.x_bnd, DL.x_ret, DL.x_req, DL.x_get, DL.x_opt, DL.x_seq, DL.x_on, DL.x_or, DL.x_ob, DL.x_oc, DL.x_nil, DL.x_rt, DL.x_rtN, DL.x_drop, DL.x_break, DL.x_cont, DL.x_if, DL.x_ift, DL.x_iff, DL.x_set, DL.x_asg, DL.x_par2, DL.x_par3, DL.x_for, DL.x_v0, DL.x_vS, DL.x_c, DL.x_bin, DL.x_un, DL.x_tbin, DL.x_tru, DL.x_trb, DL.x_not, DL.x_tand, DL.x_tor, DL.x_and, DL.x_orE, DL.x_notE, DL.x_ifE, DL.x_tup, DL.x_lst, DL.x_lstM, DL.x_anil, DL.x_acons, DL.x_call, DL.x_callD, DL.x_callK, DL.x_meth, DL.x_sl, DL.x_oN, DL.x_oS, DL.x_gn, DL.x_gt, DL.x_gc, DL.x_g0, DL.x_gi, DL.x_body, DL.x_yes, DL.x_add, DL.x_addS, DL.x_addT, DL.x_addL, DL.x_sub, DL.x_mul, DL.x_div, DL.x_mod, DL.x_pow, DL.x_neg, DL.x_cmp, DL.x_cmpS, DL.x_isN, DL.x_mmL, DL.x_mm2, DL.x_eqS, DL.x_eqI, DL.x_intb, DL.onB_bl, DL.onI_int, DL.onO_nx, DL.onO_rt, DL.onL_ml, DL.addD_ol, DL.isNon_non, DL.isNon_int, DL.isNon_str, DL.isNon_tup, DL.ix_tup, DL.ix_lst, DL.ix_str, DL.ix_obj, DL.atI_0, DL.atI_1, DL.atI_2, DL.atI_3, DL.len_tup, DL.len_lst, DL.len_str, DL.len_obj, DL.ty_obj, DL.ty_str, DL.ty_lst, DL.append_obj, DL.pop_obj, DL.set_obj, DL.ixN_3_2, DL.tuple_obj, DL.tuple_lst, DL.list_tup, DL.list_lst, DL.sl_str, DL.sl_tup, DL.sl_lst, DL.rev_tup, DL.revM_lst, DL.sum_lst, DL.put_same, DL.startD, DL.pick, List.map_cons, List.map_nil, List.replicate, List.cons_append, List.nil_append, List.append_nil, List.length_cons, List.length_nil, List.getElem?_cons_zero, List.getElem?_cons_succ, List.set_cons_zero, List.set_cons_succ, List.filterMap_cons, List.filterMap_nil, Nat.zero_add, Nat.add_zero, Nat.reduceAdd, Nat.reduceSub, true_and, and_true, id_eq, if_true, if_false, Bool.false_eq_true, Bool.not_true, Bool.not_false, DL.x_idx, DL.rev_obj, DL.wipeD, DL.x_addM, DL.x_addMl, DL.x_isi, DL.ty_nonM, DL.ty_blM, DL.ty_intM, DL.ty_strM, DL.ty_tupM, DL.ty_lstM, DL.ty_dctM, DL.kb_non_str, DL.kb_non_int, DL.kb_non_bool, DL.kb_non_tuple, DL.kb_non_list, DL.kb_non_dict, DL.kb_bl_str, DL.kb_bl_int, DL.kb_bl_bool, DL.kb_bl_tuple, DL.kb_bl_list, DL.kb_bl_dict, DL.kb_int_str, DL.kb_int_int, DL.kb_int_bool, DL.kb_int_tuple, DL.kb_int_list, DL.kb_int_dict, DL.kb_str_str, DL.kb_str_int, DL.kb_str_bool, DL.kb_str_tuple, DL.kb_str_list, DL.kb_str_dict, DL.kb_tup_str, DL.kb_tup_int, DL.kb_tup_bool, DL.kb_tup_tuple, DL.kb_tup_list, DL.kb_tup_dict, DL.kb_lst_str, DL.kb_lst_int, DL.kb_lst_bool, DL.kb_lst_tuple, DL.kb_lst_list, DL.kb_lst_dict, DL.kb_dct_str, DL.kb_dct_int, DL.kb_dct_bool, DL.kb_dct_tuple, DL.kb_dct_list, DL.kb_dct_dict, DL.isNon_bl, DL.isNon_lst, DL.isNon_dct, DL.x_tOf, DL.x_tOfE, DL.x_chain, DL.x_kix, DL.x_kin, DL.x_kgt, DL.x_allL, DL.x_anyL, DL.x_istr, DL.x_dgetO, DL.x_dgetS, DL.x_dgetI, DL.x_gdix, DL.x_dset, DL.x_popAt, DL.x_insert, DL.ty_dct, DL.x_getS1, DL.x_getI1, DL.x_getS2, DL.x_getI2, DL.x_pnil, DL.x_pcons, DL.x_disM, DL.x_dis0M, DL.x_listM, DL.x_listMT, DL.x_gst, DL.x_mulS, DL.x_mulL, DL.x_dict, DL.onM_md, DL.onS_str, DL.kfind_nil, DL.kfind_cons, DL.lit_beq, DL.x_iseq, DL.onIt_lst, DL.onIt_tup, DL.sl_obj, DL.x_rg1, DL.valD_nil, DL.valD_cons, DL.key_rr, DL.key_ll, DL.key_lr, DL.key_rl, String.reduceBEq, Option.isSome_some, Option.isSome_none, Option.getD_some, Option.getD_none, Bool.true_and, Bool.and_true, Bool.false_and, Bool.and_false, Bool.or_false, Bool.false_or, Bool.or_true, Bool.true_or, beq_self_eq_true, DL.x_addBb, DL.x_addBi, DL.x_addBs, DL.x_addBt, DL.x_addBl, DL.x_subBb, DL.x_subBib, DL.x_subBi, DL.x_mulBb, DL.x_mulBi, DL.x_strI, DL.x_strB, DL.x_up, DL.x_eqT, DL.x_eqL]
      (try simp only [at_d hxi, at_d hyi, DL.x_bnd, DL.x_ret, DL.x_req, DL.x_get, DL.x_opt, DL.x_seq, DL.x_on, DL.x_or, DL.x_ob, DL.x_oc, DL.x_nil, DL.x_rt, DL.x_rtN, DL.x_drop, DL.x_break, DL.x_cont, DL.x_if, DL.x_ift, DL.x_iff, DL.x_set, DL.x_asg, DL.x_par2, DL.x_par3, DL.x_for, DL.x_v0, DL.x_vS, DL.x_c, DL.x_bin, DL.x_un, DL.x_tbin, DL.x_tru, DL.x_trb, DL.x_not, DL.x_tand, DL.x_tor, DL.x_and, DL.x_orE, DL.x_notE, DL.x_ifE, DL.x_tup, DL.x_lst, DL.x_lstM, DL.x_anil, DL.x_acons, DL.x_call, DL.x_callD, DL.x_callK, DL.x_meth, DL.x_sl, DL.x_oN, DL.x_oS, DL.x_gn, DL.x_gt, DL.x_gc, DL.x_g0, DL.x_gi, DL.x_body, DL.x_yes, DL.x_add, DL.x_addS, DL.x_addT, DL.x_addL, DL.x_sub, DL.x_mul, DL.x_div, DL.x_mod, DL.x_pow, DL.x_neg, DL.x_cmp, DL.x_cmpS, DL.x_isN, DL.x_mmL, DL.x_mm2, DL.x_eqS, DL.x_eqI, DL.x_intb, DL.onB_bl, DL.onI_int, DL.onO_nx, DL.onO_rt, DL.onL_ml, DL.addD_ol, DL.isNon_non, DL.isNon_int, DL.isNon_str, DL.isNon_tup, DL.ix_tup, DL.ix_lst, DL.ix_str, DL.ix_obj, DL.atI_0, DL.atI_1, DL.atI_2, DL.atI_3, DL.len_tup, DL.len_lst, DL.len_str, DL.len_obj, DL.ty_obj, DL.ty_str, DL.ty_lst, DL.append_obj, DL.pop_obj, DL.set_obj, DL.ixN_3_2, DL.tuple_obj, DL.tuple_lst, DL.list_tup, DL.list_lst, DL.sl_str, DL.sl_tup, DL.sl_lst, DL.rev_tup, DL.revM_lst, DL.sum_lst, DL.put_same, DL.startD, DL.pick, List.map_cons, List.map_nil, List.replicate, List.cons_append, List.nil_append, List.append_nil, List.length_cons, List.length_nil, List.getElem?_cons_zero, List.getElem?_cons_succ, List.set_cons_zero, List.set_cons_succ, List.filterMap_cons, List.filterMap_nil, Nat.zero_add, Nat.add_zero, Nat.reduceAdd, Nat.reduceSub, true_and, and_true, id_eq, if_true, if_false, Bool.false_eq_true, Bool.not_true, Bool.not_false, DL.x_idx, DL.rev_obj, DL.wipeD, DL.x_addM, DL.x_addMl, DL.x_isi, DL.ty_nonM, DL.ty_blM, DL.ty_intM, DL.ty_strM, DL.ty_tupM, DL.ty_lstM, DL.ty_dctM, DL.kb_non_str, DL.kb_non_int, DL.kb_non_bool, DL.kb_non_tuple, DL.kb_non_list, DL.kb_non_dict, DL.kb_bl_str, DL.kb_bl_int, DL.kb_bl_bool, DL.kb_bl_tuple, DL.kb_bl_list, DL.kb_bl_dict, DL.kb_int_str, DL.kb_int_int, DL.kb_int_bool, DL.kb_int_tuple, DL.kb_int_list, DL.kb_int_dict, DL.kb_str_str, DL.kb_str_int, DL.kb_str_bool, DL.kb_str_tuple, DL.kb_str_list, DL.kb_str_dict, DL.kb_tup_str, DL.kb_tup_int, DL.kb_tup_bool, DL.kb_tup_tuple, DL.kb_tup_list, DL.kb_tup_dict, DL.kb_lst_str, DL.kb_lst_int, DL.kb_lst_bool, DL.kb_lst_tuple, DL.kb_lst_list, DL.kb_lst_dict, DL.kb_dct_str, DL.kb_dct_int, DL.kb_dct_bool, DL.kb_dct_tuple, DL.kb_dct_list, DL.kb_dct_dict, DL.isNon_bl, DL.isNon_lst, DL.isNon_dct, DL.x_tOf, DL.x_tOfE, DL.x_chain, DL.x_kix, DL.x_kin, DL.x_kgt, DL.x_allL, DL.x_anyL, DL.x_istr, DL.x_dgetO, DL.x_dgetS, DL.x_dgetI, DL.x_gdix, DL.x_dset, DL.x_popAt, DL.x_insert, DL.ty_dct, DL.x_getS1, DL.x_getI1, DL.x_getS2, DL.x_getI2, DL.x_pnil, DL.x_pcons, DL.x_disM, DL.x_dis0M, DL.x_listM, DL.x_listMT, DL.x_gst, DL.x_mulS, DL.x_mulL, DL.x_dict, DL.onM_md, DL.onS_str, DL.kfind_nil, DL.kfind_cons, DL.lit_beq, DL.x_iseq, DL.onIt_lst, DL.onIt_tup, DL.sl_obj, DL.x_rg1, DL.valD_nil, DL.valD_cons, DL.key_rr, DL.key_ll, DL.key_lr, DL.key_rl, String.reduceBEq, Option.isSome_some, Option.isSome_none, Option.getD_some, Option.getD_none, Bool.true_and, Bool.and_true, Bool.false_and, Bool.and_false, Bool.or_false, Bool.false_or, Bool.or_true, Bool.true_or, beq_self_eq_true, DL.x_addBb, DL.x_addBi, DL.x_addBs, DL.x_addBt, DL.x_addBl, DL.x_subBb, DL.x_subBib, DL.x_subBi, DL.x_mulBb, DL.x_mulBi, DL.x_strI, DL.x_strB, DL.x_up, DL.x_eqT, DL.x_eqL])
      refine rank_w ox ?_
      walk_at "go"
      refine rank_w oy ?_
      walk_at "go"
      refine hRt _ _ ?_
      walk_at "go"
      rw [← hc]
      exact q
  · rintro ρ μ2 ⟨o2, rfl, rfl, hi, he⟩
    rw [rangeL_len] at he
    refine ⟨trivial, ?_⟩
    walk_at "go"
    have hn : xs.drop (min xs.length ys.length) = [] ∨ ys.drop (min xs.length ys.length) = [] := by
      rcases Nat.le_total xs.length ys.length with z | z
      · exact .inl (List.drop_of_length_le (by omega))
      · exact .inr (List.drop_of_length_le (by omega))
    rw [he, rlt_len hn, List.length_drop, List.length_drop] at q
    have ed : decide (((xs.length - min xs.length ys.length : Nat) : Int) < ((ys.length - min xs.length ys.length : Nat) : Int)) = decide ((xs.length : Int) < (ys.length : Int)) := by
      rw [Bool.eq_iff_iff, decide_eq_true_eq, decide_eq_true_eq]
      omega
    rw [ed] at q
    exact q
theorem due_w {ds : List D} {μ : Mem} {Q : D → Mem → Prop} {E : XD} (h : Rows ds) (hl : ds.length ≤ 40) (q : ∀ p o, μ p = none → Q (.tup (srt ds)) (put μ p o)) : m__law_due [.tup ds] μ Q E := by
  simp only [m__law_due, b__law_due, DL.x_bnd, DL.x_ret, DL.x_req, DL.x_get, DL.x_opt, DL.x_seq, DL.x_on, DL.x_or, DL.x_ob, DL.x_oc, DL.x_nil, DL.x_rt, DL.x_rtN, DL.x_drop, DL.x_break, DL.x_cont, DL.x_if, DL.x_ift, DL.x_iff, DL.x_set, DL.x_asg, DL.x_par2, DL.x_par3, DL.x_for, DL.x_v0, DL.x_vS, DL.x_c, DL.x_bin, DL.x_un, DL.x_tbin, DL.x_tru, DL.x_trb, DL.x_not, DL.x_tand, DL.x_tor, DL.x_and, DL.x_orE, DL.x_notE, DL.x_ifE, DL.x_tup, DL.x_lst, DL.x_lstM, DL.x_anil, DL.x_acons, DL.x_call, DL.x_callD, DL.x_callK, DL.x_meth, DL.x_sl, DL.x_oN, DL.x_oS, DL.x_gn, DL.x_gt, DL.x_gc, DL.x_g0, DL.x_gi, DL.x_body, DL.x_yes, DL.x_add, DL.x_addS, DL.x_addT, DL.x_addL, DL.x_sub, DL.x_mul, DL.x_div, DL.x_mod, DL.x_pow, DL.x_neg, DL.x_cmp, DL.x_cmpS, DL.x_isN, DL.x_mmL, DL.x_mm2, DL.x_eqS, DL.x_eqI, DL.x_intb, DL.onB_bl, DL.onI_int, DL.onO_nx, DL.onO_rt, DL.onL_ml, DL.addD_ol, DL.isNon_non, DL.isNon_int, DL.isNon_str, DL.isNon_tup, DL.ix_tup, DL.ix_lst, DL.ix_str, DL.ix_obj, DL.atI_0, DL.atI_1, DL.atI_2, DL.atI_3, DL.len_tup, DL.len_lst, DL.len_str, DL.len_obj, DL.ty_obj, DL.ty_str, DL.ty_lst, DL.append_obj, DL.pop_obj, DL.set_obj, DL.ixN_3_2, DL.tuple_obj, DL.tuple_lst, DL.list_tup, DL.list_lst, DL.sl_str, DL.sl_tup, DL.sl_lst, DL.rev_tup, DL.revM_lst, DL.sum_lst, DL.put_same, DL.startD, DL.pick, List.map_cons, List.map_nil, List.replicate, List.cons_append, List.nil_append, List.append_nil, List.length_cons, List.length_nil, List.getElem?_cons_zero, List.getElem?_cons_succ, List.set_cons_zero, List.set_cons_succ, List.filterMap_cons, List.filterMap_nil, Nat.zero_add, Nat.add_zero, Nat.reduceAdd, Nat.reduceSub, true_and, and_true, id_eq, if_true, if_false, Bool.false_eq_true, Bool.not_true, Bool.not_false, DL.x_idx, DL.rev_obj, DL.wipeD, DL.x_addM, DL.x_addMl, DL.x_isi, DL.ty_nonM, DL.ty_blM, DL.ty_intM, DL.ty_strM, DL.ty_tupM, DL.ty_lstM, DL.ty_dctM, DL.kb_non_str, DL.kb_non_int, DL.kb_non_bool, DL.kb_non_tuple, DL.kb_non_list, DL.kb_non_dict, DL.kb_bl_str, DL.kb_bl_int, DL.kb_bl_bool, DL.kb_bl_tuple, DL.kb_bl_list, DL.kb_bl_dict, DL.kb_int_str, DL.kb_int_int, DL.kb_int_bool, DL.kb_int_tuple, DL.kb_int_list, DL.kb_int_dict, DL.kb_str_str, DL.kb_str_int, DL.kb_str_bool, DL.kb_str_tuple, DL.kb_str_list, DL.kb_str_dict, DL.kb_tup_str, DL.kb_tup_int, DL.kb_tup_bool, DL.kb_tup_tuple, DL.kb_tup_list, DL.kb_tup_dict, DL.kb_lst_str, DL.kb_lst_int, DL.kb_lst_bool, DL.kb_lst_tuple, DL.kb_lst_list, DL.kb_lst_dict, DL.kb_dct_str, DL.kb_dct_int, DL.kb_dct_bool, DL.kb_dct_tuple, DL.kb_dct_list, DL.kb_dct_dict, DL.isNon_bl, DL.isNon_lst, DL.isNon_dct, DL.x_tOf, DL.x_tOfE, DL.x_chain, DL.x_kix, DL.x_kin, DL.x_kgt, DL.x_allL, DL.x_anyL, DL.x_istr, DL.x_dgetO, DL.x_dgetS, DL.x_dgetI, DL.x_gdix, DL.x_dset, DL.x_popAt, DL.x_insert, DL.ty_dct, DL.x_getS1, DL.x_getI1, DL.x_getS2, DL.x_getI2, DL.x_pnil, DL.x_pcons, DL.x_disM, DL.x_dis0M, DL.x_listM, DL.x_listMT, DL.x_gst, DL.x_mulS, DL.x_mulL, DL.x_dict, DL.onM_md, DL.onS_str, DL.kfind_nil, DL.kfind_cons, DL.lit_beq, DL.x_iseq, DL.onIt_lst, DL.onIt_tup, DL.sl_obj, DL.x_rg1, DL.valD_nil, DL.valD_cons, DL.key_rr, DL.key_ll, DL.key_lr, DL.key_rl, String.reduceBEq, Option.isSome_some, Option.isSome_none, Option.getD_some, Option.getD_none, Bool.true_and, Bool.and_true, Bool.false_and, Bool.and_false, Bool.or_false, Bool.false_or, Bool.or_true, Bool.true_or, beq_self_eq_true, DL.x_addBb, DL.x_addBi, DL.x_addBs, DL.x_addBt, DL.x_addBl, DL.x_subBb, DL.x_subBib, DL.x_subBi, DL.x_mulBb, DL.x_mulBi, DL.x_strI, DL.x_strB, DL.x_up, DL.x_eqT, DL.x_eqL]
  refine ⟨(by walk_at "side"), ?_⟩
  intro p hp
  walk_at "go"
  refine for_w (fun i ρ μ' => ∃ l o2 o3, ρ = [some (.tup ds), some (.obj p), o2, o3, none] ∧ μ' = put μ p (.ml l) ∧ i ≤ ds.length ∧ l.length = i ∧ l.Perm (ds.take i) ∧ l.Pairwise (fun x y => keyLe kf x y = true)) ds ?_ ?_ _ _ ⟨[], none, none, rfl, rfl, Nat.zero_le _, rfl, by simp, List.Pairwise.nil⟩
  · rintro i v ρ μ2 R hv ⟨l, o2, o3, rfl, rfl, hi, hll, hlp, hpw⟩ hR _
    have hlt : i < ds.length := (List.getElem?_eq_some_iff.mp hv).1
    have hvm : v ∈ ds := List.mem_of_getElem? hv
    have hlr : Rows l := Rows.of (fun d hd => h d (List.mem_of_mem_take hd)) hlp
    obtain ⟨vs, rfl, rv⟩ := h v hvm
    refine ⟨trivial, ?_⟩
    walk_at "go"
    refine elc_nm (items := l) (chk := fun μ' => μ' p = some (.ml l)) (fun o => keyLe kf o (.tup vs)) id (fun R h => ?_) (by rw [sz_eq]; omega) (fun p2 acc hp2 => ?_) (fun x hx p2 acc hp2 R hR => ?_) (fun x hx _ p2 acc hp2 R hR => ?_) ?_
    · simp only [DL.x_bnd, DL.x_ret, DL.x_req, DL.x_get, DL.x_opt, DL.x_seq, DL.x_on, DL.x_or, DL.x_ob, DL.x_oc, DL.x_nil, DL.x_rt, DL.x_rtN, DL.x_drop, DL.x_break, DL.x_cont, DL.x_if, DL.x_ift, DL.x_iff, DL.x_set, DL.x_asg, DL.x_par2, DL.x_par3, DL.x_for, DL.x_v0, DL.x_vS, DL.x_c, DL.x_bin, DL.x_un, DL.x_tbin, DL.x_tru, DL.x_trb, DL.x_not, DL.x_tand, DL.x_tor, DL.x_and, DL.x_orE, DL.x_notE, DL.x_ifE, DL.x_tup, DL.x_lst, DL.x_lstM, DL.x_anil, DL.x_acons, DL.x_call, DL.x_callD, DL.x_callK, DL.x_meth, DL.x_sl, DL.x_oN, DL.x_oS, DL.x_gn, DL.x_gt, DL.x_gc, DL.x_g0, DL.x_gi, DL.x_body, DL.x_yes, DL.x_add, DL.x_addS, DL.x_addT, DL.x_addL, DL.x_sub, DL.x_mul, DL.x_div, DL.x_mod, DL.x_pow, DL.x_neg, DL.x_cmp, DL.x_cmpS, DL.x_isN, DL.x_mmL, DL.x_mm2, DL.x_eqS, DL.x_eqI, DL.x_intb, DL.onB_bl, DL.onI_int, DL.onO_nx, DL.onO_rt, DL.onL_ml, DL.addD_ol, DL.isNon_non, DL.isNon_int, DL.isNon_str, DL.isNon_tup, DL.ix_tup, DL.ix_lst, DL.ix_str, DL.ix_obj, DL.atI_0, DL.atI_1, DL.atI_2, DL.atI_3, DL.len_tup, DL.len_lst, DL.len_str, DL.len_obj, DL.ty_obj, DL.ty_str, DL.ty_lst, DL.append_obj, DL.pop_obj, DL.set_obj, DL.ixN_3_2, DL.tuple_obj, DL.tuple_lst, DL.list_tup, DL.list_lst, DL.sl_str, DL.sl_tup, DL.sl_lst, DL.rev_tup, DL.revM_lst, DL.sum_lst, DL.put_same, DL.startD, DL.pick, List.map_cons, List.map_nil, List.replicate, List.cons_append, List.nil_append, List.append_nil, List.length_cons, List.length_nil, List.getElem?_cons_zero, List.getElem?_cons_succ, List.set_cons_zero, List.set_cons_succ, List.filterMap_cons, List.filterMap_nil, Nat.zero_add, Nat.add_zero, Nat.reduceAdd, Nat.reduceSub, true_and, and_true, id_eq, if_true, if_false, Bool.false_eq_true, Bool.not_true, Bool.not_false, DL.x_idx, DL.rev_obj, DL.wipeD, DL.x_addM, DL.x_addMl, DL.x_isi, DL.ty_nonM, DL.ty_blM, DL.ty_intM, DL.ty_strM, DL.ty_tupM, DL.ty_lstM, DL.ty_dctM, DL.kb_non_str, DL.kb_non_int, DL.kb_non_bool, DL.kb_non_tuple, DL.kb_non_list, DL.kb_non_dict, DL.kb_bl_str, DL.kb_bl_int, DL.kb_bl_bool, DL.kb_bl_tuple, DL.kb_bl_list, DL.kb_bl_dict, DL.kb_int_str, DL.kb_int_int, DL.kb_int_bool, DL.kb_int_tuple, DL.kb_int_list, DL.kb_int_dict, DL.kb_str_str, DL.kb_str_int, DL.kb_str_bool, DL.kb_str_tuple, DL.kb_str_list, DL.kb_str_dict, DL.kb_tup_str, DL.kb_tup_int, DL.kb_tup_bool, DL.kb_tup_tuple, DL.kb_tup_list, DL.kb_tup_dict, DL.kb_lst_str, DL.kb_lst_int, DL.kb_lst_bool, DL.kb_lst_tuple, DL.kb_lst_list, DL.kb_lst_dict, DL.kb_dct_str, DL.kb_dct_int, DL.kb_dct_bool, DL.kb_dct_tuple, DL.kb_dct_list, DL.kb_dct_dict, DL.isNon_bl, DL.isNon_lst, DL.isNon_dct, DL.x_tOf, DL.x_tOfE, DL.x_chain, DL.x_kix, DL.x_kin, DL.x_kgt, DL.x_allL, DL.x_anyL, DL.x_istr, DL.x_dgetO, DL.x_dgetS, DL.x_dgetI, DL.x_gdix, DL.x_dset, DL.x_popAt, DL.x_insert, DL.ty_dct, DL.x_getS1, DL.x_getI1, DL.x_getS2, DL.x_getI2, DL.x_pnil, DL.x_pcons, DL.x_disM, DL.x_dis0M, DL.x_listM, DL.x_listMT, DL.x_gst, DL.x_mulS, DL.x_mulL, DL.x_dict, DL.onM_md, DL.onS_str, DL.kfind_nil, DL.kfind_cons, DL.lit_beq, DL.x_iseq, DL.onIt_lst, DL.onIt_tup, DL.sl_obj, DL.x_rg1, DL.valD_nil, DL.valD_cons, DL.key_rr, DL.key_ll, DL.key_lr, DL.key_rl, String.reduceBEq, Option.isSome_some, Option.isSome_none, Option.getD_some, Option.getD_none, Bool.true_and, Bool.and_true, Bool.false_and, Bool.and_false, Bool.or_false, Bool.false_or, Bool.or_true, Bool.true_or, beq_self_eq_true, DL.x_addBb, DL.x_addBi, DL.x_addBs, DL.x_addBt, DL.x_addBl, DL.x_subBb, DL.x_subBib, DL.x_subBi, DL.x_mulBb, DL.x_mulBi, DL.x_strI, DL.x_strB, DL.x_up, DL.x_eqT, DL.x_eqL, onIt_obj, put_same]
      exact h
    · rw [put_ne (by intro e; rw [← e, put_same] at hp2; cases hp2), put_same]
    · obtain ⟨xs, rfl, rx⟩ := hlr x hx
      simp only [DL.x_bnd, DL.x_ret, DL.x_req, DL.x_get, DL.x_opt, DL.x_seq, DL.x_on, DL.x_or, DL.x_ob, DL.x_oc, DL.x_nil, DL.x_rt, DL.x_rtN, DL.x_drop, DL.x_break, DL.x_cont, DL.x_if, DL.x_ift, DL.x_iff, DL.x_set, DL.x_asg, DL.x_par2, DL.x_par3, DL.x_for, DL.x_v0, DL.x_vS, DL.x_c, DL.x_bin, DL.x_un, DL.x_tbin, DL.x_tru, DL.x_trb, DL.x_not, DL.x_tand, DL.x_tor, DL.x_and, DL.x_orE, DL.x_notE, DL.x_ifE, DL.x_tup, DL.x_lst, DL.x_lstM, DL.x_anil, DL.x_acons, DL.x_call, DL.x_callD, DL.x_callK, DL.x_meth, DL.x_sl, DL.x_oN, DL.x_oS, DL.x_gn, DL.x_gt, DL.x_gc, DL.x_g0, DL.x_gi, DL.x_body, DL.x_yes, DL.x_add, DL.x_addS, DL.x_addT, DL.x_addL, DL.x_sub, DL.x_mul, DL.x_div, DL.x_mod, DL.x_pow, DL.x_neg, DL.x_cmp, DL.x_cmpS, DL.x_isN, DL.x_mmL, DL.x_mm2, DL.x_eqS, DL.x_eqI, DL.x_intb, DL.onB_bl, DL.onI_int, DL.onO_nx, DL.onO_rt, DL.onL_ml, DL.addD_ol, DL.isNon_non, DL.isNon_int, DL.isNon_str, DL.isNon_tup, DL.ix_tup, DL.ix_lst, DL.ix_str, DL.ix_obj, DL.atI_0, DL.atI_1, DL.atI_2, DL.atI_3, DL.len_tup, DL.len_lst, DL.len_str, DL.len_obj, DL.ty_obj, DL.ty_str, DL.ty_lst, DL.append_obj, DL.pop_obj, DL.set_obj, DL.ixN_3_2, DL.tuple_obj, DL.tuple_lst, DL.list_tup, DL.list_lst, DL.sl_str, DL.sl_tup, DL.sl_lst, DL.rev_tup, DL.revM_lst, DL.sum_lst, DL.put_same, DL.startD, DL.pick, List.map_cons, List.map_nil, List.replicate, List.cons_append, List.nil_append, List.append_nil, List.length_cons, List.length_nil, List.getElem?_cons_zero, List.getElem?_cons_succ, List.set_cons_zero, List.set_cons_succ, List.filterMap_cons, List.filterMap_nil, Nat.zero_add, Nat.add_zero, Nat.reduceAdd, Nat.reduceSub, true_and, and_true, id_eq, if_true, if_false, Bool.false_eq_true, Bool.not_true, Bool.not_false, DL.x_idx, DL.rev_obj, DL.wipeD, DL.x_addM, DL.x_addMl, DL.x_isi, DL.ty_nonM, DL.ty_blM, DL.ty_intM, DL.ty_strM, DL.ty_tupM, DL.ty_lstM, DL.ty_dctM, DL.kb_non_str, DL.kb_non_int, DL.kb_non_bool, DL.kb_non_tuple, DL.kb_non_list, DL.kb_non_dict, DL.kb_bl_str, DL.kb_bl_int, DL.kb_bl_bool, DL.kb_bl_tuple, DL.kb_bl_list, DL.kb_bl_dict, DL.kb_int_str, DL.kb_int_int, DL.kb_int_bool, DL.kb_int_tuple, DL.kb_int_list, DL.kb_int_dict, DL.kb_str_str, DL.kb_str_int, DL.kb_str_bool, DL.kb_str_tuple, DL.kb_str_list, DL.kb_str_dict, DL.kb_tup_str, DL.kb_tup_int, DL.kb_tup_bool, DL.kb_tup_tuple, DL.kb_tup_list, DL.kb_tup_dict, DL.kb_lst_str, DL.kb_lst_int, DL.kb_lst_bool, DL.kb_lst_tuple, DL.kb_lst_list, DL.kb_lst_dict, DL.kb_dct_str, DL.kb_dct_int, DL.kb_dct_bool, DL.kb_dct_tuple, DL.kb_dct_list, DL.kb_dct_dict, DL.isNon_bl, DL.isNon_lst, DL.isNon_dct, DL.x_tOf, DL.x_tOfE, DL.x_chain, DL.x_kix, DL.x_kin, DL.x_kgt, DL.x_allL, DL.x_anyL, DL.x_istr, DL.x_dgetO, DL.x_dgetS, DL.x_dgetI, DL.x_gdix, DL.x_dset, DL.x_popAt, DL.x_insert, DL.ty_dct, DL.x_getS1, DL.x_getI1, DL.x_getS2, DL.x_getI2, DL.x_pnil, DL.x_pcons, DL.x_disM, DL.x_dis0M, DL.x_listM, DL.x_listMT, DL.x_gst, DL.x_mulS, DL.x_mulL, DL.x_dict, DL.onM_md, DL.onS_str, DL.kfind_nil, DL.kfind_cons, DL.lit_beq, DL.x_iseq, DL.onIt_lst, DL.onIt_tup, DL.sl_obj, DL.x_rg1, DL.valD_nil, DL.valD_cons, DL.key_rr, DL.key_ll, DL.key_lr, DL.key_rl, String.reduceBEq, Option.isSome_some, Option.isSome_none, Option.getD_some, Option.getD_none, Bool.true_and, Bool.and_true, Bool.false_and, Bool.and_false, Bool.or_false, Bool.false_or, Bool.or_true, Bool.true_or, beq_self_eq_true, DL.x_addBb, DL.x_addBi, DL.x_addBs, DL.x_addBt, DL.x_addBl, DL.x_subBb, DL.x_subBib, DL.x_subBi, DL.x_mulBb, DL.x_mulBi, DL.x_strI, DL.x_strB, DL.x_up, DL.x_eqT, DL.x_eqL, wipeD]
      refine less_w rv rx ?_
      walk_at "go"
      rw [le_row rx.ok rv.ok] at hR
      exact hR
    · simp only [DL.x_bnd, DL.x_ret, DL.x_req, DL.x_get, DL.x_opt, DL.x_seq, DL.x_on, DL.x_or, DL.x_ob, DL.x_oc, DL.x_nil, DL.x_rt, DL.x_rtN, DL.x_drop, DL.x_break, DL.x_cont, DL.x_if, DL.x_ift, DL.x_iff, DL.x_set, DL.x_asg, DL.x_par2, DL.x_par3, DL.x_for, DL.x_v0, DL.x_vS, DL.x_c, DL.x_bin, DL.x_un, DL.x_tbin, DL.x_tru, DL.x_trb, DL.x_not, DL.x_tand, DL.x_tor, DL.x_and, DL.x_orE, DL.x_notE, DL.x_ifE, DL.x_tup, DL.x_lst, DL.x_lstM, DL.x_anil, DL.x_acons, DL.x_call, DL.x_callD, DL.x_callK, DL.x_meth, DL.x_sl, DL.x_oN, DL.x_oS, DL.x_gn, DL.x_gt, DL.x_gc, DL.x_g0, DL.x_gi, DL.x_body, DL.x_yes, DL.x_add, DL.x_addS, DL.x_addT, DL.x_addL, DL.x_sub, DL.x_mul, DL.x_div, DL.x_mod, DL.x_pow, DL.x_neg, DL.x_cmp, DL.x_cmpS, DL.x_isN, DL.x_mmL, DL.x_mm2, DL.x_eqS, DL.x_eqI, DL.x_intb, DL.onB_bl, DL.onI_int, DL.onO_nx, DL.onO_rt, DL.onL_ml, DL.addD_ol, DL.isNon_non, DL.isNon_int, DL.isNon_str, DL.isNon_tup, DL.ix_tup, DL.ix_lst, DL.ix_str, DL.ix_obj, DL.atI_0, DL.atI_1, DL.atI_2, DL.atI_3, DL.len_tup, DL.len_lst, DL.len_str, DL.len_obj, DL.ty_obj, DL.ty_str, DL.ty_lst, DL.append_obj, DL.pop_obj, DL.set_obj, DL.ixN_3_2, DL.tuple_obj, DL.tuple_lst, DL.list_tup, DL.list_lst, DL.sl_str, DL.sl_tup, DL.sl_lst, DL.rev_tup, DL.revM_lst, DL.sum_lst, DL.put_same, DL.startD, DL.pick, List.map_cons, List.map_nil, List.replicate, List.cons_append, List.nil_append, List.append_nil, List.length_cons, List.length_nil, List.getElem?_cons_zero, List.getElem?_cons_succ, List.set_cons_zero, List.set_cons_succ, List.filterMap_cons, List.filterMap_nil, Nat.zero_add, Nat.add_zero, Nat.reduceAdd, Nat.reduceSub, true_and, and_true, id_eq, if_true, if_false, Bool.false_eq_true, Bool.not_true, Bool.not_false, DL.x_idx, DL.rev_obj, DL.wipeD, DL.x_addM, DL.x_addMl, DL.x_isi, DL.ty_nonM, DL.ty_blM, DL.ty_intM, DL.ty_strM, DL.ty_tupM, DL.ty_lstM, DL.ty_dctM, DL.kb_non_str, DL.kb_non_int, DL.kb_non_bool, DL.kb_non_tuple, DL.kb_non_list, DL.kb_non_dict, DL.kb_bl_str, DL.kb_bl_int, DL.kb_bl_bool, DL.kb_bl_tuple, DL.kb_bl_list, DL.kb_bl_dict, DL.kb_int_str, DL.kb_int_int, DL.kb_int_bool, DL.kb_int_tuple, DL.kb_int_list, DL.kb_int_dict, DL.kb_str_str, DL.kb_str_int, DL.kb_str_bool, DL.kb_str_tuple, DL.kb_str_list, DL.kb_str_dict, DL.kb_tup_str, DL.kb_tup_int, DL.kb_tup_bool, DL.kb_tup_tuple, DL.kb_tup_list, DL.kb_tup_dict, DL.kb_lst_str, DL.kb_lst_int, DL.kb_lst_bool, DL.kb_lst_tuple, DL.kb_lst_list, DL.kb_lst_dict, DL.kb_dct_str, DL.kb_dct_int, DL.kb_dct_bool, DL.kb_dct_tuple, DL.kb_dct_list, DL.kb_dct_dict, DL.isNon_bl, DL.isNon_lst, DL.isNon_dct, DL.x_tOf, DL.x_tOfE, DL.x_chain, DL.x_kix, DL.x_kin, DL.x_kgt, DL.x_allL, DL.x_anyL, DL.x_istr, DL.x_dgetO, DL.x_dgetS, DL.x_dgetI, DL.x_gdix, DL.x_dset, DL.x_popAt, DL.x_insert, DL.ty_dct, DL.x_getS1, DL.x_getI1, DL.x_getS2, DL.x_getI2, DL.x_pnil, DL.x_pcons, DL.x_disM, DL.x_dis0M, DL.x_listM, DL.x_listMT, DL.x_gst, DL.x_mulS, DL.x_mulL, DL.x_dict, DL.onM_md, DL.onS_str, DL.kfind_nil, DL.kfind_cons, DL.lit_beq, DL.x_iseq, DL.onIt_lst, DL.onIt_tup, DL.sl_obj, DL.x_rg1, DL.valD_nil, DL.valD_cons, DL.key_rr, DL.key_ll, DL.key_lr, DL.key_rl, String.reduceBEq, Option.isSome_some, Option.isSome_none, Option.getD_some, Option.getD_none, Bool.true_and, Bool.and_true, Bool.false_and, Bool.and_false, Bool.or_false, Bool.false_or, Bool.or_true, Bool.true_or, beq_self_eq_true, DL.x_addBb, DL.x_addBi, DL.x_addBs, DL.x_addBt, DL.x_addBl, DL.x_subBb, DL.x_subBib, DL.x_subBi, DL.x_mulBb, DL.x_mulBi, DL.x_strI, DL.x_strB, DL.x_up, DL.x_eqT, DL.x_eqL, wipeD]
      exact hR
    · have efl : (l.filter fun o => keyLe kf o (.tup vs)).length ≤ l.length := List.length_filter_le ..
      simp only [DL.x_bnd, DL.x_ret, DL.x_req, DL.x_get, DL.x_opt, DL.x_seq, DL.x_on, DL.x_or, DL.x_ob, DL.x_oc, DL.x_nil, DL.x_rt, DL.x_rtN, DL.x_drop, DL.x_break, DL.x_cont, DL.x_if, DL.x_ift, DL.x_iff, DL.x_set, DL.x_asg, DL.x_par2, DL.x_par3, DL.x_for, DL.x_v0, DL.x_vS, DL.x_c, DL.x_bin, DL.x_un, DL.x_tbin, DL.x_tru, DL.x_trb, DL.x_not, DL.x_tand, DL.x_tor, DL.x_and, DL.x_orE, DL.x_notE, DL.x_ifE, DL.x_tup, DL.x_lst, DL.x_lstM, DL.x_anil, DL.x_acons, DL.x_call, DL.x_callD, DL.x_callK, DL.x_meth, DL.x_sl, DL.x_oN, DL.x_oS, DL.x_gn, DL.x_gt, DL.x_gc, DL.x_g0, DL.x_gi, DL.x_body, DL.x_yes, DL.x_add, DL.x_addS, DL.x_addT, DL.x_addL, DL.x_sub, DL.x_mul, DL.x_div, DL.x_mod, DL.x_pow, DL.x_neg, DL.x_cmp, DL.x_cmpS, DL.x_isN, DL.x_mmL, DL.x_mm2, DL.x_eqS, DL.x_eqI, DL.x_intb, DL.onB_bl, DL.onI_int, DL.onO_nx, DL.onO_rt, DL.onL_ml, DL.addD_ol, DL.isNon_non, DL.isNon_int, DL.isNon_str, DL.isNon_tup, DL.ix_tup, DL.ix_lst, DL.ix_str, DL.ix_obj, DL.atI_0, DL.atI_1, DL.atI_2, DL.atI_3, DL.len_tup, DL.len_lst, DL.len_str, DL.len_obj, DL.ty_obj, DL.ty_str, DL.ty_lst, DL.append_obj, DL.pop_obj, DL.set_obj, DL.ixN_3_2, DL.tuple_obj, DL.tuple_lst, DL.list_tup, DL.list_lst, DL.sl_str, DL.sl_tup, DL.sl_lst, DL.rev_tup, DL.revM_lst, DL.sum_lst, DL.put_same, DL.startD, DL.pick, List.map_cons, List.map_nil, List.replicate, List.cons_append, List.nil_append, List.append_nil, List.length_cons, List.length_nil, List.getElem?_cons_zero, List.getElem?_cons_succ, List.set_cons_zero, List.set_cons_succ, List.filterMap_cons, List.filterMap_nil, Nat.zero_add, Nat.add_zero, Nat.reduceAdd, Nat.reduceSub, true_and, and_true, id_eq, if_true, if_false, Bool.false_eq_true, Bool.not_true, Bool.not_false, DL.x_idx, DL.rev_obj, DL.wipeD, DL.x_addM, DL.x_addMl, DL.x_isi, DL.ty_nonM, DL.ty_blM, DL.ty_intM, DL.ty_strM, DL.ty_tupM, DL.ty_lstM, DL.ty_dctM, DL.kb_non_str, DL.kb_non_int, DL.kb_non_bool, DL.kb_non_tuple, DL.kb_non_list, DL.kb_non_dict, DL.kb_bl_str, DL.kb_bl_int, DL.kb_bl_bool, DL.kb_bl_tuple, DL.kb_bl_list, DL.kb_bl_dict, DL.kb_int_str, DL.kb_int_int, DL.kb_int_bool, DL.kb_int_tuple, DL.kb_int_list, DL.kb_int_dict, DL.kb_str_str, DL.kb_str_int, DL.kb_str_bool, DL.kb_str_tuple, DL.kb_str_list, DL.kb_str_dict, DL.kb_tup_str, DL.kb_tup_int, DL.kb_tup_bool, DL.kb_tup_tuple, DL.kb_tup_list, DL.kb_tup_dict, DL.kb_lst_str, DL.kb_lst_int, DL.kb_lst_bool, DL.kb_lst_tuple, DL.kb_lst_list, DL.kb_lst_dict, DL.kb_dct_str, DL.kb_dct_int, DL.kb_dct_bool, DL.kb_dct_tuple, DL.kb_dct_list, DL.kb_dct_dict, DL.isNon_bl, DL.isNon_lst, DL.isNon_dct, DL.x_tOf, DL.x_tOfE, DL.x_chain, DL.x_kix, DL.x_kin, DL.x_kgt, DL.x_allL, DL.x_anyL, DL.x_istr, DL.x_dgetO, DL.x_dgetS, DL.x_dgetI, DL.x_gdix, DL.x_dset, DL.x_popAt, DL.x_insert, DL.ty_dct, DL.x_getS1, DL.x_getI1, DL.x_getS2, DL.x_getI2, DL.x_pnil, DL.x_pcons, DL.x_disM, DL.x_dis0M, DL.x_listM, DL.x_listMT, DL.x_gst, DL.x_mulS, DL.x_mulL, DL.x_dict, DL.onM_md, DL.onS_str, DL.kfind_nil, DL.kfind_cons, DL.lit_beq, DL.x_iseq, DL.onIt_lst, DL.onIt_tup, DL.sl_obj, DL.x_rg1, DL.valD_nil, DL.valD_cons, DL.key_rr, DL.key_ll, DL.key_lr, DL.key_rl, String.reduceBEq, Option.isSome_some, Option.isSome_none, Option.getD_some, Option.getD_none, Bool.true_and, Bool.and_true, Bool.false_and, Bool.and_false, Bool.or_false, Bool.false_or, Bool.or_true, Bool.true_or, beq_self_eq_true, DL.x_addBb, DL.x_addBi, DL.x_addBs, DL.x_addBt, DL.x_addBl, DL.x_subBb, DL.x_subBib, DL.x_subBi, DL.x_mulBb, DL.x_mulBi, DL.x_strI, DL.x_strB, DL.x_up, DL.x_eqT, DL.x_eqL, List.map_id, put_same]
      walk_at "go"
      refine hR _ _ ⟨ins (.tup vs) l, _, _, rfl, ?_, hlt, ?_, ?_, ins_pw hpw⟩
      · rw [put_put, Int.toNat_natCast]
        rfl
      · rw [(ins_perm _ _).length_eq, List.length_append, hll]
        rfl
      · rw [List.take_succ, hv]
        exact (ins_perm _ _).trans (hlp.append_right _)
  · rintro ρ μ2 ⟨l, o2, o3, rfl, rfl, hi, hll, hlp, hpw⟩
    rw [List.take_length] at hlp
    refine ⟨trivial, ?_⟩
    walk_at "go"
    rw [srt_only h hlp hpw]
    exact q p _ hp
end Lk03

namespace Lk03
open PySem PySem.Spec PyProof.Rows L2 DL

theorem rows_pl {ds : List D} (h : Rows ds) (hl : ds.length ≤ 40) : Pl 2 615563 (.tup ds) := Pl.tup (k := 1) (z := 15387) (n := 40) (fun d hd => by
  obtain ⟨ws, rfl, r⟩ := h d hd
  exact Pl.tup (k := 0) (z := 1921) (n := 8) (fun w hw => okv_pl (r.ok w hw)) r.most) hl
theorem law_true (ns : List Int) (μ : Mem) (hl : ns.length ≤ 63) (hμ : ∀ b, μ b = none) : m_law [.lst (ns.map .int)] μ (fun d _ => d = .bl true) (fun _ _ => False) := by
  simp only [m_law, b_law, DL.x_bnd, DL.x_ret, DL.x_req, DL.x_get, DL.x_opt, DL.x_seq, DL.x_on, DL.x_or, DL.x_ob, DL.x_oc, DL.x_nil, DL.x_rt, DL.x_rtN, DL.x_drop, DL.x_break, DL.x_cont, DL.x_if, DL.x_ift, DL.x_iff, DL.x_set, DL.x_asg, DL.x_par2, DL.x_par3, DL.x_for, DL.x_v0, DL.x_vS, DL.x_c, DL.x_bin, DL.x_un, DL.x_tbin, DL.x_tru, DL.x_trb, DL.x_not, DL.x_tand, DL.x_tor, DL.x_and, DL.x_orE, DL.x_notE, DL.x_ifE, DL.x_tup, DL.x_lst, DL.x_lstM, DL.x_anil, DL.x_acons, DL.x_call, DL.x_callD, DL.x_callK, DL.x_meth, DL.x_sl, DL.x_oN, DL.x_oS, DL.x_gn, DL.x_gt, DL.x_gc, DL.x_g0, DL.x_gi, DL.x_body, DL.x_yes, DL.x_add, DL.x_addS, DL.x_addT, DL.x_addL, DL.x_sub, DL.x_mul, DL.x_div, DL.x_mod, DL.x_pow, DL.x_neg, DL.x_cmp, DL.x_cmpS, DL.x_isN, DL.x_mmL, DL.x_mm2, DL.x_eqS, DL.x_eqI, DL.x_intb, DL.onB_bl, DL.onI_int, DL.onO_nx, DL.onO_rt, DL.onL_ml, DL.addD_ol, DL.isNon_non, DL.isNon_int, DL.isNon_str, DL.isNon_tup, DL.ix_tup, DL.ix_lst, DL.ix_str, DL.ix_obj, DL.atI_0, DL.atI_1, DL.atI_2, DL.atI_3, DL.len_tup, DL.len_lst, DL.len_str, DL.len_obj, DL.ty_obj, DL.ty_str, DL.ty_lst, DL.append_obj, DL.pop_obj, DL.set_obj, DL.ixN_3_2, DL.tuple_obj, DL.tuple_lst, DL.list_tup, DL.list_lst, DL.sl_str, DL.sl_tup, DL.sl_lst, DL.rev_tup, DL.revM_lst, DL.sum_lst, DL.put_same, DL.startD, DL.pick, List.map_cons, List.map_nil, List.replicate, List.cons_append, List.nil_append, List.append_nil, List.length_cons, List.length_nil, List.getElem?_cons_zero, List.getElem?_cons_succ, List.set_cons_zero, List.set_cons_succ, List.filterMap_cons, List.filterMap_nil, Nat.zero_add, Nat.add_zero, Nat.reduceAdd, Nat.reduceSub, true_and, and_true, id_eq, if_true, if_false, Bool.false_eq_true, Bool.not_true, Bool.not_false, DL.x_idx, DL.rev_obj, DL.wipeD, DL.x_addM, DL.x_addMl, DL.x_isi, DL.ty_nonM, DL.ty_blM, DL.ty_intM, DL.ty_strM, DL.ty_tupM, DL.ty_lstM, DL.ty_dctM, DL.kb_non_str, DL.kb_non_int, DL.kb_non_bool, DL.kb_non_tuple, DL.kb_non_list, DL.kb_non_dict, DL.kb_bl_str, DL.kb_bl_int, DL.kb_bl_bool, DL.kb_bl_tuple, DL.kb_bl_list, DL.kb_bl_dict, DL.kb_int_str, DL.kb_int_int, DL.kb_int_bool, DL.kb_int_tuple, DL.kb_int_list, DL.kb_int_dict, DL.kb_str_str, DL.kb_str_int, DL.kb_str_bool, DL.kb_str_tuple, DL.kb_str_list, DL.kb_str_dict, DL.kb_tup_str, DL.kb_tup_int, DL.kb_tup_bool, DL.kb_tup_tuple, DL.kb_tup_list, DL.kb_tup_dict, DL.kb_lst_str, DL.kb_lst_int, DL.kb_lst_bool, DL.kb_lst_tuple, DL.kb_lst_list, DL.kb_lst_dict, DL.kb_dct_str, DL.kb_dct_int, DL.kb_dct_bool, DL.kb_dct_tuple, DL.kb_dct_list, DL.kb_dct_dict, DL.isNon_bl, DL.isNon_lst, DL.isNon_dct, DL.x_tOf, DL.x_tOfE, DL.x_chain, DL.x_kix, DL.x_kin, DL.x_kgt, DL.x_allL, DL.x_anyL, DL.x_istr, DL.x_dgetO, DL.x_dgetS, DL.x_dgetI, DL.x_gdix, DL.x_dset, DL.x_popAt, DL.x_insert, DL.ty_dct, DL.x_getS1, DL.x_getI1, DL.x_getS2, DL.x_getI2, DL.x_pnil, DL.x_pcons, DL.x_disM, DL.x_dis0M, DL.x_listM, DL.x_listMT, DL.x_gst, DL.x_mulS, DL.x_mulL, DL.x_dict, DL.onM_md, DL.onS_str, DL.kfind_nil, DL.kfind_cons, DL.lit_beq, DL.x_iseq, DL.onIt_lst, DL.onIt_tup, DL.sl_obj, DL.x_rg1, DL.valD_nil, DL.valD_cons, DL.key_rr, DL.key_ll, DL.key_lr, DL.key_rl, String.reduceBEq, Option.isSome_some, Option.isSome_none, Option.getD_some, Option.getD_none, Bool.true_and, Bool.and_true, Bool.false_and, Bool.and_false, Bool.or_false, Bool.false_or, Bool.or_true, Bool.true_or, beq_self_eq_true, DL.x_addBb, DL.x_addBi, DL.x_addBs, DL.x_addBt, DL.x_addBl, DL.x_subBb, DL.x_subBib, DL.x_subBi, DL.x_mulBb, DL.x_mulBi, DL.x_strI, DL.x_strB, DL.x_up, DL.x_eqT, DL.x_eqL]
  walk_at "go"
  refine deck_w hl hμ fun a c μ1 hd => ?_
  walk_at "go"
  refine for_w (fun i ρ μ' => ∃ o2 o3 o4 o5 o6 o7, ρ = [some (.lst (ns.map .int)), some (.obj a), o2, o3, o4, o5, o6, o7] ∧ Dk shD μ' a c (6000 * i)) (rangeL 0 (2 : Int).toNat) ?_ ?_ _ _ ⟨none, none, none, none, none, none, rfl, hd.mono (by omega)⟩
  · rintro i v ρ μ2 R hv ⟨o2, o3, o4, o5, o6, o7, rfl, hd2⟩ hR _
    have hi : i < 2 := by
      rcases Nat.lt_or_ge i 2 with k | k
      · exact k
      · rw [List.getElem?_eq_none (by rw [rangeL_len]; exact k)] at hv; cases hv
    refine ⟨trivial, ?_⟩
    walk_at "gn"
    refine draw_g (by decide) (by decide) _ _ _ _ _ (DF.start hd2) (by omega) fun d μ3 ⟨gr, e, w0, w1⟩ h3 => ?_
    subst e
    walk_at "gn"
    simp only [DL.x_on]
    walk_at "gn"
    have rest : ∀ (ds : List D) (μ4 : Mem), Rows ds → ds.length ≤ 40 → Dk shD μ4 a c (6000 * i + 5100) → outSeq (sSeq (sPar2 5 6 (aCons (eCall reprAD (aCons (eVar 4) aNil)) (aCons (eCall reprAD (aCons (eCallD 1 m__law_due (aCons (eVar 4) aNil)) aNil)) aNil))) (sSeq (sSet 7 (eCallD 1 m_rising (aCons (eVar 4) aNil)))
      (sSeq (sIf (tOrW (tBin neD (eCall reprAD (aCons (eVar 7) aNil)) (eVar 6)) (tOrW (tBin neD (eCall reprAD (aCons (eCallK [0] 1 m_rising (aCons (eVar 4) aNil)) aNil)) (eVar 6)) (tBin neD (eCall reprAD (aCons (eCallD 1 m_rising (aCons (eVar 7) aNil)) aNil)) (eVar 6)))) (sRet (eC (.bl false))) sNil)
      (sIf (tOrW (tBin neD (eCall reprAD (aCons (eVar 4) aNil)) (eVar 5)) (tBin neD (eCall reprAD (aCons (eCallD 1 m_rising (aCons (eUn revTD (eVar 4)) aNil)) aNil)) (eVar 6))) (sRet (eC (.bl false))) sNil)))) (.nx [some (.lst (ns.map .int)), some (.obj a), some v, some (.bl (decide (gr = 5))), some (.tup ds), o5, o6, o7]) μ4 R (fun _ _ => False) := by
      intro ds μ4 hr h40 hd4
      have sr : Rows (srt ds) := hr.of (srt_perm ds)
      have sl : (srt ds).length ≤ 40 := by rw [(srt_perm ds).length_eq]; exact h40
      have p1 := rows_pl hr h40
      have p2 := rows_pl sr sl
      have e1 : srt (srt ds) = srt ds := srt_of hr (srt_perm ds)
      have e2 : srt ds.reverse = srt ds := srt_of hr (List.reverse_perm ds)
      have rr : Rows ds.reverse := hr.of (List.reverse_perm ds)
      simp only [DL.x_on]
      walk_at "go"
      refine p1.repr (by decide) (by decide) ?_
      walk_at "go"
      refine due_w hr h40 fun p o hp => ?_
      walk_at "go"
      refine p2.repr (by decide) (by decide) ?_
      walk_at "go"
      refine rising_w hr ?_
      walk_at "go"
      refine p2.repr (by decide) (by decide) ?_
      walk_at "go"
      refine rising_w hr ?_
      walk_at "go"
      refine p2.repr (by decide) (by decide) ?_
      walk_at "go"
      refine rising_w sr ?_
      rw [e1]
      walk_at "go"
      refine p2.repr (by decide) (by decide) ?_
      walk_at "go"
      refine p1.repr (by decide) (by decide) ?_
      walk_at "go"
      refine rising_w rr ?_
      rw [e2]
      walk_at "go"
      refine p2.repr (by decide) (by decide) ?_
      walk_at "go"
      obtain ⟨pa, pc⟩ := hd4.apart hp
      exact hR _ _ ⟨_, _, _, _, _, _, rfl, (hd4.put pa pc).mono (by omega)⟩
    by_cases hg : gr = 5
    · simp only [decide_eq_true hg, if_true]
      refine lines_g (by decide) (by decide) _ _ _ _ _ (DF.start h3.dk) (by omega) fun d μ4 ⟨ds, e, hr, h40⟩ h4 => ?_
      subst e
      have := rest ds μ4 hr h40 (h4.dk.mono (by omega))
      rw [decide_eq_true hg] at this
      exact this
    · simp only [decide_eq_false hg, Bool.false_eq_true, if_false]
      refine draw_g (by decide) (by decide) _ _ _ _ _ (DF.start h3.dk) (by omega) fun d μ4 ⟨k, e, k0, k1⟩ h4 => ?_
      subst e
      refine lines_g k0 (by omega) _ _ _ _ _ (DF.start h4.dk) (by omega) fun d μ5 ⟨ds, e, hr, h40⟩ h5 => ?_
      subst e
      have := rest ds μ5 hr h40 (h5.dk.mono (by omega))
      rw [decide_eq_false hg] at this
      exact this
  · rintro ρ μ2 ⟨o2, o3, o4, o5, o6, o7, rfl, hd2⟩
    refine ⟨trivial, ?_⟩
    walk_at "go"
end Lk03

open PySem PySem.W PyProof.Rows
set_option maxHeartbeats 0 in
theorem PySem.Challenge.cw_stillfiles_k03_rows_rising_holds : PySem.Challenge.rw_stillfiles_k03_rows_rising.Holds := by
  w_on; o_law; k_head; (case hw => w_witness2)
  k_fill
  refine DL.walkD (l := PySem.Challenge.rw_stillfiles_k03_rows_rising) (n := 63) (k := 5) (x := "_law_script") (m := Lk03.m_law) rfl (by decide) rfl ⟨rfl, by decide, by decide⟩ (fun w h Y => PySem.W.kIn_of Y) ?F Lk03.law_true
  case F =>
    intro w mg fa h KX G hmg
    refine' Lk03.all_mk KX G hmg ?a0 ?l0 ?c0 ?k0 ?a1 ?l1 ?c1 ?k1 ?a2 ?l2 ?c2 ?k2 ?a3 ?l3 ?c3 ?k3 ?a4 ?l4 ?c4 ?k4 ?a5 ?l5 ?c5 ?k5 ?a6 ?l6 ?c6 ?k6 ?a7 ?l7 ?c7 ?k7 ?a8 ?l8 ?c8 ?k8 ?a9 ?l9 ?c9 ?k9 ?a10 ?l10 ?c10 ?k10 ?a11 ?l11 ?c11 ?k11 ?z0 ?z1 ?z2 ?z3 ?z4 ?z5 ?z6 ?z7 ?z8 ?z9
    (case a0 => k_is); (case l0 => k_is); (case c0 => k_is); (case k0 => k_is); (case a1 => k_is); (case l1 => k_is); (case c1 => k_is); (case k1 => k_is); (case a2 => k_is); (case l2 => k_is); (case c2 => k_is); (case k2 => k_is); (case a3 => k_is); (case l3 => k_is); (case c3 => k_is); (case k3 => k_is); (case a4 => k_is); (case l4 => k_is); (case c4 => k_is); (case k4 => k_is); (case a5 => k_is); (case l5 => k_is); (case c5 => k_is); (case k5 => k_is); (case a6 => k_is); (case l6 => k_is); (case c6 => k_is); (case k6 => k_is); (case a7 => k_is); (case l7 => k_is); (case c7 => k_is); (case k7 => k_is); (case a8 => k_is); (case l8 => k_is); (case c8 => k_is); (case k8 => k_is); (case a9 => k_is); (case l9 => k_is); (case c9 => k_is); (case k9 => k_is); (case a10 => k_is); (case l10 => k_is); (case c10 => k_is); (case k10 => k_is); (case a11 => k_is); (case l11 => k_is); (case c11 => k_is); (case k11 => k_is); (case z0 => k_is); (case z1 => k_is); (case z2 => k_is); (case z3 => k_is); (case z4 => k_is); (case z5 => k_is); (case z6 => k_is); (case z7 => k_is); (case z8 => k_is); (case z9 => k_is)
