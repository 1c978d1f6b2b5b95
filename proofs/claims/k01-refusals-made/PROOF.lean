import PyProof.Rows.All
import Wide.All
import OpenK.AllK
import Wide.FinOn
import HandS.ForMost
import HandS.Lambda
import HandS.Nested
import HandS.ExcInit
import HandS.TupAny
import HandS.Wide
import HandS.Style
import HandS.Flow
import HandS.More
import HandS.TupLe
import HandS.IsInst
import HandS.Deep
import HandS.Small
import KE.DataMinMax
import PyProof.ReprRoads
import HandS.Dict
import HandS.Iter
import HandS.Zip
import HandS.WrittenGet
import HandS.DictComp
import PyProof.CollectIter
import HandS.SortKw
import KE.GoesEnumKw
import KE.GoesEnum
import HandS.SetBool
import HandS.SetKeys
import HandS.Conv
import HandS.Codes
import PyProof.TwoTypesSub
import HandS.ExcField
import PyProof.ExcBaseAll.LookupError
import PyProof.ExcBaseAll.ArithmeticError
import PyProof.Rows.FactsExc_KeyError
import HandS.ExcCtx
import HandS.HotCalls
import KE.KExcIs
import HandS.TryOnly
import KE.KUnpackStar
import HandS.Defaults
import OpenK.KOps
import KE.SortKeyHeap
import HandS.Text
import HandS.WordsDict
import HandS.SetFor
import KE.KItemsList
import PyProof.Rows.SortStr
import KE.KLam
import HandS.NestedK
import KE.KDictCopyH
import HandS.MakeKw
import KE.SortData
import PyProof.EqKinds
import HandS.Strs
import KE.DataAny
import PyProof.NeKinds
import HandS.DictTup
import HandS.RevTup
import HandS.ExcValue
import KE.KDictZip
import KE.GoesMore
import KE.GoesZip
import PySem.Challenge.RW_stillfiles_k01_refusals_made
set_option Elab.async false
set_option linter.all false
set_option maxRecDepth 100000
set_option maxHeartbeats 4000000
/-! DL: Python data as trees (D), mutable objects apart (Mem), readings lifted to both. -/
namespace DL
open PySem PySem.Spec PyProof.Rows L2

inductive D where
  | non
  | bl (b : Bool)
  | int (i : Int)
  | str (s : Str)
  | tup (ds : List D)
  | lst (ds : List D)
  | dct (kvs : List (Key × D))
  | obj (a : Addr)
  | ty (n : String)
  | fnv (f : Addr) (o : HO) (c : Addr) (q : Str) (ws : List V) (caps : List D)
  | exv (C : Addr) (n : Str) (ns : List Str) (ds : List D)

/-- what a mutable object holds -/
inductive MO where
  | ml (ds : List D)
  | md (kvs : List (Key × D))
  | mi (C : Addr) (fs : List (Str × D))
  | tb (nm : Nat → Nat → Str)
  | st (f : Heap → Prop)

abbrev Mem := Addr → Option MO
abbrev Rho := List (Option D)
/-- an exception: its class, its fields -/
structure Ex where
  cls : Str
  fs : List (Str × D)
abbrev XD := Ex → Mem → Prop
/-- what must hold ahead, by what is wanted behind -/
abbrev W (α : Type) := Mem → (α → Mem → Prop) → XD → Prop

namespace W
def ret {α : Type} (a : α) : W α := fun μ Q _ => Q a μ
def bnd {α β : Type} (m : W α) (f : α → W β) : W β := fun μ Q E => m μ (fun a μ' => f a μ' Q E) E
def req {α : Type} (P : Prop) (m : W α) : W α := fun μ Q E => P ∧ m μ Q E
def bad {α : Type} : W α := fun _ _ _ => False
def get : W Mem := fun μ Q _ => Q μ μ
def put (μ : Mem) : W Unit := fun _ Q _ => Q () μ
end W
instance : Monad W where
  pure := W.ret
  bind := W.bnd

@[simp] theorem W.ret_bnd {α β : Type} (a : α) (f : α → W β) : W.bnd (W.ret a) f = f a := rfl
@[simp] theorem W.bnd_ret {α : Type} (m : W α) : W.bnd m W.ret = m := rfl
@[simp] theorem W.bnd_bnd {α β γ : Type} (m : W α) (f : α → W β) (g : β → W γ) : W.bnd (W.bnd m f) g = W.bnd m (fun a => W.bnd (f a) g) := rfl
mutual
/-- the value v, over the part F of the heap that stays, is d -/
inductive Is (K : PySem.W.Frag) (F : Hp) : V → D → Prop
  | non : Is K F .non .non
  | bl (b : Bool) : Is K F (.bl b) (.bl b)
  | int (i : Int) : Is K F (.int i) (.int i)
  | str (s : Str) : Is K F (.str s) (.str s)
  | tup {a : Addr} {vs : List V} {ds : List D} : SqT K F a vs → IsL K F vs ds → Is K F (.ref a) (.tup ds)
  | lst {a : Addr} {vs : List V} {ds : List D} : SqL K F a vs → IsL K F vs ds → Is K F (.ref a) (.lst ds)
  | dct {a : Addr} {ks : List (Key × V)} {ds : List (Key × D)} : F a = some (.dK ks) → ks.map (·.1) = ds.map (·.1) → IsL K F (ks.map (·.2)) (ds.map (·.2)) → Is K F (.ref a) (.dct ds)
  | obj (a : Addr) : Is K F (.ref a) (.obj a)
  | ty (n : String) : Is K F (.ty n) (.ty n)
  | fnv {f c : Addr} {o : HO} {q : Str} {ws : List V} {caps : List D} : F f = some o → F c = some (LamX.CodeO c q) → IsL K F ws caps → Is K F (.ref f) (.fnv f o c q ws caps)
  | exv0 {a C : Addr} {n : Str} : F a = some (exo a C none) → Is K F (.ref a) (.exv C n [] [])
  | exv {a C dx : Addr} {n : Str} {kvs : List (Str × V)} {ns : List Str} {ds : List D} : F a = some (exo a C (some dx)) → F dx = some (exd dx kvs) → kvs.map (·.1) = ns → IsL K F (kvs.map (·.2)) ds → Is K F (.ref a) (.exv C n ns ds)
inductive IsL (K : PySem.W.Frag) (F : Hp) : List V → List D → Prop
  | nil : IsL K F [] []
  | cons {v : V} {d : D} {vs : List V} {ds : List D} : Is K F v d → IsL K F vs ds → IsL K F (v :: vs) (d :: ds)
end

theorem rd_up {F F' : Hp} {a : Addr} {u : HO} (e : Same F F') (h : Rd F a u) : Rd F' a u := by
  rcases h with h | ⟨o, h⟩
  · exact .inl (e _ _ h)
  · exact .inr ⟨o, e _ _ h⟩
theorem sqt_up {K : PySem.W.Frag} {F F' : Hp} {a : Addr} {xs : List V} (e : Same F F') (h : SqT K F a xs) : SqT K F' a xs := by
  rcases h with h | h
  · exact .inl (rd_up e h)
  · exact .inr h
theorem sql_up {K : PySem.W.Frag} {F F' : Hp} {a : Addr} {xs : List V} (e : Same F F') (h : SqL K F a xs) : SqL K F' a xs := by
  rcases h with h | h
  · exact .inl (rd_up e h)
  · exact .inr h

mutual
theorem Is.up {K : PySem.W.Frag} {F F' : Hp} (e : Same F F') : ∀ {v : V} {d : D}, Is K F v d → Is K F' v d
  | _, _, .non => .non
  | _, _, .bl b => .bl b
  | _, _, .int i => .int i
  | _, _, .str s => .str s
  | _, _, .tup h r => .tup (sqt_up e h) (r.up e)
  | _, _, .lst h r => .lst (sql_up e h) (r.up e)
  | _, _, .dct h k r => .dct (e _ _ h) k (r.up e)
  | _, _, .obj a => .obj a
  | _, _, .ty n => .ty n
  | _, _, .fnv h k r => .fnv (e _ _ h) (e _ _ k) (r.up e)
  | _, _, .exv0 h => .exv0 (e _ _ h)
  | _, _, .exv h k q r => .exv (e _ _ h) (e _ _ k) q (r.up e)
theorem IsL.up {K : PySem.W.Frag} {F F' : Hp} (e : Same F F') : ∀ {vs : List V} {ds : List D}, IsL K F vs ds → IsL K F' vs ds
  | _, _, .nil => .nil
  | _, _, .cons h r => .cons (h.up e) (r.up e)
end

theorem IsL.length {K : PySem.W.Frag} {F : Hp} : ∀ {vs : List V} {ds : List D}, IsL K F vs ds → vs.length = ds.length
  | _, _, .nil => rfl
  | _, _, .cons _ r => by rw [List.length_cons, List.length_cons, r.length]
theorem IsL.get {K : PySem.W.Frag} {F : Hp} : ∀ {vs : List V} {ds : List D} {i : Nat} {d : D}, IsL K F vs ds → ds[i]? = some d → ∃ v, vs[i]? = some v ∧ Is K F v d
  | _, _, _, _, .nil, e => by simp at e
  | _, _, 0, _, .cons h _, e => by simp at e; subst e; exact ⟨_, rfl, h⟩
  | _, _, i + 1, d, .cons _ r, e => by
    obtain ⟨v, h1, h2⟩ := IsL.get (i := i) (d := d) r (by simpa using e)
    exact ⟨v, by simpa using h1, h2⟩
theorem IsL.getV {K : PySem.W.Frag} {F : Hp} {vs : List V} {ds : List D} {i : Nat} {v : V} (h : IsL K F vs ds) (e : vs[i]? = some v) : ∃ d, ds[i]? = some d ∧ Is K F v d := by
  have hl := h.length
  have hi : i < vs.length := by
    rcases Nat.lt_or_ge i vs.length with q | q
    · exact q
    · rw [List.getElem?_eq_none q] at e; cases e
  have hd : ds[i]? = some (ds[i]'(by omega)) := List.getElem?_eq_getElem (by omega)
  obtain ⟨v', e', r⟩ := h.get hd
  rw [e] at e'; cases e'
  exact ⟨_, hd, r⟩
theorem IsL.app {K : PySem.W.Frag} {F : Hp} : ∀ {vs us : List V} {ds es : List D}, IsL K F vs ds → IsL K F us es → IsL K F (vs ++ us) (ds ++ es)
  | _, _, _, _, .nil, r => r
  | _, _, _, _, .cons h q, r => .cons h (q.app r)
theorem IsL.take {K : PySem.W.Frag} {F : Hp} : ∀ (n : Nat) {vs : List V} {ds : List D}, IsL K F vs ds → IsL K F (vs.take n) (ds.take n)
  | 0, _, _, _ => .nil
  | _ + 1, _, _, .nil => .nil
  | n + 1, _, _, .cons h r => .cons h (r.take n)
theorem IsL.drop {K : PySem.W.Frag} {F : Hp} : ∀ (n : Nat) {vs : List V} {ds : List D}, IsL K F vs ds → IsL K F (vs.drop n) (ds.drop n)
  | 0, _, _, r => r
  | _ + 1, _, _, .nil => .nil
  | n + 1, _, _, .cons _ r => r.drop n
theorem IsL.rev {K : PySem.W.Frag} {F : Hp} : ∀ {vs : List V} {ds : List D}, IsL K F vs ds → IsL K F vs.reverse ds.reverse
  | _, _, .nil => .nil
  | _, _, .cons h r => by
    rw [List.reverse_cons, List.reverse_cons]
    exact r.rev.app (.cons h .nil)
theorem IsL.set {K : PySem.W.Frag} {F : Hp} {v : V} {d : D} (h : Is K F v d) : ∀ (n : Nat) {vs : List V} {ds : List D}, IsL K F vs ds → IsL K F (vs.set n v) (ds.set n d)
  | _, _, _, .nil => .nil
  | 0, _, _, .cons _ r => .cons h r
  | n + 1, _, _, .cons q r => .cons q (r.set h n)
theorem IsL.erase {K : PySem.W.Frag} {F : Hp} : ∀ (n : Nat) {vs : List V} {ds : List D}, IsL K F vs ds → IsL K F (vs.eraseIdx n) (ds.eraseIdx n)
  | _, _, _, .nil => .nil
  | 0, _, _, .cons _ r => r
  | n + 1, _, _, .cons q r => .cons q (r.erase n)

def MoIs (K : PySem.W.Frag) (F H : Hp) (a : Addr) : MO → Prop
  | .ml ds => ∃ vs, H a = some (.lst vs) ∧ IsL K F vs ds
  | .md kvs => ∃ ks, H a = some (.dK ks) ∧ ks.map (·.1) = kvs.map (·.1) ∧ IsL K F (ks.map (·.2)) (kvs.map (·.2))
  | .mi C fs => ∃ dx ks, H a = some (.ins C dx ks) ∧ ks.map (·.1) = fs.map (·.1) ∧ IsL K F (ks.map (·.2)) (fs.map (·.2))
  | .tb nm => ∃ ps, H a = some (.tbl ps) ∧ TriplesOk ps.toList ∧ ∀ (pos : Pos) (cv : Value), codeAmong pos ps.toList = some cv → ∃ c, cv = .ref c ∧ F c = some (LamX.CodeO c (nm pos.line pos.col))
  | .st f => ∃ o : HO, o = .ext f ∧ H a = some o
/-- H is the part F that stays, and the mutable objects of μ beside it -/
structure Rep (K : PySem.W.Frag) (F H : Hp) (μ : Mem) : Prop where
  sub : Same F H
  mem : ∀ a mo, μ a = some mo → F a = none ∧ MoIs K F H a mo
structure EnvR (K : PySem.W.Frag) (F : Hp) (σ : L2.St) (ρ : Rho) : Prop where
  len : ρ.length = σ.length
  get : ∀ (i : Nat) (d : D), ρ[i]? = some (some d) → ∃ v, σ[i]? = some (some v) ∧ Is K F v d
theorem EnvR.up {K : PySem.W.Frag} {F F' : Hp} {σ : L2.St} {ρ : Rho} (h : EnvR K F σ ρ) (e : Same F F') : EnvR K F' σ ρ := ⟨h.len, fun i d q => by
  obtain ⟨v, h1, h2⟩ := h.get i d q
  exact ⟨v, h1, h2.up e⟩⟩
theorem EnvR.set {K : PySem.W.Frag} {F : Hp} {σ : L2.St} {ρ : Rho} {v : V} {d : D} (h : EnvR K F σ ρ) (n : Nat) (iv : Is K F v d) : EnvR K F (σ.set n (some v)) (ρ.set n (some d)) := by
  refine ⟨by rw [List.length_set, List.length_set]; exact h.len, fun i e q => ?_⟩
  have hl := h.len
  by_cases hi : n = i
  · subst hi
    by_cases hn : n < ρ.length
    · rw [List.getElem?_set_self hn] at q
      cases q
      exact ⟨v, List.getElem?_set_self (by omega), iv⟩
    · rw [List.getElem?_eq_none (by rw [List.length_set]; omega)] at q
      cases q
  · rw [List.getElem?_set_ne hi] at q
    obtain ⟨u, h1, h2⟩ := h.get i e q
    exact ⟨u, by rw [List.getElem?_set_ne hi]; exact h1, h2⟩
/-- the fields of an exception, its dict at od -/
def FsIs (K : PySem.W.Frag) (F H : Hp) (fs : List (Str × D)) (od : Option Addr) : Prop :=
  (od = none ∧ fs = []) ∨ ∃ a kvs, od = some a ∧ H a = some (.xd kvs) ∧ kvs.map (·.1) = fs.map (·.1) ∧ IsL K F (kvs.map (·.2)) (fs.map (·.2))
def ExIs (K : PySem.W.Frag) (cn : Str → Option Value) (F H : Hp) (x : Ex) (c : Value) (od : Option Addr) : Prop :=
  cn x.cls = some c ∧ FsIs K F H x.fs od
/-- nothing is wanted of exceptions: none comes -/
def NoX (ED : XD) : Prop := ∀ x μ, ¬ ED x μ
/-- exceptions that may leave, their classes by names; or none may, while one is handled -/
inductive EX where
  | ex (E : XK) (cn : Str → Option Value)
  | held (od : Option Addr) (fs : List (Str × D))
/-- what is wanted of exceptions, below and above -/
def Lnk (K : PySem.W.Frag) (Eh : Option EX) (F : Hp) (ED : XD) : Prop := match Eh with
  | none => NoX ED
  | some (.ex E cn) => ∀ F' H' μ' x, Same F F' → Rep K F' H' μ' → ED x μ' → ∀ c od, ExIs K cn F' H' x c od → E c od H'
  | some (.held od fs) => NoX ED ∧ FsIs K F F fs od
theorem FsIs.up {K : PySem.W.Frag} {F F' : Hp} {fs : List (Str × D)} {od : Option Addr} (h : FsIs K F F fs od) (e : Same F F') : FsIs K F' F' fs od := by
  rcases h with h | ⟨a, kvs, h1, h2, h3, h4⟩
  · exact .inl h
  · exact .inr ⟨a, kvs, h1, e _ _ h2, h3, h4.up e⟩
theorem Lnk.up {K : PySem.W.Frag} {Eh : Option EX} {F F' : Hp} {ED : XD} (h : Lnk K Eh F ED) (e : Same F F') : Lnk K Eh F' ED := by
  cases Eh with
  | none => exact h
  | some y =>
    cases y with
    | ex E cn => exact fun F1 H1 μ1 x s r q c od i => h F1 H1 μ1 x (e.trans s) r q c od i
    | held od fs => exact ⟨h.1, h.2.up e⟩

/-- the ways behind a value -/
def Back (K : PySem.W.Frag) (F : Hp) {α β : Type} (R : Hp → β → α → Prop) (Q : α → Mem → Prop) (Qh : β → Hp → Prop) : Prop :=
  ∀ v H' d F' μ', Same F F' → Rep K F' H' μ' → R F' v d → Q d μ' → Qh v H'
def liftE (K : PySem.W.Frag) (Eh : Option EX) (m : Rho → W D) : TE := fun σ H Qh => ∃ F ρ μ Q ED, EnvR K F σ ρ ∧ Rep K F H μ ∧ Lnk K Eh F ED ∧ m ρ μ Q ED ∧ Back K F (Is K) Q Qh
def liftA (K : PySem.W.Frag) (Eh : Option EX) (m : Rho → W (List D)) : TA := fun σ H Qh => ∃ F ρ μ Q ED, EnvR K F σ ρ ∧ Rep K F H μ ∧ Lnk K Eh F ED ∧ m ρ μ Q ED ∧ Back K F (IsL K) Q Qh
def liftT (K : PySem.W.Frag) (Eh : Option EX) (m : Rho → W Bool) : TT := fun σ H Qh => ∃ F ρ μ Q ED, EnvR K F σ ρ ∧ Rep K F H μ ∧ Lnk K Eh F ED ∧ m ρ μ Q ED ∧ Back K F (fun _ (b : Bool) c => b = c) Q Qh
/-- how a statement ends -/
inductive Out where
  | nx (ρ : Rho)
  | rt (d : D)
  | bk (ρ : Rho)
  | ct (ρ : Rho)
def EndsOk (K : PySem.W.Frag) (F : Hp) (Q : Out → Mem → Prop) (De : Ends) : Prop :=
  (∀ F' H' μ' σ' ρ', Same F F' → Rep K F' H' μ' → EnvR K F' σ' ρ' → Q (.nx ρ') μ' → De.nx σ' H') ∧
  (∀ F' H' μ' v d, Same F F' → Rep K F' H' μ' → Is K F' v d → Q (.rt d) μ' → De.rt v H') ∧
  (∀ F' H' μ' σ' ρ', Same F F' → Rep K F' H' μ' → EnvR K F' σ' ρ' → Q (.bk ρ') μ' → De.bk σ' H') ∧
  (∀ F' H' μ' σ' ρ', Same F F' → Rep K F' H' μ' → EnvR K F' σ' ρ' → Q (.ct ρ') μ' → De.ct σ' H')
def liftS (K : PySem.W.Frag) (Eh : Option EX) (m : Rho → W Out) : TS := fun De σ H => ∃ F ρ μ Q ED, EnvR K F σ ρ ∧ Rep K F H μ ∧ Lnk K Eh F ED ∧ m ρ μ Q ED ∧ EndsOk K F Q De

theorem PE.imp {X : Cx} {e : Expr} {t t' : TE} (h : PE X e t) (i : ∀ σ H Q, t' σ H Q → t σ H Q) : PE X e t' := ⟨fun pins s σ H Q I q => h.run pins s σ H Q I (i _ _ _ q)⟩
theorem PT.imp {X : Cx} {e : Expr} {t t' : TT} (h : PT X e t) (i : ∀ σ H Q, t' σ H Q → t σ H Q) : PT X e t' := ⟨fun pins s σ H Q I q => h.run pins s σ H Q I (i _ _ _ q)⟩
theorem PW.imp {X : Cx} {e : Expr} {t t' : TT} (h : PW X e t) (i : ∀ σ H Q, t' σ H Q → t σ H Q) : PW X e t' := ⟨fun wh pins s σ H Q I q => h.run wh pins s σ H Q I (i _ _ _ q)⟩
theorem PA.imp {X : Cx} {e : List Expr} {t t' : TA} (h : PA X e t) (i : ∀ σ H Q, t' σ H Q → t σ H Q) : PA X e t' := ⟨fun pos pins s σ H Q I q => h.run pos pins s σ H Q I (i _ _ _ q)⟩
theorem PS.imp {X : Cx} {e : Stmt} {t t' : TS} (h : PS X e t) (i : ∀ D σ H, t' D σ H → t D σ H) : PS X e t' := ⟨fun pins s σ H D I q => h.run pins s σ H D I (i _ _ _ q)⟩
theorem PSs.imp {X : Cx} {e : List Stmt} {t t' : TS} (h : PSs X e t) (i : ∀ D σ H, t' D σ H → t D σ H) : PSs X e t' := ⟨fun pins s σ H D I q => h.run pins s σ H D I (i _ _ _ q)⟩

abbrev DE (X : Cx) (Eh : Option EX) (e : Expr) (m : Rho → W D) : Prop := PE X e (liftE X.K Eh m)
abbrev DA (X : Cx) (Eh : Option EX) (e : List Expr) (m : Rho → W (List D)) : Prop := PA X e (liftA X.K Eh m)
abbrev DT (X : Cx) (Eh : Option EX) (e : Expr) (m : Rho → W Bool) : Prop := PT X e (liftT X.K Eh m)
abbrev DS (X : Cx) (Eh : Option EX) (e : Stmt) (m : Rho → W Out) : Prop := PS X e (liftS X.K Eh m)
abbrev DSs (X : Cx) (Eh : Option EX) (e : List Stmt) (m : Rho → W Out) : Prop := PSs X e (liftS X.K Eh m)

/-! ### new objects -/
section
variable {K : PySem.W.Frag} {F H : Hp} {μ : Mem} {p : Addr} {o : HO}
theorem same_new (h : F p = none) : Same F (upd F p o) := fun b x e => by
  rw [upd_ne (ne_of_none e h)]
  exact e
theorem Rep.nn (r : Rep K F H μ) (h : H p = none) : F p = none := r.sub.free h
theorem MoIs.up {F' : Hp} {a : Addr} {mo : MO} (e : Same F F') (h : MoIs K F H a mo) : MoIs K F' H a mo := by
  cases mo with
  | ml ds => obtain ⟨vs, h1, h2⟩ := h; exact ⟨vs, h1, h2.up e⟩
  | md ds => obtain ⟨vs, h1, h2, h3⟩ := h; exact ⟨vs, h1, h2, h3.up e⟩
  | mi C fs => obtain ⟨dx, vs, h1, h2, h3⟩ := h; exact ⟨dx, vs, h1, h2, h3.up e⟩
  | tb nm => obtain ⟨ps, h1, h2, h3⟩ := h; exact ⟨ps, h1, h2, fun p cv hc => by obtain ⟨c, e1, e2⟩ := h3 p cv hc; exact ⟨c, e1, e _ _ e2⟩⟩
  | st f => exact h
theorem MoIs.ne {a : Addr} {mo : MO} (h : MoIs K F H a mo) (hp : H p = none) : a ≠ p := by
  cases mo with
  | ml ds => obtain ⟨vs, h1, h2⟩ := h; exact ne_of_none h1 hp
  | md ds => obtain ⟨vs, h1, h2, h3⟩ := h; exact ne_of_none h1 hp
  | mi C fs => obtain ⟨dx, vs, h1, h2, h3⟩ := h; exact ne_of_none h1 hp
  | tb nm => obtain ⟨ps, h1, h2, h3⟩ := h; exact ne_of_none h1 hp
  | st f => obtain ⟨o, _, h1⟩ := h; exact ne_of_none h1 hp
theorem MoIs.upd {a : Addr} {mo : MO} (h : MoIs K F H a mo) (hp : a ≠ p) : MoIs K F (L2.upd H p o) a mo := by
  cases mo with
  | ml ds => obtain ⟨vs, h1, h2⟩ := h; exact ⟨vs, by rw [upd_ne hp]; exact h1, h2⟩
  | md ds => obtain ⟨vs, h1, h2, h3⟩ := h; exact ⟨vs, by rw [upd_ne hp]; exact h1, h2, h3⟩
  | mi C fs => obtain ⟨dx, vs, h1, h2, h3⟩ := h; exact ⟨dx, vs, by rw [upd_ne hp]; exact h1, h2, h3⟩
  | tb nm => obtain ⟨ps, h1, h2, h3⟩ := h; exact ⟨ps, by rw [upd_ne hp]; exact h1, h2, h3⟩
  | st f => obtain ⟨o, e, h1⟩ := h; exact ⟨o, e, by rw [upd_ne hp]; exact h1⟩
/-- a new object that stays -/
theorem Rep.new (r : Rep K F H μ) (h : H p = Option.none) : Rep K (L2.upd F p o) (L2.upd H p o) μ := by
  refine ⟨fun b x e => ?_, fun a mo e => ?_⟩
  · by_cases hb : b = p
    · subst hb; rw [upd_same] at e ⊢; exact e
    · rw [upd_ne hb] at e ⊢; exact r.sub _ _ e
  · obtain ⟨f, m⟩ := r.mem a mo e
    have ne := m.ne h
    exact ⟨by rw [upd_ne ne]; exact f, (m.upd ne).up (same_new (r.nn h))⟩
def put (μ : Mem) (a : Addr) (o : MO) : Mem := fun b => if b = a then some o else μ b
theorem put_same {μ : Mem} {a : Addr} {o : MO} : put μ a o a = some o := by unfold put; rw [if_pos rfl]
theorem put_ne {μ : Mem} {a b : Addr} {o : MO} (h : b ≠ a) : put μ a o b = μ b := by unfold put; rw [if_neg h]
/-- a new object that may change -/
theorem Rep.newM {mo : MO} (r : Rep K F H μ) (h : H p = Option.none) (hm : MoIs K F (L2.upd H p o) p mo) : Rep K F (L2.upd H p o) (put μ p mo) := by
  refine ⟨fun b x e => ?_, fun a mo' e => ?_⟩
  · rw [upd_ne (ne_of_none (r.sub _ _ e) h)]; exact r.sub _ _ e
  · by_cases hb : a = p
    · subst hb
      rw [put_same] at e; cases e
      exact ⟨r.nn h, hm⟩
    · rw [put_ne hb] at e
      obtain ⟨f, m⟩ := r.mem a mo' e
      exact ⟨f, m.upd hb⟩
/-- a mutable object changes -/
theorem Rep.write {mo mo' : MO} (r : Rep K F H μ) (h : μ p = some mo) (hm : MoIs K F (L2.upd H p o) p mo') : Rep K F (L2.upd H p o) (put μ p mo') := by
  have fp := (r.mem p mo h).1
  refine ⟨fun b x e => ?_, fun a mo' e => ?_⟩
  · rw [upd_ne (ne_of_none e fp)]; exact r.sub _ _ e
  · by_cases hb : a = p
    · subst hb
      rw [put_same] at e; cases e
      exact ⟨fp, hm⟩
    · rw [put_ne hb] at e
      obtain ⟨f, m⟩ := r.mem a _ e
      exact ⟨f, m.upd hb⟩
/-- a mutable list stays from now on -/
theorem Rep.freeze {ds : List D} (r : Rep K F H μ) (h : μ p = some (.ml ds)) : ∃ F', Same F F' ∧ Rep K F' H (fun b => if b = p then none else μ b) ∧ Is K F' (.ref p) (.lst ds) := by
  obtain ⟨fp, vs, h1, h2⟩ := r.mem p _ h
  have e := same_new (o := .lst vs) fp
  refine ⟨L2.upd F p (.lst vs), e, ⟨fun b x q => ?_, fun a mo q => ?_⟩, .lst (.inl (.inl upd_same)) (h2.up e)⟩
  · by_cases hb : b = p
    · subst hb; rw [upd_same] at q; rw [h1]; exact q
    · rw [upd_ne hb] at q; exact r.sub _ _ q
  · by_cases hb : a = p
    · rw [if_pos hb] at q; cases q
    · rw [if_neg hb] at q
      obtain ⟨f, m⟩ := r.mem a mo q
      exact ⟨by rw [upd_ne hb]; exact f, m.up e⟩
theorem Rep.less {μ' : Mem} (r : Rep K F H μ) (h : ∀ a mo, μ' a = some mo → μ a = some mo) : Rep K F H μ' := ⟨r.sub, fun a mo q => r.mem a mo (h a mo q)⟩
end
end DL

namespace DL
open PySem PySem.Spec PyProof.Rows L2

def W.opt {α : Type} : Option α → W α
  | some a => W.ret a
  | none => W.bad
@[simp] theorem W.opt_some {α : Type} (a : α) : W.opt (some a) = W.ret a := rfl
@[simp] theorem W.opt_none {α : Type} : (W.opt none : W α) = W.bad := rfl

/-! ### names, constants -/
def eVar (i : Nat) (ρ : Rho) : W D := match ρ[i]? with
  | some (some d) => W.ret d
  | _ => W.bad
def eC (d : D) (_ : Rho) : W D := W.ret d
section
variable {X : Cx} {Eh : Option EX}
theorem de_var {i : Nat} {x : Str} {pos : Pos} (hN : X.N[i]? = some x) (hv : Vis X.env.scope x) (hd : (x == ("__debug__" : Str)) = false) (hcd : (x == ("__classdict__" : Str)) = false) : DE X Eh (.Name x pos) (eVar i) := by
  refine PE.imp (pe_var hN hv hd hcd) fun σ H Qh ⟨F, ρ, μ, Q, ED, env, rep, lnk, hm, bk⟩ => ?_
  unfold eVar at hm
  cases e : ρ[i]? with
  | none => rw [e] at hm; exact hm.elim
  | some o =>
    cases o with
    | none => rw [e] at hm; exact hm.elim
    | some d =>
      rw [e] at hm
      obtain ⟨v, h1, h2⟩ := env.get i d e
      exact ⟨v, h1, bk v H d F μ (Same.refl F) rep h2 hm⟩
theorem de_int {i j pos} : DE X Eh (.Constant (.int i) j pos) (eC (.int i)) :=
  PE.imp pe_int fun σ H Qh ⟨F, ρ, μ, Q, ED, env, rep, lnk, hm, bk⟩ => bk _ H _ F μ (Same.refl F) rep (.int i) hm
theorem de_bl {b j pos} : DE X Eh (.Constant (.bool b) j pos) (eC (.bl b)) :=
  PE.imp pe_bl fun σ H Qh ⟨F, ρ, μ, Q, ED, env, rep, lnk, hm, bk⟩ => bk _ H _ F μ (Same.refl F) rep (.bl b) hm
theorem de_non {j pos} : DE X Eh (.Constant .none j pos) (eC .non) :=
  PE.imp pe_non fun σ H Qh ⟨F, ρ, μ, Q, ED, env, rep, lnk, hm, bk⟩ => bk _ H _ F μ (Same.refl F) rep .non hm
theorem de_str {x j pos} : DE X Eh (.Constant (.str x) j pos) (eC (.str x)) :=
  PE.imp pe_str fun σ H Qh ⟨F, ρ, μ, Q, ED, env, rep, lnk, hm, bk⟩ => bk _ H _ F μ (Same.refl F) rep (.str x) hm
/-! ### two operands -/
def OpD (K : PySem.W.Frag) (r : R2) (g : D → D → W D) : Prop := ∀ (F H : Hp) (μ : Mem) (x y : V) (dx dy : D) (Q : D → Mem → Prop) (ED : XD) (Qh : VK), Rep K F H μ → Is K F x dx → Is K F y dy → g dx dy μ Q ED → Back K F (Is K) Q Qh → r x y H Qh
def eBin (g : D → D → W D) (ma mb : Rho → W D) (ρ : Rho) : W D := W.bnd (ma ρ) fun x => W.bnd (mb ρ) fun y => g x y
theorem lift_bin {K : PySem.W.Frag} {r : R2} {g : D → D → W D} {ma mb : Rho → W D} (hg : OpD K r g) {σ : L2.St} {H : Hp} {Qh : VK} (h : liftE K Eh (eBin g ma mb) σ H Qh) : tOp r (liftE K Eh ma) (liftE K Eh mb) σ H Qh := by
  obtain ⟨F, ρ, μ, Q, ED, env, rep, lnk, hm, bk⟩ := h
  refine ⟨F, ρ, μ, _, ED, env, rep, lnk, hm, fun v1 H1 d1 F1 μ1 s1 r1 i1 q1 => ?_⟩
  refine ⟨F1, ρ, μ1, _, ED, env.up s1, r1, lnk.up s1, q1, fun v2 H2 d2 F2 μ2 s2 r2 i2 q2 => ?_⟩
  exact hg F2 H2 μ2 v1 v2 d1 d2 Q ED Qh r2 (i1.up s2) i2 q2 fun v3 H3 d3 F3 μ3 s3 r3 i3 q3 => bk v3 H3 d3 F3 μ3 ((s1.trans s2).trans s3) r3 i3 q3
theorem de_op {op : Operator} {r : R2} {g : D → D → W D} {a b : Expr} {ma mb : Rho → W D} {pos : Pos} (ho : OpR X (binaryOp op) r) (hg : OpD X.K r g) (ha : DE X Eh a ma) (hb : DE X Eh b mb) : DE X Eh (.BinOp a op b pos) (eBin g ma mb) :=
  PE.imp (pe_op ho ha hb) fun _ _ _ h => lift_bin hg h
theorem de_cmp {op : CmpOp} {r : R2} {g : D → D → W D} {a b : Expr} {ma mb : Rho → W D} {pos : Pos} (ho : OpR X (compareOp op) r) (hg : OpD X.K r g) (ha : DE X Eh a ma) (hb : DE X Eh b mb) (hm : behindInMarks op b = false) : DE X Eh (.Compare a [op] [b] pos) (eBin g ma mb) :=
  PE.imp (pe_cmpR ho ha hb hm) fun _ _ _ h => lift_bin hg h
theorem de_ix {r : R2} {g : D → D → W D} {a b : Expr} {ma mb : Rho → W D} {pos : Pos} (hr : IxR X r) (hg : OpD X.K r g) (ha : DE X Eh a ma) (hb : DE X Eh b mb) (hs : PlainIx b) : DE X Eh (.Subscript a b pos) (eBin g ma mb) :=
  PE.imp (pe_ix hr ha hb hs) fun _ _ _ h => lift_bin hg h
/-- .. as a test -/
def tBin (g : D → D → W D) (ma mb : Rho → W D) (ρ : Rho) : W Bool := W.bnd (eBin g ma mb ρ) fun d => match d with
  | .bl b => W.ret b
  | _ => W.bad
theorem is_bl {K : PySem.W.Frag} {F : Hp} {v : V} {b : Bool} (h : Is K F v (.bl b)) : v = .bl b := by
  cases h
  rfl
theorem is_int {K : PySem.W.Frag} {F : Hp} {v : V} {b : Int} (h : Is K F v (.int b)) : v = .int b := by
  cases h
  rfl
theorem is_obj {K : PySem.W.Frag} {F : Hp} {v : V} {a : Addr} (h : Is K F v (.obj a)) : v = .ref a := by
  cases h
  rfl
theorem dt_cmp {op : CmpOp} {r : R2} {g : D → D → W D} {a b : Expr} {ma mb : Rho → W D} {pos : Pos} (ho : OpR X (compareOp op) r) (hg : OpD X.K r g) (ha : DE X Eh a ma) (hb : DE X Eh b mb) (hm : behindInMarks op b = false) : DT X Eh (.Compare a [op] [b] pos) (tBin g ma mb) := by
  refine PT.imp (pt_cmpR ho ha hb hm) fun σ H Qh h => ?_
  obtain ⟨F, ρ, μ, Q, ED, env, rep, lnk, hm, bk⟩ := h
  refine lift_bin (Eh := Eh) hg ⟨F, ρ, μ, _, ED, env, rep, lnk, hm, fun v H' d F' μ' s' r' i' q' => ?_⟩
  cases d with
  | bl b =>
    cases is_bl i'
    exact ⟨b, rfl, bk b H' b F' μ' s' r' rfl q'⟩
  | _ => exact q'.elim
end

/-! ### what a value is, with the mutable objects -/
/-- the items of a list, a tuple -/
def lsOf (x : D) (μ : Mem) : Option (List D) := match x with
  | .lst ds => some ds
  | .obj a => (match μ a with
    | some (.ml ds) => some ds
    | _ => none)
  | _ => none
def sqOf (x : D) (μ : Mem) : Option (List D) := match x with
  | .tup ds => some ds
  | x => lsOf x μ
section
variable {K : PySem.W.Frag} {F H : Hp} {μ : Mem} {v : V} {d : D} {ds : List D}
theorem ls_of (r : Rep K F H μ) (i : Is K F v d) (h : lsOf d μ = some ds) : ∃ a vs, v = .ref a ∧ SqL K H a vs ∧ IsL K F vs ds := by
  cases i with
  | lst hr hl =>
    cases h
    exact ⟨_, _, rfl, sql_up r.sub hr, hl⟩
  | obj a =>
    unfold lsOf at h
    simp only at h
    split at h
    · rename_i es e
      cases h
      obtain ⟨_, vs, h1, h2⟩ := r.mem a _ e
      exact ⟨a, vs, rfl, .inl (.inl h1), h2⟩
    · cases h
  | _ => cases h
theorem sq_of (r : Rep K F H μ) (i : Is K F v d) (h : sqOf d μ = some ds) : ∃ a vs, v = .ref a ∧ IsL K F vs ds ∧ (SqL K H a vs ∨ SqT K H a vs) := by
  cases i with
  | tup hr hl =>
    cases h
    exact ⟨_, _, rfl, hl, .inr (sqt_up r.sub hr)⟩
  | lst hr hl =>
    obtain ⟨a, vs, e, h1, h2⟩ := ls_of r (.lst hr hl) h
    exact ⟨a, vs, e, h2, .inl h1⟩
  | obj a =>
    obtain ⟨a, vs, e, h1, h2⟩ := ls_of r (.obj a) h
    exact ⟨a, vs, e, h2, .inl h1⟩
  | _ => cases h
end

/-! ### a new list, a new tuple behind a value -/
section
variable {K : PySem.W.Frag} {F H : Hp} {μ : Mem} {Q : D → Mem → Prop} {Qh : VK} {vs : List V} {ds : List D} {p : Addr}
theorem back_lst (bk : Back K F (Is K) Q Qh) (r : Rep K F H μ) (hn : H p = none) (il : IsL K F vs ds) (q : Q (.lst ds) μ) : Qh (.ref p) (upd H p (.lst vs)) := by
  have e := same_new (o := .lst vs) (r.nn hn)
  exact bk _ _ _ _ _ e (r.new hn) (.lst (.inl (.inl upd_same)) (il.up e)) q
theorem back_tup (bk : Back K F (Is K) Q Qh) (r : Rep K F H μ) (hn : H p = none) (il : IsL K F vs ds) (q : Q (.tup ds) μ) : Qh (.ref p) (upd H p (.tup vs)) := by
  have e := same_new (o := .tup vs) (r.nn hn)
  exact bk _ _ _ _ _ e (r.new hn) (.tup (.inl (.inl upd_same)) (il.up e)) q
theorem back_mut (bk : Back K F (Is K) Q Qh) (r : Rep K F H μ) (hn : H p = none) (il : IsL K F vs ds) (q : Q (.obj p) (put μ p (.ml ds))) : Qh (.ref p) (upd H p (.lst vs)) :=
  bk _ _ _ _ _ (Same.refl F) (r.newM (mo := .ml ds) hn ⟨vs, upd_same, il⟩) (.obj p) q
theorem back_is {v : V} {d : D} (bk : Back K F (Is K) Q Qh) (r : Rep K F H μ) (i : Is K F v d) (q : Q d μ) : Qh v H := bk _ _ _ _ _ (Same.refl F) r i q
end

/-! ### + - * // % ** -/
def rCatR (K : PySem.W.Frag) : R2 := fun x y H Q => ∃ l b xs zs, x = .ref l ∧ y = .ref b ∧ SqL K H l xs ∧ SqL K H b zs ∧ xs.length + zs.length ≤ sizeLine ∧ ∀ p, H p = none → Q (.ref p) (upd H p (.lst (xs ++ zs)))
theorem op_catR {X : Cx} : OpR X (binaryOp .Add) (rCatR X.K) := by
  intro pins s σ H x y v u Q I rx ry h
  obtain ⟨l, b, xs, zs, rfl, rfl, hH, hB, hz, q⟩ := h
  cases rx
  cases ry
  obtain ⟨i1, v1, ⟨⟨c1, dd1, da1, sl1⟩, n1, g1, hc1, _, hd1⟩, z1⟩ := I.list hH
  obtain ⟨i2, v2, ⟨⟨c2, dd2, da2, sl2⟩, n2, g2, hc2, _, hd2⟩, z2⟩ := I.list hB
  simp only at hc1 hd1 hc2 hd2
  subst hc1 hd1 hc2 hd2
  have l1 := v1.length
  have l2 := v2.length
  have nw := I.lnew (t' := s.toks) (v1.append v2) (by rw [List.length_append]; omega)
  have fin : EP X pins σ Q (.ref s.heap.objs.size) { s with heap := s.heap.push { cls := .type "list", data := .seq (i1.toArray ++ i2.toArray) } } := by
    rw [show i1.toArray ++ i2.toArray = (i1 ++ i2).toArray by simp]
    exact ⟨.ref s.heap.objs.size, upd H s.heap.objs.size (.lst (xs ++ zs)), nw, rfl, q _ I.fresh⟩
  exact concat_meets ⟨_, g1, rfl⟩ ⟨_, g2, rfl⟩ noFill_list_add seq_list_add PySem.F.slot_list_add PySem.F.entry_list_add (PySem.F.args_list_add_2 _ _) (list_addW l b i1.toArray i2.toArray n1 n2 dd1 dd2 sl1 sl2 (by rw [List.size_toArray, List.size_toArray]; omega)) ⟨g1, g2, fin⟩
def addD : D → D → W D
  | .int i, .int j => W.ret (.int (i + j))
  | .str a, .str b => W.req (a.length + b.length ≤ sizeLine) (W.ret (.str (a ++ b)))
  | .tup a, .tup b => W.req (a.length + b.length ≤ sizeLine) (W.ret (.tup (a ++ b)))
  | x, y => W.bnd W.get fun μ => W.bnd (W.opt (lsOf x μ)) fun a => W.bnd (W.opt (lsOf y μ)) fun b => W.req (a.length + b.length ≤ sizeLine) (W.ret (.lst (a ++ b)))
def rAddA (K : PySem.W.Frag) : R2 := fun x y H Q => (rI0 fun i j => .int (i + j)) x y H Q ∨ ((∃ i j, x = .str i ∧ y = .str j ∧ i.length + j.length ≤ sizeLine ∧ Q (.str (i ++ j)) H) ∨ (rCatA K x y H Q ∨ rCatR K x y H Q))
theorem op_addA {X : Cx} : OpR X (binaryOp .Add) (rAddA X.K) := op_add.or (op_add_str.or (op_catA.or op_catR))
theorem opt_of {α : Type} {o : Option α} {μ : Mem} {Q : α → Mem → Prop} {E : XD} (h : W.opt o μ Q E) : ∃ a, o = some a ∧ Q a μ := by
  cases o with
  | none => exact h.elim
  | some a => exact ⟨a, rfl, h⟩
theorem cat_lists {K : PySem.W.Frag} {F H : Hp} {μ : Mem} {x y : V} {dx dy : D} {Q : D → Mem → Prop} {ED : XD} {Qh : VK} (r : Rep K F H μ) (ix : Is K F x dx) (iy : Is K F y dy)
    (h : W.bnd W.get (fun μ => W.bnd (W.opt (lsOf dx μ)) fun a => W.bnd (W.opt (lsOf dy μ)) fun b => W.req (a.length + b.length ≤ sizeLine) (W.ret (.lst (a ++ b)))) μ Q ED) (bk : Back K F (Is K) Q Qh) : rCatR K x y H Qh := by
  obtain ⟨a, ea, h⟩ := opt_of h
  obtain ⟨b, eb, h⟩ := opt_of h
  obtain ⟨hz, q⟩ := h
  obtain ⟨p1, v1, rfl, h1, l1⟩ := ls_of r ix ea
  obtain ⟨p2, v2, rfl, h2, l2⟩ := ls_of r iy eb
  exact ⟨p1, p2, v1, v2, rfl, rfl, h1, h2, by rw [l1.length, l2.length]; exact hz, fun p hn => back_lst bk r hn (l1.app l2) q⟩
theorem opd_add {K : PySem.W.Frag} : OpD K (rAddA K) addD := by
  intro F H μ x y dx dy Q ED Qh r ix iy h bk
  unfold addD at h
  split at h
  · cases ix; cases iy
    exact .inl ⟨_, _, rfl, rfl, back_is bk r (.int _) h⟩
  · cases ix; cases iy
    obtain ⟨hz, q⟩ := h
    exact .inr (.inl ⟨_, _, rfl, rfl, hz, back_is bk r (.str _) q⟩)
  · obtain ⟨hz, q⟩ := h
    cases ix with
    | tup s1 l1 =>
      cases iy with
      | tup s2 l2 =>
        refine .inr (.inr (.inl ⟨_, _, _, _, rfl, rfl, sqt_up r.sub s1, sqt_up r.sub s2, by rw [l1.length, l2.length]; exact hz, fun e => ?_, fun _ e => ?_, fun _ _ p hn => back_tup bk r hn (l1.app l2) q⟩))
        · subst e; cases l1
          exact back_is bk r (.tup s2 l2) q
        · subst e; cases l2
          rw [List.append_nil] at q
          exact back_is bk r (.tup s1 l1) q
  · exact .inr (.inr (.inr (cat_lists r ix iy h bk)))
def subD : D → D → W D
  | .int i, .int j => W.ret (.int (i - j))
  | _, _ => W.bad
theorem opd_sub {K : PySem.W.Frag} : OpD K (rI0 fun i j => .int (i - j)) subD := by
  intro F H μ x y dx dy Q ED Qh r ix iy h bk
  unfold subD at h
  split at h
  · cases ix; cases iy
    exact ⟨_, _, rfl, rfl, back_is bk r (.int _) h⟩
  · exact h.elim
def divD : D → D → W D
  | .int i, .int j => W.req (CDivW i j) (W.ret (.int (i / j)))
  | _, _ => W.bad
theorem opd_div {K : PySem.W.Frag} : OpD K (rI CDivW fun i j => .int (i / j)) divD := by
  intro F H μ x y dx dy Q ED Qh r ix iy h bk
  unfold divD at h
  split at h
  · cases ix; cases iy
    exact ⟨_, _, rfl, rfl, h.1, back_is bk r (.int _) h.2⟩
  · exact h.elim
def modD : D → D → W D
  | .int i, .int j => W.req (0 < j) (W.ret (.int (i % j)))
  | _, _ => W.bad
theorem opd_mod {K : PySem.W.Frag} : OpD K (rI (fun _ j => 0 < j) fun i j => .int (i % j)) modD := by
  intro F H μ x y dx dy Q ED Qh r ix iy h bk
  unfold modD at h
  split at h
  · cases ix; cases iy
    exact ⟨_, _, rfl, rfl, h.1, back_is bk r (.int _) h.2⟩
  · exact h.elim
def powD : D → D → W D
  | .int i, .int j => W.req (CPow i j) (W.ret (.int (i ^ j.toNat)))
  | _, _ => W.bad
theorem opd_pow {K : PySem.W.Frag} : OpD K (rI CPow fun i j => .int (i ^ j.toNat)) powD := by
  intro F H μ x y dx dy Q ED Qh r ix iy h bk
  unfold powD at h
  split at h
  · cases ix; cases iy
    exact ⟨_, _, rfl, rfl, h.1, back_is bk r (.int _) h.2⟩
  · exact h.elim

/-! ### one operand -/
def eUn (g : D → W D) (ma : Rho → W D) (ρ : Rho) : W D := W.bnd (ma ρ) g
def negD : D → W D
  | .int i => W.ret (.int (-i))
  | _ => W.bad
/-! ### comparisons -/
def cmpI (p : Int → Int → Bool) (q : List Nat → List Nat → Bool) : D → D → W D
  | .int i, .int j => W.ret (.bl (p i j))
  | .str a, .str b => W.ret (.bl (q a.cps.toList b.cps.toList))
  | _, _ => W.bad
abbrev ltD := cmpI (fun i j => decide (i < j)) (fun a b => decide (a < b))
abbrev leD := cmpI (fun i j => decide (i ≤ j)) (fun a b => !decide (b < a))
abbrev gtD := cmpI (fun i j => decide (j < i)) (fun a b => decide (b < a))
abbrev geD := cmpI (fun i j => decide (j ≤ i)) (fun a b => !decide (a < b))
def rCmpA (p : Int → Int → Bool) (q : List Nat → List Nat → Bool) : R2 := fun x y H Q => (rI0 fun i j => .bl (p i j)) x y H Q ∨ ∃ i j, x = .str i ∧ y = .str j ∧ Q (.bl (q i.cps.toList j.cps.toList)) H
theorem opd_cmp {K : PySem.W.Frag} {p : Int → Int → Bool} {q : List Nat → List Nat → Bool} : OpD K (rCmpA p q) (cmpI p q) := by
  intro F H μ x y dx dy Q ED Qh r ix iy h bk
  unfold cmpI at h
  split at h
  · cases ix; cases iy
    exact .inl ⟨_, _, rfl, rfl, back_is bk r (.bl _) h⟩
  · cases ix; cases iy
    exact .inr ⟨_, _, rfl, rfl, back_is bk r (.bl _) h⟩
  · exact h.elim
section
variable {X : Cx}
theorem op_ltA : OpR X (compareOp .Lt) (rCmpA (fun i j => decide (i < j)) (fun a b => decide (a < b))) := op_lt.or op_lt_str
theorem op_leA : OpR X (compareOp .LtE) (rCmpA (fun i j => decide (i ≤ j)) (fun a b => !decide (b < a))) := op_le.or op_le_str
theorem op_gtA : OpR X (compareOp .Gt) (rCmpA (fun i j => decide (j < i)) (fun a b => decide (b < a))) := op_gt.or op_gt_str
theorem op_geA : OpR X (compareOp .GtE) (rCmpA (fun i j => decide (j ≤ i)) (fun a b => !decide (a < b))) := op_ge.or op_ge_str
end
end DL

namespace DL
open PySem PySem.Spec PyProof.Rows L2

/-! ### data as the model has it -/
def keyPy : Key → PyData
  | .inl i => .int i
  | .inr x => .str x
mutual
def py : D → Option PyData
  | .non => some .none
  | .bl b => some (.bool b)
  | .int i => some (.int i)
  | .str s => some (.str s)
  | .tup ds => (pyL ds).map .tuple
  | .lst ds => (pyL ds).map .list
  | .dct kvs => (pyK kvs).map .dict
  | .obj _ => none
  | .ty _ => none
  | .fnv _ _ _ _ _ _ => none
  | .exv _ _ _ _ => none
def pyL : List D → Option (List PyData)
  | [] => some []
  | d :: r => match py d, pyL r with
    | some x, some xs => some (x :: xs)
    | _, _ => none
def pyK : List (Key × D) → Option (List (PyData × PyData))
  | [] => some []
  | (k, d) :: r => match py d, pyK r with
    | some x, some xs => some ((keyPy k, x) :: xs)
    | _, _ => none
end
def pyM (μ : Mem) (d : D) : Option PyData := match d with
  | .obj a => (match μ a with
    | some (.ml ds) => (pyL ds).map .list
    | _ => none)
  | d => py d
theorem pyL_cons {d : D} {r : List D} {ps : List PyData} (h : pyL (d :: r) = some ps) : ∃ x xs, py d = some x ∧ pyL r = some xs ∧ ps = x :: xs := by
  unfold pyL at h
  split at h
  · rename_i x xs e1 e2
    cases h
    exact ⟨x, xs, e1, e2, rfl⟩
  · cases h
section
variable {K : PySem.W.Frag} {F H : Hp} (e : Same F H)
include e
mutual
theorem Is.dp : ∀ {v : V} {d : D} {p : PyData}, Is K F v d → py d = some p → p.canLay0 = true → Dp K H v p
  | _, _, _, .non, h, _ => by cases h; exact .non
  | _, _, _, .bl b, h, _ => by cases h; exact .bl b
  | _, _, _, .int i, h, _ => by cases h; exact .int i
  | _, _, _, .str s, h, _ => by cases h; exact .str s
  | _, _, _, .tup hs hl, h, c => by
    unfold py at h
    obtain ⟨ps, h1, h2⟩ := Option.map_eq_some_iff.mp h
    subst h2
    exact .tup (sqt_up e hs) (IsL.dp hl h1 c)
  | _, _, _, .lst hs hl, h, c => by
    unfold py at h
    obtain ⟨ps, h1, h2⟩ := Option.map_eq_some_iff.mp h
    subst h2
    exact .lst (sql_up e hs) (IsL.dp hl h1 c)
  | _, _, _, .dct hs hk hl, h, c => by
    unfold py at h
    obtain ⟨ps, h1, h2⟩ := Option.map_eq_some_iff.mp h
    subst h2
    cases c
  | _, _, _, .obj a, h, c => by cases h
  | _, _, _, .ty a, h, c => by cases h
  | _, _, _, .fnv _ _ _, h, c => by cases h
  | _, _, _, .exv0 _, h, c => by cases h
  | _, _, _, .exv _ _ _ _, h, c => by cases h
theorem IsL.dp : ∀ {vs : List V} {ds : List D} {ps : List PyData}, IsL K F vs ds → pyL ds = some ps → PyData.canLayAll0 ps = true → DpAll K H vs ps
  | _, _, _, .nil, h, _ => by cases h; exact .nil
  | _, _, _, .cons i r, h, c => by
    obtain ⟨x, xs, h1, h2, rfl⟩ := pyL_cons h
    have c' := Bool.and_eq_true_iff.mp (show (x.canLay0 && PyData.canLayAll0 xs) = true from c)
    exact .cons (Is.dp i h1 c'.1) (IsL.dp r h2 c'.2)
end
end
theorem dp_of {K : PySem.W.Frag} {F H : Hp} {μ : Mem} {v : V} {d : D} {p : PyData} (r : Rep K F H μ) (i : Is K F v d) (h : pyM μ d = some p) (c : p.canLay0 = true) : Dp K H v p := by
  cases i with
  | obj a =>
    unfold pyM at h
    simp only at h
    split at h
    · rename_i ds e
      obtain ⟨ps, h1, h2⟩ := Option.map_eq_some_iff.mp h
      subst h2
      obtain ⟨_, vs, h3, h4⟩ := r.mem a _ e
      exact .lst (.inl (.inl h3)) (IsL.dp r.sub h4 h1 c)
    · cases h
  | non => exact Is.dp r.sub .non h c
  | bl b => exact Is.dp r.sub (.bl b) h c
  | int b => exact Is.dp r.sub (.int b) h c
  | str b => exact Is.dp r.sub (.str b) h c
  | tup a b => exact Is.dp r.sub (.tup a b) h c
  | lst a b => exact Is.dp r.sub (.lst a b) h c
  | dct a b c' => exact Is.dp r.sub (.dct a b c') h c
  | ty b => cases h
  | fnv _ _ _ => cases h
  | exv0 _ => cases h
  | exv _ _ _ _ => cases h

/-! ### == and != -/
def eqW (f : Bool → Bool) (x y : D) : W D := W.bnd W.get fun μ => W.bnd (W.opt (pyM μ x)) fun a => W.bnd (W.opt (pyM μ y)) fun b => W.req (SeqAt.shaped a = true ∧ SeqAt.shaped b = true) (W.ret (.bl (f (PyData.eqv a b))))
theorem eqw_of {K : PySem.W.Frag} {F H : Hp} {μ : Mem} {x y : V} {dx dy : D} {f : Bool → Bool} {Q : D → Mem → Prop} {ED : XD} {Qh : VK} (r : Rep K F H μ) (ix : Is K F x dx) (iy : Is K F y dy) (h : eqW f dx dy μ Q ED) (bk : Back K F (Is K) Q Qh) :
    ∃ a b, Dp K H x a ∧ Dp K H y b ∧ SeqAt.shaped a = true ∧ SeqAt.shaped b = true ∧ Qh (.bl (f (PyData.eqv a b))) H := by
  obtain ⟨a, ea, h⟩ := opt_of h
  obtain ⟨b, eb, h⟩ := opt_of h
  obtain ⟨⟨s1, s2⟩, q⟩ := h
  exact ⟨a, b, dp_of r ix ea (SeqAt.canLay_of_shaped s1), dp_of r iy eb (SeqAt.canLay_of_shaped s2), s1, s2, back_is bk r (.bl _) q⟩
/-- texts and numbers at once, all else by what it holds -/
def eqA (f : Bool → Bool) (x y : D) : W D := match x, y with
  | .str a, .str b => W.ret (.bl (f (a == b)))
  | .int a, .int b => W.ret (.bl (f (decide (a = b))))
  | x, y => eqW f x y
abbrev eqD := eqA id
abbrev neD := eqA not
def rEqA (K : PySem.W.Frag) : R2 := fun x y H Q => rEq x y H Q ∨ rEqD K x y H Q
def rNeA (K : PySem.W.Frag) : R2 := fun x y H Q => rNe x y H Q ∨ rNeD K x y H Q
theorem op_eqA {X : Cx} (hu : X.A.units + 64 < cLine) : OpR X (compareOp .Eq) (rEqA X.K) := op_eq.or (op_eqD hu)
theorem op_neA {X : Cx} (hu : X.A.units + 64 < cLine) : OpR X (compareOp .NotEq) (rNeA X.K) := op_ne.or (op_neD hu)
theorem opd_eq {K : PySem.W.Frag} : OpD K (rEqA K) eqD := fun F H μ x y dx dy Q ED Qh r ix iy h bk => by
  unfold eqD eqA at h
  split at h
  · cases ix; cases iy
    refine .inl ⟨rfl, ?_⟩
    rw [dec_str]
    exact back_is bk r (.bl _) h
  · cases ix; cases iy
    refine .inl ⟨rfl, ?_⟩
    have e : ∀ i j : Int, decide (V.int i = V.int j) = decide (i = j) := fun i j => by rw [Bool.eq_iff_iff]; simp
    rw [e]
    exact back_is bk r (.bl _) h
  · exact .inr (eqw_of r ix iy h bk)
theorem opd_ne {K : PySem.W.Frag} : OpD K (rNeA K) neD := fun F H μ x y dx dy Q ED Qh r ix iy h bk => by
  unfold neD eqA at h
  split at h
  · cases ix; cases iy
    refine .inl ⟨rfl, ?_⟩
    rw [dec_str]
    exact back_is bk r (.bl _) h
  · cases ix; cases iy
    refine .inl ⟨rfl, ?_⟩
    have e : ∀ i j : Int, decide (V.int i = V.int j) = decide (i = j) := fun i j => by rw [Bool.eq_iff_iff]; simp
    rw [e]
    exact back_is bk r (.bl _) h
  · exact .inr (eqw_of r ix iy h bk)
theorem eqA_of {f : Bool → Bool} {x y : D} {μ : Mem} {Q : D → Mem → Prop} {E : XD} (h : eqW f x y μ Q E) : eqA f x y μ Q E := by
  unfold eqA
  split
  · obtain ⟨_, q⟩ := h
    exact q
  · rename_i a b
    obtain ⟨_, q⟩ := h
    have q : Q (.bl (f (a == b))) μ := q
    have e : (a == b) = decide (a = b) := Bool.eq_iff_iff.mpr (by simp)
    rw [e] at q
    exact q
  · exact h

/-! ### is None -/
def isNon : D → Bool
  | .non => true
  | _ => false
def isND (f : Bool → Bool) (x y : D) : W D := match y with
  | .non => W.ret (.bl (f (isNon x)))
  | _ => W.bad
/-! ### truth -/
def truD (x : D) : W Bool := match x with
  | .non => W.ret false
  | .bl b => W.ret b
  | .int i => W.ret (i != 0)
  | .str y => W.req (y.length ≤ sizeLine) (W.ret ((y.length : Int) != 0))
  | .dct kvs => W.ret (!kvs.isEmpty)
  | x => W.bnd W.get fun μ => W.bnd (W.opt (sqOf x μ)) fun ds => W.ret (!ds.isEmpty)
theorem isEmpty_isL {K : PySem.W.Frag} {F : Hp} {vs : List V} {ds : List D} (h : IsL K F vs ds) : ds.isEmpty = vs.isEmpty := by
  cases h <;> rfl
theorem tru_of {K : PySem.W.Frag} {F H : Hp} {μ : Mem} {x : V} {d : D} {Q : Bool → Mem → Prop} {ED : XD} (r : Rep K F H μ) (i : Is K F x d) (h : truD d μ Q ED) : ∃ k, TruV K x H k ∧ Q k μ := by
  have sq : ∀ {a : Addr} {d : D}, Is K F (.ref a) d → W.bnd W.get (fun μ => W.bnd (W.opt (sqOf d μ)) fun ds => W.ret (!ds.isEmpty)) μ Q ED → ∃ k, TruV K (.ref a) H k ∧ Q k μ := fun {a d} i h => by
    obtain ⟨ds, e, q⟩ := opt_of h
    obtain ⟨b, vs, ev, hl, hs⟩ := sq_of r i e
    cases ev
    refine ⟨_, ?_, q⟩
    rw [isEmpty_isL hl]
    rcases hs with hs | hs
    · exact .inl ⟨vs, hs, rfl⟩
    · exact .inr (.inl ⟨vs, hs, rfl⟩)
  cases i with
  | non => exact ⟨false, rfl, h⟩
  | bl b => exact ⟨b, rfl, h⟩
  | int b => exact ⟨_, rfl, h⟩
  | str b => exact ⟨_, ⟨h.1, rfl⟩, h.2⟩
  | tup a b => exact sq (.tup a b) h
  | lst a b => exact sq (.lst a b) h
  | obj a => exact sq (.obj a) h
  | @dct a ks ds h1 h2 h3 =>
    refine ⟨_, .inr (.inr ⟨ks, r.sub _ _ h1, rfl⟩), ?_⟩
    have e : ks.isEmpty = ds.isEmpty := by
      have := congrArg List.length h2
      rw [List.length_map, List.length_map] at this
      cases ks <;> cases ds <;> simp at this ⊢
    rw [e]
    exact h
  | ty n => exact False.elim h
  | fnv _ _ _ => exact False.elim h
  | exv0 _ => exact False.elim h
  | exv _ _ _ _ => exact False.elim h
section
variable {X : Cx} {Eh : Option EX} {a b c : Expr} {ma mb mc : Rho → W D} {ta tb tc : Rho → W Bool} {pos : Pos}
def tTru (ma : Rho → W D) (ρ : Rho) : W Bool := W.bnd (ma ρ) truD
theorem dt_truth (ha : DE X Eh a ma) (he : ∀ whole, isTrue a X.env whole = (do let v ← whole; standAt a.pos; holding [v] (truthy v))) : DT X Eh a (tTru ma) := by
  refine PT.imp (pt_truth ha he) fun σ H Qh h => ?_
  obtain ⟨F, ρ, μ, Q, ED, env, rep, lnk, hm, bk⟩ := h
  refine ⟨F, ρ, μ, _, ED, env, rep, lnk, hm, fun v1 H1 d1 F1 μ1 s1 r1 i1 q1 => ?_⟩
  obtain ⟨k, t, q⟩ := tru_of r1 i1 q1
  exact ⟨k, t, bk k H1 k F1 μ1 s1 r1 rfl q⟩
def tAndW (ta tb : Rho → W Bool) (ρ : Rho) : W Bool := W.bnd (ta ρ) fun k => if k = true then tb ρ else W.ret false
def tOrW (ta tb : Rho → W Bool) (ρ : Rho) : W Bool := W.bnd (ta ρ) fun k => if k = true then W.ret true else tb ρ
def tNotW (ta : Rho → W Bool) (ρ : Rho) : W Bool := W.bnd (ta ρ) fun k => W.ret (!k)
variable {rest : List Expr}
theorem dt_not (ha : DT X Eh a ta) : DT X Eh (.UnaryOp .Not a pos) (tNotW ta) := by
  refine PT.imp (pt_not ha) fun σ H Qh h => ?_
  obtain ⟨F, ρ, μ, Q, ED, env, rep, lnk, hm, bk⟩ := h
  refine ⟨F, ρ, μ, _, ED, env, rep, lnk, hm, fun v1 H1 d1 F1 μ1 s1 r1 i1 q1 => ?_⟩
  subst i1
  exact bk _ H1 _ F1 μ1 s1 r1 rfl q1
/-- as values, by truth -/
def eAnd (ma mb : Rho → W D) (ρ : Rho) : W D := W.bnd (ma ρ) fun x => W.bnd (truD x) fun k => if k = true then mb ρ else W.ret x
def eOr (ma mb : Rho → W D) (ρ : Rho) : W D := W.bnd (ma ρ) fun x => W.bnd (truD x) fun k => if k = true then W.ret x else mb ρ
def eNot (ma : Rho → W D) (ρ : Rho) : W D := W.bnd (ma ρ) fun x => W.bnd (truD x) fun k => W.ret (.bl (!k))
theorem de_one {op} (ha : DE X Eh a ma) : DE X Eh (.BoolOp op [a] pos) ma := pe_one ha
theorem de_and (ha : DE X Eh a ma) (hb : DE X Eh (.BoolOp .And (b :: rest) pos) mb) : DE X Eh (.BoolOp .And (a :: b :: rest) pos) (eAnd ma mb) := by
  refine PE.imp (pe_andT ha hb) fun σ H Qh h => ?_
  obtain ⟨F, ρ, μ, Q, ED, env, rep, lnk, hm, bk⟩ := h
  refine ⟨F, ρ, μ, _, ED, env, rep, lnk, hm, fun v1 H1 d1 F1 μ1 s1 r1 i1 q1 => ?_⟩
  obtain ⟨k, t, q⟩ := tru_of r1 i1 q1
  refine ⟨k, t, ?_⟩
  cases k with
  | true => exact ⟨F1, ρ, μ1, _, ED, env.up s1, r1, lnk.up s1, q, fun v2 H2 d2 F2 μ2 s2 r2 i2 q2 => bk v2 H2 d2 F2 μ2 (s1.trans s2) r2 i2 q2⟩
  | false => exact bk _ H1 _ F1 μ1 s1 r1 i1 q
def eIf (tc : Rho → W Bool) (ma mb : Rho → W D) (ρ : Rho) : W D := W.bnd (tc ρ) fun k => if k = true then ma ρ else mb ρ
/-- a op b op' c -/
def eChain (g g' : D → D → W D) (ma mb mc : Rho → W D) (ρ : Rho) : W D := W.bnd (ma ρ) fun x => W.bnd (mb ρ) fun y => W.bnd (g x y) fun z => match z with
  | .bl true => W.bnd (mc ρ) fun u => g' y u
  | .bl false => W.ret (.bl false)
  | _ => W.bad
end

/-! ### displays -/
section
variable {X : Cx} {Eh : Option EX} {e : Expr} {es : List Expr} {me : Rho → W D} {ms : Rho → W (List D)} {pos : Pos}
def aNil (_ : Rho) : W (List D) := W.ret []
def aCons (me : Rho → W D) (ms : Rho → W (List D)) (ρ : Rho) : W (List D) := W.bnd (me ρ) fun x => W.bnd (ms ρ) fun xs => W.ret (x :: xs)
theorem da_nil : DA X Eh [] aNil := PA.imp pa_nil fun σ H Qh ⟨F, ρ, μ, Q, ED, env, rep, lnk, hm, bk⟩ => bk _ H _ F μ (Same.refl F) rep .nil hm
theorem da_cons (ha : DE X Eh e me) (hr : DA X Eh es ms) (hs : starEach (e :: es) X.env = (false, eval e X.env) :: starEach es X.env) : DA X Eh (e :: es) (aCons me ms) := by
  refine PA.imp (pa_cons ha hr hs) fun σ H Qh h => ?_
  obtain ⟨F, ρ, μ, Q, ED, env, rep, lnk, hm, bk⟩ := h
  refine ⟨F, ρ, μ, _, ED, env, rep, lnk, hm, fun v1 H1 d1 F1 μ1 s1 r1 i1 q1 => ?_⟩
  refine ⟨F1, ρ, μ1, _, ED, env.up s1, r1, lnk.up s1, q1, fun v2 H2 d2 F2 μ2 s2 r2 i2 q2 => ?_⟩
  exact bk _ H2 _ F2 μ2 (s1.trans s2) r2 (.cons (i1.up s2) i2) q2
def eTup (ms : Rho → W (List D)) (ρ : Rho) : W D := W.bnd (ms ρ) fun ds => W.req (ds.length ≤ sizeLine) (W.ret (.tup ds))
def eLst (ms : Rho → W (List D)) (ρ : Rho) : W D := W.bnd (ms ρ) fun ds => W.req (ds.length ≤ sizeLine) (W.ret (.lst ds))
/-- a list that will change: at any free place -/
def eLstM (ms : Rho → W (List D)) (ρ : Rho) : W D := W.bnd (ms ρ) fun ds => W.req (ds.length ≤ sizeLine) (fun μ Q _ => ∀ p, μ p = none → Q (.obj p) (put μ p (.ml ds)))
theorem de_tup {k} (h : DA X Eh es ms) : DE X Eh (.Tuple es k pos) (eTup ms) := by
  refine PE.imp (pe_tup h) fun σ H Qh h => ?_
  obtain ⟨F, ρ, μ, Q, ED, env, rep, lnk, hm, bk⟩ := h
  refine ⟨F, ρ, μ, _, ED, env, rep, lnk, hm, fun v1 H1 d1 F1 μ1 s1 r1 i1 q1 => ⟨by rw [i1.length]; exact q1.1, fun p hn => ?_⟩⟩
  exact back_tup (fun v2 H2 d2 F2 μ2 s2 r2 i2 q2 => bk v2 H2 d2 F2 μ2 (s1.trans s2) r2 i2 q2) r1 hn i1 q1.2
theorem de_lst (h : DA X Eh es ms) : DE X Eh (.List es pos) (eLst ms) := by
  refine PE.imp (pe_lst h) fun σ H Qh h => ?_
  obtain ⟨F, ρ, μ, Q, ED, env, rep, lnk, hm, bk⟩ := h
  refine ⟨F, ρ, μ, _, ED, env, rep, lnk, hm, fun v1 H1 d1 F1 μ1 s1 r1 i1 q1 => ⟨by rw [i1.length]; exact q1.1, fun p hn => ?_⟩⟩
  exact back_lst (fun v2 H2 d2 F2 μ2 s2 r2 i2 q2 => bk v2 H2 d2 F2 μ2 (s1.trans s2) r2 i2 q2) r1 hn i1 q1.2
theorem Rep.mfree {K : PySem.W.Frag} {F H : Hp} {μ : Mem} {p : Addr} (r : Rep K F H μ) (hn : H p = none) : μ p = none := by
  cases e : μ p with
  | none => rfl
  | some mo => exact absurd rfl ((r.mem p mo e).2.ne hn)
end
end DL

namespace DL
open PySem PySem.Spec PyProof.Rows L2

/-! ### a op b op' c -/
section
variable {X : Cx} {Eh : Option EX} {a b c : Expr} {ma mb mc : Rho → W D} {pos : Pos}
theorem lift_chain {K : PySem.W.Frag} {r r' : R2} {g g' : D → D → W D} (hg : OpD K r g) (hg' : OpD K r' g') {σ : L2.St} {H : Hp} {Qh : VK} (h : liftE K Eh (eChain g g' ma mb mc) σ H Qh) : tChain r r' (liftE K Eh ma) (liftE K Eh mb) (liftE K Eh mc) σ H Qh := by
  obtain ⟨F, ρ, μ, Q, ED, env, rep, lnk, hm, bk⟩ := h
  refine ⟨F, ρ, μ, _, ED, env, rep, lnk, hm, fun v1 H1 d1 F1 μ1 s1 r1 i1 q1 => ?_⟩
  refine ⟨F1, ρ, μ1, _, ED, env.up s1, r1, lnk.up s1, q1, fun v2 H2 d2 F2 μ2 s2 r2 i2 q2 => ?_⟩
  refine hg F2 H2 μ2 v1 v2 d1 d2 _ ED _ r2 (i1.up s2) i2 q2 fun v3 H3 d3 F3 μ3 s3 r3 i3 q3 => ?_
  cases d3 with
  | bl k =>
    cases is_bl i3
    refine ⟨k, rfl, ?_⟩
    cases k with
    | true =>
      refine ⟨F3, ρ, μ3, _, ED, env.up ((s1.trans s2).trans s3), r3, lnk.up ((s1.trans s2).trans s3), q3, fun v4 H4 d4 F4 μ4 s4 r4 i4 q4 => ?_⟩
      exact hg' F4 H4 μ4 v2 v4 d2 d4 Q ED Qh r4 ((i2.up s3).up s4) i4 q4 fun v5 H5 d5 F5 μ5 s5 r5 i5 q5 => bk v5 H5 d5 F5 μ5 ((((s1.trans s2).trans s3).trans s4).trans s5) r5 i5 q5
    | false => exact bk _ H3 _ F3 μ3 ((s1.trans s2).trans s3) r3 (.bl false) q3
  | _ => exact q3.elim
theorem de_chain {op op' : CmpOp} {r r' : R2} {g g' : D → D → W D} (ho : OpR X (compareOp op) r) (hg : OpD X.K r g) (ho' : OpR X (compareOp op') r') (hg' : OpD X.K r' g') (ha : DE X Eh a ma) (hb : DE X Eh b mb) (hc : DE X Eh c mc)
    (hm : lastMarks [op, op'] [b, c] = false) : DE X Eh (.Compare a [op, op'] [b, c] pos) (eChain g g' ma mb mc) :=
  PE.imp (pe_chain ho ho' ha hb hc hm) fun _ _ _ h => lift_chain hg hg' h
def tOfE (m : Rho → W D) (ρ : Rho) : W Bool := W.bnd (m ρ) fun d => match d with
  | .bl b => W.ret b
  | _ => W.bad
end

/-! ### a[i] -/
def ixD (x i : D) : W D := match i with
  | .int k => (match x with
    | .str s => W.req (s.length ≤ sizeLine) (W.bnd (W.opt (atI s.cps.toList k)) fun c => W.ret (.str ⟨#[c]⟩))
    | x => W.bnd W.get fun μ => W.bnd (W.opt (sqOf x μ)) fun ds => W.opt (atI ds k))
  | _ => W.bad
theorem atI_isL {K : PySem.W.Frag} {F : Hp} {vs : List V} {ds : List D} {k : Int} {d : D} (h : IsL K F vs ds) (e : atI ds k = some d) : ∃ v, atI vs k = some v ∧ Is K F v d := by
  unfold atI at e ⊢
  rw [h.length]
  cases q : ixN ds.length k with
  | none => rw [q] at e; cases e
  | some j =>
    rw [q] at e
    obtain ⟨v, h1, h2⟩ := h.get (i := j) (d := d) e
    exact ⟨v, h1, h2⟩
theorem opd_ix {K : PySem.W.Frag} : OpD K (rIx K) ixD := by
  intro F H μ x y dx dy Q ED Qh r ix iy h bk
  unfold ixD at h
  split at h
  · cases iy
    split at h
    · obtain ⟨hz, h⟩ := h
      obtain ⟨c, e, q⟩ := opt_of h
      cases ix
      exact .inr (.inr ⟨_, _, c, rfl, rfl, hz, e, back_is bk r (.str _) q⟩)
    · obtain ⟨ds, e, h⟩ := opt_of h
      obtain ⟨d, e2, q⟩ := opt_of h
      obtain ⟨a, vs, rfl, hl, hs⟩ := sq_of r ix e
      obtain ⟨v, e3, iv⟩ := atI_isL hl e2
      rcases hs with hs | hs
      · exact .inl ⟨a, vs, _, v, rfl, rfl, hs, e3, back_is bk r iv q⟩
      · exact .inr (.inl ⟨a, vs, _, v, rfl, rfl, hs, e3, back_is bk r iv q⟩)
  · exact h.elim

/-! ### a[i:j] -/
def liftO (K : PySem.W.Frag) (Eh : Option EX) (m : Rho → W (Option Int)) : TO := fun σ H Qh => ∃ F ρ μ Q ED, EnvR K F σ ρ ∧ Rep K F H μ ∧ Lnk K Eh F ED ∧ m ρ μ Q ED ∧ Back K F (fun _ (b : Option Int) c => b = c) Q Qh
abbrev DO (X : Cx) (Eh : Option EX) (e : Option Expr) (m : Rho → W (Option Int)) : Prop := PO X e (liftO X.K Eh m)
theorem PO.imp {X : Cx} {e : Option Expr} {t t' : TO} (h : PO X e t) (i : ∀ σ H Q, t' σ H Q → t σ H Q) : PO X e t' := ⟨fun pins s σ H Q I q => h.run pins s σ H Q I (i _ _ _ q)⟩
def oNone (_ : Rho) : W (Option Int) := W.ret none
def oSome (m : Rho → W D) (ρ : Rho) : W (Option Int) := W.bnd (m ρ) fun d => match d with
  | .int i => W.ret (some i)
  | _ => W.bad
def cutD {α : Type} (xs : List α) (lo hi : Option Int) : List α := (xs.drop (HT.sIx xs.length 0 lo)).take (HT.sIx xs.length xs.length hi - HT.sIx xs.length 0 lo)
def slD (x : D) (lo hi : Option Int) : W D := match x with
  | .str s => W.req (s.length ≤ sizeLine) (W.ret (.str (cutS s lo hi)))
  | .tup ds => W.ret (.tup (cutD ds lo hi))
  | x => W.bnd W.get fun μ => W.bnd (W.opt (lsOf x μ)) fun ds => W.ret (.lst (cutD ds lo hi))
def eSl (m : Rho → W D) (ml mh : Rho → W (Option Int)) (ρ : Rho) : W D := W.bnd (m ρ) fun x => W.bnd (ml ρ) fun lo => W.bnd (mh ρ) fun hi => slD x lo hi
theorem cut_isL {K : PySem.W.Frag} {F : Hp} {vs : List V} {ds : List D} (lo hi : Option Int) (h : IsL K F vs ds) : IsL K F (cutV vs lo hi) (cutD ds lo hi) := by
  unfold cutV cutD
  rw [h.length]
  exact (h.drop _).take _
theorem cut_whole {α : Type} {ds : List α} {lo hi : Option Int} (h : HT.sIx ds.length 0 lo = 0 ∧ HT.sIx ds.length ds.length hi = ds.length) : cutD ds lo hi = ds := by
  unfold cutD
  rw [h.1, h.2, List.drop_zero, Nat.sub_zero, List.take_length]
def rSlAll (K : PySem.W.Frag) : V → Option Int → Option Int → Hp → VK → Prop := fun x lo hi H Q => rSlS x lo hi H Q ∨ (rSlA K x lo hi H Q ∨ rSlL K x lo hi H Q)
theorem sl_all {X : Cx} : SlR X (rSlAll X.K) := sl_str.or (sl_tupA.or sl_list)
section
variable {X : Cx} {Eh : Option EX} {e : Expr} {lo hi : Option Expr} {m : Rho → W D} {ml mh : Rho → W (Option Int)} {pos p2 : Pos}
theorem do_none : DO X Eh none oNone := PO.imp po_none fun σ H Qh ⟨F, ρ, μ, Q, ED, env, rep, lnk, hm, bk⟩ => bk _ H _ F μ (Same.refl F) rep rfl hm
theorem do_some (h : DE X Eh e m) : DO X Eh (some e) (oSome m) := by
  refine PO.imp (po_some h) fun σ H Qh h => ?_
  obtain ⟨F, ρ, μ, Q, ED, env, rep, lnk, hm, bk⟩ := h
  refine ⟨F, ρ, μ, _, ED, env, rep, lnk, hm, fun v1 H1 d1 F1 μ1 s1 r1 i1 q1 => ?_⟩
  cases d1 with
  | int i =>
    cases is_int i1
    exact ⟨i, rfl, bk _ H1 _ F1 μ1 s1 r1 rfl q1⟩
  | _ => exact q1.elim
theorem de_slice (h : DE X Eh e m) (hl : DO X Eh lo ml) (hh : DO X Eh hi mh) : DE X Eh (.Subscript e (.Slice lo hi none p2) pos) (eSl m ml mh) := by
  refine PE.imp (pe_slice sl_all h hl hh) fun σ H Qh h => ?_
  obtain ⟨F, ρ, μ, Q, ED, env, rep, lnk, hm, bk⟩ := h
  refine ⟨F, ρ, μ, _, ED, env, rep, lnk, hm, fun v1 H1 d1 F1 μ1 s1 r1 i1 q1 => ?_⟩
  refine ⟨F1, ρ, μ1, _, ED, env.up s1, r1, lnk.up s1, q1, fun v2 H2 d2 F2 μ2 s2 r2 i2 q2 => ?_⟩
  refine ⟨F2, ρ, μ2, _, ED, (env.up s1).up s2, r2, (lnk.up s1).up s2, q2, fun v3 H3 d3 F3 μ3 s3 r3 i3 q3 => ?_⟩
  subst i2 i3
  have bk' : Back X.K F3 (Is X.K) Q Qh := fun v H' d F' μ' s' r' i' q' => bk v H' d F' μ' (((s1.trans s2).trans s3).trans s') r' i' q'
  have i1' := (i1.up s2).up s3
  unfold slD at q3
  split at q3
  · cases i1'
    exact .inl ⟨_, rfl, q3.1, back_is bk' r3 (.str _) q3.2⟩
  · cases i1' with
    | tup hs hl =>
      refine .inr (.inl ⟨_, _, rfl, sqt_up r3.sub hs, fun hw => ?_, fun _ p hn => back_tup bk' r3 hn (cut_isL _ _ hl) q3⟩)
      rw [hl.length] at hw
      have q : Q (.tup _) μ3 := q3
      rw [cut_whole hw] at q
      exact back_is bk' r3 (.tup hs hl) q
  · obtain ⟨ds, e1, q⟩ := opt_of q3
    obtain ⟨a, vs, rfl, h1, h2⟩ := ls_of r3 i1' e1
    exact .inr (.inr ⟨a, vs, rfl, h1, fun p hn => back_lst bk' r3 hn (cut_isL _ _ h2) q⟩)
/-- a[::-1] of a list -/
def revD (x : D) : W D := W.bnd W.get fun μ => W.bnd (W.opt (lsOf x μ)) fun ds => W.ret (.lst ds.reverse)
def revMD (x : D) : W D := W.bnd W.get fun μ => W.bnd (W.opt (lsOf x μ)) fun ds => (fun μ Q _ => ∀ p, μ p = none → Q (.obj p) (put μ p (.ml ds.reverse)))
end

/-! ### calls of built-ins -/
def CallD (K : PySem.W.Frag) (r : List V → Hp → VK → Prop) (g : List D → W D) : Prop := ∀ (F H : Hp) (μ : Mem) (xs : List V) (ds : List D) (Q : D → Mem → Prop) (ED : XD) (Qh : VK), Rep K F H μ → IsL K F xs ds → g ds μ Q ED → Back K F (Is K) Q Qh → r xs H Qh
def eCall (g : List D → W D) (ms : Rho → W (List D)) (ρ : Rho) : W D := W.bnd (ms ρ) g
theorem lift_call {Eh : Option EX} {K : PySem.W.Frag} {r : List V → Hp → VK → Prop} {g : List D → W D} {ms : Rho → W (List D)} (hg : CallD K r g) {σ : L2.St} {H : Hp} {Qh : VK} (h : liftE K Eh (eCall g ms) σ H Qh) : tCB r (liftA K Eh ms) σ H Qh := by
  obtain ⟨F, ρ, μ, Q, ED, env, rep, lnk, hm, bk⟩ := h
  refine ⟨F, ρ, μ, _, ED, env, rep, lnk, hm, fun v1 H1 d1 F1 μ1 s1 r1 i1 q1 => ?_⟩
  exact hg F1 H1 μ1 v1 d1 Q ED Qh r1 i1 q1 fun v3 H3 d3 F3 μ3 s3 r3 i3 q3 => bk v3 H3 d3 F3 μ3 (s1.trans s3) r3 i3 q3
section
variable {X : Cx} {Eh : Option EX} {e o : Expr} {es : List Expr} {mo : Rho → W D} {ms : Rho → W (List D)} {x : Str} {p pos : Pos} {id T : String} {r : List V → Hp → VK → Prop} {g : List D → W D}
theorem de_callB (hc : CallR X (.builtin id) r) (hd : CallD X.K r g) (hg : Gl X x) (hm : X.mg x = none) (hv : bootBuiltins x = some (.builtin id)) (hn : x ≠ "__name__") (hdb : (x == ("__debug__" : Str)) = false) (ha : DA X Eh (e :: es) ms)
    (he : starEach (e :: es) X.env = (false, eval e X.env) :: starEach es X.env) (hpl : (backTo pos (starEach es X.env)).any (·.1) = false) : DE X Eh (.Call (.Name x p) (e :: es) [] pos) (eCall g ms) :=
  PE.imp (pe_callB hc hg hm hv ha hn hdb he hpl) fun _ _ _ h => lift_call hd h
theorem de_callTy (hc : CallR X (.type T) r) (hd : CallD X.K r g) (hg : Gl X x) (hm : X.mg x = none) (hv : bootBuiltins x = some (.type T)) (hn : x ≠ "__name__") (hdb : (x == ("__debug__" : Str)) = false) (ha : DA X Eh (e :: es) ms)
    (he : starEach (e :: es) X.env = (false, eval e X.env) :: starEach es X.env) (hpl : (backTo pos (starEach es X.env)).any (·.1) = false) : DE X Eh (.Call (.Name x p) (e :: es) [] pos) (eCall g ms) :=
  PE.imp (pe_callTy hc hg hm hv ha hn hdb he hpl) fun _ _ _ h => lift_call hd h
/-! methods of built-in types -/
def tyD (T : String) (x : D) (μ : Mem) : Prop := match x with
  | .str _ => T = "str"
  | .lst _ => T = "list"
  | .obj a => (match μ a with
    | some (.ml _) => T = "list"
    | some (.md _) => T = "dict"
    | some (.mi _ _) => False
    | some (.tb _) => False
    | some (.st _) => False
    | none => False)
  | .dct _ => T = "dict"
  | _ => False
theorem ty_of {K : PySem.W.Frag} {F H : Hp} {μ : Mem} {v : V} {d : D} (r : Rep K F H μ) (i : Is K F v d) (h : tyD T d μ) : tyV K T v H := by
  cases i with
  | str s => exact h
  | lst hs hl => exact .inl ⟨h, _, sql_up r.sub hs⟩
  | dct hs hk hl => exact .inr (.inr (.inl ⟨h, .inl ⟨_, r.sub _ _ hs⟩⟩))
  | obj a =>
    unfold tyD at h
    simp only at h
    split at h
    · rename_i e
      obtain ⟨_, vs, h1, _⟩ := r.mem a _ e
      exact .inl ⟨h, vs, .inl (.inl h1)⟩
    · rename_i e
      obtain ⟨_, vs, h1, _⟩ := r.mem a _ e
      exact .inr (.inr (.inl ⟨h, .inl ⟨_, h1⟩⟩))
    all_goals exact h.elim
  | _ => exact h.elim
def MtD (K : PySem.W.Frag) (r : V → List V → Hp → VK → Prop) (g : D → List D → W D) : Prop := ∀ (F H : Hp) (μ : Mem) (x : V) (dx : D) (xs : List V) (ds : List D) (Q : D → Mem → Prop) (ED : XD) (Qh : VK), Rep K F H μ → Is K F x dx → IsL K F xs ds → g dx ds μ Q ED → Back K F (Is K) Q Qh → r x xs H Qh
def eMeth (T : String) (g : D → List D → W D) (mo : Rho → W D) (ms : Rho → W (List D)) (ρ : Rho) : W D := W.bnd (mo ρ) fun o => W.bnd W.get fun μ => W.req (tyD T o μ) (W.bnd (ms ρ) fun as => g o as)
variable {rm : V → List V → Hp → VK → Prop} {gm : D → List D → W D} {name : Str} {apos cpos : Pos}
theorem de_bm (pa : PlainAttrs T) (slot : Slot T name id) (hty : typeOf (.builtin id) = pure (.type "method_descriptor")) (hm : MtR X id rm) (hd : MtD X.K rm gm) (ho : DE X Eh o mo) (ha : DA X Eh (e :: es) ms)
    (hbase : attributeBase o name X.env (eval o X.env) = eval o X.env)
    (hfew : ((backTo cpos (starEach (e :: es) X.env)).all (fun x => !x.1) && (backToKw cpos (keywordEach [] X.env)).all (fun x => x.1.isSome) && decide ((e :: es).length + ([] : List Keyword).length + (if ([] : List Keyword).isEmpty then 0 else 1) < 30)) = true)
    (hline : (apos.endLine == cpos.line) = true) (hs : starEach (e :: es) X.env = (false, eval e X.env) :: starEach es X.env) (hplain : (backTo cpos (starEach es X.env)).any (·.1) = false) :
    DE X Eh (.Call (.Attribute o name apos) (e :: es) [] cpos) (eMeth T gm mo ms) := by
  refine PE.imp (pe_bm pa slot hty hm ho ha hbase hfew hline hs hplain) fun σ H Qh h => ?_
  obtain ⟨F, ρ, μ, Q, ED, env, rep, lnk, hm, bk⟩ := h
  refine ⟨F, ρ, μ, _, ED, env, rep, lnk, hm, fun v1 H1 d1 F1 μ1 s1 r1 i1 q1 => ⟨ty_of r1 i1 q1.1, ?_⟩⟩
  refine ⟨F1, ρ, μ1, _, ED, env.up s1, r1, lnk.up s1, q1.2, fun v2 H2 d2 F2 μ2 s2 r2 i2 q2 => ?_⟩
  exact hd F2 H2 μ2 v1 d1 v2 d2 Q ED Qh r2 (i1.up s2) i2 q2 fun v3 H3 d3 F3 μ3 s3 r3 i3 q3 => bk v3 H3 d3 F3 μ3 ((s1.trans s2).trans s3) r3 i3 q3
end

/-! ### the built-ins -/
theorem isL1 {K : PySem.W.Frag} {F : Hp} {vs : List V} {d : D} (h : IsL K F vs [d]) : ∃ v, vs = [v] ∧ Is K F v d := by
  cases h with
  | cons i r => cases r; exact ⟨_, rfl, i⟩
theorem isL2 {K : PySem.W.Frag} {F : Hp} {vs : List V} {d e : D} (h : IsL K F vs [d, e]) : ∃ v u, vs = [v, u] ∧ Is K F v d ∧ Is K F u e := by
  cases h with
  | cons i r =>
    obtain ⟨u, rfl, j⟩ := isL1 r
    exact ⟨_, _, rfl, i, j⟩
def lenD : List D → W D
  | [.str s] => W.req (s.length ≤ sizeLine) (W.ret (.int s.length))
  | [x] => W.bnd W.get fun μ => W.bnd (W.opt (sqOf x μ)) fun ds => W.ret (.int ds.length)
  | _ => W.bad
theorem cd_len {K : PySem.W.Frag} : CallD K (fun xs H Q => ∃ x n, xs = [x] ∧ LenV K x H n ∧ Q (.int n) H) lenD := by
  intro F H μ xs ds Q ED Qh r il h bk
  unfold lenD at h
  split at h
  · obtain ⟨v, rfl, i⟩ := isL1 il
    cases i
    exact ⟨_, _, rfl, ⟨h.1, rfl⟩, back_is bk r (.int _) h.2⟩
  · obtain ⟨v, rfl, i⟩ := isL1 il
    obtain ⟨es, e, q⟩ := opt_of h
    obtain ⟨a, vs, rfl, hl, hs⟩ := sq_of r i e
    refine ⟨_, es.length, rfl, ?_, back_is bk r (.int _) q⟩
    rw [← hl.length]
    rcases hs with hs | hs
    · exact .inl ⟨vs, hs, rfl⟩
    · exact .inr ⟨vs, hs, rfl⟩
  · exact h.elim
/-- list(x) | tuple(x) -/
def listD : List D → W D
  | [x] => W.bnd W.get fun μ => W.bnd (W.opt (sqOf x μ)) fun ds => W.ret (.lst ds)
  | _ => W.bad
def listMD : List D → W D
  | [x] => W.bnd W.get fun μ => W.bnd (W.opt (sqOf x μ)) fun ds => (fun μ Q _ => ∀ p, μ p = none → Q (.obj p) (put μ p (.ml ds)))
  | _ => W.bad
def tupleD : List D → W D
  | [x] => W.bnd W.get fun μ => W.bnd (W.opt (sqOf x μ)) fun ds => W.ret (.tup ds)
  | _ => W.bad
theorem cd_listM {K : PySem.W.Frag} : CallD K (fun xs H Q => ∃ p ys, xs = [.ref p] ∧ (SqL K H p ys ∨ SqT K H p ys) ∧ ∀ l, H l = none → Q (.ref l) (upd H l (.lst ys))) listMD := by
  intro F H μ xs ds Q ED Qh r il h bk
  unfold listMD at h
  split at h
  · obtain ⟨v, rfl, i⟩ := isL1 il
    obtain ⟨es, e, q⟩ := opt_of h
    obtain ⟨a, vs, rfl, hl, hs⟩ := sq_of r i e
    exact ⟨a, vs, rfl, hs, fun l hn => back_mut bk r hn hl (q l (r.mfree hn))⟩
  · exact h.elim
theorem cd_tuple {K : PySem.W.Frag} : CallD K (fun xs H Q => ∃ p ys, xs = [.ref p] ∧ ((SqL K H p ys ∧ ∀ l, H l = none → Q (.ref l) (upd H l (.tup ys))) ∨ (SqT K H p ys ∧ Q (.ref p) H))) tupleD := by
  intro F H μ xs ds Q ED Qh r il h bk
  unfold tupleD at h
  split at h
  · obtain ⟨v, rfl, i⟩ := isL1 il
    obtain ⟨es, e, q⟩ := opt_of h
    cases i with
    | tup hs hl =>
      cases e
      exact ⟨_, _, rfl, .inr ⟨sqt_up r.sub hs, back_is bk r (.tup hs hl) q⟩⟩
    | lst hs hl =>
      cases e
      exact ⟨_, _, rfl, .inl ⟨sql_up r.sub hs, fun l hn => back_tup bk r hn hl q⟩⟩
    | obj a =>
      obtain ⟨b, vs, e1, h1, h2⟩ := ls_of r (.obj a) e
      cases e1
      exact ⟨_, _, rfl, .inl ⟨h1, fun l hn => back_tup bk r hn h2 q⟩⟩
    | _ => cases e
  · exact h.elim
/-- sum of a list of ints -/
def intsOf : List D → Option (List Int)
  | [] => some []
  | .int i :: r => (intsOf r).map (i :: ·)
  | _ => none
theorem ints_isL {K : PySem.W.Frag} {F : Hp} : ∀ {vs : List V} {ds : List D} {ns : List Int}, IsL K F vs ds → intsOf ds = some ns → vs = ns.map V.int
  | _, _, _, .nil, e => by cases e; rfl
  | _, _, _, .cons (d := .int i) h r, e => by
    obtain ⟨ms, h1, h2⟩ := Option.map_eq_some_iff.mp (show (intsOf _).map (i :: ·) = some _ from e)
    subst h2
    cases h
    rw [ints_isL r h1]
    rfl
  | _, _, _, .cons (d := .non) _ _, e => by cases e
  | _, _, _, .cons (d := .bl _) _ _, e => by cases e
  | _, _, _, .cons (d := .str _) _ _, e => by cases e
  | _, _, _, .cons (d := .tup _) _ _, e => by cases e
  | _, _, _, .cons (d := .lst _) _ _, e => by cases e
  | _, _, _, .cons (d := .dct _) _ _, e => by cases e
  | _, _, _, .cons (d := .obj _) _ _, e => by cases e
  | _, _, _, .cons (d := .ty _) _ _, e => by cases e
def sumD : List D → W D
  | [x] => W.bnd W.get fun μ => W.bnd (W.opt (lsOf x μ)) fun ds => W.bnd (W.opt (intsOf ds)) fun ns => W.ret (.int ns.sum)
  | _ => W.bad
theorem cd_sum {K : PySem.W.Frag} : CallD K (rSum K) sumD := by
  intro F H μ xs ds Q ED Qh r il h bk
  unfold sumD at h
  split at h
  · obtain ⟨v, rfl, i⟩ := isL1 il
    obtain ⟨es, e, h⟩ := opt_of h
    obtain ⟨ns, e2, q⟩ := opt_of h
    obtain ⟨a, vs, rfl, h1, h2⟩ := ls_of r i e
    rw [ints_isL h2 e2] at h1
    exact ⟨a, ns, rfl, h1, back_is bk r (.int _) q⟩
  · exact h.elim
/-- int(n), int(flag) -/
def intD : List D → W D
  | [.int i] => W.ret (.int i)
  | [.bl b] => W.ret (.int (if b then 1 else 0))
  | _ => W.bad
theorem cd_int {K : PySem.W.Frag} : CallD K (fun xs H Q => (∃ i, xs = [.int i] ∧ Q (.int i) H) ∨ ∃ k, xs = [.bl k] ∧ Q (.int (if k then 1 else 0)) H) intD := by
  intro F H μ xs ds Q ED Qh r il h bk
  unfold intD at h
  split at h
  · obtain ⟨v, rfl, i⟩ := isL1 il
    cases i
    exact .inl ⟨_, rfl, back_is bk r (.int _) h⟩
  · obtain ⟨v, rfl, i⟩ := isL1 il
    cases i
    exact .inr ⟨_, rfl, back_is bk r (.int _) h⟩
  · exact h.elim
/-! methods that change a list -/
def mlOf (x : D) (μ : Mem) : Option (Addr × List D) := match x with
  | .obj a => (match μ a with
    | some (.ml ds) => some (a, ds)
    | _ => none)
  | _ => none
theorem ml_of {K : PySem.W.Frag} {F H : Hp} {μ : Mem} {v : V} {d : D} {a : Addr} {ds : List D} (r : Rep K F H μ) (i : Is K F v d) (h : mlOf d μ = some (a, ds)) : v = .ref a ∧ μ a = some (.ml ds) ∧ ∃ vs, H a = some (.lst vs) ∧ IsL K F vs ds := by
  cases i with
  | obj b =>
    unfold mlOf at h
    simp only at h
    split at h
    · rename_i es e
      cases h
      obtain ⟨_, vs, h1, h2⟩ := r.mem _ _ e
      exact ⟨rfl, e, vs, h1, h2⟩
    · cases h
  | _ => cases h
def W.setL {α : Type} (a : Addr) (ds : List D) (m : W α) : W α := fun μ Q E => m (DL.put μ a (.ml ds)) Q E
def appendD (o : D) : List D → W D
  | [x] => W.bnd W.get fun μ => W.bnd (W.opt (mlOf o μ)) fun p => W.req (p.2.length < sizeLine) (W.setL p.1 (p.2 ++ [x]) (W.ret .non))
  | _ => W.bad
def popD (o : D) : List D → W D
  | [] => W.bnd W.get fun μ => W.bnd (W.opt (mlOf o μ)) fun p => W.bnd (W.opt p.2[p.2.length - 1]?) fun y => W.setL p.1 p.2.dropLast (W.ret y)
  | _ => W.bad
/-- sep.join(texts) -/
def strsOf : List D → Option (List Str)
  | [] => some []
  | .str i :: r => (strsOf r).map (i :: ·)
  | _ => none
end DL

namespace DL
open PySem PySem.Spec PyProof.Rows L2

/-! ### statements -/
theorem EndsOk.up {K : PySem.W.Frag} {F F' : Hp} {Q : Out → Mem → Prop} {De : Ends} (h : EndsOk K F Q De) (e : Same F F') : EndsOk K F' Q De :=
  ⟨fun F1 H1 μ1 σ1 ρ1 s r n q => h.1 F1 H1 μ1 σ1 ρ1 (e.trans s) r n q, fun F1 H1 μ1 v d s r n q => h.2.1 F1 H1 μ1 v d (e.trans s) r n q,
    fun F1 H1 μ1 σ1 ρ1 s r n q => h.2.2.1 F1 H1 μ1 σ1 ρ1 (e.trans s) r n q, fun F1 H1 μ1 σ1 ρ1 s r n q => h.2.2.2 F1 H1 μ1 σ1 ρ1 (e.trans s) r n q⟩
def outSeq (m : Rho → W Out) : Out → W Out
  | .nx ρ => m ρ
  | o => W.ret o
def sSeq (m1 m2 : Rho → W Out) (ρ : Rho) : W Out := W.bnd (m1 ρ) (outSeq m2)
def sNil (ρ : Rho) : W Out := W.ret (.nx ρ)
def sRet (m : Rho → W D) (ρ : Rho) : W Out := W.bnd (m ρ) fun d => W.ret (.rt d)
def sRetN (_ : Rho) : W Out := W.ret (.rt .non)
def sDrop (m : Rho → W D) (ρ : Rho) : W Out := W.bnd (m ρ) fun _ => W.ret (.nx ρ)
def sIf (t : Rho → W Bool) (m1 m2 : Rho → W Out) (ρ : Rho) : W Out := W.bnd (t ρ) fun k => if k = true then m1 ρ else m2 ρ
def sSet (i : Nat) (m : Rho → W D) (ρ : Rho) : W Out := W.bnd (m ρ) fun d => W.ret (.nx (ρ.set i (some d)))
section
variable {X : Cx} {Eh : Option EX} {st : Stmt} {rest a b : List Stmt} {e c : Expr} {m1 m2 : Rho → W Out} {m : Rho → W D} {t : Rho → W Bool} {pos : Pos}
theorem dss_nil : DSs X Eh [] sNil := PSs.imp pss_nil fun De σ H ⟨F, ρ, μ, Q, ED, env, rep, lnk, hm, en⟩ => en.1 F H μ σ ρ (Same.refl F) rep env hm
theorem dss_one (h : DS X Eh st m1) : DSs X Eh [st] m1 := pss_one h
theorem dss_cons (h1 : DS X Eh st m1) (h2 : DSs X Eh rest m2) : DSs X Eh (st :: rest) (sSeq m1 m2) := by
  refine PSs.imp (pss_cons h1 h2) fun De σ H h => ?_
  obtain ⟨F, ρ, μ, Q, ED, env, rep, lnk, hm, en⟩ := h
  refine ⟨F, ρ, μ, _, ED, env, rep, lnk, hm, fun F1 H1 μ1 σ1 ρ1 s1 r1 n1 q1 => ?_, fun F1 H1 μ1 v d s1 r1 i1 q1 => ?_, fun F1 H1 μ1 σ1 ρ1 s1 r1 n1 q1 => ?_, fun F1 H1 μ1 σ1 ρ1 s1 r1 n1 q1 => ?_⟩
  · exact ⟨F1, ρ1, μ1, Q, ED, n1, r1, lnk.up s1, q1, en.up s1⟩
  · exact en.2.1 F1 H1 μ1 v d s1 r1 i1 q1
  · exact en.2.2.1 F1 H1 μ1 σ1 ρ1 s1 r1 n1 q1
  · exact en.2.2.2 F1 H1 μ1 σ1 ρ1 s1 r1 n1 q1
theorem ds_ret (h : DE X Eh e m) : DS X Eh (.Return (some e) pos) (sRet m) := by
  refine PS.imp (ps_ret h) fun De σ H h => ?_
  obtain ⟨F, ρ, μ, Q, ED, env, rep, lnk, hm, en⟩ := h
  exact ⟨F, ρ, μ, _, ED, env, rep, lnk, hm, fun v1 H1 d1 F1 μ1 s1 r1 i1 q1 => en.2.1 F1 H1 μ1 v1 d1 s1 r1 i1 q1⟩
def sBreak (ρ : Rho) : W Out := W.ret (.bk ρ)
def sCont (ρ : Rho) : W Out := W.ret (.ct ρ)
theorem ds_expr (h : DE X Eh e m) (hs : swapsWith e none pos.line X.env = pure false) : DS X Eh (.Expr e pos) (sDrop m) := by
  refine PS.imp (ps_expr h hs) fun De σ H h => ?_
  obtain ⟨F, ρ, μ, Q, ED, env, rep, lnk, hm, en⟩ := h
  exact ⟨F, ρ, μ, _, ED, env, rep, lnk, hm, fun v1 H1 d1 F1 μ1 s1 r1 i1 q1 => en.1 F1 H1 μ1 σ ρ s1 r1 (env.up s1) q1⟩
theorem ds_if (hc : DT X Eh c t) (ha : DSs X Eh a m1) (hb : DSs X Eh b m2) : DS X Eh (.If c a b pos) (sIf t m1 m2) := by
  refine PS.imp (ps_if hc ha hb) fun De σ H h => ?_
  obtain ⟨F, ρ, μ, Q, ED, env, rep, lnk, hm, en⟩ := h
  refine ⟨F, ρ, μ, _, ED, env, rep, lnk, hm, fun v1 H1 d1 F1 μ1 s1 r1 i1 q1 => ?_⟩
  subst i1
  cases v1 with
  | true => exact ⟨F1, ρ, μ1, Q, ED, env.up s1, r1, lnk.up s1, q1, en.up s1⟩
  | false => exact ⟨F1, ρ, μ1, Q, ED, env.up s1, r1, lnk.up s1, q1, en.up s1⟩
theorem ds_set {i : Nat} {x : Str} {pos' : Pos} (hN : X.N.Nodup) (hi : X.N[i]? = some x) (hx : Loc X.env.scope x) (hf : X.fn x = true ∨ X.env.scope.names.lookup x = some .local) (h : DE X Eh e m)
    (hs : swapsWith e (some (.Name x pos')) pos.line X.env = pure false) : DS X Eh (.Assign [.Name x pos'] e pos) (sSet i m) := by
  refine PS.imp (ps_set hN hi hx h hs hf) fun De σ H h => ?_
  obtain ⟨F, ρ, μ, Q, ED, env, rep, lnk, hm, en⟩ := h
  exact ⟨F, ρ, μ, _, ED, env, rep, lnk, hm, fun v1 H1 d1 F1 μ1 s1 r1 i1 q1 => en.1 F1 H1 μ1 _ _ s1 r1 ((env.up s1).set i i1) q1⟩
end

/-! ### targets -/
def Frm (ts : List Nat) (σ σ' : L2.St) : Prop := σ'.length = σ.length ∧ ∀ j, j ∉ ts → σ'[j]? = σ[j]?
theorem Frm.refl (ts : List Nat) (σ : L2.St) : Frm ts σ σ := ⟨rfl, fun _ _ => rfl⟩
def liftG (K : PySem.W.Frag) (Eh : Option EX) (ts : List Nat) (g : D → Rho → W Rho) : TG := fun v σ H Qh => ∃ F ρ μ d Q ED, EnvR K F σ ρ ∧ Rep K F H μ ∧ Lnk K Eh F ED ∧ Is K F v d ∧ g d ρ μ Q ED ∧
  ∀ σ' H' ρ' F' μ', Same F F' → Rep K F' H' μ' → EnvR K F' σ' ρ' → Frm ts σ σ' → Q ρ' μ' → Qh σ' H'
def liftGs (K : PySem.W.Frag) (Eh : Option EX) (ts : List Nat) (g : List D → Rho → W Rho) : TGs := fun v σ H Qh => ∃ F ρ μ d Q ED, EnvR K F σ ρ ∧ Rep K F H μ ∧ Lnk K Eh F ED ∧ IsL K F v d ∧ g d ρ μ Q ED ∧
  ∀ σ' H' ρ' F' μ', Same F F' → Rep K F' H' μ' → EnvR K F' σ' ρ' → Frm ts σ σ' → Q ρ' μ' → Qh σ' H'
theorem PG.imp {X : Cx} {e : Expr} {t t' : TG} (h : PG X e t) (i : ∀ v σ H Q, t' v σ H Q → t v σ H Q) : PG X e t' := ⟨fun pins s σ H v u Q I r q => h.run pins s σ H v u Q I r (i _ _ _ _ q)⟩
theorem PGs.imp {X : Cx} {e : List Expr} {t t' : TGs} (h : PGs X e t) (i : ∀ v σ H Q, t' v σ H Q → t v σ H Q) : PGs X e t' := ⟨fun pins s σ H v u Q I r q => h.run pins s σ H v u Q I r (i _ _ _ _ q)⟩
abbrev DG (X : Cx) (Eh : Option EX) (e : Expr) (ts : List Nat) (g : D → Rho → W Rho) : Prop := PG X e (liftG X.K Eh ts g)
abbrev DGs (X : Cx) (Eh : Option EX) (e : List Expr) (ts : List Nat) (g : List D → Rho → W Rho) : Prop := PGs X e (liftGs X.K Eh ts g)
def gNm (i : Nat) (d : D) (ρ : Rho) : W Rho := W.ret (ρ.set i (some d))
def gsNil (ds : List D) (ρ : Rho) : W Rho := match ds with
  | [] => W.ret ρ
  | _ => W.bad
def gsCons (g : D → Rho → W Rho) (gs : List D → Rho → W Rho) (ds : List D) (ρ : Rho) : W Rho := match ds with
  | d :: r => W.bnd (g d ρ) fun ρ' => gs r ρ'
  | _ => W.bad
def gTp (n : Nat) (gs : List D → Rho → W Rho) (d : D) (ρ : Rho) : W Rho := match d with
  | .tup ds => W.req (ds.length = n) (gs ds ρ)
  | _ => W.bad
theorem frm_set {i : Nat} {σ : L2.St} {v : Option V} : Frm [i] σ (σ.set i v) := ⟨List.length_set, fun j hj => List.getElem?_set_ne (fun e => hj (by simp [e]))⟩
theorem Frm.app {ts us : List Nat} {a b c : L2.St} (h : Frm ts a b) (k : Frm us b c) : Frm (ts ++ us) a c :=
  ⟨k.1.trans h.1, fun j hj => (k.2 j fun q => hj (List.mem_append_right _ q)).trans (h.2 j fun q => hj (List.mem_append_left _ q))⟩
section
variable {X : Cx} {Eh : Option EX} {pos : Pos}
theorem dg_name {i : Nat} {x : Str} (hN : X.N.Nodup) (hi : X.N[i]? = some x) (hx : Loc X.env.scope x) (hf : X.fn x = true ∨ X.env.scope.names.lookup x = some .local) : DG X Eh (.Name x pos) [i] (gNm i) :=
  PG.imp (pg_name hN hi hx hf) fun v σ H Qh ⟨F, ρ, μ, d, Q, ED, env, rep, lnk, iv, hm, bk⟩ => bk _ H _ F μ (Same.refl F) rep (env.set i iv) frm_set hm
theorem dgs_nil : DGs X Eh [] [] gsNil := by
  refine PGs.imp pgs_nil fun v σ H Qh ⟨F, ρ, μ, d, Q, ED, env, rep, lnk, iv, hm, bk⟩ => ?_
  cases iv with
  | nil => exact ⟨rfl, bk σ H ρ F μ (Same.refl F) rep env (Frm.refl _ _) hm⟩
  | cons _ _ => exact hm.elim
theorem dgs_cons {e : Expr} {es : List Expr} {ts us : List Nat} {g : D → Rho → W Rho} {gs : List D → Rho → W Rho} (h1 : DG X Eh e ts g) (h2 : DGs X Eh es us gs)
    (hs : (assignEach (e :: es) X.env).map (·.2) = assign e X.env :: (assignEach es X.env).map (·.2)) : DGs X Eh (e :: es) (ts ++ us) (gsCons g gs) := by
  refine PGs.imp (pgs_cons h1 h2 hs) fun v σ H Qh ⟨F, ρ, μ, d, Q, ED, env, rep, lnk, iv, hm, bk⟩ => ?_
  cases iv with
  | nil => exact hm.elim
  | cons i r =>
    refine ⟨_, _, rfl, F, ρ, μ, _, _, ED, env, rep, lnk, i, hm, fun σ1 H1 ρ1 F1 μ1 s1 r1 e1 f1 q1 => ?_⟩
    exact ⟨F1, ρ1, μ1, _, Q, ED, e1, r1, lnk.up s1, r.up s1, q1, fun σ2 H2 ρ2 F2 μ2 s2 r2 e2 f2 q2 => bk σ2 H2 ρ2 F2 μ2 (s1.trans s2) r2 e2 (f1.app f2) q2⟩
theorem dg_tup {es : List Expr} {k : Nat} {ts : List Nat} {gs : List D → Rho → W Rho} {n : Nat} (hc : X.calm = true) (h : DGs X Eh es ts gs)
    (hn : (assignEach es X.env).length = n) (hst : (assignEach es X.env).findIdx? (·.1) = none) : DG X Eh (.Tuple es k pos) ts (gTp n gs) := by
  refine PG.imp (pg_tup hc h hn hst) fun v σ H Qh ⟨F, ρ, μ, d, Q, ED, env, rep, lnk, iv, hm, bk⟩ => ?_
  cases iv with
  | tup hs hl => exact ⟨_, _, rfl, sqt_up rep.sub hs, by rw [hl.length]; exact hm.1, F, ρ, μ, _, Q, ED, env, rep, lnk, hl, hm.2, bk⟩
  | _ => exact hm.elim
/-- o[i] = v -/
def setD (o i v : D) : W Unit := W.bnd W.get fun μ => W.bnd (W.opt (mlOf o μ)) fun p => match i with
  | .int k => W.bnd (W.opt (ixN p.2.length k)) fun j => W.setL p.1 (p.2.set j v) (W.ret ())
  | _ => W.bad
def gIx (mo mi : Rho → W D) (d : D) (ρ : Rho) : W Rho := W.bnd (mo ρ) fun o => W.bnd (mi ρ) fun i => W.bnd (setD o i d) fun _ => W.ret ρ
def sAsg (m : Rho → W D) (g : D → Rho → W Rho) (ρ : Rho) : W Out := W.bnd (m ρ) fun d => W.bnd (g d ρ) fun ρ' => W.ret (.nx ρ')
theorem ds_asg {tg e : Expr} {m : Rho → W D} {ts : List Nat} {g : D → Rho → W Rho} (he : DE X Eh e m) (hg : DG X Eh tg ts g) (hs : swapsWithSole [tg] e pos.line X.env = pure false) (hw : swappedStores [tg] e X.env = pure none)
    (h1 : (assignEach [tg] X.env).map (·.2) = [assign tg X.env]) : DS X Eh (.Assign [tg] e pos) (sAsg m g) := by
  refine PS.imp (ps_asg he hg hs hw h1) fun De σ H h => ?_
  obtain ⟨F, ρ, μ, Q, ED, env, rep, lnk, hm, en⟩ := h
  refine ⟨F, ρ, μ, _, ED, env, rep, lnk, hm, fun v1 H1 d1 F1 μ1 s1 r1 i1 q1 => ?_⟩
  exact ⟨F1, ρ, μ1, d1, _, ED, env.up s1, r1, lnk.up s1, i1, q1, fun σ2 H2 ρ2 F2 μ2 s2 r2 e2 f2 q2 => en.1 F2 H2 μ2 σ2 ρ2 (s1.trans s2) r2 e2 q2⟩
/-- a, b = x, y | a, b, c = x, y, z -/
def sPar2 (i j : Nat) (ms : Rho → W (List D)) (ρ : Rho) : W Out := W.bnd (ms ρ) fun ds => match ds with
  | [x, y] => W.ret (.nx ((ρ.set i (some x)).set j (some y)))
  | _ => W.bad
def sPar3 (i j l : Nat) (ms : Rho → W (List D)) (ρ : Rho) : W Out := W.bnd (ms ρ) fun ds => match ds with
  | [x, y, z] => W.ret (.nx (((ρ.set i (some x)).set j (some y)).set l (some z)))
  | _ => W.bad
theorem isL_cons {K : PySem.W.Frag} {F : Hp} {vs : List V} {d : D} {r : List D} (h : IsL K F vs (d :: r)) : ∃ v us, vs = v :: us ∧ Is K F v d ∧ IsL K F us r := by
  cases h with
  | cons i r => exact ⟨_, _, rfl, i, r⟩
end

/-! ### what is walked -/
structure ItD where
  items : List D
  chk : Mem → Prop
/-- an iterator gives these items, as long as chk holds -/
structure ItIs (K : PySem.W.Frag) (F : Hp) (J : It) (it : ItD) : Prop where
  go : ∀ i F1 H1 μ1, Same F F1 → Rep K F1 H1 μ1 → it.chk μ1 → i < it.items.length → J.go i H1
  yld : ∀ i F1 H1 μ1 x H2, Same F F1 → Rep K F1 H1 μ1 → it.chk μ1 → i < it.items.length → J.yld i H1 x H2 → ∃ F2 d, Same F1 F2 ∧ Rep K F2 H2 μ1 ∧ it.items[i]? = some d ∧ Is K F2 x d
  stop : ∀ F1 H1 μ1, Same F F1 → Rep K F1 H1 μ1 → it.chk μ1 → J.stop it.items.length H1
theorem ItIs.up {K : PySem.W.Frag} {F F' : Hp} {J : It} {it : ItD} (h : ItIs K F J it) (e : Same F F') : ItIs K F' J it :=
  ⟨fun i F1 H1 μ1 s => h.go i F1 H1 μ1 (e.trans s), fun i F1 H1 μ1 x H2 s => h.yld i F1 H1 μ1 x H2 (e.trans s), fun F1 H1 μ1 s => h.stop F1 H1 μ1 (e.trans s)⟩
def liftI (K : PySem.W.Frag) (Eh : Option EX) (m : Rho → W ItD) : TI := fun σ H R => ∃ F ρ μ Q ED, EnvR K F σ ρ ∧ Rep K F H μ ∧ Lnk K Eh F ED ∧ m ρ μ Q ED ∧ ∀ J H' F' μ' it, Same F F' → Rep K F' H' μ' → ItIs K F' J it → Q it μ' → R J H'
abbrev DI (X : Cx) (Eh : Option EX) (tg e : Expr) (m : Rho → W ItD) : Prop := PI X tg e (liftI X.K Eh m)
theorem PI.imp {X : Cx} {tg e : Expr} {t t' : TI} (h : PI X tg e t) (i : ∀ σ H Q, t' σ H Q → t σ H Q) : PI X tg e t' := ⟨fun pins s σ H Q I q => h.run pins s σ H Q I (i _ _ _ q)⟩
def W.chk {α : Type} (c : Mem → Prop) (m : W α) : W α := fun μ Q E => c μ ∧ m μ Q E
def rangeL (lo : Int) (n : Nat) : List D := (List.range n).map fun i => .int (lo + (i : Nat))
def iRg1 (ms : Rho → W (List D)) (ρ : Rho) : W ItD := W.bnd (ms ρ) fun ds => match ds with
  | [.int j] => W.req (-(2 ^ 62) ≤ j ∧ j < 2 ^ 62) (W.ret ⟨rangeL 0 j.toNat, fun _ => True⟩)
  | _ => W.bad
theorem itIs_list {K : PySem.W.Frag} {F : Hp} {a : Addr} {vs : List V} {ds : List D} {c : Mem → Prop} (hs : ∀ F1 H1 μ1, Same F F1 → Rep K F1 H1 μ1 → c μ1 → SqL K H1 a vs) (hl : IsL K F vs ds) : ItIs K F (Itl K a) ⟨ds, c⟩ := by
  refine ⟨fun i F1 H1 μ1 s r hc hi => ?_, fun i F1 H1 μ1 x H2 s r hc hb y => ?_, fun F1 H1 μ1 s r hc => ?_⟩
  · have h := hl.length
    have hi' : i < ds.length := hi
    exact ⟨vs, vs[i]'(by omega), hs F1 H1 μ1 s r hc, List.getElem?_eq_getElem (by omega)⟩
  · obtain ⟨e, y⟩ := y
    subst e
    obtain ⟨d, h1, h2⟩ := hl.getV (y vs (hs F1 _ μ1 s r hc))
    exact ⟨F1, d, Same.refl _, r, h1, h2.up s⟩
  · exact ⟨vs, hs F1 H1 μ1 s r hc, by rw [hl.length]; exact Nat.le_refl _⟩
theorem itIs_tup {K : PySem.W.Frag} {F : Hp} {a : Addr} {vs : List V} {ds : List D} (hs : SqT K F a vs) (hl : IsL K F vs ds) : ItIs K F (Itt K a) ⟨ds, fun _ => True⟩ := by
  refine ⟨fun i F1 H1 μ1 s r hc hi => ?_, fun i F1 H1 μ1 x H2 s r hc hb y => ?_, fun F1 H1 μ1 s r hc => ?_⟩
  · have h := hl.length
    have hi' : i < ds.length := hi
    exact ⟨vs, vs[i]'(by omega), sqt_up r.sub (sqt_up s hs), List.getElem?_eq_getElem (by omega)⟩
  · obtain ⟨e, y⟩ := y
    subst e
    obtain ⟨d, h1, h2⟩ := hl.getV (y vs (sqt_up r.sub (sqt_up s hs)))
    exact ⟨F1, d, Same.refl _, r, h1, h2.up s⟩
  · exact ⟨vs, sqt_up r.sub (sqt_up s hs), by rw [hl.length]; exact Nat.le_refl _⟩
theorem rangeL_len (lo : Int) (n : Nat) : (rangeL lo n).length = n := by unfold rangeL; rw [List.length_map, List.length_range]
theorem rangeL_get {lo : Int} {n i : Nat} (h : i < n) : (rangeL lo n)[i]? = some (.int (lo + (i : Nat))) := by
  unfold rangeL
  rw [List.getElem?_map, List.getElem?_range h]
  rfl
theorem itIs_range {K : PySem.W.Frag} {F : Hp} {lo : Int} {n : Nat} : ItIs K F (Itr lo n) ⟨rangeL lo n, fun _ => True⟩ := by
  refine ⟨fun i F1 H1 μ1 s r hc hi => ?_, fun i F1 H1 μ1 x H2 s r hc hb y => ?_, fun F1 H1 μ1 s r hc => ?_⟩
  · have : i < (rangeL lo n).length := hi
    rw [rangeL_len] at this
    exact this
  · obtain ⟨e, y⟩ := y
    subst e y
    have hb' : i < (rangeL lo n).length := hb
    rw [rangeL_len] at hb'
    exact ⟨F1, _, Same.refl _, r, rangeL_get hb', .int _⟩
  · show n ≤ (rangeL lo n).length
    rw [rangeL_len]
    exact Nat.le_refl _
section
variable {X : Cx} {Eh : Option EX} {tg e : Expr} {m : Rho → W D}
theorem di_range1 {a : Expr} {ms : Rho → W (List D)} {p pos : Pos} (hg : Gl X "range") (hm : X.mg "range" = none) (ha : DA X Eh [a] ms) (hs : starEach [a] X.env = [(false, eval a X.env)]) : DI X Eh tg (.Call (.Name "range" p) [a] [] pos) (iRg1 ms) := by
  refine PI.imp (pi_range1 hg hm ha hs) fun σ H R h => ?_
  obtain ⟨F, ρ, μ, Q, ED, env, rep, lnk, hm, bk⟩ := h
  refine ⟨F, ρ, μ, _, ED, env, rep, lnk, hm, fun v1 H1 d1 F1 μ1 s1 r1 i1 q1 => ?_⟩
  match d1, q1, i1 with
  | [.int j], q1, i1 =>
    obtain ⟨v, rfl, iv⟩ := isL1 i1
    cases iv
    exact ⟨j, rfl, q1.1.1, q1.1.2, bk _ _ F1 μ1 _ s1 r1 itIs_range q1.2⟩
end

/-! ### for -/
def forW (chk : Mem → Prop) (g : D → Rho → W Rho) (body : Rho → W Out) : List D → Rho → W Out
  | [], ρ => W.chk chk (W.ret (.nx ρ))
  | x :: xs, ρ => W.chk chk (W.bnd (g x ρ) fun ρ1 => W.bnd (body ρ1) fun o => match o with
    | .nx ρ2 => forW chk g body xs ρ2
    | .ct ρ2 => forW chk g body xs ρ2
    | .bk ρ2 => W.ret (.nx ρ2)
    | .rt d => W.ret (.rt d))
def sFor (mi : Rho → W ItD) (g : D → Rho → W Rho) (body : Rho → W Out) (ρ : Rho) : W Out := W.bnd (mi ρ) fun it => forW it.chk g body it.items ρ
theorem ds_for {X : Cx} {Eh : Option EX} {tg iter : Expr} {body : List Stmt} {mi : Rho → W ItD} {g : D → Rho → W Rho} {ts : List Nat} {mb : Rho → W Out} {pos : Pos} (hp : PassesOwn (model X.prog X.w) X.A X.env X.xe) (hc : X.calm = true)
    (hi : DI X Eh tg iter mi) (hg : DG X Eh tg ts g) (hb : DSs X Eh body mb) (hs : ∀ x, foldedSetIterable iter X.env x = pure x) : DS X Eh (.For tg iter body [] pos) (sFor mi g mb) := by
  refine PS.imp (ps_for hp hc hi hg hb hs) fun De σ H h => ?_
  obtain ⟨F, ρ, μ, Q, ED, env, rep, lnk, hm, en⟩ := h
  refine ⟨F, ρ, μ, _, ED, env, rep, lnk, hm, fun J H1 F1 μ1 it s1 r1 ij q1 => ?_⟩
  refine ⟨fun i n σ2 H2 => i + n = it.items.length ∧ ∃ F2 ρ2 μ2, Same F1 F2 ∧ Rep X.K F2 H2 μ2 ∧ EnvR X.K F2 σ2 ρ2 ∧ forW it.chk g mb (it.items.drop i) ρ2 μ2 Q ED,
    ⟨it.items.length, by omega, F1, ρ, μ1, Same.refl _, r1, env.up s1, q1⟩, fun i n σ2 H2 hw => ?_⟩
  obtain ⟨hn, F2, ρ2, μ2, s2, r2, e2, q2⟩ := hw
  by_cases hi : i < it.items.length
  · rw [List.drop_eq_getElem_cons hi] at q2
    obtain ⟨hc2, q2⟩ := q2
    refine .inr ⟨ij.go i F2 H2 μ2 s2 r2 hc2 hi, fun σ3 H3 => ∃ F3 ρ3 μ3, Same F1 F3 ∧ Rep X.K F3 H3 μ3 ∧ EnvR X.K F3 σ3 ρ3 ∧ forW it.chk g mb (it.items.drop (i + 1)) ρ3 μ3 Q ED, fun σ3 H3 h3 => ⟨n - 1, by omega, by omega, h3⟩, fun x H3 hy => ?_⟩
    obtain ⟨F3, d, s3, r3, ed, iv⟩ := ij.yld i F2 H2 μ2 x H3 s2 r2 hc2 hi hy
    rw [List.getElem?_eq_getElem hi] at ed
    cases ed
    refine ⟨F3, ρ2, μ2, _, _, ED, e2.up s3, r3, (lnk.up s1).up (s2.trans s3), iv, q2, fun σ4 H4 ρ4 F4 μ4 s4 r4 e4 f4 q4 => ?_⟩
    refine ⟨F4, ρ4, μ4, _, ED, e4, r4, ((lnk.up s1).up (s2.trans s3)).up s4, q4, fun F5 H5 μ5 σ5 ρ5 s5 r5 e5 q5 => ?_, fun F5 H5 μ5 v d5 s5 r5 i5 q5 => ?_, fun F5 H5 μ5 σ5 ρ5 s5 r5 e5 q5 => ?_, fun F5 H5 μ5 σ5 ρ5 s5 r5 e5 q5 => ?_⟩
    · exact ⟨F5, ρ5, μ5, ((s2.trans s3).trans s4).trans s5, r5, e5, q5⟩
    · exact en.2.1 F5 H5 μ5 v d5 (s1.trans (((s2.trans s3).trans s4).trans s5)) r5 i5 q5
    · exact en.1 F5 H5 μ5 σ5 ρ5 (s1.trans (((s2.trans s3).trans s4).trans s5)) r5 e5 q5
    · exact ⟨F5, ρ5, μ5, ((s2.trans s3).trans s4).trans s5, r5, e5, q5⟩
  · have ei : i = it.items.length := by omega
    subst ei
    rw [List.drop_length] at q2
    obtain ⟨hc2, q2⟩ := q2
    exact .inl ⟨ij.stop F2 H2 μ2 s2 r2 hc2, en.1 F2 H2 μ2 σ2 ρ2 (s1.trans s2) r2 e2 q2⟩

/-! ### [e for x in xs if t] -/
def wipeD (ρ : Rho) : List Nat → Rho
  | [] => ρ
  | v :: vs => (wipeD ρ vs).set v none
theorem EnvR.unset {K : PySem.W.Frag} {F : Hp} {σ : L2.St} {ρ : Rho} (h : EnvR K F σ ρ) (n : Nat) : EnvR K F (σ.set n none) (ρ.set n none) := by
  refine ⟨by rw [List.length_set, List.length_set]; exact h.len, fun i e q => ?_⟩
  by_cases hi : n = i
  · subst hi
    by_cases hn : n < ρ.length
    · rw [List.getElem?_set_self hn] at q
      cases q
    · rw [List.getElem?_eq_none (by rw [List.length_set]; omega)] at q
      cases q
  · rw [List.getElem?_set_ne hi] at q
    obtain ⟨u, h1, h2⟩ := h.get i e q
    exact ⟨u, by rw [List.getElem?_set_ne hi]; exact h1, h2⟩
theorem EnvR.wipe {K : PySem.W.Frag} {F : Hp} {σ : L2.St} {ρ : Rho} (h : EnvR K F σ ρ) : ∀ vs : List Nat, EnvR K F (L2.wipe σ vs) (wipeD ρ vs)
  | [] => h
  | v :: vs => (EnvR.wipe h vs).unset v
theorem wipe_at {σ : L2.St} : ∀ {vs : List Nat} {j : Nat}, j ∉ vs → (L2.wipe σ vs)[j]? = σ[j]?
  | [], _, _ => rfl
  | v :: vs, j, h => by
    unfold L2.wipe
    rw [List.getElem?_set_ne (fun e => h (by simp [e]))]
    exact wipe_at fun q => h (List.mem_cons_of_mem _ q)
theorem wipe_in {σ : L2.St} : ∀ {vs : List Nat} {j : Nat}, j ∈ vs → j < σ.length → (L2.wipe σ vs)[j]? = some none
  | [], _, h, _ => by cases h
  | v :: vs, j, h, hl => by
    unfold L2.wipe
    by_cases e : v = j
    · subst e
      exact List.getElem?_set_self (by rw [wipe_length]; exact hl)
    · rw [List.getElem?_set_ne e]
      refine wipe_in ?_ hl
      rcases List.mem_cons.mp h with q | q
      · exact absurd q.symm e
      · exact q
theorem wipe_frm {ts vs : List Nat} {σ σ' : L2.St} (h : Frm ts (L2.wipe σ vs) σ') (hs : ∀ j ∈ ts, j ∈ vs) : L2.wipe σ' vs = L2.wipe σ vs := by
  apply List.ext_getElem?
  intro j
  have hl : σ'.length = σ.length := h.1.trans (wipe_length σ vs)
  by_cases hj : j ∈ vs
  · by_cases hb : j < σ.length
    · rw [wipe_in hj hb, wipe_in hj (by omega)]
    · rw [List.getElem?_eq_none (by rw [wipe_length]; omega), List.getElem?_eq_none (by rw [wipe_length]; omega)]
  · rw [wipe_at hj, h.2 j fun q => hj (hs j q)]
def del (μ : Mem) (p : Addr) : Mem := fun b => if b = p then none else μ b
/-- one more item of the list at p -/
def W.push (p : Addr) (d : D) : W Unit := W.bnd W.get fun μ => match μ p with
  | some (.ml acc) => W.req (acc.length < sizeLine) (W.setL p (acc ++ [d]) (W.ret ()))
  | _ => W.bad
def lcW (chk : Mem → Prop) (g : D → Rho → W Rho) (tt : Rho → W Bool) (te : Rho → W D) (p : Addr) (ρ : Rho) : List D → W Unit
  | [] => W.chk chk (W.ret ())
  | x :: xs => W.chk chk (W.bnd (g x ρ) fun ρ1 => W.bnd (tt ρ1) fun k => if k = true then W.bnd (te ρ1) fun d => W.bnd (W.push p d) fun _ => lcW chk g tt te p ρ xs else lcW chk g tt te p ρ xs)
/-- the list stays (frozen) | it will change -/
def eLc (mi : Rho → W ItD) (g : D → Rho → W Rho) (tt : Rho → W Bool) (te : Rho → W D) (vs : List Nat) (ρ : Rho) : W D := W.bnd (mi ρ) fun it => fun μ Q E => ∀ p, μ p = none →
  lcW it.chk g tt te p (wipeD ρ vs) it.items (put μ p (.ml [])) (fun _ μ' => ∃ ds, μ' p = some (.ml ds) ∧ Q (.lst ds) (del μ' p)) E
abbrev DTs (X : Cx) (Eh : Option EX) (e : List Expr) (m : Rho → W Bool) : Prop := PTs X e (liftT X.K Eh m)
def tsYes (_ : Rho) : W Bool := W.ret true
theorem dts_nil {X : Cx} {Eh : Option EX} : DTs X Eh [] tsYes := by
  refine ⟨fun pins s σ H Q I h => (pts_nil (X := X)).run pins s σ H Q I ?_⟩
  obtain ⟨F, ρ, μ, Qd, ED, env, rep, lnk, hm, bk⟩ := h
  exact bk _ H _ F μ (Same.refl F) rep rfl hm
theorem dts_one {X : Cx} {Eh : Option EX} {c : Expr} {m : Rho → W Bool} (h : DT X Eh c m) : DTs X Eh [c] m := pts_one h
theorem push_of {p : Addr} {d : D} {f : Unit → W Unit} {μ : Mem} {Q : Unit → Mem → Prop} {E : XD} (h : W.bnd (W.push p d) f μ Q E) : ∃ acc, μ p = some (.ml acc) ∧ acc.length < sizeLine ∧ f () (put μ p (.ml (acc ++ [d]))) Q E := by
  have h' : (match μ p with
    | some (.ml acc) => W.req (acc.length < sizeLine) (W.setL p (acc ++ [d]) (W.ret ()))
    | _ => W.bad) μ (fun a μ' => f a μ' Q E) E := h
  cases e : μ p with
  | none => rw [e] at h'; exact h'.elim
  | some mo =>
    cases mo with
    | ml acc => rw [e] at h'; exact ⟨acc, rfl, h'.1, h'.2⟩
    | md kvs => rw [e] at h'; exact h'.elim
    | mi _ _ => rw [e] at h'; exact h'.elim
    | tb _ => rw [e] at h'; exact h'.elim
    | st _ => rw [e] at h'; exact h'.elim
theorem lc_turns {K : PySem.W.Frag} {mi : Rho → W ItD} {g : D → Rho → W Rho} {tt : Rho → W Bool} {te : Rho → W D} {ts vs : List Nat} (hsub : ∀ j ∈ ts, j ∈ vs) {σ : L2.St} {H : Hp} {Qh : VK} {Qe : D → Mem → Prop} {ED : XD} {F : Hp} {ρ : Rho} {μ : Mem} {Qf : Addr → Mem → Prop}
    (env : EnvR K F σ ρ) (rep : Rep K F H μ) (lnk : Lnk K none F ED)
    (hm : W.bnd (mi ρ) (fun it => fun μ (Q : D → Mem → Prop) E => ∀ p, μ p = none → lcW it.chk g tt te p (wipeD ρ vs) it.items (put μ p (.ml [])) (fun _ μ' => Qf p μ') E) μ Qe ED)
    (fin : ∀ p F' H' μ', Same F F' → Rep K F' H' μ' → Qf p μ' → Qh (.ref p) H') : tLc (liftI K none mi) (liftG K none ts g) (liftT K none tt) (liftE K none te) vs σ H Qh := by
  refine ⟨F, ρ, μ, _, ED, env, rep, lnk, hm, fun J H1 F1 μ1 it s1 r1 ij q1 => ?_⟩
  intro p hn
  have q1 := q1 p (r1.mfree hn)
  have r1' : Rep K F1 (upd H1 p (.lst [])) (put μ1 p (.ml [])) := r1.newM (mo := .ml []) hn ⟨[], upd_same, .nil⟩
  refine ⟨fun i n H2 => i + n = it.items.length ∧ ∃ F2 μ2, Same F1 F2 ∧ Rep K F2 H2 μ2 ∧ lcW it.chk g tt te p (wipeD ρ vs) (it.items.drop i) μ2 (fun _ μ' => Qf p μ') ED,
    ⟨it.items.length, by omega, F1, _, Same.refl _, r1', q1⟩, fun i n H2 hw => ?_⟩
  obtain ⟨hn2, F2, μ2, s2, r2, q2⟩ := hw
  by_cases hi : i < it.items.length
  · rw [List.drop_eq_getElem_cons hi] at q2
    obtain ⟨hc2, q2⟩ := q2
    refine .inr ⟨ij.go i F2 H2 μ2 s2 r2 hc2 hi, fun H3 => ∃ F3 μ3, Same F1 F3 ∧ Rep K F3 H3 μ3 ∧ lcW it.chk g tt te p (wipeD ρ vs) (it.items.drop (i + 1)) μ3 (fun _ μ' => Qf p μ') ED, fun H3 h3 => ⟨n - 1, by omega, by omega, h3⟩, fun x H3 hy => ?_⟩
    obtain ⟨F3, d, s3, r3, ed, iv⟩ := ij.yld i F2 H2 μ2 x H3 s2 r2 hc2 hi hy
    rw [List.getElem?_eq_getElem hi] at ed
    cases ed
    have envw : EnvR K F3 (L2.wipe σ vs) (wipeD ρ vs) := (env.wipe vs).up (s1.trans (s2.trans s3))
    refine ⟨F3, wipeD ρ vs, μ2, _, _, ED, envw, r3, lnk, iv, q2, fun σ4 H4 ρ4 F4 μ4 s4 r4 e4 f4 q4 => ⟨wipe_frm f4 hsub, ?_⟩⟩
    refine ⟨F4, ρ4, μ4, _, ED, e4, r4, lnk, q4, fun b H5 c F5 μ5 s5 r5 ibc q5 => ?_⟩
    subst ibc
    cases b with
    | false => exact ⟨F5, μ5, ((s2.trans s3).trans s4).trans s5, r5, q5⟩
    | true =>
      refine ⟨F5, ρ4, μ5, _, ED, e4.up s5, r5, lnk, q5, fun y H6 dy F6 μ6 s6 r6 iy q6 => ?_⟩
      have q6' : W.bnd (W.push p dy) (fun _ => lcW it.chk g tt te p (wipeD ρ vs) (it.items.drop (i + 1))) μ6 (fun _ μ' => Qf p μ') ED := q6
      obtain ⟨acc, ea, hz, q7⟩ := push_of q6'
      obtain ⟨_, us, h1, h2⟩ := r6.mem p _ ea
      exact ⟨us, h1, by rw [h2.length]; exact hz, F6, _, ((((s2.trans s3).trans s4).trans s5).trans s6), r6.write (mo' := .ml (acc ++ [dy])) ea ⟨_, upd_same, h2.app (.cons iy .nil)⟩, q7⟩
  · have ei : i = it.items.length := by omega
    subst ei
    rw [List.drop_length] at q2
    obtain ⟨hc2, q2⟩ := q2
    exact .inl ⟨ij.stop F2 H2 μ2 s2 r2 hc2, fin p F2 H2 μ2 (s1.trans s2) r2 q2⟩
section
variable {X : Cx} {elt tg iter : Expr} {ifs : List Expr} {scope : Scope} {own : List (Str × Nat)} {pos : Pos} {mi : Rho → W ItD} {g : D → Rho → W Rho} {tt : Rho → W Bool} {te : Rho → W D} {ts : List Nat}
theorem de_lc (hc : X.calm = true) (hN : X.N.Nodup) (hi : DI X none tg iter mi) (ok : BlkOk X.N X.env.scope scope own) (hsub : ∀ j ∈ ts, j ∈ own.map (·.2))
    (hg : ∀ (s : Shared) (H : Hp) (C : Addr) (cl : List (Str × Addr)) (fp : List Addr), DG (X.blk s H scope (compEnvC scope cl C X.env) fp) none tg ts g)
    (ht : ∀ (s : Shared) (H : Hp) (C : Addr) (cl : List (Str × Addr)) (fp : List Addr), DTs (X.blk s H scope (compEnvC scope cl C X.env) fp) none ifs tt)
    (he : ∀ (s : Shared) (H : Hp) (C : Addr) (cl : List (Str × Addr)) (fp : List Addr), DE (X.blk s H scope (compEnvC scope cl C X.env) fp) none elt te) (hs : ∀ x, foldedSetIterable iter X.env x = pure x) :
    DE X none (.ListComp elt [⟨tg, iter, ifs, 0⟩] scope pos) (eLc mi g tt te (own.map (·.2))) := by
  refine PE.imp (pe_lc (g := liftG X.K none ts g) (tt := liftT X.K none tt) (te := liftE X.K none te) hc hN hi ok hg ht he hs) fun σ H Qh h => ?_
  obtain ⟨F, ρ, μ, Q, ED, env, rep, lnk, hm, bk⟩ := h
  refine lc_turns (Qe := Q) (Qf := fun p μ' => ∃ ds, μ' p = some (.ml ds) ∧ Q (.lst ds) (del μ' p)) hsub env rep lnk hm fun p F' H' μ' s' r' q' => ?_
  obtain ⟨ds, e, q⟩ := q'
  obtain ⟨F2, s2, r2, i2⟩ := r'.freeze e
  exact bk _ H' _ F2 _ (s'.trans s2) r2 i2 q
/-- y = [..] on one line -/
theorem ds_setLc {i : Nat} {y : Str} {py spos : Pos} (hc : X.calm = true) (hN : X.N.Nodup) (hy : X.N[i]? = some y) (hyl : X.env.scope.names.lookup y = some .local)
    (hsw : swapsWith (.ListComp elt [⟨tg, iter, ifs, 0⟩] scope pos) (some (.Name y py)) spos.line X.env = pure true) (hi : DI X none tg iter mi) (ok : BlkOk X.N X.env.scope scope own) (hsub : ∀ j ∈ ts, j ∈ own.map (·.2))
    (hg : ∀ (s : Shared) (H : Hp) (C : Addr) (cl : List (Str × Addr)) (fp : List Addr), DG (X.blk s H scope (compEnvC scope cl C X.env) fp) none tg ts g)
    (ht : ∀ (s : Shared) (H : Hp) (C : Addr) (cl : List (Str × Addr)) (fp : List Addr), DTs (X.blk s H scope (compEnvC scope cl C X.env) fp) none ifs tt)
    (he : ∀ (s : Shared) (H : Hp) (C : Addr) (cl : List (Str × Addr)) (fp : List Addr), DE (X.blk s H scope (compEnvC scope cl C X.env) fp) none elt te) (hs : ∀ x, foldedSetIterable iter X.env x = pure x) :
    DS X none (.Assign [.Name y py] (.ListComp elt [⟨tg, iter, ifs, 0⟩] scope pos) spos) (sSet i (eLc mi g tt te (own.map (·.2)))) := by
  refine PS.imp (ps_setLc (g := liftG X.K none ts g) (tt := liftT X.K none tt) (te := liftE X.K none te) hc hN hy hyl hsw hi ok hg ht he hs) fun De σ H h => ?_
  obtain ⟨F, ρ, μ, Q, ED, env, rep, lnk, hm, en⟩ := h
  refine lc_turns (Qe := fun d μ' => Q (.nx (ρ.set i (some d))) μ') (Qf := fun p μ' => ∃ ds, μ' p = some (.ml ds) ∧ Q (.nx (ρ.set i (some (.lst ds)))) (del μ' p)) hsub env rep lnk hm fun p F' H' μ' s' r' q' => ?_
  obtain ⟨ds, e, q⟩ := q'
  obtain ⟨F2, s2, r2, i2⟩ := r'.freeze e
  exact en.1 F2 H' _ _ _ (s'.trans s2) r2 ((env.up (s'.trans s2)).set i i2) q
end
end DL

namespace DL
open PySem PySem.Spec PyProof.Rows L2

/-! ### repr -/
def rRepr (K : PySem.W.Frag) : List V → Hp → VK → Prop := fun xs H Q => ∃ x d, xs = [x] ∧ Dp K H x d ∧ d.canLay0 = true ∧ d.showable = true ∧ d.depth ≤ 60 ∧ d.shown.length ≤ sizeLine ∧ Q (.str d.shown) H
theorem call_repr {X : Cx} (hg : X.A.guards = some []) (hu : X.A.units + 64 < cLine) : CallR X (.builtin "repr") (rRepr X.K) := by
  intro pins s σ H xs us Q I r h
  obtain ⟨x, d, rfl, hd, hc, hs, hdp, hz, q⟩ := h
  obtain ⟨u, rfl, ru⟩ := vals1 r
  have fin : ∀ h' t tk, (∀ b o, s.heap.get? b = some o → h'.get? b = some o) → EP X pins σ Q (.str d.shown t) { s with heap := h', toks := tk } := fun h' t tk hk => ⟨.str d.shown, H, I.kept (t' := tk) hk, ⟨_, rfl⟩, q⟩
  cases hd with
  | non => cases ru; exact PySem.P.repr_of_none (fin s.heap _ _ fun _ _ e => e)
  | bl b => cases ru; exact PySem.P.repr_of_bool (fin s.heap _ _ fun _ _ e => e)
  | int i => obtain ⟨t, rfl⟩ := ru; exact PySem.P.repr_of_int (by simpa [PyData.showable] using hs) (fin s.heap _ _ fun _ _ e => e)
  | str z => obtain ⟨t, rfl⟩ := ru; exact PySem.P.repr_of_str (fin s.heap _ _ fun _ _ e => e) hz
  | lst hl ha =>
    cases ru
    obtain ⟨as, rd⟩ := Dp.reads I _ _ _ (.lst hl ha) rfl
    exact repr_of_reads' rd hs (PyData.noDict_hsm (PyData.hasDict_of_canLay _ hc)) hg (by omega) (fun _ _ e => e) (fun h' t tk hk => fin h' t tk hk) hz
  | tup hl ha =>
    cases ru
    obtain ⟨as, rd⟩ := Dp.reads I _ _ _ (.tup hl ha) rfl
    exact repr_of_reads' rd hs (PyData.noDict_hsm (PyData.hasDict_of_canLay _ hc)) hg (by omega) (fun _ _ e => e) (fun h' t tk hk => fin h' t tk hk) hz
/-- what repr asks of data -/
def ShowOk (p : PyData) : Prop := p.canLay0 = true ∧ p.showable = true ∧ p.depth ≤ 60 ∧ p.shown.length ≤ sizeLine
def reprD : List D → W D
  | [x] => W.bnd W.get fun μ => W.bnd (W.opt (pyM μ x)) fun p => W.req (ShowOk p) (W.ret (.str p.shown))
  | _ => W.bad
theorem cd_repr {K : PySem.W.Frag} : CallD K (rRepr K) reprD := by
  intro F H μ xs ds Q ED Qh r il h bk
  unfold reprD at h
  split at h
  · obtain ⟨v, rfl, i⟩ := isL1 il
    obtain ⟨p, e, ⟨h1, h2, h3, h4⟩, q⟩ := opt_of h
    exact ⟨v, p, rfl, dp_of r i e h1, h1, h2, h3, h4, back_is bk r (.str _) q⟩
  · exact h.elim

/-! ### min, max -/
/-- all numbers, or all texts -/
def OneSort (xs : List D) : Prop := (∃ ns : List Int, xs = ns.map .int) ∨ ∃ ss : List Str, xs = ss.map .str
def mmD (f : D → List D → D) : List D → W D
  | [x] => W.bnd W.get fun μ => W.bnd (W.opt (lsOf x μ)) fun ds => match ds with
    | d :: r => W.req (OneSort (d :: r)) (W.ret (f d r))
    | [] => W.bad
  | [x, y] => W.req (OneSort [x, y]) (W.ret (f x [y]))
  | _ => W.bad
end DL

namespace DL
open PySem PySem.Spec PyProof.Rows L2

/-! ### defs, where no repr is under way -/
structure FnG (P : Program) (w : World) (K : PySem.W.Frag) (mg : Str → Option Value) (base : Heap) (CX : CXT) (k : Nat) (f : Addr) (fd : FuncData) (ps : List Str) (sp : Sp) : Prop where
  len : ∀ vs H Q E, sp vs H Q E → vs.length = ps.length
  go : ∀ (A : Around) (outer : List Env) (s : Shared) (H : Hp) (args : Args) (us : List Value) (vs : List V) (Q : VK) (E : XK), A.guards = some [] → Room k A → Env0 P w K mg base A outer s H → BindsTo s fd args (ps.zip us) → Vals vs us → sp vs H Q E →
    codeAny (model P w) A (.call (.ref f) args) (CR CX outer P w H s Q E) s
section
variable {P : Program} {w : World} {K : PySem.W.Frag} {mg : Str → Option Value} {base : Heap} {CX : CXT} {k : Nat}
/-- a def by its body -/
theorem fng_of {x qual : Str} {st : Stmt} {f : Addr} {fd : FuncData} {N ps : List Str} {sp : Sp} (Fn : Fun K x qual st f fd) (S : FnScope N ps (defScope st)) (len : ∀ vs H Q E, sp vs H Q E → vs.length = ps.length)
    (hbody : ∀ (cdv : Value) (A : Around) (outer : List Env) (s : Shared) (H : Hp) (vs : List V) (Q : VK) (E : XK), A.guards = some [] → Room k (A.deeper (envOfC qual (defScope st) s.heap.objs.size f cdv)) → sp vs H Q E →
      ∃ t, PSs (cxOf CX P w K mg base N qual (defScope st) f cdv A outer s H E) (defBody st) t ∧ t { nx := fun _ H' => Q .non H', rt := Q } (start N vs) H) : FnG P w K mg base CX (k + 1) f fd ps sp := by
  obtain ⟨oc, od, kV, doc, pm, an, cdv, ct, osl, rfl, lk, hcd⟩ := Fn.ex
  refine ⟨len, fun A outer s H args us vs Q E hg hr e0 hb rv hsp => ?_⟩
  have keepB : ∀ b o, base.get? b = some o → s.heap.get? b = some o := fun b o e => (e0.bs b o e).1
  have inK : K.In s.heap := e0.mod.kin.keeps keepB
  have kinds : ∀ y ∈ ps.zip us, (defScope st).names.lookup y.1 = some .local ∨ ((defScope st).names.lookup y.1 = some .cell ∧ ((cellsFrom (s.heap.objs.size + 1) (defScope st).names []).lookup y.1).isSome = true) := by
    rintro ⟨n, v⟩ hy
    cases S.par n (List.of_mem_zip hy).1 with
    | inl q => exact .inl q
    | inr q => exact .inr ⟨q, PySem.W.cellsFrom_some _ _ _ (.inl q)⟩
  refine codeAny_call_function hr.depth (inK _ _ lk) rfl S.co S.gen rfl (PySem.W.codeRec_of inK hcd) (hb _ _ _ _ ?_)
  refine wpAny_newFunctionEnv_cells S.kind kinds fun env he s1 hx => ?_
  subst he
  refine ⟨(e0.mod.nolimit.keeps keepB).keeps hx.toInCall.keep, codeAny_func ?_⟩
  obtain ⟨t, ht, hq⟩ := hbody cdv A outer s H vs Q E hg (hr.deeper _) hsp
  have inv := inv_start (CX := CX) (E := E) S hr.hd e0 (len _ _ _ _ hsp) rv hx
  refine wpAny_mono (ht.run [] s1 (start N vs) H _ inv hq) (fun fl s' hs => ?_) fun e s' hs => hs
  cases fl with
  | ret u => obtain ⟨v, σ', H', J, r, q⟩ := hs; exact ⟨v, H', J.os, J.bare, J.base, J.hok, r, q⟩
  | next => obtain ⟨σ', H', J, q⟩ := hs; exact ⟨V.non, H', J.os, J.bare, J.base, J.hok, rfl, q⟩
  | brk => exact hs.choose_spec.choose_spec.2.elim
  | cont => exact hs.choose_spec.choose_spec.2.elim
end
section
variable {X : Cx} {CX : CXT} {k : Nat} {f : Addr} {fd : FuncData} {ps ks : List Str} {sp : Sp} {E : XK} {x : Str} {p pos : Pos} {e : Expr} {es : List Expr} {kws : List Keyword} {t tk : TA} {g : List Value → List Value → List Value} {gV : List V → List V → List V}
theorem run_fng {pins : List (Addr × Obj)} {σ : L2.St} {H : Hp} {s : Shared} {Q : VK} {us ws : List Value} {vs zs : List V} (Fn : FnG X.prog X.w X.K X.mg X.base CX k f fd ps sp) (hg : X.A.guards = some []) (hr : Room k X.A) (hb : KBinds X.K fd ps ks g gV) (hx : Passes CX X E)
    (I : Inv X pins σ H s) (rv : Vals vs us) (rz : Vals zs ws) (h : sp (gV vs zs) H Q E) : wpAny (model X.prog X.w) X.A (call (.ref f) us (ks.zip ws)) (EP X pins σ Q) X.xe s := by
  have rr := hb.rel rv rz
  refine wpAny_call (codeAny_mono (Fn.go X.A X.stack s H ⟨us, ks.zip ws⟩ (g us ws) (gV vs zs) Q E hg hr I.env0 (hb.to s us ws I.kIn (by rw [← rr.length]; exact Fn.len _ _ _ _ h)) rr h) fun r s' hq => ?_)
  cases r with
  | error e => exact hx pins σ H s e s' I hq
  | ok fl =>
    cases fl with
    | ret u => exact I.after hq
    | _ => exact False.elim hq
/-- every parameter by its place -/
theorem kbinds_pos {K : PySem.W.Frag} (h : ∀ us : List Value, us.length = ps.length → bindArgs fd ⟨us, []⟩ = pure (ps.zip us)) : KBinds K fd ps [] (fun us _ => us) (fun vs _ => vs) :=
  ⟨fun s us ws _ hl => .of_eq (h us hl), fun rv _ => rv⟩
theorem pe_callG (Fn : FnG X.prog X.w X.K X.mg X.base CX k f fd ps sp) (hgd : X.A.guards = some []) (hr : Room k X.A) (hg : Gl X x) (hm : X.mg x = some (.ref f)) (hk : PySem.W.keepIn X.K (.ref f) = true) (hb : KBinds X.K fd ps [] g gV) (hx : Passes CX X E)
    (ha : PA X (e :: es) t) (hdb : (x == ("__debug__" : Str)) = false) (he : starEach (e :: es) X.env = (false, eval e X.env) :: starEach es X.env) (hpl : (backTo pos (starEach es X.env)).any (·.1) = false) :
    PE X (.Call (.Name x p) (e :: es) [] pos) (fun σ H Q => t σ H fun vs H1 => sp (gV vs []) H1 Q E) := by
  refine ⟨fun pins s σ H Q I h => ?_⟩
  refine wpAny_Call_Name_kw (ld_glob I hg hm ?_ hdb)
  refine PySem.W.callWith_K (h₀ := X.base) I.ok.mod.kin hk (thn (ha.run pos pins s σ H _ I h) fun us s1 ⟨vs, H1, I1, r, q⟩ => ⟨I1.kIn, ?_⟩) he hpl
  exact run_fng (ws := []) Fn hgd hr hb hx I1 r .nil q
end

/-! ### the promise of a def over data -/
def eCallD (n : Nat) (m : List D → W D) (ms : Rho → W (List D)) (ρ : Rho) : W D := W.bnd (ms ρ) fun ds => W.req (ds.length = n) (m ds)
def pick {α : Type} (is : List Nat) (xs : List α) : List α := is.filterMap fun i => xs[i]?
def eCallK (is : List Nat) (n : Nat) (m : List D → W D) (ms : Rho → W (List D)) (ρ : Rho) : W D := W.bnd (ms ρ) fun ds => W.req ((pick is ds).length = n) (m (pick is ds))
def spD (K : PySem.W.Frag) (n : Nat) (m : List D → W D) : Sp := fun vs H Qh _ => vs.length = n ∧ ∃ F ds μ Q ED, IsL K F vs ds ∧ Rep K F H μ ∧ NoX ED ∧ m ds μ Q ED ∧ Back K F (Is K) Q Qh
def startD (n : Nat) (ds : List D) : Rho := ds.map some ++ List.replicate (n - ds.length) none
theorem env_start {K : PySem.W.Frag} {F : Hp} {N : List Str} {vs : List V} {ds : List D} (h : IsL K F vs ds) : EnvR K F (start N vs) (startD N.length ds) := by
  have hl := h.length
  refine ⟨by simp [L2.start, startD, hl], fun i d e => ?_⟩
  unfold startD at e
  unfold L2.start
  by_cases hi : i < ds.length
  · rw [List.getElem?_append_left (by simpa using hi), List.getElem?_map] at e
    rw [List.getElem?_append_left (by simpa [hl] using hi), List.getElem?_map]
    cases q : ds[i]? with
    | none => rw [q] at e; cases e
    | some d' =>
      rw [q] at e
      cases e
      obtain ⟨v, h1, h2⟩ := h.get q
      exact ⟨v, by rw [h1]; rfl, h2⟩
  · rw [List.getElem?_append_right (by simpa using hi), List.getElem?_replicate] at e
    split at e <;> cases e
/-- what a def is: its body from its arguments -/
def bodyD (n : Nat) (m : Rho → W Out) (ds : List D) : W D := W.bnd (m (startD n ds)) fun o => match o with
  | .nx _ => W.ret .non
  | .rt d => W.ret d
  | _ => W.bad
section
variable {P : Program} {w : World} {K : PySem.W.Frag} {mg : Str → Option Value} {base : Heap} {k : Nat}
theorem fnd_of {x qual : Str} {st : Stmt} {f : Addr} {fd : FuncData} {N ps : List Str} {m : Rho → W Out} (Fn : Fun K x qual st f fd) (S : FnScope N ps (defScope st))
    (hbody : ∀ (cdv : Value) (A : Around) (outer : List Env) (s : Shared) (H : Hp) (E : XK), A.guards = some [] → Room k (A.deeper (envOfC qual (defScope st) s.heap.objs.size f cdv)) →
      DSs (cxOf CX0 P w K mg base N qual (defScope st) f cdv A outer s H E).nox none (defBody st) m) : FnG P w K mg base CX0 (k + 1) f fd ps (spD K ps.length (bodyD N.length m)) := by
  refine fng_of Fn S (fun vs H Q E h => h.1) fun cdv A outer s H vs Qh E hg hr h => ?_
  obtain ⟨_, F, ds, μ, Q, ED, il, rep, nox, hm, bk⟩ := h
  refine ⟨_, (hbody cdv A outer s H E hg hr).nox, ?_⟩
  refine ⟨F, startD N.length ds, μ, _, ED, env_start il, rep, nox, hm, fun F1 H1 μ1 σ1 ρ1 s1 r1 n1 q1 => bk _ _ _ F1 μ1 s1 r1 .non q1, fun F1 H1 μ1 v d s1 r1 i1 q1 => bk _ _ _ F1 μ1 s1 r1 i1 q1, fun F1 H1 μ1 σ1 ρ1 s1 r1 n1 q1 => q1, fun F1 H1 μ1 σ1 ρ1 s1 r1 n1 q1 => q1⟩
end
section
variable {X : Cx} {k : Nat} {f : Addr} {fd : FuncData} {ps ks : List Str} {x : Str} {p pos : Pos} {e : Expr} {es : List Expr} {kws : List Keyword} {m : List D → W D} {n : Nat} {ms : Rho → W (List D)}
theorem de_call (Fn : FnG X.prog X.w X.K X.mg X.base CX0 k f fd ps (spD X.K n m)) (hgd : X.A.guards = some []) (hr : Room k X.A) (hg : Gl X x) (hm : X.mg x = some (.ref f)) (hk : PySem.W.keepIn X.K (.ref f) = true) (hb : KBinds X.K fd ps [] (fun us _ => us) (fun vs _ => vs))
    (hdb : (x == ("__debug__" : Str)) = false) (ha : DA X none (e :: es) ms) (he : starEach (e :: es) X.env = (false, eval e X.env) :: starEach es X.env) (hpl : (backTo pos (starEach es X.env)).any (·.1) = false) :
    DE X none (.Call (.Name x p) (e :: es) [] pos) (eCallD n m ms) := by
  refine PE.imp (pe_callG Fn hgd hr hg hm hk hb (pass0 (X := X)) ha hdb he hpl) fun σ H Qh h => ?_
  obtain ⟨F, ρ, μ, Q, ED, env, rep, lnk, hm, bk⟩ := h
  refine ⟨F, ρ, μ, _, ED, env, rep, lnk, hm, fun v1 H1 d1 F1 μ1 s1 r1 i1 q1 => ⟨by rw [i1.length]; exact q1.1, ?_⟩⟩
  exact ⟨F1, d1, μ1, Q, ED, i1, r1, lnk, q1.2, fun v2 H2 d2 F2 μ2 s2 r2 i2 q2 => bk v2 H2 d2 F2 μ2 (s1.trans s2) r2 i2 q2⟩
abbrev DK (X : Cx) (Eh : Option EX) (e : List Keyword) (m : Rho → W (List D)) : Prop := PK X e (liftA X.K Eh m)
theorem PK.imp {X : Cx} {e : List Keyword} {t t' : TA} (h : PK X e t) (i : ∀ σ H Q, t' σ H Q → t σ H Q) : PK X e t' := ⟨fun pos pins s σ H Q I q => h.run pos pins s σ H Q I (i _ _ _ q)⟩
theorem dk_nil {Eh : Option EX} : DK X Eh [] aNil := PK.imp pk_nil fun σ H Qh ⟨F, ρ, μ, Q, ED, env, rep, lnk, hm, bk⟩ => bk _ H _ F μ (Same.refl F) rep .nil hm
theorem dk_cons {Eh : Option EX} {nm : Option Str} {kpos : Pos} {me : Rho → W D} (ha : DE X Eh e me) (hr : DK X Eh kws ms) : DK X Eh (⟨nm, e, kpos⟩ :: kws) (aCons me ms) := by
  refine PK.imp (pk_cons ha hr) fun σ H Qh h => ?_
  obtain ⟨F, ρ, μ, Q, ED, env, rep, lnk, hm, bk⟩ := h
  refine ⟨F, ρ, μ, _, ED, env, rep, lnk, hm, fun v1 H1 d1 F1 μ1 s1 r1 i1 q1 => ?_⟩
  refine ⟨F1, ρ, μ1, _, ED, env.up s1, r1, lnk.up s1, q1, fun v2 H2 d2 F2 μ2 s2 r2 i2 q2 => ?_⟩
  exact bk _ H2 _ F2 μ2 (s1.trans s2) r2 (.cons (i1.up s2) i2) q2
/-- a permutation of the keywords' values, by places -/
theorem pick_vals {is : List Nat} {vs : List V} {us : List Value} (h : Vals vs us) : Vals (pick is vs) (pick is us) := by
  unfold pick
  induction is with
  | nil => exact .nil
  | cons i r ih =>
    rw [List.filterMap_cons, List.filterMap_cons]
    cases e : vs[i]? with
    | none => rw [h.none_of e]; exact ih
    | some v =>
      obtain ⟨u, e2, r2⟩ := h.get e
      rw [e2]
      exact .cons r2 ih
theorem pick_isL {K : PySem.W.Frag} {F : Hp} {is : List Nat} {vs : List V} {ds : List D} (h : IsL K F vs ds) : IsL K F (pick is vs) (pick is ds) := by
  unfold pick
  induction is with
  | nil => exact .nil
  | cons i r ih =>
    rw [List.filterMap_cons, List.filterMap_cons]
    cases e : ds[i]? with
    | none =>
      have : vs[i]? = none := List.getElem?_eq_none (by rw [h.length]; exact List.getElem?_eq_none_iff.mp e)
      rw [this]
      exact ih
    | some d =>
      obtain ⟨v, e2, i2⟩ := h.get e
      rw [e2]
      exact .cons i2 ih
end
/-- how the arguments of a def of the text bind -/
theorem Fun.kpos {K : PySem.W.Frag} {x qual : Str} {st : Stmt} {f : Addr} {fd : FuncData} {ps : List Str} (Fn : Fun K x qual st f fd)
    (h : ∀ (kV doc pm : Value) (an : Option Addr) (cdv ct : Value) (us : List Value), us.length = ps.length → bindArgs (PySem.W.fnOf x qual (defArgs st) (defBody st) (defScope st) .none kV doc pm an cdv ct) ⟨us, []⟩ = pure (ps.zip us)) : KBinds K fd ps [] (fun us _ => us) (fun vs _ => vs) := by
  obtain ⟨oc, od, kV, doc, pm, an, cdv, ct, osl, rfl, lk, hcd⟩ := Fn.ex
  exact kbinds_pos (h kV doc pm an cdv ct)
/-! ### the law's end -/
/-- from an abstract heap that tells of the script alone -/
theorem law_run {P : Program} {w : World} {K : PySem.W.Frag} {mg mb : Str → Option Value} {k : Nat} {fa a : Addr} {fd : FuncData} {x : Str} {m : List D → W D} {s : Shared} {ns : List Int} {H : Hp} {ob : Obj}
    (inK : K.In s.heap) (gl : s.heap.Ns mainGlobals mg) (bl : s.heap.Ns builtinsNs mb) (bb : ∀ x : Str, x ≠ "__name__" → mb x = bootBuiltins x) (lim : s.heap.NoLimit) (gens : s.gens = #[])
    (ho : s.heap.get? a = some ob) (hnd : ∀ es ep, ob.data ≠ .dict es ep) (hr : Room k callerA)
    (Fn : ∀ base : Heap, K.In base → base.Ns mainGlobals mg → FnG P w K mg base CX0 k fa fd [x] (spD K 1 m)) (hb : ∀ (s : Shared) (u : Value), BindsTo s fd ⟨[u], []⟩ [(x, u)])
    (hm : ∀ μ : Mem, (∀ b, μ b = none) → m [.lst (ns.map .int)] μ (fun d _ => d = .bl true) (fun _ _ => False))
    (hS : SqL K H a (ns.map V.int)) (hH : HOk P w H s.heap) (one : ∀ b, H b ≠ none → b = a ∧ K.lookup a = none ∧ ∃ xs, H b = some (.frz ob (.lst xs))) :
    codeAny (model P w) callerA (.call (.ref fa) ⟨[.ref a], []⟩) (fun r s' => r = .ok (.ret (.bool true)) ∧ OldK s.heap s'.heap ∧ s'.os = s.os ∧ AllBare s'.gens) s := by
  have out : ∀ {b : Addr} {o : Obj}, s.heap.get? b = some o → (b ≠ a ∨ K.lookup a ≠ none) → H b = none := fun {b o} e hb => by
    cases q : H b with
    | none => rfl
    | some u =>
      obtain ⟨h1, h2, _⟩ := one b (by rw [q]; exact Option.some_ne_none u)
      exact hb.elim (fun z => absurd h1 z) fun z => absurd h2 z
  have dic : ∀ {b : Addr} {mm : Str → Option Value}, s.heap.Ns b mm → (hidT s.heap H).Ns b mm := fun {b mm} ⟨o, es, ep, e, d, r⟩ => by
    refine ⟨o, es, ep, hidT_get e (out e (.inl fun z => ?_)), d, r⟩
    rw [z, ho] at e
    cases e
    exact hnd es ep d
  have inB : K.In (hidT s.heap H) := fun b o e => hidT_get (inK b o e) (by
    by_cases z : b = a
    · exact out (inK b o e) (.inr (by rw [← z, e]; exact Option.some_ne_none o))
    · exact out (inK b o e) (.inl z))
  have md : Mod K mg (hidT s.heap H) := ⟨inB, dic gl, ⟨mb, dic bl, bb⟩, by
    obtain ⟨mc, h1, h2⟩ := lim
    exact ⟨mc, dic h1, h2⟩⟩
  have e0 : Env0 P w K mg (hidT s.heap H) callerA [] s H := ⟨rfl, md, fun b o e => of_hidT e, Nat.le_of_eq (hidT_size _ _), trivial, fun b hb => (nomatch (show b ∈ ([] : List Addr) from hb)), hH, .of_eq gens⟩
  have isInts : ∀ (l : List Int), IsL K H (l.map V.int) (l.map .int) := fun l => by
    induction l with
    | nil => exact .nil
    | cons n r ih => exact .cons (.int n) ih
  have pr : spD K 1 m [.ref a] H (fun v _ => v = .bl true) fun _ _ _ => False :=
    ⟨rfl, H, [.lst (ns.map .int)], fun _ => none, _, _, .cons (.lst hS (isInts ns)) .nil, ⟨Same.refl H, fun _ _ e => nomatch e⟩, fun _ _ z => z, hm _ fun _ => rfl, fun v H' d F' μ' _ _ i q => by
      subst q
      exact is_bl i⟩
  refine codeAny_mono ((Fn _ inB (dic gl)).go callerA [] s H ⟨[.ref a], []⟩ [.ref a] [.ref a] _ _ rfl hr e0 (hb s (.ref a)) (.cons rfl .nil) pr) fun r s' hq => ?_
  match r, hq with
  | .ok (.ret u), ⟨v, H', os, bare, un, hok, rv, q⟩ =>
    have q' : v = .bl true := q
    subst q'
    cases rv
    refine ⟨rfl, OldK.of_keep fun b o e => ?_, os, bare⟩
    cases z : H b with
    | none => exact un.keep b o e z (fun hb => (nomatch (show b ∈ ([] : List Addr) from hb))) (fun hb => nomatch hb)
    | some u =>
      obtain ⟨_, _, xs, z2⟩ := one b (by rw [z]; exact Option.some_ne_none u)
      have e1 := (hH b _ z2).1
      have e2 := (hok b _ (un.frzs b _ _ z2)).1
      rw [e] at e1
      cases e1
      exact e2
theorem law_go {P : Program} {w : World} {K : PySem.W.Frag} {mg mb : Str → Option Value} {k : Nat} {fa a : Addr} {fd : FuncData} {x : Str} {m : List D → W D} {s : Shared} {vs : List Value} {ns : List Int}
    (inK : K.In s.heap) (gl : s.heap.Ns mainGlobals mg) (bl : s.heap.Ns builtinsNs mb) (bb : ∀ x : Str, x ≠ "__name__" → mb x = bootBuiltins x) (lim : s.heap.NoLimit) (gens : s.gens = #[])
    (ho : s.heap.get? a = some { cls := .type "list", data := .seq vs.toArray }) (hi : IntsAre vs ns) (hl : ns.length ≤ sizeLine) (hr : Room k callerA)
    (Fn : ∀ base : Heap, K.In base → base.Ns mainGlobals mg → FnG P w K mg base CX0 k fa fd [x] (spD K 1 m)) (hb : ∀ (s : Shared) (u : Value), BindsTo s fd ⟨[u], []⟩ [(x, u)])
    (hm : ∀ μ : Mem, (∀ b, μ b = none) → m [.lst (ns.map .int)] μ (fun d _ => d = .bl true) (fun _ _ => False)) :
    codeAny (model P w) callerA (.call (.ref fa) ⟨[.ref a], []⟩) (fun r s' => r = .ok (.ret (.bool true)) ∧ OldK s.heap s'.heap ∧ s'.os = s.os ∧ AllBare s'.gens) s := by
  have vals := vals_ints hi
  have hlen := hi.length
  cases hk : K.lookup a with
  | some o =>
    have e := inK a o hk
    rw [ho] at e
    cases e
    refine law_run (H := fun _ => none) inK gl bl bb lim gens ho (fun _ _ z => nomatch z) hr Fn hb hm (.inr ⟨_, vs.toArray, _, hk, rfl, rfl, rfl, ?_, by simpa using vals⟩) (fun b u z => nomatch z) fun b z => absurd rfl z
    rw [List.size_toArray, hlen]
    exact hl
  | none =>
    refine law_run (H := fun b => if b = a then some (.frz { cls := .type "list", data := .seq vs.toArray } (.lst (ns.map V.int))) else none) inK gl bl bb lim gens ho (fun _ _ z => nomatch z) hr Fn hb hm (.inl (.inr ⟨_, if_pos rfl⟩)) (fun b u z => ?_) fun b z => ?_
    · by_cases hba : b = a
      · have z' := (if_pos hba).symm.trans z
        cases z'
        subst hba
        exact ⟨ho, by rw [List.length_map]; exact hl, vs, _, vals, ho⟩
      · exact nomatch (if_neg hba).symm.trans z
    · by_cases hba : b = a
      · exact ⟨hba, hk, _, if_pos hba⟩
      · exact absurd (if_neg hba) z
/-- the goal that k_head leaves -/
theorem walkD {l : PySem.W.OpenLaw} {n k : Nat} {q : Program} {loose : List Str} {XP : (Str → Option Value) → Heap → Prop} {YP : World → Heap → Prop} {d : DefRec} {K : Params → PySem.W.Frag} {x : Str} {m : List D → W D}
    (hn : l.most = some n) (hn2 : n ≤ sizeLine) (hdf : d.params.defaults = []) (hr : Room k callerA) (hY : ∀ (w : World) (h : Heap), YP w h → (K w.params).In h)
    (Fn : ∀ (w : World) (mg : Str → Option Value) (fa : Addr) (h : Heap), (K w.params).In h → h.Ns mainGlobals mg → mg d.name = some (.ref fa) →
      ∃ fd : FuncData, (∀ (s : Shared) (u : Value), BindsTo s fd ⟨[u], []⟩ [(x, u)]) ∧ ∀ base : Heap, (K w.params).In base → base.Ns mainGlobals mg → FnG l.prog w (K w.params) mg base CX0 k fa fd [x] (spD (K w.params) 1 m))
    (hm : ∀ (ns : List Int) (μ : Mem), ns.length ≤ n → (∀ b, μ b = none) → m [.lst (ns.map .int)] μ (fun d _ => d = .bl true) (fun _ _ => False)) :
    PySem.W.WalkO q loose XP YP l.row.toRowW d [] (fun f vs => PySem.call f vs) := by
  refine Att.attach_call hn hdf fun w s₀ s₁ mg mb fa o pm cd doc a vs ns G Y ho hd hcd hmg hobj hints hlen hg => ?_
  have KX := hY w _ Y
  obtain ⟨fd, hb, hF⟩ := Fn w mg fa _ KX G.T.g hmg
  exact law_go KX G.T.g G.T.b G.T.builtins G.T.nolimit hg hobj hints (Nat.le_trans hlen hn2) hr hF hb fun μ h0 => hm ns μ hlen h0
end DL

namespace DL
open PySem PySem.Spec PyProof.Rows L2

/-! ### t[::-1] of a tuple -/
section
variable {prog : Program} {w : World} {A : Around} {E : Value → Shared → Prop} {s : Shared}
end
def revTD (x : D) : W D := match x with
  | .tup ds => W.ret (.tup ds.reverse)
  | x => revD x
/-! ### for over a list or a tuple -/
def iSeqH (K : PySem.W.Frag) (tl : TE) : TI := fun σ H R => tl σ H fun x H1 => ∃ a, x = .ref a ∧ (((∃ xs, SqL K H1 a xs) ∧ R (Itl K a) H1) ∨ ((∃ xs, SqT K H1 a xs) ∧ R (Itt K a) H1))
theorem pi_seq {X : Cx} {tg l : Expr} {tl : TE} (hl : PE X l tl) : PI X tg l (iSeqH X.K tl) := by
  refine ⟨fun pins s σ H R I h => ?_⟩
  refine thn (hl.run pins s σ H _ I h) fun v s1 ⟨x, H1, I1, r1, q1⟩ => ?_
  obtain ⟨a, rfl, q1⟩ := q1
  cases r1
  have fp1 : ∀ b ∈ [s1.heap.objs.size], FpOk X pins H1 b := fun b hb => by
    cases List.mem_singleton.mp hb
    exact I1.fpOk (Nat.le_refl _) (I1.hok.fresh (Nat.le_refl _))
  rcases q1 with ⟨⟨xs, hq⟩, q⟩ | ⟨⟨xs, hq⟩, q⟩
  · obtain ⟨its, rv, p, hz⟩ := I1.list hq
    exact wpAny_pyIter_list p.isList ⟨_, [s1.heap.objs.size], _, Itl X.K a, H1, rfl, I1.kept (t' := s1.toks) fun b o e => Heap.get?_push_of_some _ e, turn_list a _, ⟨_, Heap.get?_push_size _ rfl, rfl, rfl⟩, fp1, q⟩
  · obtain ⟨its, rv, p, hz⟩ := I1.tuple hq
    exact wpAny_pyIter_tuple (show s1.heap.IsTuple a its.toArray from p) ⟨_, [s1.heap.objs.size], _, Itt X.K a, H1, rfl, I1.kept (t' := s1.toks) fun b o e => Heap.get?_push_of_some _ e, turn_tuple a _, ⟨_, Heap.get?_push_size _ rfl, rfl, rfl⟩, fp1, q⟩
def iSeq (m : Rho → W D) (ρ : Rho) : W ItD := W.bnd (m ρ) fun d => match d with
  | .lst ds => W.ret ⟨ds, fun _ => True⟩
  | .tup ds => W.ret ⟨ds, fun _ => True⟩
  | .obj a => W.bnd W.get fun μ => W.bnd (W.opt (lsOf (.obj a) μ)) fun ds => W.ret ⟨ds, fun μ' => μ' a = some (.ml ds)⟩
  | _ => W.bad
theorem itIs_obj {K : PySem.W.Frag} {F : Hp} {a : Addr} {ds : List D} : ItIs K F (Itl K a) ⟨ds, fun μ' => μ' a = some (.ml ds)⟩ := by
  refine ⟨fun i F2 H2 μ2 s2 r2 hc hi => ?_, fun i F2 H2 μ2 x H3 s2 r2 hc hb y => ?_, fun F2 H2 μ2 s2 r2 hc => ?_⟩
  · obtain ⟨_, us, h3, h4⟩ := r2.mem a _ hc
    have hl := h4.length
    have hi' : i < ds.length := hi
    exact ⟨us, us[i]'(by omega), .inl (.inl h3), List.getElem?_eq_getElem (by omega)⟩
  · obtain ⟨_, us, h3, h4⟩ := r2.mem a _ hc
    obtain ⟨e, y⟩ := y
    subst e
    obtain ⟨d, h5, h6⟩ := h4.getV (y us (.inl (.inl h3)))
    exact ⟨F2, d, Same.refl _, r2, h5, h6⟩
  · obtain ⟨_, us, h3, h4⟩ := r2.mem a _ hc
    exact ⟨us, .inl (.inl h3), by rw [h4.length]; exact Nat.le_refl _⟩
theorem di_seq {X : Cx} {Eh : Option EX} {tg e : Expr} {m : Rho → W D} (h : DE X Eh e m) : DI X Eh tg e (iSeq m) := by
  refine PI.imp (pi_seq h) fun σ H R h => ?_
  obtain ⟨F, ρ, μ, Q, ED, env, rep, lnk, hm, bk⟩ := h
  refine ⟨F, ρ, μ, _, ED, env, rep, lnk, hm, fun v1 H1 d1 F1 μ1 s1 r1 i1 q1 => ?_⟩
  cases i1 with
  | lst hs hl => exact ⟨_, rfl, .inl ⟨⟨_, sql_up r1.sub hs⟩, bk _ _ F1 μ1 _ s1 r1 (itIs_list (fun F2 H2 μ2 s2 r2 _ => sql_up r2.sub (sql_up s2 hs)) hl) q1⟩⟩
  | tup hs hl => exact ⟨_, rfl, .inr ⟨⟨_, sqt_up r1.sub hs⟩, bk _ _ F1 μ1 _ s1 r1 (itIs_tup hs hl) q1⟩⟩
  | obj a =>
    obtain ⟨ds, e1, q⟩ := opt_of q1
    obtain ⟨b, vs, eb, h1, h2⟩ := ls_of r1 (.obj a) e1
    cases eb
    exact ⟨_, rfl, .inl ⟨⟨_, h1⟩, bk _ _ F1 μ1 _ s1 r1 itIs_obj q⟩⟩
  | _ => exact q1.elim

/-! ### the built-ins' names -/
theorem bt_len : bootBuiltins "len" = some (.builtin "len") := by decide +kernel
theorem bt_sum : bootBuiltins "sum" = some (.builtin "sum") := by decide +kernel
theorem bt_repr : bootBuiltins "repr" = some (.builtin "repr") := by decide +kernel
theorem bt_isinstance : bootBuiltins "isinstance" = some (.builtin "isinstance") := by decide +kernel
theorem bt_list : bootBuiltins "list" = some (.type "list") := by decide +kernel
theorem bt_tuple : bootBuiltins "tuple" = some (.type "tuple") := by decide +kernel
theorem bt_int : bootBuiltins "int" = some (.type "int") := by decide +kernel
theorem bt_dict : bootBuiltins "dict" = some (.type "dict") := by decide +kernel
end DL

/-! DLi: a list times a number, isinstance -/
namespace DL
open PySem PySem.Spec PyProof.Rows L2

theorem IsL.rep {K : PySem.W.Frag} {F : Hp} {vs : List V} {ds : List D} (h : IsL K F vs ds) : ∀ k : Nat, IsL K F (List.replicate k vs).flatten (List.replicate k ds).flatten
  | 0 => .nil
  | k + 1 => by
    rw [List.replicate_succ, List.replicate_succ, List.flatten_cons, List.flatten_cons]
    exact h.app (h.rep k)
def rRepR (K : PySem.W.Frag) : R2 := fun x y H Q => ∃ l k xs, x = .ref l ∧ y = .int k ∧ SqL K H l xs ∧ -(2 ^ 62) ≤ k ∧ k < 2 ^ 62 ∧ xs.length * k.toNat ≤ sizeLine ∧ ∀ p, H p = none → Q (.ref p) (upd H p (.lst (List.replicate k.toNat xs).flatten))
theorem op_repR {X : Cx} : OpR X (binaryOp .Mult) (rRepR X.K) := by
  intro pins s σ H x y v u Q I rx ry h
  obtain ⟨l, k, xs, rfl, rfl, hs, h1, h2, hz, q⟩ := h
  obtain rfl : v = Value.ref l := rx
  obtain ⟨t, rfl⟩ : ∃ t, u = Value.int k t := ry
  obtain ⟨its, rv, ⟨⟨cls, dd, data, sl⟩, n, ho, hc, hdn, hd⟩, hlen⟩ := I.list hs
  have hc1 : cls = Value.type "list" := hc
  have hd1 : data = Data.seq its.toArray n := hd
  subst hc1 hd1
  have hl := rv.length
  have hz' : its.length * k.toNat ≤ 2 ^ 24 := by rw [← hl]; exact hz
  have hz2 : its.toArray.size * k.toNat ≤ 2 ^ 24 := by rw [List.size_toArray]; exact hz'
  refine wpAny_binaryOp_repeat_ref (T := "list") (U := "int") (by decide) ⟨_, ho, rfl⟩ (fun s' => typeIs_int s' k t) noFill_list_mul F.fills_int_mul F.slot_int_rmul repeat_list F.slot_int_index.lookup
    (call_meets F.slot_int_rmul (typeIs_int s k t) F.entry_int_rmul (F.args_int_rmul_2 _ _) (lm_int_rmul_list_any k t l its.toArray n dd sl)
      ⟨ho, rfl, ⟨_, ho, rfl⟩, call_meets F.slot_list_mul ⟨_, ho, rfl⟩ F.entry_list_mul (F.args_list_mul_2 _ _)
        (lm_list_mul_any l its.toArray n dd sl k t (by simp [Builtin.List.listFitsIndex]; omega) (by omega) (by simp [Builtin.List.listTooLong, sizeLine]; omega))
        ⟨ho, ?_⟩⟩)
  have e : List.foldl (fun x1 x2 => x1 ++ x2) #[] (List.replicate (if its.toArray.isEmpty = true then 0 else k.toNat) its.toArray) = (List.replicate k.toNat its).flatten.toArray := by
    rw [listMul_foldl_if]
  rw [e]
  exact ⟨.ref s.heap.objs.size, _, I.lnew (t' := s.toks) (rv.rep k.toNat) (by rw [lm_len_rep_flat, Nat.mul_comm]; exact hz), rfl, q _ I.fresh⟩
/-- a text so many times -/
def strRep (s : Str) (k : Int) : Str := ⟨(List.replicate k.toNat s.cps.toList).flatten.toArray⟩
theorem foldl_arr : ∀ (m : Nat) (a b : Array Nat), ((List.replicate m a).foldl (· ++ ·) b).toList = b.toList ++ (List.replicate m a.toList).flatten
  | 0, a, b => by simp
  | m + 1, a, b => by
    rw [List.replicate_succ, List.foldl_cons, foldl_arr m a (b ++ a), List.replicate_succ, List.flatten_cons, Array.toList_append, List.append_assoc]
theorem strRep_mul (s : Str) (k : Int) : Txt.mul s k = strRep s k := by
  obtain ⟨⟨l⟩⟩ := s
  unfold Txt.mul strRep
  split
  · rename_i h
    have : k.toNat = 0 := by omega
    rw [this]
    rfl
  · split
    · rename_i h1 h2
      rw [Bool.or_eq_true] at h2
      rcases h2 with h2 | h2
      · rw [eq_of_beq h2]
        simp
      · have : l = [] := by
          have := eq_of_beq h2
          exact List.eq_nil_of_length_eq_zero (by simpa [Str.length] using this)
        subst this
        have e : (List.replicate k.toNat ([] : List Nat)).flatten = [] := by simp
        simp only [e]
    · congr 1
      apply Array.ext'
      rw [foldl_arr]
      simp
def rRepS : R2 := fun x y H Q => ∃ (s : Str) (k : Int), x = .str s ∧ y = .int k ∧ (-(2 ^ 62) ≤ k ∧ k < 2 ^ 31 ∧ s.length * k.toNat ≤ 1000000 ∧ s.length ≤ 1000000) ∧ Q (.str (strRep s k)) H
theorem op_repS {X : Cx} : OpR X (binaryOp .Mult) rRepS := by
  intro pins s σ H x y v u Q I rx ry h
  obtain ⟨a, k, rfl, rfl, ⟨h1, h2, h3, h4⟩, q⟩ := h
  obtain ⟨t, rfl⟩ := rx
  obtain ⟨t', rfl⟩ := ry
  refine SB.mul ⟨?_, fun hk _ => ?_, fun hk _ => ?_⟩ fun t' k' => ⟨.str (strRep a k), H, I.tok _, by rw [strRep_mul]; exact ⟨_, rfl⟩, q⟩
  · rw [Bool.or_eq_false_iff]
    exact ⟨decide_eq_false (by omega), decide_eq_false (by omega)⟩
  · have hd : (4294967296 : Int) ≤ (2 ^ 63 - 1) / k := by
      rw [Int.le_ediv_iff_mul_le (by omega)]
      have : 4294967296 * k ≤ 4294967296 * 2147483647 := Int.mul_le_mul_of_nonneg_left (by omega) (by decide)
      omega
    omega
  · unfold Builtin.Str.tooLong
    simp only [decide_eq_false_iff_not]
    have : sizeLine = 16777216 := by first | rfl | decide
    omega
def mulAD : D → D → W D
  | .int i, .int j => W.req (CMul i j) (W.ret (.int (i * j)))
  | .str s, .int k => W.req (-(2 ^ 62) ≤ k ∧ k < 2 ^ 31 ∧ s.length * k.toNat ≤ 1000000 ∧ s.length ≤ 1000000) (W.ret (.str (strRep s k)))
  | .lst xs, .int k => W.req (-(2 ^ 62) ≤ k ∧ k < 2 ^ 62 ∧ xs.length * k.toNat ≤ sizeLine) (W.ret (.lst (List.replicate k.toNat xs).flatten))
  | _, _ => W.bad
def rMulA (K : PySem.W.Frag) : R2 := fun x y H Q => (rI CMul fun i j => .int (i * j)) x y H Q ∨ (rRepS x y H Q ∨ rRepR K x y H Q)
theorem op_mulA {X : Cx} : OpR X (binaryOp .Mult) (rMulA X.K) := op_mul.or (op_repS.or op_repR)
theorem opd_mulA {K : PySem.W.Frag} : OpD K (rMulA K) mulAD := by
  intro F H μ x y dx dy Q ED Qh r ix iy h bk
  unfold mulAD at h
  split at h
  · cases ix; cases iy
    exact .inl ⟨_, _, rfl, rfl, h.1, back_is bk r (.int _) h.2⟩
  · cases ix; cases iy
    exact .inr (.inl ⟨_, _, rfl, rfl, h.1, back_is bk r (.str _) h.2⟩)
  · cases iy
    obtain ⟨⟨h1, h2, h3⟩, q⟩ := h
    cases ix with
    | lst hs hl => exact .inr <| .inr ⟨_, _, _, rfl, rfl, sql_up r.sub hs, h1, h2, by rw [hl.length]; exact h3, fun p hn => back_lst bk r hn (hl.rep _) q⟩
  · exact h.elim

/-! ### isinstance(x, c), c a built-in class -/
def tyM (μ : Mem) : D → Option String
  | .non => some "NoneType"
  | .bl _ => some "bool"
  | .int _ => some "int"
  | .str _ => some "str"
  | .tup _ => some "tuple"
  | .lst _ => some "list"
  | .dct _ => some "dict"
  | .obj a => (match μ a with
    | some (.ml _) => some "list"
    | some (.md _) => some "dict"
    | some (.mi _ _) => none
    | some (.tb _) => none
    | some (.st _) => none
    | none => none)
  | .ty _ => none
  | .fnv _ _ _ _ _ _ => none
  | .exv _ _ _ _ => none
def isiD : List D → W D
  | [x, .ty n] => W.bnd W.get fun μ => W.bnd (W.opt (tyM μ x)) fun t => W.bnd (W.opt (kitB t n)) fun b => W.ret (.bl b)
  | _ => W.bad
end DL

/-! DLj: dicts with keys of numbers and texts; insert, pop at a place -/
namespace DL
open PySem PySem.Spec PyProof.Rows L2

def keyOf : D → Option Key
  | .int i => some (.inl i)
  | .str s => some (.inr s)
  | _ => none
theorem key_is {K : PySem.W.Frag} {F : Hp} {v : V} {d : D} {k : Key} (i : Is K F v d) (h : keyOf d = some k) : v = kV k := by
  cases i with
  | int j => cases h; rfl
  | str j => cases h; rfl
  | _ => cases h
def valD (kvs : List (Key × D)) (k : Key) : Option D := (kvs.find? fun kv => decide (kv.1 = k)).map (·.2)
def putD (kvs : List (Key × D)) (k : Key) (v : D) : List (Key × D) := if kvs.any (fun kv => decide (kv.1 = k)) then kvs.map fun kv => if kv.1 = k then (kv.1, v) else kv else kvs ++ [(k, v)]
/-- the pairs ks are the pairs kvs -/
inductive KvIs (K : PySem.W.Frag) (F : Hp) : List (Key × V) → List (Key × D) → Prop
  | nil : KvIs K F [] []
  | cons {k : Key} {v : V} {d : D} {ks : List (Key × V)} {ds : List (Key × D)} : Is K F v d → KvIs K F ks ds → KvIs K F ((k, v) :: ks) ((k, d) :: ds)
theorem kvIs_of {K : PySem.W.Frag} {F : Hp} : ∀ {ks : List (Key × V)} {ds : List (Key × D)}, ks.map (·.1) = ds.map (·.1) → IsL K F (ks.map (·.2)) (ds.map (·.2)) → KvIs K F ks ds
  | [], [], _, _ => .nil
  | [], _ :: _, h, _ => by cases h
  | _ :: _, [], h, _ => by cases h
  | (k, v) :: ks, (k', d) :: ds, h, hl => by
    rw [List.map_cons, List.map_cons] at h
    obtain ⟨h1, h2⟩ := List.cons.inj h
    cases h1
    rw [List.map_cons, List.map_cons] at hl
    cases hl with
    | cons i r => exact .cons i (kvIs_of h2 r)
theorem KvIs.back {K : PySem.W.Frag} {F : Hp} : ∀ {ks : List (Key × V)} {ds : List (Key × D)}, KvIs K F ks ds → ks.map (·.1) = ds.map (·.1) ∧ IsL K F (ks.map (·.2)) (ds.map (·.2))
  | _, _, .nil => ⟨rfl, .nil⟩
  | _, _, .cons i r => ⟨by rw [List.map_cons, List.map_cons, r.back.1], .cons i r.back.2⟩
theorem KvIs.up {K : PySem.W.Frag} {F F' : Hp} (e : Same F F') : ∀ {ks : List (Key × V)} {ds : List (Key × D)}, KvIs K F ks ds → KvIs K F' ks ds
  | _, _, .nil => .nil
  | _, _, .cons i r => .cons (i.up e) (r.up e)
theorem KvIs.length {K : PySem.W.Frag} {F : Hp} {ks : List (Key × V)} {ds : List (Key × D)} (h : KvIs K F ks ds) : ks.length = ds.length := by
  have := congrArg List.length h.back.1
  rwa [List.length_map, List.length_map] at this
theorem KvIs.val {K : PySem.W.Frag} {F : Hp} {k : Key} : ∀ {ks : List (Key × V)} {ds : List (Key × D)}, KvIs K F ks ds → (valD ds k = none ∧ valV ks k = none) ∨ ∃ v d, valD ds k = some d ∧ valV ks k = some v ∧ Is K F v d
  | _, _, .nil => .inl ⟨rfl, rfl⟩
  | _, _, .cons (k := j) (v := v) (d := d) (ks := ks) (ds := ds) i r => by
    by_cases e : j = k
    · refine .inr ⟨v, d, ?_, valV_pos e, i⟩
      simp [valD, List.find?_cons, e]
    · have h1 : valD ((j, d) :: ds) k = valD ds k := by simp [valD, List.find?_cons, e]
      have h2 : valV ((j, v) :: ks) k = valV ks k := valV_neg e
      rw [h1, h2]
      exact r.val
theorem KvIs.any {K : PySem.W.Frag} {F : Hp} {k : Key} : ∀ {ks : List (Key × V)} {ds : List (Key × D)}, KvIs K F ks ds → (ks.any fun kv => decide (kv.1 = k)) = (ds.any fun kv => decide (kv.1 = k))
  | _, _, .nil => rfl
  | _, _, .cons i r => by rw [List.any_cons, List.any_cons, r.any]
theorem KvIs.repl {K : PySem.W.Frag} {F : Hp} {k : Key} {v : V} {d : D} (iv : Is K F v d) : ∀ {ks : List (Key × V)} {ds : List (Key × D)}, KvIs K F ks ds → KvIs K F (ks.map fun kv => if kv.1 = k then (kv.1, v) else kv) (ds.map fun kv => if kv.1 = k then (kv.1, d) else kv)
  | _, _, .nil => .nil
  | _, _, .cons (k := j) i r => by
    rw [List.map_cons, List.map_cons]
    by_cases e : j = k
    · rw [if_pos e, if_pos e]; exact .cons iv (r.repl iv)
    · rw [if_neg e, if_neg e]; exact .cons i (r.repl iv)
theorem KvIs.snoc {K : PySem.W.Frag} {F : Hp} {k : Key} {v : V} {d : D} (iv : Is K F v d) : ∀ {ks : List (Key × V)} {ds : List (Key × D)}, KvIs K F ks ds → KvIs K F (ks ++ [(k, v)]) (ds ++ [(k, d)])
  | _, _, .nil => .cons iv .nil
  | _, _, .cons i r => .cons i (r.snoc iv)
theorem KvIs.put {K : PySem.W.Frag} {F : Hp} {k : Key} {v : V} {d : D} {ks : List (Key × V)} {ds : List (Key × D)} (h : KvIs K F ks ds) (iv : Is K F v d) : KvIs K F (putK ks k v) (putD ds k d) := by
  unfold putK putD
  rw [h.any]
  split
  · exact h.repl iv
  · exact h.snoc iv
def dOf (x : D) (μ : Mem) : Option (List (Key × D)) := match x with
  | .dct kvs => some kvs
  | .obj a => (match μ a with
    | some (.md kvs) => some kvs
    | _ => none)
  | _ => none
theorem d_of {K : PySem.W.Frag} {F H : Hp} {μ : Mem} {v : V} {d : D} {kvs : List (Key × D)} (r : Rep K F H μ) (i : Is K F v d) (h : dOf d μ = some kvs) : ∃ a ks, v = .ref a ∧ H a = some (.dK ks) ∧ KvIs K F ks kvs := by
  cases i with
  | dct e hk hl =>
    cases h
    exact ⟨_, _, rfl, r.sub _ _ e, kvIs_of hk hl⟩
  | obj a =>
    unfold dOf at h
    simp only at h
    split at h
    · rename_i es e
      cases h
      obtain ⟨_, ks, h1, h2, h3⟩ := r.mem a _ e
      exact ⟨a, ks, rfl, h1, kvIs_of h2 h3⟩
    · cases h
  | _ => cases h
/-- d[k] -/
def dgetD (x i : D) : W D := W.bnd W.get fun μ => W.bnd (W.opt (dOf x μ)) fun kvs => W.bnd (W.opt (keyOf i)) fun k => W.opt (valD kvs k)
theorem de_dget {X : Cx} {Eh : Option EX} {a b : Expr} {ma mb : Rho → W D} {pos : Pos} (hu : X.A.units + 1 < cLine) (ha : DE X Eh a ma) (hb : DE X Eh b mb) (hs : NoSl b) : DE X Eh (.Subscript a b pos) (eBin dgetD ma mb) := by
  refine PE.imp (pe_dget hu ha hb hs) fun σ H Qh h => ?_
  obtain ⟨F, ρ, μ, Q, ED, env, rep, lnk, hm, bk⟩ := h
  refine ⟨F, ρ, μ, _, ED, env, rep, lnk, hm, fun v1 H1 d1 F1 μ1 s1 r1 i1 q1 => ?_⟩
  refine ⟨F1, ρ, μ1, _, ED, env.up s1, r1, lnk.up s1, q1, fun v2 H2 d2 F2 μ2 s2 r2 i2 q2 => ?_⟩
  obtain ⟨kvs, e1, q2⟩ := opt_of q2
  obtain ⟨k, e2, q2⟩ := opt_of q2
  obtain ⟨d, e3, q2⟩ := opt_of q2
  obtain ⟨a, ks, rfl, h1, h2⟩ := d_of r2 (i1.up s2) e1
  cases key_is i2 e2
  rcases h2.val (k := k) with ⟨n, _⟩ | ⟨v, d', e4, e5, i5⟩
  · rw [n] at e3; cases e3
  · rw [e4] at e3; cases e3
    exact ⟨a, v, rfl, .inl ⟨ks, k, .inl h1, rfl, e5.symm⟩, bk v H2 _ F2 μ2 (s1.trans s2) r2 i5 q2⟩
/-- d[k] = v -/
def mdOf (x : D) (μ : Mem) : Option (Addr × List (Key × D)) := match x with
  | .obj a => (match μ a with
    | some (.md kvs) => some (a, kvs)
    | _ => none)
  | _ => none
def dsetD (o i v : D) : W Unit := W.bnd W.get fun μ => W.bnd (W.opt (mdOf o μ)) fun p => W.bnd (W.opt (keyOf i)) fun k => W.req (p.2.length < sizeLine) (fun μ Q _ => Q () (put μ p.1 (.md (putD p.2 k v))))
def gDix (mo mi : Rho → W D) (d : D) (ρ : Rho) : W Rho := W.bnd (mo ρ) fun o => W.bnd (mi ρ) fun i => W.bnd (dsetD o i d) fun _ => W.ret ρ
theorem dg_dix {X : Cx} {Eh : Option EX} {pos : Pos} {o i : Expr} {mo mi : Rho → W D} (hu : X.A.units + 1 < cLine) (ho : DE X Eh o mo) (hi : DE X Eh i mi)
    (ha : ∀ v, assign (.Subscript o i pos) X.env v = (do
      let ov ← holding [v] (eval o X.env)
      let iv ← holding [v, ov] (eval i X.env)
      standAt pos
      holding [v, ov, iv] (setItem ov iv v)
      release [v, ov, iv] [])) : DG X Eh (.Subscript o i pos) [] (gDix mo mi) := by
  refine PG.imp (pg_sub ho hi (set_dict hu) ha) fun v σ H Qh ⟨F, ρ, μ, d, Q, ED, env, rep, lnk, iv, hm, bk⟩ => ?_
  refine ⟨F, ρ, μ, _, ED, env, rep, lnk, hm, fun v1 H1 d1 F1 μ1 s1 r1 i1 q1 => ?_⟩
  refine ⟨F1, ρ, μ1, _, ED, env.up s1, r1, lnk.up s1, q1, fun v2 H2 d2 F2 μ2 s2 r2 i2 q2 => ?_⟩
  obtain ⟨⟨a, kvs⟩, e1, q3⟩ := opt_of q2
  obtain ⟨k, e2, q4⟩ := opt_of q3
  obtain ⟨hz, q5⟩ := q4
  have ek := key_is i2 e2
  subst ek
  cases d1 with
  | obj b =>
    have eb := is_obj i1
    subst eb
    unfold mdOf at e1
    simp only at e1
    split at e1
    · rename_i es e
      cases e1
      obtain ⟨fp, ks, h1, h2, h3⟩ := r2.mem _ _ e
      have kv := kvIs_of h2 h3
      have iv' := iv.up (s1.trans s2)
      refine ⟨_, _, rfl, .inl ⟨ks, k, h1, rfl, by rw [kv.length]; exact hz, rfl⟩, ?_⟩
      have nk := (kv.put (k := k) iv').back
      exact bk σ _ ρ F2 _ (s1.trans s2) (r2.write (mo' := .md (putD kvs k d)) e ⟨_, upd_same, nk.1, nk.2⟩) (env.up (s1.trans s2)) (Frm.refl [] σ) q5
    · cases e1
  | _ => cases e1

/-! ### displays -/
/-- the pairs of a display -/
def pNil (_ : Rho) : W (List (D × D)) := W.ret []
def pCons (mk mv : Rho → W D) (mr : Rho → W (List (D × D))) (ρ : Rho) : W (List (D × D)) := W.bnd (mk ρ) fun k => W.bnd (mv ρ) fun v => W.bnd (mr ρ) fun r => W.ret ((k, v) :: r)
inductive PpIs (K : PySem.W.Frag) (F : Hp) : List (V × V) → List (D × D) → Prop
  | nil : PpIs K F [] []
  | cons {x y : V} {dx dy : D} {vs : List (V × V)} {ds : List (D × D)} : Is K F x dx → Is K F y dy → PpIs K F vs ds → PpIs K F ((x, y) :: vs) ((dx, dy) :: ds)
theorem PpIs.up {K : PySem.W.Frag} {F F' : Hp} (e : Same F F') : ∀ {vs : List (V × V)} {ds : List (D × D)}, PpIs K F vs ds → PpIs K F' vs ds
  | _, _, .nil => .nil
  | _, _, .cons i j r => .cons (i.up e) (j.up e) (r.up e)
/-- the readings of the pairs, lifted -/
structure DPs (X : Cx) (Eh : Option EX) (pos : Pos) (keys : List (Option Expr)) (values : List Expr) (m : Rho → W (List (D × D))) : Prop where
  ex : ∃ trs, PPs X pos keys values trs ∧ ∀ σ H Qh F ρ μ Q ED, EnvR X.K F σ ρ → Rep X.K F H μ → Lnk X.K Eh F ED → m ρ μ Q ED → Back X.K F (PpIs X.K) Q Qh → tPairs trs σ H Qh
theorem dp_nil {X : Cx} {Eh : Option EX} {pos : Pos} : DPs X Eh pos [] [] pNil := ⟨[], pps_nil, fun σ H Qh F ρ μ Q ED env rep lnk hm bk => bk [] H [] F μ (Same.refl F) rep .nil hm⟩
theorem dp_cons {X : Cx} {Eh : Option EX} {pos : Pos} {k v : Expr} {ks : List (Option Expr)} {vs : List Expr} {mk mv : Rho → W D} {mr : Rho → W (List (D × D))} (hk : DE X Eh k mk) (hv : DE X Eh v mv) (hr : DPs X Eh pos ks vs mr) : DPs X Eh pos (some k :: ks) (v :: vs) (pCons mk mv mr) := by
  obtain ⟨trs, h1, h2⟩ := hr.ex
  refine ⟨_, pps_cons hk hv h1, fun σ H Qh F ρ μ Q ED env rep lnk hm bk => ?_⟩
  refine ⟨F, ρ, μ, _, ED, env, rep, lnk, hm, fun v1 H1 d1 F1 μ1 s1 r1 i1 q1 => ?_⟩
  refine ⟨F1, ρ, μ1, _, ED, env.up s1, r1, lnk.up s1, q1, fun v2 H2 d2 F2 μ2 s2 r2 i2 q2 => ?_⟩
  refine h2 σ H2 _ F2 ρ μ2 _ ED (env.up (s1.trans s2)) r2 (lnk.up (s1.trans s2)) q2 fun v3 H3 d3 F3 μ3 s3 r3 i3 q3 => ?_
  exact bk _ H3 _ F3 μ3 ((s1.trans s2).trans s3) r3 (.cons (i1.up (s2.trans s3)) (i2.up s3) i3) q3
def keysOf : List (D × D) → Option (List (Key × D))
  | [] => some []
  | (k, v) :: r => match keyOf k, keysOf r with
    | some k, some r => some ((k, v) :: r)
    | _, _ => none
def mergeD (kvs more : List (Key × D)) : List (Key × D) := more.foldl (fun acc kv => putD acc kv.1 kv.2) kvs
theorem keys_is {K : PySem.W.Frag} {F : Hp} : ∀ {vs : List (V × V)} {ds : List (D × D)} {kvs : List (Key × D)}, PpIs K F vs ds → keysOf ds = some kvs → ∃ ks : List (Key × V), vs = ks.map (fun kv => (kV kv.1, kv.2)) ∧ KvIs K F ks kvs
  | _, _, _, .nil, h => by cases h; exact ⟨[], rfl, .nil⟩
  | _, _, _, .cons i j r, h => by
    unfold keysOf at h
    split at h
    · rename_i k r' e1 e2
      cases h
      obtain ⟨ks, rfl, kv⟩ := keys_is r e2
      cases key_is i e1
      exact ⟨(k, _) :: ks, rfl, .cons j kv⟩
    · cases h
theorem KvIs.merge {K : PySem.W.Frag} {F : Hp} : ∀ {more : List (Key × V)} {md : List (Key × D)} {ks : List (Key × V)} {ds : List (Key × D)}, KvIs K F more md → KvIs K F ks ds → KvIs K F (mergeK ks more) (mergeD ds md)
  | _, _, _, _, .nil, h => h
  | _, _, _, _, .cons (k := j) i r, h => by
    have q := KvIs.merge r (h.put (k := j) i)
    exact q
/-- {k: v, ..}, to be changed: at any free place -/
def eDisM (mp : Rho → W (List (D × D))) (ρ : Rho) : W D := fun μ Q E => ∀ p, μ p = none → mp ρ (put μ p (.md [])) (fun ps μ' => μ' p = some (.md []) ∧ ∃ kvs, keysOf ps = some kvs ∧ kvs.length ≤ 15 ∧ Q (.obj p) (put μ' p (.md (mergeD [] kvs)))) E
theorem pd_free {K : PySem.W.Frag} {F H : Hp} {μ : Mem} {p : Addr} (r : Rep K F H μ) (h : H p = none) : μ p = none := by
  cases e : μ p with
  | none => rfl
  | some mo =>
    obtain ⟨_, m⟩ := r.mem p mo e
    exact absurd rfl (m.ne h)
section
variable {X : Cx} {Eh : Option EX} {pos : Pos} {keys : List (Option Expr)} {values : List Expr} {mp : Rho → W (List (D × D))}
theorem de_disM (h : DPs X Eh pos keys values mp) (hall : keys.all (·.isSome) = true) (hl : keys.length = values.length) (h0 : keys ≠ []) (h15 : keys.length ≤ 15) : DE X Eh (.Dict keys values pos) (eDisM mp) := by
  obtain ⟨trs, h1, h2⟩ := h.ex
  refine PE.imp (pe_disp h1 hall hl h0 h15) fun σ H Qh h => ?_
  obtain ⟨F, ρ, μ, Q, ED, env, rep, lnk, hm, bk⟩ := h
  intro p hn
  refine h2 σ _ _ F ρ _ _ ED env (rep.newM (mo := .md []) hn ⟨[], upd_same, rfl, .nil⟩) lnk (hm p (pd_free rep hn)) fun v1 H1 d1 F1 μ1 s1 r1 i1 q1 => ?_
  obtain ⟨em, kvs, ek, hz, q⟩ := q1
  obtain ⟨fp, ks0, g1, g2, g3⟩ := r1.mem p _ em
  have e0 : ks0 = [] := by
    cases ks0 with
    | nil => rfl
    | cons a r => cases g2
  subst e0
  obtain ⟨ks, rfl, kv⟩ := keys_is i1 ek
  refine ⟨g1, ks, rfl, by rw [kv.length]; exact hz, ?_⟩
  have nk := (KvIs.merge kv (KvIs.nil (K := X.K) (F := F1))).back
  exact bk _ _ _ F1 _ s1 (r1.write (mo' := .md (mergeD [] kvs)) em ⟨_, upd_same, nk.1, nk.2⟩) (.obj p) q
end
end DL

/-! DLk: in, not in; .get; insert, pop at a place -/
namespace DL
open PySem PySem.Spec PyProof.Rows L2

section
variable {X : Cx}
end
/-- x in y, y no text -/
def inC (f : Bool → Bool) (μ : Mem) (x y : D) : W D := match dOf y μ with
  | some kvs => W.bnd (W.opt (keyOf x)) fun k => W.ret (D.bl (f (valD kvs k).isSome))
  | none => W.bnd (W.opt (pyM μ x)) fun d => W.bnd (W.opt (pyM μ y)) fun p => match p with
    | .list ds => W.req (SeqAt.shaped d = true ∧ PyData.canLayAll0 ds = true) (W.ret (D.bl (f (ds.any fun z => PyData.eqv z d))))
    | .tuple ds => W.req (SeqAt.shaped d = true ∧ PyData.canLayAll0 ds = true) (W.ret (D.bl (f (ds.any fun z => PyData.eqv z d))))
    | _ => W.bad
/-- one sign in a text -/
def inS (f : Bool → Bool) (x : D) (z : Str) : W D := match x with
  | .str s => (match s.cps.toList with
    | [c] => W.ret (D.bl (f (decide (c ∈ z.cps.toList))))
    | _ => W.bad)
  | _ => W.bad
def inW (f : Bool → Bool) (x y : D) : W D := match y with
  | .str z => inS f x z
  | y => W.bnd W.get fun μ => inC f μ x y
/-! ### insert, pop at a place -/
def insertD (o : D) : List D → W D
  | [.int i, x] => W.bnd W.get fun μ => W.bnd (W.opt (mlOf o μ)) fun p => W.req (p.2.length < sizeLine ∧ 0 ≤ i ∧ i < 2 ^ 62) (W.setL p.1 (p.2.take i.toNat ++ [x] ++ p.2.drop i.toNat) (W.ret .non))
  | _ => W.bad
theorem md_insert {K : PySem.W.Frag} : MtD K (fun x vs H Q => ∃ (l : Addr) (xs : List V) (i : Int) (y : V), x = .ref l ∧ vs = [.int i, y] ∧ H l = some (.lst xs) ∧ xs.length < sizeLine ∧ 0 ≤ i ∧ i < 2 ^ 63 ∧ Q .non (upd H l (.lst (xs.take i.toNat ++ [y] ++ xs.drop i.toNat)))) insertD := by
  intro F H μ x dx xs ds Q ED Qh r ix il h bk
  unfold insertD at h
  split at h
  · obtain ⟨v, us, rfl, i, il'⟩ := isL_cons il
    obtain ⟨w, us', rfl, j, il''⟩ := isL_cons il'
    cases il''
    cases is_int i
    obtain ⟨⟨a, es⟩, e, ⟨hz, h0, h1⟩, q⟩ := opt_of h
    obtain ⟨rfl, e2, vs, h3, h4⟩ := ml_of r ix e
    refine ⟨a, vs, _, w, rfl, rfl, h3, by rw [h4.length]; exact hz, h0, by omega, ?_⟩
    exact bk _ _ _ F _ (Same.refl F) (r.write (mo' := .ml (es.take _ ++ [_] ++ es.drop _)) e2 ⟨_, upd_same, ((h4.take _).app (.cons j .nil)).app (h4.drop _)⟩) .non q
  · exact h.elim
def popAtD (o : D) : List D → W D
  | [.int i] => W.bnd W.get fun μ => W.bnd (W.opt (mlOf o μ)) fun p => W.req (-(2 ^ 62) ≤ i ∧ i < 2 ^ 62) (W.bnd (W.opt (seqIndex? i p.2.length)) fun k => W.bnd (W.opt p.2[k]?) fun y => W.setL p.1 (p.2.eraseIdx k) (W.ret y))
  | _ => W.bad
theorem md_popAt {K : PySem.W.Frag} : MtD K rPopAt popAtD := by
  intro F H μ x dx xs ds Q ED Qh r ix il h bk
  unfold popAtD at h
  split at h
  · obtain ⟨v, us, rfl, i, il'⟩ := isL_cons il
    cases il'
    cases is_int i
    obtain ⟨⟨a, es⟩, e, ⟨h0, h1⟩, h⟩ := opt_of h
    obtain ⟨k, ek, h⟩ := opt_of h
    obtain ⟨y, ey, q⟩ := opt_of h
    obtain ⟨rfl, e2, vs, h3, h4⟩ := ml_of r ix e
    obtain ⟨v, ev, iv⟩ := h4.get ey
    refine ⟨a, vs, _, k, v, rfl, rfl, h3, by omega, by omega, by rw [h4.length]; exact ek, ev, ?_⟩
    exact bk _ _ _ F _ (Same.refl F) (r.write (mo' := .ml (es.eraseIdx k)) e2 ⟨_, upd_same, h4.erase k⟩) iv q
  · exact h.elim
theorem hu1 {k : Nat} {A : Around} (r : Room k A) : A.units + 1 < cLine := by have := r.un; omega
end DL

/-! DLl: walks over texts, enumerate of lists -/
namespace DL
open PySem PySem.Spec PyProof.Rows L2 RZ

def signsD (x : Str) : List D := x.cps.toList.map fun c => .str ⟨#[c]⟩
def iStrD (m : Rho → W D) (ρ : Rho) : W ItD := W.bnd (m ρ) fun d => match d with
  | .str x => W.ret ⟨signsD x, fun _ => True⟩
  | _ => W.bad
/-! enumerate -/
/-! zip of two lists that stay, of two tuples -/
end DL

/-! DLm: constants of the module; dicts of the module; .get -/
namespace DL
open PySem PySem.Spec PyProof.Rows L2

/-- the value u of the module is d -/
def GV (K : PySem.W.Frag) (u : Value) (d : D) : Prop := ∃ v, RelV v u ∧ ∀ F, Is K F v d
mutual
/-- u, read off the module's objects, is d -/
def valOk (K : PySem.W.Frag) (u : Value) (d : D) : Bool := match d with
  | .non => (match u with
    | .none => true
    | _ => false)
  | .bl c => (match u with
    | .bool b => b == c
    | _ => false)
  | .int j => (match u with
    | .int i _ => decide (i = j)
    | _ => false)
  | .str t => (match u with
    | .str s _ => s == t
    | _ => false)
  | .tup ds => (match u with
    | .ref a => (match K.lookup a with
      | some ⟨.type "tuple", _, .seq its _, _⟩ => decide (its.size ≤ sizeLine) && valsOk K its.toList ds
      | _ => false)
    | _ => false)
  | .obj b => (match u with
    | .ref a => a == b
    | _ => false)
  | _ => false
termination_by structural d
def valsOk (K : PySem.W.Frag) (us : List Value) (ds : List D) : Bool := match ds with
  | [] => us.isEmpty
  | d :: r => (match us with
    | u :: t => valOk K u d && valsOk K t r
    | [] => false)
termination_by structural ds
end
def keyStr (v : Value) (k : Str) : Bool := match v with
  | .str x _ => x == k
  | _ => false
def entOk (K : PySem.W.Frag) : List DictEntry → List (Str × D) → Bool
  | [], [] => true
  | e :: r, (k, d) :: t => keyStr e.key k && (valOk K e.val d && entOk K r t)
  | _, _ => false
def kfind : List (Str × D) → Str → Option D
  | [], _ => none
  | (k, d) :: r, z => if (k == z) = true then some d else kfind r z
/-- u is a dict of the module, with these pairs -/
structure KD (K : PySem.W.Frag) (w : World) (u : Value) (kvs : List (Str × D)) : Prop where
  ex : ∃ a es n, u = .ref a ∧ K.lookup a = some ⟨.type "dict", none, .dict es n, #[]⟩ ∧ PySem.W.KeysLit w.params es.toList ∧ (a == sysModules) = false ∧ entOk K es.toList kvs = true
def kixD (kvs : List (Str × D)) (d : D) : W D := match d with
  | .str z => W.opt (kfind kvs z)
  | _ => W.bad
def kinD (f : Bool → Bool) (kvs : List (Str × D)) (d : D) : W D := match d with
  | .str z => W.ret (.bl (f (kfind kvs z).isSome))
  | _ => W.bad
def kgtD (kvs : List (Str × D)) (d : D) : W D := match d with
  | .str z => W.ret ((kfind kvs z).getD .non)
  | _ => W.bad
section
variable {X : Cx} {Eh : Option EX} {x : Str} {u : Value} {kvs : List (Str × D)} {e : Expr} {me : Rho → W D} {p pos apos cpos : Pos}
/-- .. as a test -/
def tOf (m : Rho → W D) (ρ : Rho) : W Bool := W.bnd (m ρ) fun d => match d with
  | .bl b => W.ret b
  | _ => W.bad
end

/-! ### d.get(k), d.get(k, x) -/
def dgetMD (o : D) : List D → W D
  | [k] => W.bnd W.get fun μ => W.bnd (W.opt (dOf o μ)) fun kvs => W.bnd (W.opt (keyOf k)) fun k => W.ret ((valD kvs k).getD .non)
  | [k, z] => W.bnd W.get fun μ => W.bnd (W.opt (dOf o μ)) fun kvs => W.bnd (W.opt (keyOf k)) fun k => W.ret ((valD kvs k).getD z)
  | _ => W.bad
/-! ### {} -/
def eDis0M (_ : Rho) : W D := fun μ Q E => ∀ p, μ p = none → Q (.obj p) (put μ p (.md []))
end DL

/-! DLn: all, any; a, *b = t; dict comprehensions -/
namespace DL
open PySem PySem.Spec PyProof.Rows L2

/-! ### all, any -/
def boolsOf : List D → Option (List Bool)
  | [] => some []
  | .bl b :: r => (boolsOf r).map (b :: ·)
  | _ => none
def allD : List D → W D
  | [x] => W.bnd W.get fun μ => W.bnd (W.opt (lsOf x μ)) fun ds => W.bnd (W.opt (boolsOf ds)) fun bs => W.ret (.bl (bs.all id))
  | _ => W.bad
def anyD : List D → W D
  | [x] => W.bnd W.get fun μ => W.bnd (W.opt (lsOf x μ)) fun ds => W.bnd (W.opt (boolsOf ds)) fun bs => W.ret (.bl (bs.any id))
  | _ => W.bad
/-! ### a, *b = t -/
section
variable {X : Cx} {Eh : Option EX} {pos : Pos}
/-- the rest is a list that stays -/
def gSt (i : Nat) (gs : List D → Rho → W Rho) (d : D) (ρ : Rho) : W Rho := match d with
  | .tup ds => W.req (i ≤ ds.length) (gs (ds.take i ++ [.lst (ds.drop i)]) ρ)
  | _ => W.bad
end

/-! ### {k: v for ..} -/
section
variable {X : Cx} {kx vx tg iter : Expr} {ifs : List Expr} {scope : Scope} {own : List (Str × Nat)} {pos : Pos} {mi : Rho → W ItD} {g : D → Rho → W Rho} {tt : Rho → W Bool} {tk tv : Rho → W D} {ts : List Nat}
end
end DL

/-! DLo: zip(a, b, strict=True) of two tuples of one length -/
namespace DL
open PySem PySem.Spec PyProof.Rows L2 RZ

section
variable {prog : Program} {w : World} {A : Around} {E : Value → Shared → Prop} {s : Shared}
end

section
variable {prog : Program} {w : World} {A : Around} {E : Value → Shared → Prop} {s : Shared}
end
end DL

namespace DL
open PySem PySem.Spec PyProof.Rows L2 RZ
section
variable {prog : Program} {w : World} {A : Around} {E : Value → Shared → Prop} {s : Shared}
end
section
variable {M : Model} {A : Around} {E : Value → Shared → Prop} {s : Shared} {env : Env}
end
/-! ### dict(pairs) -/
def pairsOf : List D → Option (List (Key × D))
  | [] => some []
  | .tup [k, v] :: r => (match keyOf k, pairsOf r with
    | some k, some r => some ((k, v) :: r)
    | _, _ => none)
  | _ => none
theorem pairs_isL {K : PySem.W.Frag} {F H : Hp} (sb : Same F H) : ∀ {ds : List D} {vs : List V} {kvs : List (Key × D)}, IsL K F vs ds → pairsOf ds = some kvs → ∃ (ps : List Addr) (ks : List (Key × V)), vs = ps.map V.ref ∧ Paired (fun p kv => SqT K H p [kV kv.1, kv.2]) ps ks ∧ KvIs K F ks kvs
  | [], _, kvs, .nil, h => by cases h; exact ⟨[], [], rfl, .nil, .nil⟩
  | d :: r, _, kvs, .cons i il, h => by
    unfold pairsOf at h
    split at h
    · rename_i e; cases e
    · rename_i k v r' e
      cases e
      split at h
      · rename_i k' r'' e1 e2
        cases h
        obtain ⟨ps, ks, rfl, hp, kv⟩ := pairs_isL sb il e2
        cases i with
        | tup hs hl =>
          obtain ⟨x, y, rfl, ix, iy⟩ := isL2 hl
          cases key_is ix e1
          exact ⟨_ :: ps, (k', y) :: ks, rfl, .cons (sqt_up sb hs) hp, .cons iy kv⟩
      · cases h
    · cases h
def dictD : List D → W D
  | [x] => W.bnd W.get fun μ => W.bnd (W.opt (lsOf x μ)) fun ds => W.bnd (W.opt (pairsOf ds)) fun kvs => W.ret (.dct (mergeD [] kvs))
  | _ => W.bad
theorem cd_dict {K : PySem.W.Frag} : CallD K (fun xs H Q => ∃ (a : Addr) (ps : List Addr) (kvs : List (Key × V)), xs = [.ref a] ∧ SqL K H a (ps.map V.ref) ∧ Paired (fun p kv => SqT K H p [kV kv.1, kv.2]) ps kvs ∧
    ∀ p, H p = none → Q (.ref p) (upd H p (.dK (mergeK [] kvs)))) dictD := by
  intro F H μ xs ds Q ED Qh r il h bk
  match ds, h, il with
  | [x], h, il =>
    obtain ⟨v, rfl, i⟩ := isL1 il
    obtain ⟨es, e1, h⟩ := opt_of h
    obtain ⟨kvs, e2, q⟩ := opt_of h
    obtain ⟨a, vs, rfl, h1, h2⟩ := ls_of r i e1
    obtain ⟨ps, ks, rfl, hp, kv⟩ := pairs_isL r.sub h2 e2
    refine ⟨a, ps, ks, rfl, h1, hp, fun p hn => ?_⟩
    have e := same_new (o := .dK (mergeK [] ks)) (r.nn hn)
    have nk := (KvIs.merge kv (KvIs.nil (K := K) (F := F))).back
    exact bk _ _ _ _ _ e (r.new hn) (.dct upd_same nk.1 (nk.2.up e)) q

/-! ### repr of a dict of plain scalars -/
def scV : V → Option PyData
  | .non => some .none
  | .bl b => some (.bool b)
  | .int i => some (.int i)
  | .str s => some (.str s)
  | _ => none
theorem scV_reads {h : Heap} {v : V} {u : Value} {p : PyData} (r : RelV v u) (e : scV v = some p) : Reads h u p [] := by
  cases v with
  | non => cases e; cases r; exact .none
  | bl b => cases e; cases r; exact .bool b
  | int i => cases e; obtain ⟨t, rfl⟩ := r; exact .int i t
  | str i => cases e; obtain ⟨t, rfl⟩ := r; exact .str i t
  | _ => cases e
theorem key_reads {h : Heap} {k : Key} {u : Value} (r : keyIs k u = true) : Reads h u (keyPy k) [] := by
  rcases keyIs_shape r with ⟨i, t, rfl, rfl⟩ | ⟨x, t, rfl, rfl⟩
  · exact .int i t
  · exact .str x t
def kvPy : List (Key × V) → Option (List (PyData × PyData))
  | [] => some []
  | (k, v) :: r => (match scV v, kvPy r with
    | some p, some ps => some ((keyPy k, p) :: ps)
    | _, _ => none)
def rReprD : List V → Hp → VK → Prop := fun xs H Q => ∃ a ks ps, xs = [.ref a] ∧ Rd H a (.dK ks) ∧ kvPy ks = some ps ∧ PyData.showableKv ps = true ∧ (PyData.dict ps).depth ≤ 60 ∧ (PyData.dict ps).shown.length ≤ sizeLine ∧ Q (.str (PyData.dict ps).shown) H
theorem kv_reads {P : Program} {w : World} {h : Heap} : ∀ {es : List DictEntry} {vs : List (Key × Value)} {ks : List (Key × V)} {ps : List (PyData × PyData)}, Pairs (mixKind P w) es vs → KV ks vs → kvPy ks = some ps → ReadsAll h (es.map (·.key)) (ps.map (·.1)) [] ∧ ReadsAll h (es.map (·.val)) (ps.map (·.2)) []
  | [], [], [], ps, _, _, e => by cases e; exact ⟨.nil, .nil⟩
  | e :: es, (k, u) :: vs, (k', v) :: ks, ps, hp, hk, e1 => by
    unfold kvPy at e1
    split at e1
    · rename_i p qs h1 h2
      cases e1
      cases hk with
      | cons r rr =>
        obtain ⟨rfl, r⟩ := r
        cases hp with
        | cons hp1 hp2 hp3 =>
          obtain ⟨a, b⟩ := kv_reads hp3 rr h2
          refine ⟨?_, ?_⟩
          · exact ReadsAll.cons (as := []) (bs := []) (key_reads hp1) a
          · refine ReadsAll.cons (as := []) (bs := []) ?_ b
            show Reads h e.val p []
            rw [hp2]
            exact scV_reads r h1
    · cases e1
  | [], _ :: _, _, _, hp, _, _ => by cases hp
  | _ :: _, [], _, _, hp, _, _ => by cases hp
  | [], [], _ :: _, _, _, hk, _ => by cases hk
  | _ :: _, _ :: _, [], _, _, hk, _ => by cases hk

theorem call_reprD {X : Cx} (hg : X.A.guards = some []) (hu : X.A.units + 64 < cLine) : CallR X (.builtin "repr") rReprD := by
  intro pins s σ H xs us Q I r h
  obtain ⟨a, ks, ps, rfl, e, ek, hs, hd, hz, q⟩ := h
  obtain ⟨u, rfl, ru⟩ := vals1 r
  cases ru
  obtain ⟨z, hsm, vs, rel, o, es, ep, ho, hex, hdat, hkeys, hpairs, hnd⟩ := dk_rd I.hok e
  obtain ⟨r1, r2⟩ := kv_reads (h := s.heap) hpairs rel ek
  have rd : Reads s.heap (.ref a) (.dict ps) (a :: [] ++ []) := Reads.dict ho hex.1 hdat r1 r2
  have ha : a ≠ sysModules := fun e => by
    rw [e] at hsm
    exact absurd hsm (by decide)
  exact repr_of_reads' rd hs (fun _ => by simpa using Ne.symm ha) hg (by omega) (fun _ _ e => e) (fun h' t tk hk => ⟨.str _, H, I.kept (t' := tk) hk, ⟨_, rfl⟩, q⟩) hz
theorem CallR.or {X : Cx} {f : Value} {r r' : List V → Hp → VK → Prop} (h : CallR X f r) (h' : CallR X f r') : CallR X f (fun xs H Q => r xs H Q ∨ r' xs H Q) := by
  intro pins s σ H xs us Q I rv q
  rcases q with q | q
  · exact h pins s σ H xs us Q I rv q
  · exact h' pins s σ H xs us Q I rv q
def scD : D → Option PyData
  | .non => some .none
  | .bl b => some (.bool b)
  | .int i => some (.int i)
  | .str s => some (.str s)
  | _ => none
def dkPy : List (Key × D) → Option (List (PyData × PyData))
  | [] => some []
  | (k, v) :: r => (match scD v, dkPy r with
    | some p, some ps => some ((keyPy k, p) :: ps)
    | _, _ => none)
theorem dkPy_is {K : PySem.W.Frag} {F : Hp} : ∀ {ks : List (Key × V)} {ds : List (Key × D)} {ps : List (PyData × PyData)}, KvIs K F ks ds → dkPy ds = some ps → kvPy ks = some ps
  | _, _, ps, .nil, h => h
  | _, _, ps, .cons (v := v) (d := d) i r, h => by
    unfold dkPy at h
    split at h
    · rename_i p qs h1 h2
      cases h
      have e : scV v = some p := by
        cases i <;> first | exact h1 | (cases h1; done)
      unfold kvPy
      rw [e, dkPy_is r h2]
    · cases h
def reprAD : List D → W D
  | [.dct kvs] => W.bnd (W.opt (dkPy kvs)) fun ps => W.req (PyData.showableKv ps = true ∧ (PyData.dict ps).depth ≤ 60 ∧ (PyData.dict ps).shown.length ≤ sizeLine) (W.ret (.str (PyData.dict ps).shown))
  | xs => reprD xs
theorem cd_reprA {K : PySem.W.Frag} : CallD K (fun xs H Q => rRepr K xs H Q ∨ rReprD xs H Q) reprAD := by
  intro F H μ xs ds Q ED Qh r il h bk
  unfold reprAD at h
  split at h
  · rename_i kvs
    obtain ⟨v, rfl, i⟩ := isL1 il
    obtain ⟨ps, e, ⟨h1, h2, h3⟩, q⟩ := opt_of h
    cases i with
    | dct hs hk hl => exact .inr ⟨_, _, ps, rfl, .inl (r.sub _ _ hs), dkPy_is (kvIs_of hk hl) e, h1, h2, h3, back_is bk r (.str _) q⟩
  · exact .inl (cd_repr F H μ xs ds Q ED Qh r il h bk)
end DL

/-! DLs: enumerate of texts, of tuples -/
namespace DL
open PySem PySem.Spec PyProof.Rows L2 RZ

/-! ### a new list x + y, to be changed -/
def addMD (x y : D) : W D := W.bnd W.get fun μ => W.bnd (W.opt (lsOf x μ)) fun a => W.bnd (W.opt (lsOf y μ)) fun b => W.req (a.length + b.length ≤ sizeLine) (fun μ Q _ => ∀ p, μ p = none → Q (.obj p) (put μ p (.ml (a ++ b))))
end DL

namespace DL
open PySem PySem.Spec PyProof.Rows L2

end DL
namespace DL
open PySem PySem.Spec PyProof.Rows L2
theorem look_relabel {b : Str → NameKind → Bool} (hb : ∀ n k, b n k = true → k = .free) : ∀ {names : List (Str × NameKind)} {x : Str}, names.lookup x = some .free →
    (names.map fun (n, k) => if b n k = true then (n, NameKind.cell) else (n, k)).lookup x = some .cell ∨ (names.map fun (n, k) => if b n k = true then (n, NameKind.cell) else (n, k)).lookup x = some .free
  | [], _, h => by cases h
  | (n, k) :: r, x, h => by
    rw [List.lookup_cons] at h
    rw [List.map_cons]
    by_cases e : (x == n) = true
    · rw [e] at h
      simp only at h
      cases h
      simp only
      by_cases q : b n .free = true
      · rw [if_pos q, List.lookup_cons, e]; exact .inl rfl
      · rw [if_neg q, List.lookup_cons, e]; exact .inr rfl
    · have e' : (x == n) = false := Bool.eq_false_iff.mpr e
      rw [e'] at h
      simp only
      by_cases q : b n k = true
      · rw [if_pos q, List.lookup_cons, e']; exact look_relabel hb h
      · rw [if_neg q, List.lookup_cons, e']; exact look_relabel hb h
theorem vis_relabel {scope : Scope} {env : Env} {x : Str} (h : scope.names.lookup x = some .local ∨ scope.names.lookup x = some .free) : Vis (relabel scope env) x := by
  rcases h with h | h
  · exact .inl (lookup_relabel_local h)
  · exact .inr (look_relabel (b := fun n k => k == .free && env.scope.kind == .function && env.kindOf n == some .cell) (fun n k e => by
      cases k <;> first | rfl | (exfalso; revert e; simp; done) | (exfalso; cases e)) h)
/-- a name in a comprehension -/
theorem de_varB {X : Cx} {Eh : Option EX} {s : Shared} {H : Hp} {scope : Scope} {cl : List (Str × Addr)} {C : Addr} {fp : List Addr} {i : Nat} {x : Str} {pos : Pos} (hN : X.N[i]? = some x) (hv : scope.names.lookup x = some .local ∨ scope.names.lookup x = some .free) (hd : (x == ("__debug__" : Str)) = false) (hcd : (x == ("__classdict__" : Str)) = false) :
    DE (X.blk s H scope (compEnvC scope cl C X.env) fp) Eh (.Name x pos) (eVar i) := de_var (X := X.blk s H scope (compEnvC scope cl C X.env) fp) hN (vis_relabel hv) hd hcd
end DL

namespace DL
open PySem PySem.Spec PyProof.Rows L2

/-! ### xs.index(n), xs of whole numbers -/
def indexD (o : D) : List D → W D
  | [.int k] => W.bnd W.get fun μ => W.bnd (W.opt (lsOf o μ)) fun ds => W.bnd (W.opt (intsOf ds)) fun ns => W.req (k ∈ ns) (W.ret (.int (ns.idxOf k : Nat)))
  | _ => W.bad
theorem x_idx {ns : List Int} {k : Int} {μ : Mem} {Q : D → Mem → Prop} {E : XD} : indexD (.lst (ns.map .int)) [.int k] μ Q E = (k ∈ ns ∧ Q (.int (ns.idxOf k : Nat)) μ) := by
  show W.bnd (W.opt (intsOf (ns.map D.int))) _ μ Q E = _
  have : ∀ ns : List Int, intsOf (ns.map D.int) = some ns := fun ns => by
    induction ns with
    | nil => rfl
    | cons n r ih =>
      show (intsOf (r.map D.int)).map (n :: ·) = _
      rw [ih]
      rfl
  rw [this]
  rfl
end DL

namespace DL
open PySem PySem.Spec PyProof.Rows L2 PpSet

/-! ### {te for g in wi if tt}, te a whole number or a text -/
section
variable {X : Cx}
end

/-! ### the same over D: the set is an own object while it grows -/
section
variable {X : Cx} {elt tg iter : Expr} {ifs : List Expr} {scope : Scope} {own : List (Str × Nat)} {pos cpos p : Pos} {x : Str} {mi : Rho → W ItD} {g : D → Rho → W Rho} {tt : Rho → W Bool} {te : Rho → W D} {ts : List Nat}
end
/-! ### comprehensions within comprehensions -/
/-! ### list(range(a, b)), a list that will change -/
end DL

/-! DLr: plain data, its repr's length -/
namespace DL
open PySem PySem.Spec PyProof.Rows L2

mutual
/-- plain data: numbers that can be shown, texts of signs, lists and tuples of them -/
def gd : D → Bool
  | .non => true
  | .bl _ => true
  | .int i => decide (i.natAbs.log2 < 1920)
  | .str s => PyData.canLay0 (.str s)
  | .tup ds => gdL ds
  | .lst ds => gdL ds
  | _ => false
def gdL : List D → Bool
  | [] => true
  | d :: r => gd d && gdL r
end
mutual
def toPy : D → PyData
  | .non => .none
  | .bl b => .bool b
  | .int i => .int i
  | .str s => .str s
  | .tup ds => .tuple (toPyL ds)
  | .lst ds => .list (toPyL ds)
  | _ => .none
def toPyL : List D → List PyData
  | [] => []
  | d :: r => toPy d :: toPyL r
end
mutual
def dpt : D → Nat
  | .tup ds => dptL ds + 1
  | .lst ds => dptL ds + 1
  | _ => 0
def dptL : List D → Nat
  | [] => 0
  | d :: r => max (dpt d) (dptL r)
end
mutual
def dsz : D → Nat
  | .non => 4
  | .bl _ => 5
  | .int _ => 1921
  | .str s => 10 * s.length + 2
  | .tup ds => dszL ds + 3
  | .lst ds => dszL ds + 3
  | _ => 0
def dszL : List D → Nat
  | [] => 0
  | d :: r => dsz d + 2 + dszL r
end
theorem textFrom_le : ∀ (ts : List Str) (k : Nat) (acc : Str), (textFrom k acc ts).length ≤ acc.length + piled ts
  | [], k, acc => by show acc.length ≤ _; exact Nat.le_add_right _ _
  | t :: r, k, acc => by
    have ih := textFrom_le r (k + 1) (acc ++ (if k > 0 then ", " else "" : String) ++ t)
    have e : (acc ++ (if k > 0 then ", " else "" : String) ++ t).length = acc.length + (if k > 0 then 2 else 0) + t.length := by
      rw [strLen_append, strLen_append]
      split <;> rfl
    rw [e] at ih
    show (textFrom (k + 1) _ r).length ≤ _
    rw [piled_cons]
    have : (if k > 0 then 2 else 0 : Nat) ≤ 2 := by split <;> omega
    omega
theorem listText_le (ts : List Str) : (listText ts).length ≤ piled ts + 2 := by
  unfold listText
  rw [strLen_append]
  have := textFrom_le ts 0 "["
  have e1 : (("[" : String) : Str).length = 1 := rfl
  have e2 : (("]" : String) : Str).length = 1 := rfl
  omega
theorem tupleText_le (ts : List Str) : (tupleText ts).length ≤ piled ts + 3 := by
  unfold tupleText
  rw [strLen_append, strLen_append]
  have e1 : ((("(" : String) : Str)).length = 1 := rfl
  have e3 : (((if ts.length == 1 then ",)" else ")" : String) : Str)).length ≤ 2 := by split <;> decide
  by_cases h : ts = []
  · subst h
    have : (Str.join ", " ([] : List Str)).length = 0 := rfl
    omega
  · have := join_length_add ts h
    omega
theorem strOk_lt {x : Str} (h : PyData.canLay0 (.str x) = true) : ∀ c ∈ x.cps.toList, c < 16 ^ 8 := by
  intro c hc
  have h1 : PyData.strOk x = true := h
  unfold PyData.strOk at h1
  rw [Array.all_eq_true_iff_forall_mem] at h1
  have h2 := of_decide_eq_true (h1 c (Array.mem_toList_iff.mp hc))
  omega
mutual
theorem gd_ok : ∀ {d : D}, gd d = true → py d = some (toPy d) ∧ (toPy d).canLay0 = true ∧ (toPy d).showable = true ∧ (toPy d).depth = dpt d ∧ (toPy d).shown.length ≤ dsz d
  | .non, _ => ⟨rfl, rfl, rfl, rfl, by decide⟩
  | .bl b, _ => ⟨rfl, rfl, rfl, rfl, by cases b <;> decide⟩
  | .int i, h => ⟨rfl, rfl, h, rfl, int_text_len_1921 (of_decide_eq_true h)⟩
  | .str s, h => ⟨rfl, h, rfl, rfl, StrLaws.reprText_len s (strOk_lt h)⟩
  | .tup ds, h => by
    obtain ⟨h1, h2, h3, h4, h5⟩ := gd_okL (ds := ds) h
    refine ⟨by unfold py; rw [h1]; rfl, h2, h3, by show PyData.depthAll _ + 1 = _; rw [h4]; rfl, ?_⟩
    have := tupleText_le (PyData.shownAll (toPyL ds))
    show (tupleText (PyData.shownAll (toPyL ds))).length ≤ dszL ds + 3
    omega
  | .lst ds, h => by
    obtain ⟨h1, h2, h3, h4, h5⟩ := gd_okL (ds := ds) h
    refine ⟨by unfold py; rw [h1]; rfl, h2, h3, by show PyData.depthAll _ + 1 = _; rw [h4]; rfl, ?_⟩
    have := listText_le (PyData.shownAll (toPyL ds))
    show (listText (PyData.shownAll (toPyL ds))).length ≤ dszL ds + 3
    omega
  | .dct _, h => by cases h
  | .obj _, h => by cases h
  | .ty _, h => by cases h
  | .fnv _ _ _ _ _ _, h => by cases h
  | .exv _ _ _ _, h => by cases h
theorem gd_okL : ∀ {ds : List D}, gdL ds = true → pyL ds = some (toPyL ds) ∧ PyData.canLayAll0 (toPyL ds) = true ∧ PyData.showableAll (toPyL ds) = true ∧ PyData.depthAll (toPyL ds) = dptL ds ∧ piled (PyData.shownAll (toPyL ds)) ≤ dszL ds
  | [], _ => ⟨rfl, rfl, rfl, rfl, Nat.le_refl _⟩
  | d :: r, h => by
    have h' : gd d = true ∧ gdL r = true := Bool.and_eq_true_iff.mp h
    obtain ⟨a1, a2, a3, a4, a5⟩ := gd_ok h'.1
    obtain ⟨b1, b2, b3, b4, b5⟩ := gd_okL h'.2
    refine ⟨by unfold pyL; rw [a1, b1]; rfl, Bool.and_eq_true_iff.mpr ⟨a2, b2⟩, Bool.and_eq_true_iff.mpr ⟨a3, b3⟩, by show max _ _ = max _ _; rw [a4, b4], ?_⟩
    show piled ((toPy d).shown :: PyData.shownAll (toPyL r)) ≤ dsz d + 2 + dszL r
    rw [piled_cons]
    omega
end
theorem gd_pyM {d : D} {μ : Mem} (h : gd d = true) : pyM μ d = some (toPy d) := by
  cases d with
  | obj a => cases h
  | _ => exact (gd_ok h).1
theorem repr_w {x : D} {μ : Mem} {Q : D → Mem → Prop} {E : XD} (hx : gd x = true) (dx : dpt x ≤ 60) (zx : dsz x ≤ 16777216) (q : Q (.str (toPy x).shown) μ) : reprD [x] μ Q E := by
  unfold reprD
  show W.bnd (W.opt (pyM μ x)) _ μ Q E
  rw [gd_pyM hx]
  obtain ⟨_, a, c, b, e⟩ := gd_ok hx
  exact ⟨⟨a, c, by omega, Nat.le_trans e zx⟩, q⟩
end DL

/-! DLp: tools for the plain laws over W -/
namespace DL
open PySem PySem.Spec PyProof.Rows L2

theorem del_put {μ : Mem} {p : Addr} {o : MO} (h : μ p = none) : del (put μ p o) p = μ := by
  funext b
  unfold del put
  by_cases e : b = p
  · rw [if_pos e, e, h]
  · rw [if_neg e, if_neg e]
theorem put_put {μ : Mem} {p : Addr} {o o' : MO} : put (put μ p o) p o' = put μ p o' := by
  funext b
  unfold put
  by_cases e : b = p
  · rw [if_pos e, if_pos e]
  · rw [if_neg e, if_neg e, if_neg e]
theorem put_none {μ : Mem} {a p : Addr} {o : MO} (h : put μ a o p = none) : p ≠ a ∧ μ p = none := by
  unfold put at h
  split at h
  · cases h
  · exact ⟨‹_›, h⟩
/-- a for statement, by an invariant -/
theorem for_w {chk : Mem → Prop} {g : D → Rho → W Rho} {body : Rho → W Out} {Q : Out → Mem → Prop} {E : XD} (I : Nat → Rho → Mem → Prop) (items : List D)
    (step : ∀ (i : Nat) (x : D) (ρ : Rho) (μ : Mem) (R : Out → Mem → Prop), items[i]? = some x → I i ρ μ → (∀ ρ' μ', I (i + 1) ρ' μ' → R (.nx ρ') μ') → (∀ d μ', Q (.rt d) μ' → R (.rt d) μ') →
      chk μ ∧ g x ρ μ (fun ρ1 μ1 => body ρ1 μ1 R E) E)
    (fin : ∀ ρ μ, I items.length ρ μ → chk μ ∧ Q (.nx ρ) μ) : ∀ (ρ : Rho) (μ : Mem), I 0 ρ μ → forW chk g body items ρ μ Q E := by
  have main : ∀ (n i : Nat) (ρ : Rho) (μ : Mem), i + n = items.length → I i ρ μ → forW chk g body (items.drop i) ρ μ Q E := by
    intro n
    induction n with
    | zero =>
      intro i ρ μ hi h
      have : i = items.length := by omega
      subst this
      rw [List.drop_length]
      exact fin ρ μ h
    | succ n ih =>
      intro i ρ μ hi h
      have hlt : i < items.length := by omega
      rw [List.drop_eq_getElem_cons hlt]
      refine step i items[i] ρ μ (fun o μ2 => (match o with
        | .nx ρ2 => forW chk g body (items.drop (i + 1)) ρ2
        | .ct ρ2 => forW chk g body (items.drop (i + 1)) ρ2
        | .bk ρ2 => W.ret (.nx ρ2)
        | .rt d => W.ret (.rt d)) μ2 Q E) (List.getElem?_eq_getElem hlt) h ?_ ?_
      · intro ρ' μ' h'
        exact ih (i + 1) ρ' μ' (by omega) h'
      · intro d μ' q
        exact q
  intro ρ μ h
  have := main items.length 0 ρ μ (by omega) h
  rwa [List.drop_zero] at this
/-- a comprehension that changes nothing else -/
theorem lc_w {chk : Mem → Prop} {g : D → Rho → W Rho} {tt : Rho → W Bool} {te : Rho → W D} {ρ : Rho} {μ : Mem} {p : Addr} {E : XD} (c : D → Bool) (f : D → D) (hp : μ p = none) (Q : D → Mem → Prop) :
    ∀ (items acc : List D), (hz : acc.length + items.length < sizeLine) → (hc : ∀ acc, chk (put μ p (.ml acc))) →
    (step : ∀ x ∈ items, ∀ (acc : List D) (R : Rho → Mem → Prop), (∀ ρ1, (∀ (R' : Bool → Mem → Prop), R' (c x) (put μ p (.ml acc)) → tt ρ1 (put μ p (.ml acc)) R' E) → (c x = true → ∀ (R' : D → Mem → Prop), R' (f x) (put μ p (.ml acc)) → te ρ1 (put μ p (.ml acc)) R' E) → R ρ1 (put μ p (.ml acc))) →
      g x ρ (put μ p (.ml acc)) R E) →
    (q : Q (.lst (acc ++ (items.filter c).map f)) μ) → lcW chk g tt te p ρ items (put μ p (.ml acc)) (fun _ μ' => ∃ ds, μ' p = some (.ml ds) ∧ Q (.lst ds) (del μ' p)) E
  | [], acc, hz, hc, step, q => by
    refine ⟨hc acc, acc, put_same, ?_⟩
    rw [del_put hp]
    simpa using q
  | x :: xs, acc, hz, hc, step, q => by
    refine ⟨hc acc, step x (List.mem_cons_self ..) acc _ fun ρ1 ht he => ht _ ?_⟩
    cases e : c x with
    | false =>
      rw [if_neg (by decide)]
      refine lc_w c f hp Q xs acc (by simp at hz; omega) hc (fun y hy => step y (List.mem_cons_of_mem _ hy)) ?_
      rw [List.filter_cons, e] at q
      exact q
    | true =>
      rw [if_pos rfl]
      refine he e _ ?_
      show W.bnd (W.push p (f x)) _ _ _ _
      unfold W.push
      show (match put μ p (.ml acc) p with
        | some (.ml acc) => W.req (acc.length < sizeLine) (W.setL p (acc ++ [f x]) (W.ret ()))
        | _ => W.bad) _ _ _
      rw [put_same]
      refine ⟨by simp at hz; omega, ?_⟩
      show lcW chk g tt te p ρ xs (put (put μ p (.ml acc)) p (.ml (acc ++ [f x]))) _ E
      rw [put_put]
      refine lc_w c f hp Q xs (acc ++ [f x]) (by simp at hz ⊢; omega) hc (fun y hy => step y (List.mem_cons_of_mem _ hy)) ?_
      rw [List.filter_cons, e, if_pos rfl, List.map_cons] at q
      rw [List.append_assoc]
      exact q
theorem cmul_l {i j : Int} (h : -18446744073709551616 < i) (h' : i < 18446744073709551616) : CMul i j := .inl ⟨by omega, by omega⟩
theorem cmul_r {i j : Int} (h : -18446744073709551616 < j) (h' : j < 18446744073709551616) : CMul i j := .inr ⟨by omega, by omega⟩
theorem log_lt {j : Int} {k : Nat} (hk : 0 < k) (h0 : j.natAbs < 2 ^ k) : j.natAbs.log2 < k := by
  by_cases h : j.natAbs = 0
  · rw [h]; simpa using hk
  · exact (Nat.log2_lt h).mpr h0
theorem cdiv_w {i j : Int} (h : 0 < j) (h' : j < 4611686018427387904) : CDivW i j := ⟨h, Nat.lt_trans (log_lt (k := 62) (by decide) (by omega)) (by decide)⟩
theorem cpow_w {i j : Int} (h : 0 ≤ j) (h' : j ≤ 1000) (hi : i.natAbs < 1000) : CPow i j := ⟨h, by omega, Nat.lt_trans hi (by decide)⟩

/-! ### the deck: [cells, seed, turns] -/
structure Deck (μ : Mem) (a c : Addr) (t : Int) : Prop where
  ne : c ≠ a
  at_ : ∃ seed turns : Int, μ a = some (.ml [.obj c, .int seed, .int turns]) ∧ 0 ≤ turns ∧ turns ≤ t
  cells : ∃ ns : List Int, μ c = some (.ml (ns.map .int)) ∧ ns.length ≤ 63
theorem Deck.mono {μ : Mem} {a c : Addr} {t t' : Int} (h : Deck μ a c t) (ht : t ≤ t') : Deck μ a c t' := by
  obtain ⟨n, ⟨s, u, h1, h2, h3⟩, k⟩ := h
  exact ⟨n, ⟨s, u, h1, h2, by omega⟩, k⟩
/-- all but the deck is as before -/
def Fr (a c : Addr) (μ μ' : Mem) : Prop := ∀ b mo, b ≠ a → b ≠ c → μ b = some mo → μ' b = some mo
theorem Fr.refl (a c : Addr) (μ : Mem) : Fr a c μ μ := fun _ _ _ _ h => h
theorem Fr.trans {a c : Addr} {μ μ' μ'' : Mem} (h : Fr a c μ μ') (k : Fr a c μ' μ'') : Fr a c μ μ'' := fun b mo h1 h2 h3 => k b mo h1 h2 (h b mo h1 h2 h3)
theorem Deck.new {μ : Mem} {a c p : Addr} {t : Int} {o : MO} (h : Deck μ a c t) (hp : μ p = none) : Deck (put μ p o) a c t := by
  obtain ⟨n, ⟨s, u, h1, h2, h3⟩, ns, h4, h5⟩ := h
  refine ⟨n, ⟨s, u, ?_, h2, h3⟩, ns, ?_, h5⟩
  · rw [put_ne (by intro e; subst e; rw [h1] at hp; cases hp)]; exact h1
  · rw [put_ne (by intro e; subst e; rw [h4] at hp; cases hp)]; exact h4
theorem Fr.new {a c p : Addr} {μ : Mem} {o : MO} (hp : μ p = none) : Fr a c μ (put μ p o) := fun b mo _ _ h => by
  rw [put_ne (by intro e; subst e; rw [hp] at h; cases h)]; exact h
/-- another object changes -/
theorem Deck.put {μ : Mem} {a c p : Addr} {t : Int} {o : MO} (h : Deck μ a c t) (h1 : p ≠ a) (h2 : p ≠ c) : Deck (put μ p o) a c t := by
  obtain ⟨n, ⟨s, u, k1, k2, k3⟩, ns, k4, k5⟩ := h
  refine ⟨n, ⟨s, u, ?_, k2, k3⟩, ns, ?_, k5⟩
  · rw [put_ne (Ne.symm h1)]; exact k1
  · rw [put_ne (Ne.symm h2)]; exact k4
theorem gd_ints : ∀ ns : List Int, pyL (ns.map D.int) = some (ns.map PyData.int) ∧ PyData.canLayAll0 (ns.map PyData.int) = true ∧ PyData.depthAll (ns.map PyData.int) = 0
  | [] => ⟨rfl, rfl, rfl⟩
  | n :: r => by
    obtain ⟨a, b, c⟩ := gd_ints r
    refine ⟨?_, ?_, ?_⟩
    · show pyL (.int n :: r.map D.int) = _
      unfold pyL; rw [a]; rfl
    · show (true && _) = true
      rw [b]; rfl
    · show max 0 _ = 0
      rw [c]; rfl
/-- a list of numbers against [] -/
theorem ne_nil_w {f : Bool → Bool} {c : Addr} {ns : List Int} {μ : Mem} {Q : D → Mem → Prop} {E : XD} (h : μ c = some (.ml (ns.map .int))) (q : Q (.bl (f (decide (ns = [])))) μ) : eqA f (.obj c) (.lst []) μ Q E := by
  refine eqA_of ?_
  unfold eqW
  show W.bnd (W.opt (pyM μ (.obj c))) _ μ Q E
  obtain ⟨h1, h2, h3⟩ := gd_ints ns
  have e : pyM μ (.obj c) = some (.list (ns.map .int)) := by
    unfold pyM
    simp only [h, h1]
    rfl
  rw [e]
  refine ⟨⟨?_, rfl⟩, ?_⟩
  · unfold SeqAt.shaped
    show (PyData.canLayAll0 _ && decide (PyData.depthAll _ + 1 ≤ 64)) = true
    rw [h2, h3]; rfl
  · have : PyData.eqv (.list (ns.map .int)) (toPy (.lst [])) = decide (ns = []) := by
      cases ns <;> rfl
    show Q (.bl (f (PyData.eqv (.list (ns.map .int)) (.list [])))) μ
    rw [show PyData.eqv (.list (ns.map .int)) (.list []) = decide (ns = []) from this]
    exact q
/-! ### one step of an operation, on what is known -/
def onL (o : Option MO) (f : List D → Prop) : Prop := match o with
  | some (.ml ds) => f ds
  | _ => False
theorem onL_ml (ds : List D) (f : List D → Prop) : onL (some (.ml ds)) f = f ds := (Eq.refl _).trans rfl
theorem addD_ol {p : Addr} {b : List D} {μ : Mem} {Q : D → Mem → Prop} {E : XD} : addD (.obj p) (.lst b) μ Q E = onL (μ p) fun a => (a.length + b.length ≤ sizeLine ∧ Q (.lst (a ++ b)) μ) := by
  show W.bnd (W.opt (lsOf (.obj p) μ)) _ μ Q E = _
  unfold lsOf onL
  dsimp only
  cases μ p with
  | none => rfl
  | some o => cases o <;> rfl
theorem isNon_non : DL.isNon .non = true := (Eq.refl _).trans rfl
theorem isNon_int (i : Int) : DL.isNon (.int i) = false := (Eq.refl _).trans rfl
theorem isNon_str (i : Str) : DL.isNon (.str i) = false := (Eq.refl _).trans rfl
theorem isNon_tup (i : List D) : DL.isNon (.tup i) = false := (Eq.refl _).trans rfl
theorem ix_tup (ds : List D) (k : Int) (μ : Mem) (Q : D → Mem → Prop) (E : XD) : ixD (.tup ds) (.int k) μ Q E = W.opt (atI ds k) μ Q E := propext ⟨fun h => h, fun h => h⟩
theorem ix_lst (ds : List D) (k : Int) (μ : Mem) (Q : D → Mem → Prop) (E : XD) : ixD (.lst ds) (.int k) μ Q E = W.opt (atI ds k) μ Q E := propext ⟨fun h => h, fun h => h⟩
theorem ix_str (s : Str) (k : Int) (μ : Mem) (Q : D → Mem → Prop) (E : XD) : ixD (.str s) (.int k) μ Q E = (s.length ≤ sizeLine ∧ W.opt (atI s.cps.toList k) μ (fun c μ' => Q (.str ⟨#[c]⟩) μ') E) := propext ⟨fun h => h, fun h => h⟩
theorem ix_obj {a : Addr} {k : Int} {μ : Mem} {Q : D → Mem → Prop} {E : XD} : ixD (.obj a) (.int k) μ Q E = onL (μ a) fun ds => W.opt (atI ds k) μ Q E := by
  show W.bnd (W.opt (sqOf (.obj a) μ)) _ μ Q E = _
  unfold sqOf lsOf onL
  dsimp only
  cases μ a with
  | none => rfl
  | some o => cases o <;> rfl
theorem atI_0 {α : Type} (x : α) (r : List α) : atI (x :: r) 0 = some x := by
  unfold atI ixN
  rw [if_pos (by decide), if_pos (by simp only [List.length_cons]; omega)]
  rfl
theorem atI_1 {α : Type} (x y : α) (r : List α) : atI (x :: y :: r) 1 = some y := by
  unfold atI ixN
  rw [if_pos (by decide), if_pos (by simp only [List.length_cons]; omega)]
  rfl
theorem atI_2 {α : Type} (x y z : α) (r : List α) : atI (x :: y :: z :: r) 2 = some z := by
  unfold atI ixN
  rw [if_pos (by decide), if_pos (by simp only [List.length_cons]; omega)]
  rfl
theorem atI_3 {α : Type} (x y z u : α) (r : List α) : atI (x :: y :: z :: u :: r) 3 = some u := by
  unfold atI ixN
  rw [if_pos (by decide), if_pos (by simp only [List.length_cons]; omega)]
  rfl
theorem atI_nat {α : Type} (xs : List α) (k : Int) (h : 0 ≤ k) (h' : k < xs.length) : ∃ x, atI xs k = some x ∧ xs[k.toNat]? = some x ∧ x ∈ xs := by
  unfold atI ixN
  rw [if_pos h, if_pos h']
  have hk : k.toNat < xs.length := by omega
  refine ⟨xs[k.toNat], ?_, List.getElem?_eq_getElem hk, List.getElem_mem hk⟩
  show xs[k.toNat]? = _
  exact List.getElem?_eq_getElem hk
theorem len_tup (ds : List D) (μ : Mem) (Q : D → Mem → Prop) (E : XD) : lenD [.tup ds] μ Q E = Q (.int ds.length) μ := propext ⟨fun h => h, fun h => h⟩
theorem len_lst (ds : List D) (μ : Mem) (Q : D → Mem → Prop) (E : XD) : lenD [.lst ds] μ Q E = Q (.int ds.length) μ := propext ⟨fun h => h, fun h => h⟩
theorem len_str (ds : Str) (μ : Mem) (Q : D → Mem → Prop) (E : XD) : lenD [.str ds] μ Q E = (ds.length ≤ sizeLine ∧ Q (.int ds.length) μ) := propext ⟨fun h => h, fun h => h⟩
theorem len_obj {a : Addr} {μ : Mem} {Q : D → Mem → Prop} {E : XD} : lenD [.obj a] μ Q E = onL (μ a) fun ds => Q (.int ds.length) μ := by
  show W.bnd (W.opt (sqOf (.obj a) μ)) _ μ Q E = _
  unfold sqOf lsOf onL
  dsimp only
  cases μ a with
  | none => rfl
  | some o => cases o <;> rfl
theorem ty_obj {a : Addr} {μ : Mem} : tyD "list" (.obj a) μ = onL (μ a) fun _ => True := by
  unfold tyD onL
  simp only
  cases μ a with
  | none => rfl
  | some o => cases o <;> simp
theorem ty_str {s : Str} {μ : Mem} : tyD "str" (.str s) μ = True := by
  unfold tyD
  exact eq_true rfl
theorem ty_lst {s : List D} {μ : Mem} : tyD "list" (.lst s) μ = True := by
  unfold tyD
  exact eq_true rfl
theorem append_obj {a : Addr} {x : D} {μ : Mem} {Q : D → Mem → Prop} {E : XD} : appendD (.obj a) [x] μ Q E = onL (μ a) fun ds => (ds.length < sizeLine ∧ Q .non (put μ a (.ml (ds ++ [x])))) := by
  show W.bnd (W.opt (mlOf (.obj a) μ)) _ μ Q E = _
  unfold mlOf onL
  dsimp only
  cases μ a with
  | none => rfl
  | some o => cases o <;> rfl
theorem pop_obj {a : Addr} {μ : Mem} {Q : D → Mem → Prop} {E : XD} : popD (.obj a) [] μ Q E = onL (μ a) fun ds => W.opt ds[ds.length - 1]? μ (fun y _ => Q y (put μ a (.ml ds.dropLast))) E := by
  show W.bnd (W.opt (mlOf (.obj a) μ)) _ μ Q E = _
  unfold mlOf onL
  dsimp only
  cases μ a with
  | none => rfl
  | some o =>
    cases o with
    | md _ => rfl
    | mi _ _ => rfl
    | tb _ => rfl
    | st _ => rfl
    | ml ds =>
      show W.bnd (W.opt ds[ds.length - 1]?) _ μ Q E = W.opt ds[ds.length - 1]? μ (fun y _ => Q y (put μ a (.ml ds.dropLast))) E
      cases ds[ds.length - 1]? <;> rfl
theorem set_obj {a : Addr} {k : Int} {x : D} {μ : Mem} {Q : Unit → Mem → Prop} {E : XD} : setD (.obj a) (.int k) x μ Q E = onL (μ a) fun ds => W.opt (ixN ds.length k) μ (fun j _ => Q () (put μ a (.ml (ds.set j x)))) E := by
  show W.bnd (W.opt (mlOf (.obj a) μ)) _ μ Q E = _
  unfold mlOf onL
  dsimp only
  cases μ a with
  | none => rfl
  | some o =>
    cases o with
    | md _ => rfl
    | mi _ _ => rfl
    | tb _ => rfl
    | st _ => rfl
    | ml ds =>
      show W.bnd (W.opt (ixN ds.length k)) _ μ Q E = W.opt (ixN ds.length k) μ (fun j _ => Q () (put μ a (.ml (ds.set j x)))) E
      cases ixN ds.length k <;> rfl
theorem ixN_3_2 : ixN 3 2 = some 2 := by decide
theorem tuple_obj {a : Addr} {μ : Mem} {Q : D → Mem → Prop} {E : XD} : tupleD [.obj a] μ Q E = onL (μ a) fun ds => Q (.tup ds) μ := by
  show W.bnd (W.opt (sqOf (.obj a) μ)) _ μ Q E = _
  unfold sqOf lsOf onL
  dsimp only
  cases μ a with
  | none => rfl
  | some o => cases o <;> rfl
theorem tuple_lst (ds : List D) (μ : Mem) (Q : D → Mem → Prop) (E : XD) : tupleD [.lst ds] μ Q E = Q (.tup ds) μ := propext ⟨fun h => h, fun h => h⟩
theorem list_tup (ds : List D) (μ : Mem) (Q : D → Mem → Prop) (E : XD) : listD [.tup ds] μ Q E = Q (.lst ds) μ := propext ⟨fun h => h, fun h => h⟩
theorem list_lst (ds : List D) (μ : Mem) (Q : D → Mem → Prop) (E : XD) : listD [.lst ds] μ Q E = Q (.lst ds) μ := propext ⟨fun h => h, fun h => h⟩
theorem sl_str (s : Str) (lo hi : Option Int) (μ : Mem) (Q : D → Mem → Prop) (E : XD) : slD (.str s) lo hi μ Q E = (s.length ≤ sizeLine ∧ Q (.str (cutS s lo hi)) μ) := propext ⟨fun h => h, fun h => h⟩
theorem sl_tup (ds : List D) (lo hi : Option Int) (μ : Mem) (Q : D → Mem → Prop) (E : XD) : slD (.tup ds) lo hi μ Q E = Q (.tup (cutD ds lo hi)) μ := propext ⟨fun h => h, fun h => h⟩
theorem sl_lst (ds : List D) (lo hi : Option Int) (μ : Mem) (Q : D → Mem → Prop) (E : XD) : slD (.lst ds) lo hi μ Q E = Q (.lst (cutD ds lo hi)) μ := propext ⟨fun h => h, fun h => h⟩
theorem rev_tup (ds : List D) (μ : Mem) (Q : D → Mem → Prop) (E : XD) : revTD (.tup ds) μ Q E = Q (.tup ds.reverse) μ := propext ⟨fun h => h, fun h => h⟩
theorem revM_lst (ds : List D) (μ : Mem) (Q : D → Mem → Prop) (E : XD) : revMD (.lst ds) μ Q E = ∀ p, μ p = none → Q (.obj p) (put μ p (.ml ds.reverse)) := propext ⟨fun h => h, fun h => h⟩
theorem sum_lst (ns : List Int) (μ : Mem) (Q : D → Mem → Prop) (E : XD) : sumD [.lst (ns.map .int)] μ Q E = Q (.int ns.sum) μ := by
  show W.bnd (W.opt (intsOf (ns.map D.int))) _ μ Q E = _
  have : ∀ ns : List Int, intsOf (ns.map D.int) = some ns := fun ns => by
    induction ns with
    | nil => rfl
    | cons n r ih =>
      show (intsOf (r.map D.int)).map (n :: ·) = _
      rw [ih]; rfl
  rw [this]
  rfl
/-- [te for x in items if tt], for one name -/
theorem elc_nm {mi : Rho → W ItD} {i : Nat} {tt : Rho → W Bool} {te : Rho → W D} {vs : List Nat} {ρ : Rho} {μ : Mem} {Q : D → Mem → Prop} {E : XD} {items : List D} {chk : Mem → Prop} (c : D → Bool) (f : D → D)
    (hmi : ∀ R : ItD → Mem → Prop, R ⟨items, chk⟩ μ → mi ρ μ R E) (hz : items.length < sizeLine) (hc : ∀ p acc, μ p = none → chk (put μ p (.ml acc)))
    (ht : ∀ x ∈ items, ∀ p acc, μ p = none → ∀ R : Bool → Mem → Prop, R (c x) (put μ p (.ml acc)) → tt ((wipeD ρ vs).set i (some x)) (put μ p (.ml acc)) R E)
    (he : ∀ x ∈ items, c x = true → ∀ p acc, μ p = none → ∀ R : D → Mem → Prop, R (f x) (put μ p (.ml acc)) → te ((wipeD ρ vs).set i (some x)) (put μ p (.ml acc)) R E)
    (q : Q (.lst ((items.filter c).map f)) μ) : eLc mi (gNm i) tt te vs ρ μ Q E := by
  unfold eLc
  refine hmi _ fun p hp => ?_
  refine lc_w c f hp Q items [] (by simpa using hz) (fun acc => hc p acc hp) (fun x hx acc R hR => ?_) (by simpa using q)
  exact hR _ (fun R' => ht x hx p acc hp R') (fun e R' => he x hx e p acc hp R')
theorem cut_all {α : Type} {ds : List α} {k : Int} (h : (ds.length : Int) ≤ k) : cutD ds none (some k) = ds := by
  refine cut_whole ⟨rfl, ?_⟩
  show (if k < 0 then (k + (ds.length : Int)).toNat else min k.toNat ds.length) = ds.length
  rw [if_neg (by omega)]
  omega
/-- an item of a list -/
theorem ix_in {ds : List D} {k : Int} {μ : Mem} {Q : D → Mem → Prop} {E : XD} (h0 : 0 ≤ k) (h1 : k < ds.length) (q : ∀ d, d ∈ ds → ds[k.toNat]? = some d → Q d μ) : W.opt (atI ds k) μ Q E := by
  obtain ⟨x, e, e', m⟩ := atI_nat ds k h0 h1
  rw [e]
  exact q x m e'
end DL

/-! DLx: what each combinator asks, as an equality of propositions: printed by mkx.py -/
namespace DL
open PySem PySem.Spec PyProof.Rows L2
theorem x_bnd {μ : Mem} {E : XD} {α β : Type} {m : W α} {f : α → W β} {Q : β → Mem → Prop} : (W.bnd m f μ Q E) = (m μ (fun a μ1 => f a μ1 Q E) E) := propext ⟨fun h => h, fun h => h⟩
theorem x_ret {μ : Mem} {E : XD} {α : Type} {a : α} {Q : α → Mem → Prop} : (W.ret a μ Q E) = (Q a μ) := propext ⟨fun h => h, fun h => h⟩
theorem x_req {μ : Mem} {E : XD} {α : Type} {p : Prop} {m : W α} {Q : α → Mem → Prop} : (W.req p m μ Q E) = (p ∧ m μ Q E) := propext ⟨fun h => h, fun h => h⟩
theorem x_get {μ : Mem} {E : XD} {Q : Mem → Mem → Prop} : (W.get μ Q E) = (Q μ μ) := propext ⟨fun h => h, fun h => h⟩
theorem x_opt {μ : Mem} {E : XD} {α : Type} {a : α} {Q : α → Mem → Prop} : (W.opt (some a) μ Q E) = (Q a μ) := propext ⟨fun h => h, fun h => h⟩
theorem x_seq {μ : Mem} {E : XD} {ρ : Rho} {Q : Out → Mem → Prop} {a b : Rho → W Out} : (sSeq a b ρ μ Q E) = (a ρ μ (fun o μ1 => outSeq b o μ1 Q E) E) := propext ⟨fun h => h, fun h => h⟩
theorem x_on {μ : Mem} {E : XD} {ρ : Rho} {Q : Out → Mem → Prop} {b : Rho → W Out} : (outSeq b (.nx ρ) μ Q E) = (b ρ μ Q E) := propext ⟨fun h => h, fun h => h⟩
theorem x_or {μ : Mem} {E : XD} {Q : Out → Mem → Prop} {b : Rho → W Out} {d : D} : (outSeq b (.rt d) μ Q E) = (Q (.rt d) μ) := propext ⟨fun h => h, fun h => h⟩
theorem x_ob {μ : Mem} {E : XD} {Q : Out → Mem → Prop} {b : Rho → W Out} {r : Rho} : (outSeq b (.bk r) μ Q E) = (Q (.bk r) μ) := propext ⟨fun h => h, fun h => h⟩
theorem x_oc {μ : Mem} {E : XD} {Q : Out → Mem → Prop} {b : Rho → W Out} {r : Rho} : (outSeq b (.ct r) μ Q E) = (Q (.ct r) μ) := propext ⟨fun h => h, fun h => h⟩
theorem x_nil {μ : Mem} {E : XD} {ρ : Rho} {Q : Out → Mem → Prop} : (sNil ρ μ Q E) = (Q (.nx ρ) μ) := propext ⟨fun h => h, fun h => h⟩
theorem x_rt {μ : Mem} {E : XD} {ρ : Rho} {Q : Out → Mem → Prop} {m : Rho → W D} : (sRet m ρ μ Q E) = (m ρ μ (fun d μ1 => Q (.rt d) μ1) E) := propext ⟨fun h => h, fun h => h⟩
theorem x_rtN {μ : Mem} {E : XD} {ρ : Rho} {Q : Out → Mem → Prop} : (sRetN ρ μ Q E) = (Q (.rt .non) μ) := propext ⟨fun h => h, fun h => h⟩
theorem x_drop {μ : Mem} {E : XD} {ρ : Rho} {Q : Out → Mem → Prop} {m : Rho → W D} : (sDrop m ρ μ Q E) = (m ρ μ (fun _ μ1 => Q (.nx ρ) μ1) E) := propext ⟨fun h => h, fun h => h⟩
theorem x_break {μ : Mem} {E : XD} {ρ : Rho} {Q : Out → Mem → Prop} : (sBreak ρ μ Q E) = (Q (.bk ρ) μ) := propext ⟨fun h => h, fun h => h⟩
theorem x_cont {μ : Mem} {E : XD} {ρ : Rho} {Q : Out → Mem → Prop} : (sCont ρ μ Q E) = (Q (.ct ρ) μ) := propext ⟨fun h => h, fun h => h⟩
theorem ite_w {α : Type} {k : Bool} {a b : W α} {μ : Mem} {Q : α → Mem → Prop} {E : XD} : (if k = true then a else b) μ Q E = (if k = true then a μ Q E else b μ Q E) := by
  cases k <;> rfl
theorem x_if {μ : Mem} {E : XD} {ρ : Rho} {Q : Out → Mem → Prop} {t : Rho → W Bool} {a b : Rho → W Out} : (sIf t a b ρ μ Q E) = (t ρ μ (fun k μ1 => if k = true then a ρ μ1 Q E else b ρ μ1 Q E) E) := by
  unfold sIf W.bnd
  simp only [ite_w]
theorem x_ift {μ : Mem} {E : XD} {ρ : Rho} {Q : Out → Mem → Prop} {a b : Prop} : (if true = true then a else b) = (a) := if_pos rfl
theorem x_iff {μ : Mem} {E : XD} {ρ : Rho} {Q : Out → Mem → Prop} {a b : Prop} : (if false = true then a else b) = (b) := if_neg (by decide)
theorem x_set {μ : Mem} {E : XD} {ρ : Rho} {Q : Out → Mem → Prop} {m : Rho → W D} {i : Nat} : (sSet i m ρ μ Q E) = (m ρ μ (fun d μ1 => Q (.nx (ρ.set i (some d))) μ1) E) := propext ⟨fun h => h, fun h => h⟩
theorem x_asg {μ : Mem} {E : XD} {ρ : Rho} {Q : Out → Mem → Prop} {m : Rho → W D} {g : D → Rho → W Rho} : (sAsg m g ρ μ Q E) = (m ρ μ (fun d μ1 => g d ρ μ1 (fun r μ2 => Q (.nx r) μ2) E) E) := propext ⟨fun h => h, fun h => h⟩
theorem x_par2 {μ : Mem} {E : XD} {ρ : Rho} {Q : Out → Mem → Prop} {a b : Rho → W D} {i j : Nat} : (sPar2 i j (aCons a (aCons b aNil)) ρ μ Q E) = (a ρ μ (fun x μ1 => b ρ μ1 (fun y μ2 => Q (.nx ((ρ.set i (some x)).set j (some y))) μ2) E) E) := propext ⟨fun h => h, fun h => h⟩
theorem x_par3 {μ : Mem} {E : XD} {ρ : Rho} {Q : Out → Mem → Prop} {a b : Rho → W D} {c : Rho → W D} {i j l : Nat} : (sPar3 i j l (aCons a (aCons b (aCons c aNil))) ρ μ Q E) = (a ρ μ (fun x μ1 => b ρ μ1 (fun y μ2 => c ρ μ2 (fun z μ3 => Q (.nx (((ρ.set i (some x)).set j (some y)).set l (some z))) μ3) E) E) E) := propext ⟨fun h => h, fun h => h⟩
theorem x_for {μ : Mem} {E : XD} {ρ : Rho} {Q : Out → Mem → Prop} {mi : Rho → W ItD} {g : D → Rho → W Rho} {body : Rho → W Out} : (sFor mi g body ρ μ Q E) = (mi ρ μ (fun it μ1 => forW it.chk g body it.items ρ μ1 Q E) E) := propext ⟨fun h => h, fun h => h⟩
theorem x_v0 {μ : Mem} {E : XD} {ρ : Rho} {Q : D → Mem → Prop} {d : D} : (eVar 0 (some d :: ρ) μ Q E) = (Q d μ) := propext ⟨fun h => h, fun h => h⟩
theorem x_vS {μ : Mem} {E : XD} {ρ : Rho} {Q : D → Mem → Prop} {n : Nat} {o : Option D} : (eVar (n + 1) (o :: ρ) μ Q E) = (eVar n ρ μ Q E) := propext ⟨fun h => h, fun h => h⟩
theorem x_c {μ : Mem} {E : XD} {ρ : Rho} {Q : D → Mem → Prop} {d : D} : (eC d ρ μ Q E) = (Q d μ) := propext ⟨fun h => h, fun h => h⟩
theorem x_bin {μ : Mem} {E : XD} {ρ : Rho} {Q : D → Mem → Prop} {a b : Rho → W D} {g : D → D → W D} : (eBin g a b ρ μ Q E) = (a ρ μ (fun x μ1 => b ρ μ1 (fun y μ2 => g x y μ2 Q E) E) E) := propext ⟨fun h => h, fun h => h⟩
theorem x_un {μ : Mem} {E : XD} {ρ : Rho} {Q : D → Mem → Prop} {m : Rho → W D} {g : D → W D} : (eUn g m ρ μ Q E) = (m ρ μ (fun x μ1 => g x μ1 Q E) E) := propext ⟨fun h => h, fun h => h⟩
def onB (d : D) (f : Bool → Prop) : Prop := match d with
  | .bl b => f b
  | _ => False
theorem onB_bl {b : Bool} {f : Bool → Prop} : onB (.bl b) f = f b := propext ⟨fun h => h, fun h => h⟩
def onI (d : D) (f : Int → Prop) : Prop := match d with
  | .int b => f b
  | _ => False
theorem onI_int {b : Int} {f : Int → Prop} : onI (.int b) f = f b := propext ⟨fun h => h, fun h => h⟩
theorem x_tbin {μ : Mem} {E : XD} {ρ : Rho} {Q : Bool → Mem → Prop} {a b : Rho → W D} {g : D → D → W D} : (tBin g a b ρ μ Q E) = (a ρ μ (fun x μ1 => b ρ μ1 (fun y μ2 => g x y μ2 (fun d μ3 => onB d fun k => Q k μ3) E) E) E) := by
  unfold tBin eBin W.bnd
  dsimp only
  congr 1
  funext x μ1
  congr 1
  funext y μ2
  congr 1
  funext d μ3
  cases d <;> rfl
theorem x_tru {μ : Mem} {E : XD} {ρ : Rho} {Q : Bool → Mem → Prop} {m : Rho → W D} : (tTru m ρ μ Q E) = (m ρ μ (fun d μ1 => truD d μ1 Q E) E) := propext ⟨fun h => h, fun h => h⟩
theorem x_trb {μ : Mem} {E : XD} {Q : Bool → Mem → Prop} {b : Bool} : (truD (.bl b) μ Q E) = (Q b μ) := propext ⟨fun h => h, fun h => h⟩
theorem x_not {μ : Mem} {E : XD} {ρ : Rho} {Q : Bool → Mem → Prop} {t : Rho → W Bool} : (tNotW t ρ μ Q E) = (t ρ μ (fun k μ1 => Q (!k) μ1) E) := propext ⟨fun h => h, fun h => h⟩
theorem x_tand {μ : Mem} {E : XD} {ρ : Rho} {Q : Bool → Mem → Prop} {s t : Rho → W Bool} : (tAndW s t ρ μ Q E) = (s ρ μ (fun k μ1 => if k = true then t ρ μ1 Q E else Q false μ1) E) := by
  unfold tAndW W.bnd
  simp only [ite_w]
  rfl
theorem x_tor {μ : Mem} {E : XD} {ρ : Rho} {Q : Bool → Mem → Prop} {s t : Rho → W Bool} : (tOrW s t ρ μ Q E) = (s ρ μ (fun k μ1 => if k = true then Q true μ1 else t ρ μ1 Q E) E) := by
  unfold tOrW W.bnd
  simp only [ite_w]
  rfl
theorem x_and {μ : Mem} {E : XD} {ρ : Rho} {Q : D → Mem → Prop} {a b : Rho → W D} : (eAnd a b ρ μ Q E) = (a ρ μ (fun x μ1 => truD x μ1 (fun k μ2 => if k = true then b ρ μ2 Q E else Q x μ2) E) E) := by
  unfold eAnd W.bnd
  simp only [ite_w]
  rfl
theorem x_orE {μ : Mem} {E : XD} {ρ : Rho} {Q : D → Mem → Prop} {a b : Rho → W D} : (eOr a b ρ μ Q E) = (a ρ μ (fun x μ1 => truD x μ1 (fun k μ2 => if k = true then Q x μ2 else b ρ μ2 Q E) E) E) := by
  unfold eOr W.bnd
  simp only [ite_w]
  rfl
theorem x_notE {μ : Mem} {E : XD} {ρ : Rho} {Q : D → Mem → Prop} {a : Rho → W D} : (eNot a ρ μ Q E) = (a ρ μ (fun x μ1 => truD x μ1 (fun k μ2 => Q (.bl (!k)) μ2) E) E) := propext ⟨fun h => h, fun h => h⟩
theorem x_ifE {μ : Mem} {E : XD} {ρ : Rho} {Q : D → Mem → Prop} {a b : Rho → W D} {t : Rho → W Bool} : (eIf t a b ρ μ Q E) = (t ρ μ (fun k μ1 => if k = true then a ρ μ1 Q E else b ρ μ1 Q E) E) := by
  unfold eIf W.bnd
  simp only [ite_w]
theorem x_tup {μ : Mem} {E : XD} {ρ : Rho} {Q : D → Mem → Prop} {ms : Rho → W (List D)} : (eTup ms ρ μ Q E) = (ms ρ μ (fun ds μ1 => ds.length ≤ sizeLine ∧ Q (.tup ds) μ1) E) := propext ⟨fun h => h, fun h => h⟩
theorem x_lst {μ : Mem} {E : XD} {ρ : Rho} {Q : D → Mem → Prop} {ms : Rho → W (List D)} : (eLst ms ρ μ Q E) = (ms ρ μ (fun ds μ1 => ds.length ≤ sizeLine ∧ Q (.lst ds) μ1) E) := propext ⟨fun h => h, fun h => h⟩
theorem x_lstM {μ : Mem} {E : XD} {ρ : Rho} {Q : D → Mem → Prop} {ms : Rho → W (List D)} : (eLstM ms ρ μ Q E) = (ms ρ μ (fun ds μ1 => ds.length ≤ sizeLine ∧ ∀ p, μ1 p = none → Q (.obj p) (put μ1 p (.ml ds))) E) := propext ⟨fun h => h, fun h => h⟩
theorem x_anil {μ : Mem} {E : XD} {ρ : Rho} {Q : List D → Mem → Prop} : (aNil ρ μ Q E) = (Q [] μ) := propext ⟨fun h => h, fun h => h⟩
theorem x_acons {μ : Mem} {E : XD} {ρ : Rho} {Q : List D → Mem → Prop} {ms : Rho → W (List D)} {m : Rho → W D} : (aCons m ms ρ μ Q E) = (m ρ μ (fun x μ1 => ms ρ μ1 (fun xs μ2 => Q (x :: xs) μ2) E) E) := propext ⟨fun h => h, fun h => h⟩
theorem x_call {μ : Mem} {E : XD} {ρ : Rho} {Q : D → Mem → Prop} {ms : Rho → W (List D)} {g : List D → W D} : (eCall g ms ρ μ Q E) = (ms ρ μ (fun ds μ1 => g ds μ1 Q E) E) := propext ⟨fun h => h, fun h => h⟩
theorem x_callD {μ : Mem} {E : XD} {ρ : Rho} {Q : D → Mem → Prop} {ms : Rho → W (List D)} {n : Nat} {g : List D → W D} : (eCallD n g ms ρ μ Q E) = (ms ρ μ (fun ds μ1 => ds.length = n ∧ g ds μ1 Q E) E) := propext ⟨fun h => h, fun h => h⟩
theorem x_callK {μ : Mem} {E : XD} {ρ : Rho} {Q : D → Mem → Prop} {ms : Rho → W (List D)} {is : List Nat} {n : Nat} {g : List D → W D} : (eCallK is n g ms ρ μ Q E) = (ms ρ μ (fun ds μ1 => (pick is ds).length = n ∧ g (pick is ds) μ1 Q E) E) := propext ⟨fun h => h, fun h => h⟩
theorem x_meth {μ : Mem} {E : XD} {ρ : Rho} {Q : D → Mem → Prop} {ms : Rho → W (List D)} {m : Rho → W D} {T : String} {g : D → List D → W D} : (eMeth T g m ms ρ μ Q E) = (m ρ μ (fun o μ1 => tyD T o μ1 ∧ ms ρ μ1 (fun as μ2 => g o as μ2 Q E) E) E) := propext ⟨fun h => h, fun h => h⟩
theorem x_sl {μ : Mem} {E : XD} {ρ : Rho} {Q : D → Mem → Prop} {m : Rho → W D} {lo hi : Rho → W (Option Int)} : (eSl m lo hi ρ μ Q E) = (m ρ μ (fun x μ1 => lo ρ μ1 (fun i μ2 => hi ρ μ2 (fun j μ3 => slD x i j μ3 Q E) E) E) E) := propext ⟨fun h => h, fun h => h⟩
theorem x_oN {μ : Mem} {E : XD} {ρ : Rho} {Q : Option Int → Mem → Prop} : (oNone ρ μ Q E) = (Q none μ) := propext ⟨fun h => h, fun h => h⟩
theorem x_oS {μ : Mem} {E : XD} {ρ : Rho} {m : Rho → W D} {Q : Option Int → Mem → Prop} : (oSome m ρ μ Q E) = (m ρ μ (fun d μ1 => onI d fun i => Q (some i) μ1) E) := by
  unfold oSome W.bnd
  dsimp only
  congr 1
  funext d μ1
  cases d <;> rfl
theorem x_gn {μ : Mem} {E : XD} {ρ : Rho} {Q : Rho → Mem → Prop} {i : Nat} {d : D} : (gNm i d ρ μ Q E) = (Q (ρ.set i (some d)) μ) := propext ⟨fun h => h, fun h => h⟩
theorem x_gt {μ : Mem} {E : XD} {ρ : Rho} {Q : Rho → Mem → Prop} {n : Nat} {ds : List D} {gs : List D → Rho → W Rho} : (gTp n gs (.tup ds) ρ μ Q E) = (ds.length = n ∧ gs ds ρ μ Q E) := propext ⟨fun h => h, fun h => h⟩
theorem x_gc {μ : Mem} {E : XD} {ρ : Rho} {Q : Rho → Mem → Prop} {d : D} {ds : List D} {g : D → Rho → W Rho} {gs : List D → Rho → W Rho} : (gsCons g gs (d :: ds) ρ μ Q E) = (g d ρ μ (fun r μ1 => gs ds r μ1 Q E) E) := propext ⟨fun h => h, fun h => h⟩
theorem x_g0 {μ : Mem} {E : XD} {ρ : Rho} {Q : Rho → Mem → Prop} : (gsNil [] ρ μ Q E) = (Q ρ μ) := propext ⟨fun h => h, fun h => h⟩
theorem x_gi {μ : Mem} {E : XD} {ρ : Rho} {Q : Rho → Mem → Prop} {a b : Rho → W D} {d : D} : (gIx a b d ρ μ Q E) = (a ρ μ (fun o μ1 => b ρ μ1 (fun i μ2 => setD o i d μ2 (fun _ μ3 => Q ρ μ3) E) E) E) := propext ⟨fun h => h, fun h => h⟩
def onO (o : Out) (f : D → Prop) : Prop := match o with
  | .nx _ => f .non
  | .rt d => f d
  | _ => False
theorem onO_nx {ρ : Rho} {f : D → Prop} : onO (.nx ρ) f = f .non := propext ⟨fun h => h, fun h => h⟩
theorem onO_rt {d : D} {f : D → Prop} : onO (.rt d) f = f d := propext ⟨fun h => h, fun h => h⟩
theorem x_body {μ : Mem} {E : XD} {Q : D → Mem → Prop} {n : Nat} {b : Rho → W Out} {ds : List D} : (bodyD n b ds μ Q E) = (b (startD n ds) μ (fun o μ1 => onO o fun d => Q d μ1) E) := by
  unfold bodyD W.bnd
  dsimp only
  congr 1
  funext o μ1
  cases o <;> rfl
theorem x_yes {μ : Mem} {E : XD} {ρ : Rho} {Q : Bool → Mem → Prop} : (tsYes ρ μ Q E) = (Q true μ) := propext ⟨fun h => h, fun h => h⟩
theorem x_add {μ : Mem} {E : XD} {Q : D → Mem → Prop} {i j : Int} : (addD (.int i) (.int j) μ Q E) = (Q (.int (i + j)) μ) := propext ⟨fun h => h, fun h => h⟩
theorem x_addS {μ : Mem} {E : XD} {Q : D → Mem → Prop} {a b : Str} : (addD (.str a) (.str b) μ Q E) = (a.length + b.length ≤ sizeLine ∧ Q (.str (a ++ b)) μ) := propext ⟨fun h => h, fun h => h⟩
theorem x_addT {μ : Mem} {E : XD} {Q : D → Mem → Prop} {a b : List D} : (addD (.tup a) (.tup b) μ Q E) = (a.length + b.length ≤ sizeLine ∧ Q (.tup (a ++ b)) μ) := propext ⟨fun h => h, fun h => h⟩
theorem x_addL {μ : Mem} {E : XD} {Q : D → Mem → Prop} {a b : List D} : (addD (.lst a) (.lst b) μ Q E) = (a.length + b.length ≤ sizeLine ∧ Q (.lst (a ++ b)) μ) := propext ⟨fun h => h, fun h => h⟩
theorem x_sub {μ : Mem} {E : XD} {Q : D → Mem → Prop} {i j : Int} : (subD (.int i) (.int j) μ Q E) = (Q (.int (i - j)) μ) := propext ⟨fun h => h, fun h => h⟩
theorem x_mul {μ : Mem} {E : XD} {Q : D → Mem → Prop} {i j : Int} : (mulAD (.int i) (.int j) μ Q E) = (CMul i j ∧ Q (.int (i * j)) μ) := propext ⟨fun h => h, fun h => h⟩
theorem x_div {μ : Mem} {E : XD} {Q : D → Mem → Prop} {i j : Int} : (divD (.int i) (.int j) μ Q E) = (CDivW i j ∧ Q (.int (i / j)) μ) := propext ⟨fun h => h, fun h => h⟩
theorem x_mod {μ : Mem} {E : XD} {Q : D → Mem → Prop} {i j : Int} : (modD (.int i) (.int j) μ Q E) = (0 < j ∧ Q (.int (i % j)) μ) := propext ⟨fun h => h, fun h => h⟩
theorem x_pow {μ : Mem} {E : XD} {Q : D → Mem → Prop} {i j : Int} : (powD (.int i) (.int j) μ Q E) = (CPow i j ∧ Q (.int (i ^ j.toNat)) μ) := propext ⟨fun h => h, fun h => h⟩
theorem x_neg {μ : Mem} {E : XD} {Q : D → Mem → Prop} {i : Int} : (negD (.int i) μ Q E) = (Q (.int (-i)) μ) := propext ⟨fun h => h, fun h => h⟩
theorem x_cmp {μ : Mem} {E : XD} {Q : D → Mem → Prop} {i j : Int} {p : Int → Int → Bool} {q : List Nat → List Nat → Bool} : (cmpI p q (.int i) (.int j) μ Q E) = (Q (.bl (p i j)) μ) := propext ⟨fun h => h, fun h => h⟩
theorem x_cmpS {μ : Mem} {E : XD} {Q : D → Mem → Prop} {i j : Str} {p : Int → Int → Bool} {q : List Nat → List Nat → Bool} : (cmpI p q (.str i) (.str j) μ Q E) = (Q (.bl (q i.cps.toList j.cps.toList)) μ) := propext ⟨fun h => h, fun h => h⟩
theorem x_isN {μ : Mem} {E : XD} {Q : D → Mem → Prop} {x : D} {f : Bool → Bool} : (isND f x .non μ Q E) = (Q (.bl (f (DL.isNon x))) μ) := propext ⟨fun h => h, fun h => h⟩
theorem x_mmL {μ : Mem} {E : XD} {Q : D → Mem → Prop} {f : D → List D → D} {d : D} {r : List D} : (mmD f [.lst (d :: r)] μ Q E) = (OneSort (d :: r) ∧ Q (f d r) μ) := propext ⟨fun h => h, fun h => h⟩
theorem x_mm2 {μ : Mem} {E : XD} {Q : D → Mem → Prop} {f : D → List D → D} {x y : D} : (mmD f [x, y] μ Q E) = (OneSort [x, y] ∧ Q (f x [y]) μ) := propext ⟨fun h => h, fun h => h⟩
theorem x_eqS {μ : Mem} {E : XD} {Q : D → Mem → Prop} {f : Bool → Bool} {a b : Str} : (eqA f (.str a) (.str b) μ Q E) = (Q (.bl (f (a == b))) μ) := propext ⟨fun h => h, fun h => h⟩
theorem x_eqI {μ : Mem} {E : XD} {Q : D → Mem → Prop} {f : Bool → Bool} {i j : Int} : (eqA f (.int i) (.int j) μ Q E) = (Q (.bl (f (decide (i = j)))) μ) := propext ⟨fun h => h, fun h => h⟩
theorem x_intb {μ : Mem} {E : XD} {Q : D → Mem → Prop} {b : Bool} : (DL.intD [.bl b] μ Q E) = (Q (.int (if b then 1 else 0)) μ) := propext ⟨fun h => h, fun h => h⟩
end DL

/-! DLy: comprehensions whose parts draw; a list times a number; slices of objects -/
namespace DL
open PySem PySem.Spec PyProof.Rows L2

theorem x_mulL {μ : Mem} {E : XD} {Q : D → Mem → Prop} {xs : List D} {k : Int} : mulAD (.lst xs) (.int k) μ Q E = ((-(2 ^ 62) ≤ k ∧ k < 2 ^ 62 ∧ xs.length * k.toNat ≤ sizeLine) ∧ Q (.lst (List.replicate k.toNat xs).flatten) μ) := propext ⟨fun h => h, fun h => h⟩
theorem sl_obj {a : Addr} {lo hi : Option Int} {μ : Mem} {Q : D → Mem → Prop} {E : XD} : slD (.obj a) lo hi μ Q E = onL (μ a) fun ds => Q (.lst (cutD ds lo hi)) μ := by
  show W.bnd (W.opt (lsOf (.obj a) μ)) _ μ Q E = _
  unfold lsOf onL
  dsimp only
  cases μ a with
  | none => rfl
  | some o => cases o <;> rfl
theorem x_rg1 {m : Rho → W D} {ρ : Rho} {μ : Mem} {Q : ItD → Mem → Prop} {E : XD} : iRg1 (aCons m aNil) ρ μ Q E = m ρ μ (fun d μ1 => onI d fun j => ((-(2 ^ 62) ≤ j ∧ j < 2 ^ 62) ∧ Q ⟨rangeL 0 j.toNat, fun _ => True⟩ μ1)) E := by
  unfold iRg1 W.bnd aCons W.bnd
  dsimp only
  congr 1
  funext d μ1
  cases d <;> rfl
theorem x_lcI {mi : Rho → W ItD} {g : D → Rho → W Rho} {tt : Rho → W Bool} {te : Rho → W D} {vs : List Nat} {ρ : Rho} {μ : Mem} {Q : D → Mem → Prop} {E : XD} : eLc mi g tt te vs ρ μ Q E = mi ρ μ (fun it μ1 => eLc (fun _ => W.ret it) g tt te vs ρ μ1 Q E) E := propext ⟨fun h => h, fun h => h⟩
def onIt (d : D) (μ : Mem) (f : ItD → Prop) : Prop := match d with
  | .lst ds => f ⟨ds, fun _ => True⟩
  | .tup ds => f ⟨ds, fun _ => True⟩
  | .obj a => onL (μ a) fun ds => f ⟨ds, fun μ' => μ' a = some (.ml ds)⟩
  | _ => False
theorem onIt_lst {ds : List D} {μ : Mem} {f : ItD → Prop} : onIt (.lst ds) μ f = f ⟨ds, fun _ => True⟩ := propext ⟨fun h => h, fun h => h⟩
theorem onIt_tup {ds : List D} {μ : Mem} {f : ItD → Prop} : onIt (.tup ds) μ f = f ⟨ds, fun _ => True⟩ := propext ⟨fun h => h, fun h => h⟩
theorem x_iseq {m : Rho → W D} {ρ : Rho} {μ : Mem} {Q : ItD → Mem → Prop} {E : XD} : iSeq m ρ μ Q E = m ρ μ (fun d μ1 => onIt d μ1 fun it => Q it μ1) E := by
  unfold iSeq W.bnd
  dsimp only
  congr 1
  funext d μ1
  cases d with
  | obj a =>
    show W.bnd (W.opt (lsOf (.obj a) μ1)) _ μ1 Q E = onL (μ1 a) _
    unfold lsOf onL
    dsimp only
    cases μ1 a with
    | none => rfl
    | some o => cases o <;> rfl
  | _ => rfl
/-- [te for x in items], te with effects beside -/
theorem lc_eff {i : Nat} {te : Rho → W D} {ρ : Rho} {p : Addr} {E : XD} {Q : D → Mem → Prop} {items : List D} (J : Nat → List D → Mem → Prop)
    (hp : ∀ n acc μ', J n acc μ' → μ' p = some (.ml acc) ∧ acc.length < sizeLine)
    (step : ∀ n acc μ' x (R : D → Mem → Prop), items[n]? = some x → J n acc μ' → (∀ d μ'', μ'' p = some (.ml acc) → J (n + 1) (acc ++ [d]) (put μ'' p (.ml (acc ++ [d]))) → R d μ'') → te (ρ.set i (some x)) μ' R E)
    (fin : ∀ acc μ', J items.length acc μ' → Q (.lst acc) (del μ' p)) : ∀ (k n : Nat) (acc : List D) (μ' : Mem), n + k = items.length → J n acc μ' →
      lcW (fun _ => True) (gNm i) tsYes te p ρ (items.drop n) μ' (fun _ μ' => ∃ ds, μ' p = some (.ml ds) ∧ Q (.lst ds) (del μ' p)) E
  | 0, n, acc, μ', hn, h => by
    have : n = items.length := by omega
    subst this
    rw [List.drop_length]
    exact ⟨trivial, acc, (hp _ _ _ h).1, fin acc μ' h⟩
  | k + 1, n, acc, μ', hn, h => by
    have hlt : n < items.length := by omega
    obtain ⟨h1, h2⟩ := hp _ _ _ h
    rw [List.drop_eq_getElem_cons hlt]
    refine ⟨trivial, ?_⟩
    show (if true = true then W.bnd (te (ρ.set i (some items[n]))) (fun d => W.bnd (W.push p d) fun _ => lcW (fun _ => True) (gNm i) tsYes te p ρ (items.drop (n + 1))) else lcW (fun _ => True) (gNm i) tsYes te p ρ (items.drop (n + 1))) μ' _ E
    rw [if_pos rfl]
    refine step n acc μ' items[n] _ (List.getElem?_eq_getElem hlt) h fun d μ'' hm hj => ?_
    show W.bnd (W.push p d) _ μ'' _ E
    unfold W.push
    show (match μ'' p with
      | some (.ml acc) => W.req (acc.length < sizeLine) (W.setL p (acc ++ [d]) (W.ret ()))
      | _ => W.bad) μ'' _ E
    rw [hm]
    refine ⟨h2, ?_⟩
    exact lc_eff J hp step fin k (n + 1) (acc ++ [d]) (put μ'' p (.ml (acc ++ [d]))) (by omega) hj
theorem elc_eff {i : Nat} {te : Rho → W D} {vs : List Nat} {ρ : Rho} {μ : Mem} {E : XD} {Q : D → Mem → Prop} {items : List D} (J : Addr → Nat → List D → Mem → Prop)
    (h0 : ∀ p, μ p = none → J p 0 [] (put μ p (.ml [])))
    (hp : ∀ p n acc μ', J p n acc μ' → μ' p = some (.ml acc) ∧ acc.length < sizeLine)
    (step : ∀ p n acc μ' x (R : D → Mem → Prop), items[n]? = some x → J p n acc μ' → (∀ d μ'', μ'' p = some (.ml acc) → J p (n + 1) (acc ++ [d]) (put μ'' p (.ml (acc ++ [d]))) → R d μ'') → te ((wipeD ρ vs).set i (some x)) μ' R E)
    (fin : ∀ p acc μ', J p items.length acc μ' → Q (.lst acc) (del μ' p)) : eLc (fun _ => W.ret ⟨items, fun _ => True⟩) (gNm i) tsYes te vs ρ μ Q E := by
  intro p hn
  have := lc_eff (J p) (hp p) (step p) (fin p) items.length 0 [] (put μ p (.ml [])) (by omega) (h0 p hn)
  rwa [List.drop_zero] at this
theorem Deck.del {μ : Mem} {a c p : Addr} {t : Int} (h : Deck μ a c t) (h1 : p ≠ a) (h2 : p ≠ c) : Deck (del μ p) a c t := by
  obtain ⟨n, ⟨s, u, k1, k2, k3⟩, ns, k4, k5⟩ := h
  refine ⟨n, ⟨s, u, ?_, k2, k3⟩, ns, ?_, k5⟩
  · unfold DL.del; rw [if_neg (Ne.symm h1)]; exact k1
  · unfold DL.del; rw [if_neg (Ne.symm h2)]; exact k4
theorem Fr.del {a c p : Addr} {μ μ' : Mem} (h : Fr a c μ μ') (hp : μ p = none) : Fr a c μ (del μ' p) := fun b mo h1 h2 h3 => by
  unfold DL.del
  rw [if_neg (by intro e; subst e; rw [hp] at h3; cases h3)]
  exact h b mo h1 h2 h3
end DL

/-! DLv: more steps; draws -/
namespace DL
open PySem PySem.Spec PyProof.Rows L2

theorem sz_eq : sizeLine = 16777216 := by first | rfl | decide
def onM (o : Option MO) (f : List (Key × D) → Prop) : Prop := match o with
  | some (.md ds) => f ds
  | _ => False
theorem onM_md {ds : List (Key × D)} {f : List (Key × D) → Prop} : onM (some (.md ds)) f = f ds := propext ⟨fun h => h, fun h => h⟩
def onS (d : D) (f : Str → Prop) : Prop := match d with
  | .str s => f s
  | _ => False
theorem onS_str {s : Str} {f : Str → Prop} : onS (.str s) f = f s := propext ⟨fun h => h, fun h => h⟩
section
variable {μ : Mem} {E : XD} {ρ : Rho} {Q : D → Mem → Prop} {a b c m : Rho → W D}
theorem x_tOf {Q : Bool → Mem → Prop} : tOf m ρ μ Q E = m ρ μ (fun d μ1 => onB d fun k => Q k μ1) E := by
  unfold tOf W.bnd
  dsimp only
  congr 1
  funext d μ1
  cases d <;> rfl
theorem x_tOfE {Q : Bool → Mem → Prop} : tOfE m ρ μ Q E = m ρ μ (fun d μ1 => onB d fun k => Q k μ1) E := by
  unfold tOfE W.bnd
  dsimp only
  congr 1
  funext d μ1
  cases d <;> rfl
theorem x_chain {g g' : D → D → W D} : eChain g g' a b c ρ μ Q E = a ρ μ (fun x μ1 => b ρ μ1 (fun y μ2 => g x y μ2 (fun z μ3 => onB z fun k => if k = true then c ρ μ3 (fun u μ4 => g' y u μ4 Q E) E else Q (.bl false) μ3) E) E) E := by
  unfold eChain W.bnd
  dsimp only
  congr 1
  funext x μ1
  congr 1
  funext y μ2
  congr 1
  funext d μ3
  cases d with
  | bl k => cases k <;> rfl
  | _ => rfl
theorem x_kix {kvs : List (Str × D)} {z : Str} : kixD kvs (.str z) μ Q E = W.opt (kfind kvs z) μ Q E := propext ⟨fun h => h, fun h => h⟩
theorem x_kin {f : Bool → Bool} {kvs : List (Str × D)} {z : Str} : kinD f kvs (.str z) μ Q E = Q (.bl (f (kfind kvs z).isSome)) μ := propext ⟨fun h => h, fun h => h⟩
theorem x_kgt {kvs : List (Str × D)} {z : Str} : kgtD kvs (.str z) μ Q E = Q ((kfind kvs z).getD .non) μ := propext ⟨fun h => h, fun h => h⟩
theorem x_allL {ds : List D} : allD [.lst ds] μ Q E = W.opt (boolsOf ds) μ (fun bs μ' => Q (.bl (bs.all id)) μ') E := propext ⟨fun h => h, fun h => h⟩
theorem x_anyL {ds : List D} : anyD [.lst ds] μ Q E = W.opt (boolsOf ds) μ (fun bs μ' => Q (.bl (bs.any id)) μ') E := propext ⟨fun h => h, fun h => h⟩
theorem x_istr {Q : ItD → Mem → Prop} : iStrD m ρ μ Q E = m ρ μ (fun d μ1 => onS d fun x => Q ⟨signsD x, fun _ => True⟩ μ1) E := by
  unfold iStrD W.bnd
  dsimp only
  congr 1
  funext d μ1
  cases d <;> rfl
theorem x_dgetO {p : Addr} {s : Str} : dgetD (.obj p) (.str s) μ Q E = onM (μ p) fun kvs => W.opt (valD kvs (.inr s)) μ Q E := by
  show W.bnd (W.opt (dOf (.obj p) μ)) _ μ Q E = _
  unfold dOf onM
  dsimp only
  cases μ p with
  | none => rfl
  | some o => cases o <;> rfl
theorem x_dgetS {kvs : List (Key × D)} {s : Str} : dgetD (.dct kvs) (.str s) μ Q E = W.opt (valD kvs (.inr s)) μ Q E := propext ⟨fun h => h, fun h => h⟩
theorem x_dgetI {kvs : List (Key × D)} {s : Int} : dgetD (.dct kvs) (.int s) μ Q E = W.opt (valD kvs (.inl s)) μ Q E := propext ⟨fun h => h, fun h => h⟩
theorem x_gdix {d : D} {Q : Rho → Mem → Prop} : gDix a b d ρ μ Q E = a ρ μ (fun o μ1 => b ρ μ1 (fun i μ2 => dsetD o i d μ2 (fun _ μ3 => Q ρ μ3) E) E) E := propext ⟨fun h => h, fun h => h⟩
theorem x_dset {p : Addr} {s : Str} {v : D} {Q : Unit → Mem → Prop} : dsetD (.obj p) (.str s) v μ Q E = onM (μ p) fun kvs => (kvs.length < sizeLine ∧ Q () (put μ p (.md (putD kvs (.inr s) v)))) := by
  show W.bnd (W.opt (mdOf (.obj p) μ)) _ μ Q E = _
  unfold mdOf onM
  dsimp only
  cases μ p with
  | none => rfl
  | some o => cases o <;> rfl
theorem x_popAt {p : Addr} {i : Int} : popAtD (.obj p) [.int i] μ Q E = onL (μ p) fun ds => ((-(2 ^ 62) ≤ i ∧ i < 2 ^ 62) ∧ W.opt (seqIndex? i ds.length) μ (fun k _ => W.opt ds[k]? μ (fun y _ => Q y (put μ p (.ml (ds.eraseIdx k)))) E) E) := by
  show W.bnd (W.opt (mlOf (.obj p) μ)) _ μ Q E = _
  unfold mlOf onL
  dsimp only
  cases μ p with
  | none => rfl
  | some o =>
    cases o with
    | md _ => rfl
    | mi _ _ => rfl
    | tb _ => rfl
    | st _ => rfl
    | ml ds =>
      show ((-(2 ^ 62) ≤ i ∧ i < 2 ^ 62) ∧ W.bnd (W.opt (seqIndex? i ds.length)) (fun k => W.bnd (W.opt ds[k]?) fun y => W.setL p (ds.eraseIdx k) (W.ret y)) μ Q E) = ((-(2 ^ 62) ≤ i ∧ i < 2 ^ 62) ∧ W.opt (seqIndex? i ds.length) μ (fun k _ => W.opt ds[k]? μ (fun y _ => Q y (put μ p (.ml (ds.eraseIdx k)))) E) E)
      cases seqIndex? i ds.length with
      | none => rfl
      | some k =>
        show ((-(2 ^ 62) ≤ i ∧ i < 2 ^ 62) ∧ W.bnd (W.opt ds[k]?) (fun y => W.setL p (ds.eraseIdx k) (W.ret y)) μ Q E) = ((-(2 ^ 62) ≤ i ∧ i < 2 ^ 62) ∧ W.opt ds[k]? μ (fun y _ => Q y (put μ p (.ml (ds.eraseIdx k)))) E)
        cases ds[k]? <;> rfl
theorem x_insert {p : Addr} {i : Int} {x : D} : insertD (.obj p) [.int i, x] μ Q E = onL (μ p) fun ds => ((ds.length < sizeLine ∧ 0 ≤ i ∧ i < 2 ^ 62) ∧ Q .non (put μ p (.ml (ds.take i.toNat ++ [x] ++ ds.drop i.toNat)))) := by
  show W.bnd (W.opt (mlOf (.obj p) μ)) _ μ Q E = _
  unfold mlOf onL
  dsimp only
  cases μ p with
  | none => rfl
  | some o => cases o <;> rfl
theorem ty_dct {kvs : List (Key × D)} : tyD "dict" (.dct kvs) μ = True := by
  unfold tyD
  exact eq_true rfl
theorem x_getS1 {kvs : List (Key × D)} {s : Str} : dgetMD (.dct kvs) [.str s] μ Q E = Q ((valD kvs (.inr s)).getD .non) μ := propext ⟨fun h => h, fun h => h⟩
theorem x_getI1 {kvs : List (Key × D)} {s : Int} : dgetMD (.dct kvs) [.int s] μ Q E = Q ((valD kvs (.inl s)).getD .non) μ := propext ⟨fun h => h, fun h => h⟩
theorem x_getS2 {kvs : List (Key × D)} {s : Str} {z : D} : dgetMD (.dct kvs) [.str s, z] μ Q E = Q ((valD kvs (.inr s)).getD z) μ := propext ⟨fun h => h, fun h => h⟩
theorem x_getI2 {kvs : List (Key × D)} {s : Int} {z : D} : dgetMD (.dct kvs) [.int s, z] μ Q E = Q ((valD kvs (.inl s)).getD z) μ := propext ⟨fun h => h, fun h => h⟩
theorem x_pnil {Q : List (D × D) → Mem → Prop} : pNil ρ μ Q E = Q [] μ := propext ⟨fun h => h, fun h => h⟩
theorem x_pcons {mr : Rho → W (List (D × D))} {Q : List (D × D) → Mem → Prop} : pCons a b mr ρ μ Q E = a ρ μ (fun k μ1 => b ρ μ1 (fun v μ2 => mr ρ μ2 (fun r μ3 => Q ((k, v) :: r) μ3) E) E) E := propext ⟨fun h => h, fun h => h⟩
theorem x_disM {mp : Rho → W (List (D × D))} : eDisM mp ρ μ Q E = ∀ p, μ p = none → mp ρ (put μ p (.md [])) (fun ps μ' => μ' p = some (.md []) ∧ ∃ kvs, keysOf ps = some kvs ∧ kvs.length ≤ 15 ∧ Q (.obj p) (put μ' p (.md (mergeD [] kvs)))) E := propext ⟨fun h => h, fun h => h⟩
theorem x_dis0M : eDis0M ρ μ Q E = ∀ p, μ p = none → Q (.obj p) (put μ p (.md [])) := propext ⟨fun h => h, fun h => h⟩
theorem x_listM {ds : List D} : listMD [.lst ds] μ Q E = ∀ p, μ p = none → Q (.obj p) (put μ p (.ml ds)) := propext ⟨fun h => h, fun h => h⟩
theorem x_listMT {ds : List D} : listMD [.tup ds] μ Q E = ∀ p, μ p = none → Q (.obj p) (put μ p (.ml ds)) := propext ⟨fun h => h, fun h => h⟩
theorem x_gst {i : Nat} {ds : List D} {gs : List D → Rho → W Rho} {Q : Rho → Mem → Prop} : gSt i gs (.tup ds) ρ μ Q E = (i ≤ ds.length ∧ gs (ds.take i ++ [.lst (ds.drop i)]) ρ μ Q E) := propext ⟨fun h => h, fun h => h⟩
theorem x_mulS {s : Str} {k : Int} : mulAD (.str s) (.int k) μ Q E = ((-(2 ^ 62) ≤ k ∧ k < 2 ^ 31 ∧ s.length * k.toNat ≤ 1000000 ∧ s.length ≤ 1000000) ∧ Q (.str (strRep s k)) μ) := propext ⟨fun h => h, fun h => h⟩
theorem x_dict {ds : List D} : dictD [.lst ds] μ Q E = W.opt (pairsOf ds) μ (fun kvs μ' => Q (.dct (mergeD [] kvs)) μ') E := propext ⟨fun h => h, fun h => h⟩
theorem x_isi {x : D} {n : String} : isiD [x, .ty n] μ Q E = W.opt (tyM μ x) μ (fun t _ => W.opt (kitB t n) μ (fun b _ => Q (.bl b) μ) E) E := by
  show W.bnd (W.opt (tyM μ x)) _ μ Q E = _
  cases tyM μ x with
  | none => rfl
  | some t =>
    show W.bnd (W.opt (kitB t n)) _ μ Q E = W.opt (kitB t n) μ _ E
    cases kitB t n <;> rfl
end
/-! texts that are written -/
theorem ofString_inj {a b : String} (h : PySem.Str.ofString a = PySem.Str.ofString b) : a = b := by
  rw [PySem.Str.ofString_eq_toList, PySem.Str.ofString_eq_toList] at h
  have h1 := congrArg (fun s : Str => s.cps.toList) h
  have h2 : a.toList.map Char.toNat = b.toList.map Char.toNat := by simpa using h1
  have inj : ∀ l m : List Char, l.map Char.toNat = m.map Char.toNat → l = m := fun l => by
    induction l with
    | nil => intro m e; cases m with
      | nil => rfl
      | cons _ _ => cases e
    | cons x r ih =>
      intro m e
      cases m with
      | nil => cases e
      | cons y t =>
        rw [List.map_cons, List.map_cons] at e
        obtain ⟨e1, e2⟩ := List.cons.inj e
        rw [ih t e2]
        congr 1
        exact Char.ext (UInt32.toNat_inj.mp e1)
  exact String.ext (inj _ _ h2)
theorem lit_beq (a b : String) : (PySem.Str.ofString a == PySem.Str.ofString b) = (a == b) := by
  by_cases h : a = b
  · subst h
    rw [beq_self_eq_true, beq_self_eq_true]
  · rw [beq_eq_false_iff_ne.mpr h, beq_eq_false_iff_ne.mpr fun e => h (ofString_inj e)]
theorem kfind_nil (z : Str) : kfind [] z = none := rfl
theorem kfind_cons (k : Str) (d : D) (r : List (Str × D)) (z : Str) : kfind ((k, d) :: r) z = if (k == z) = true then some d else kfind r z := rfl
theorem valD_nil (k : Key) : valD [] k = none := rfl
def keyB (j k : Key) : Bool := decide (j = k)
theorem valD_cons (j : Key) (d : D) (r : List (Key × D)) (k : Key) : valD ((j, d) :: r) k = if keyB j k = true then some d else valD r k := by
  unfold valD keyB
  rw [List.find?_cons]
  dsimp only
  cases decide (j = k) <;> rfl
theorem key_lr (a : Int) (b : Str) : keyB (Sum.inl a) (Sum.inr b) = false := decide_eq_false fun e => by cases e
theorem key_rl (a : Str) (b : Int) : keyB (Sum.inr a) (Sum.inl b) = false := decide_eq_false fun e => by cases e
theorem key_rr (a b : Str) : keyB (Sum.inr a) (Sum.inr b) = (a == b) := by
  unfold keyB
  by_cases h : a = b
  · subst h
    rw [beq_self_eq_true]
    exact decide_eq_true rfl
  · rw [beq_eq_false_iff_ne.mpr h]
    exact decide_eq_false fun e => h (by cases e; rfl)
theorem key_ll (a b : Int) : keyB (Sum.inl a) (Sum.inl b) = decide (a = b) := by
  unfold keyB
  by_cases h : a = b
  · subst h
    rw [decide_eq_true rfl, decide_eq_true rfl]
  · rw [decide_eq_false h]
    exact decide_eq_false fun e => h (by cases e; rfl)
/-! ### the deck: what lies at a (sh), the cells at c, at most t draws -/
structure Dk (sh : Addr → Int → Int → MO) (μ : Mem) (a c : Addr) (t : Int) : Prop where
  ne : c ≠ a
  at_ : ∃ seed turns : Int, μ a = some (sh c seed turns) ∧ 0 ≤ turns ∧ turns ≤ t ∧ 0 ≤ seed ∧ seed < 4611686018427387904
  cells : ∃ ns : List Int, μ c = some (.ml (ns.map .int)) ∧ ns.length ≤ 63
/-- .. and all else is as in μ0 -/
structure DF (sh : Addr → Int → Int → MO) (μ0 : Mem) (a c : Addr) (t : Int) (μ : Mem) : Prop where
  dk : Dk sh μ a c t
  fr : Fr a c μ0 μ
section
variable {sh : Addr → Int → Int → MO} {μ0 μ μ' : Mem} {a c p : Addr} {t t' : Int} {o : MO}
theorem Dk.mono (h : Dk sh μ a c t) (ht : t ≤ t') : Dk sh μ a c t' := by
  obtain ⟨n, ⟨s, u, h1, h2, h3, h4⟩, k⟩ := h
  exact ⟨n, ⟨s, u, h1, h2, by omega, h4⟩, k⟩
theorem Dk.put (h : Dk sh μ a c t) (h1 : p ≠ a) (h2 : p ≠ c) : Dk sh (DL.put μ p o) a c t := by
  obtain ⟨n, ⟨s, u, k1, k2⟩, ns, k4, k5⟩ := h
  refine ⟨n, ⟨s, u, ?_, k2⟩, ns, ?_, k5⟩
  · rw [put_ne (Ne.symm h1)]; exact k1
  · rw [put_ne (Ne.symm h2)]; exact k4
theorem Dk.apart (h : Dk sh μ a c t) (hp : μ p = none) : p ≠ a ∧ p ≠ c := by
  obtain ⟨n, ⟨s, u, k1, k2⟩, ns, k4, k5⟩ := h
  refine ⟨fun e => ?_, fun e => ?_⟩
  · rw [e, k1] at hp; cases hp
  · rw [e, k4] at hp; cases hp
theorem Dk.del (h : Dk sh μ a c t) (h1 : p ≠ a) (h2 : p ≠ c) : Dk sh (DL.del μ p) a c t := by
  obtain ⟨n, ⟨s, u, k1, k2⟩, ns, k4, k5⟩ := h
  refine ⟨n, ⟨s, u, ?_, k2⟩, ns, ?_, k5⟩
  · unfold DL.del; rw [if_neg (Ne.symm h1)]; exact k1
  · unfold DL.del; rw [if_neg (Ne.symm h2)]; exact k4
theorem DF.start (h : Dk sh μ a c t) : DF sh μ a c t μ := ⟨h, Fr.refl a c μ⟩
theorem DF.mono (h : DF sh μ0 a c t μ) (ht : t ≤ t') : DF sh μ0 a c t' μ := ⟨h.dk.mono ht, h.fr⟩
theorem DF.trans (h : DF sh μ0 a c t μ) (k : DF sh μ a c t' μ') : DF sh μ0 a c t' μ' := ⟨k.dk, h.fr.trans k.fr⟩
theorem DF.free (h : DF sh μ0 a c t μ) (hp : μ p = none) : μ0 p = none := by
  obtain ⟨h1, h2⟩ := h.dk.apart hp
  cases e : μ0 p with
  | none => rfl
  | some mo => rw [h.fr p mo h1 h2 e] at hp; cases hp
theorem DF.new (h : DF sh μ0 a c t μ) (hp : μ p = none) : DF sh μ0 a c t (DL.put μ p o) := by
  obtain ⟨h1, h2⟩ := h.dk.apart hp
  refine ⟨h.dk.put h1 h2, fun b mo b1 b2 e => ?_⟩
  rw [put_ne (by intro x; rw [x, h.free hp] at e; cases e)]
  exact h.fr b mo b1 b2 e
/-- an object that μ0 has not -/
theorem DF.put (h : DF sh μ0 a c t μ) (h1 : p ≠ a) (h2 : p ≠ c) (hp : μ0 p = none) : DF sh μ0 a c t (DL.put μ p o) := by
  refine ⟨h.dk.put h1 h2, fun b mo b1 b2 e => ?_⟩
  rw [put_ne (by intro x; rw [x, hp] at e; cases e)]
  exact h.fr b mo b1 b2 e
theorem DF.del (h : DF sh μ0 a c t μ) (h1 : p ≠ a) (h2 : p ≠ c) (hp : μ0 p = none) : DF sh μ0 a c t (DL.del μ p) := by
  refine ⟨h.dk.del h1 h2, fun b mo b1 b2 e => ?_⟩
  unfold DL.del
  rw [if_neg (by intro x; rw [x, hp] at e; cases e)]
  exact h.fr b mo b1 b2 e
theorem DF.at (h : DF sh μ0 a c t μ) (h1 : p ≠ a) (h2 : p ≠ c) (hp : μ0 p = some o) : μ p = some o := h.fr p o h1 h2 hp
end
/-- what draws n times at most and gives P -/
def Gen (sh : Addr → Int → Int → MO) (a c : Addr) (n : Int) (m : W D) (P : D → Prop) : Prop :=
  ∀ (μ0 μ : Mem) (t : Int) (Q : D → Mem → Prop) (E : XD), DF sh μ0 a c t μ → t + n ≤ 100000000000 → (∀ d μ', P d → DF sh μ0 a c (t + n) μ' → Q d μ') → m μ Q E
/-- [te for x in items], te with draws -/
theorem elc_gen {sh : Addr → Int → Int → MO} {a c : Addr} {μ0 μ : Mem} {t : Int} {i : Nat} {te : Rho → W D} {vs : List Nat} {ρ : Rho} {Q : D → Mem → Prop} {E : XD} {items : List D} (n : Int) (P : D → D → Prop)
    (hd : DF sh μ0 a c t μ) (hz : items.length < 1000000) (ht : t + n * (items.length : Int) ≤ 100000000000) (hn : 0 ≤ n)
    (he : ∀ x ∈ items, ∀ (μ1 μ' : Mem) (t' : Int) (R : D → Mem → Prop), DF sh μ1 a c t' μ' → t' + n ≤ 100000000000 → (∀ d μ'', P x d → DF sh μ1 a c (t' + n) μ'' → R d μ'') → te ((wipeD ρ vs).set i (some x)) μ' R E)
    (q : ∀ ds μ', ds.length = items.length → (∀ d ∈ ds, ∃ x ∈ items, P x d) → DF sh μ0 a c (t + n * (items.length : Int)) μ' → Q (.lst ds) μ') :
    eLc (fun _ => W.ret ⟨items, fun _ => True⟩) (gNm i) tsYes te vs ρ μ Q E := by
  refine elc_eff (fun p k acc μ' => μ' p = some (.ml acc) ∧ acc.length = k ∧ k ≤ items.length ∧ (∀ d ∈ acc, ∃ x ∈ items, P x d) ∧ DF sh μ0 a c (t + n * (k : Int)) μ' ∧ p ≠ a ∧ p ≠ c ∧ μ0 p = none)
    (fun p hp => ?_) (fun p k acc μ' h => ⟨h.1, by rw [h.2.1, sz_eq]; have := h.2.2.1; omega⟩) (fun p k acc μ' x R hx h hR => ?_) (fun p acc μ' h => ?_)
  · obtain ⟨h1, h2⟩ := hd.dk.apart hp
    exact ⟨put_same, rfl, Nat.zero_le _, fun _ h => (nomatch h), by rw [Int.natCast_zero, Int.mul_zero, Int.add_zero]; exact hd.new hp, h1, h2, hd.free hp⟩
  · obtain ⟨m1, m2, m3, m4, m5, m6, m7, m8⟩ := h
    have hk : k < items.length := by
      rcases Nat.lt_or_ge k items.length with z | z
      · exact z
      · rw [List.getElem?_eq_none z] at hx; cases hx
    have hle : n * ((k + 1 : Nat) : Int) ≤ n * (items.length : Int) := Int.mul_le_mul_of_nonneg_left (by omega) hn
    have hk1 : n * ((k + 1 : Nat) : Int) = n * (k : Int) + n := by rw [Int.natCast_add, Int.mul_add]; simp
    refine he x (List.mem_of_getElem? hx) μ' μ' _ R (DF.start m5.dk) (by omega) fun d μ'' hP hd2 => hR d μ'' (hd2.at m6 m7 m1) ?_
    refine ⟨put_same, by rw [List.length_append, m2]; rfl, hk, fun e he' => ?_, ?_, m6, m7, m8⟩
    · rcases List.mem_append.mp he' with z | z
      · exact m4 e z
      · rw [List.mem_singleton.mp z]; exact ⟨x, List.mem_of_getElem? hx, hP⟩
    · refine ((m5.trans hd2).put m6 m7 m8).mono ?_
      have : n * ((k + 1 : Nat) : Int) = n * (k : Int) + n := by rw [Int.natCast_add, Int.mul_add]; simp
      omega
  · obtain ⟨m1, m2, m3, m4, m5, m6, m7, m8⟩ := h
    exact q acc _ m2 m4 (m5.del m6 m7 m8)
theorem gdL_mem : ∀ {ds : List D}, (∀ d ∈ ds, gd d = true) → gdL ds = true
  | [], _ => rfl
  | d :: r, h => Bool.and_eq_true_iff.mpr ⟨h d (List.mem_cons_self ..), gdL_mem fun e he => h e (List.mem_cons_of_mem _ he)⟩
theorem dptL_mem {n : Nat} : ∀ {ds : List D}, (∀ d ∈ ds, dpt d ≤ n) → dptL ds ≤ n
  | [], _ => Nat.zero_le _
  | d :: r, h => Nat.max_le.mpr ⟨h d (List.mem_cons_self ..), dptL_mem fun e he => h e (List.mem_cons_of_mem _ he)⟩
theorem dszL_mem {n : Nat} : ∀ {ds : List D}, (∀ d ∈ ds, dsz d ≤ n) → dszL ds ≤ (n + 2) * ds.length
  | [], _ => Nat.zero_le _
  | d :: r, h => by
    have a := h d (List.mem_cons_self ..)
    have b := dszL_mem (n := n) fun e he => h e (List.mem_cons_of_mem _ he)
    show dsz d + 2 + dszL r ≤ (n + 2) * (r.length + 1)
    rw [Nat.mul_add, Nat.mul_one]
    omega
/-- plain data of a depth and a size -/
structure Pl (k z : Nat) (d : D) : Prop where
  good : gd d = true
  dep : dpt d ≤ k
  siz : dsz d ≤ z
theorem Pl.mono {k z k' z' : Nat} {d : D} (h : Pl k z d) (hk : k ≤ k') (hz : z ≤ z') : Pl k' z' d := ⟨h.good, Nat.le_trans h.dep hk, Nat.le_trans h.siz hz⟩
theorem Pl.lst {k z n : Nat} {ds : List D} (h : ∀ d ∈ ds, Pl k z d) (hn : ds.length ≤ n) : Pl (k + 1) ((z + 2) * n + 3) (.lst ds) := by
  have a : dptL ds ≤ k := dptL_mem fun d hd => (h d hd).dep
  have b := dszL_mem fun d hd => (h d hd).siz
  have c : (z + 2) * ds.length ≤ (z + 2) * n := Nat.mul_le_mul_left _ hn
  exact ⟨gdL_mem fun d hd => (h d hd).good, by show dptL ds + 1 ≤ _; omega, by show dszL ds + 3 ≤ _; omega⟩
theorem Pl.tup {k z n : Nat} {ds : List D} (h : ∀ d ∈ ds, Pl k z d) (hn : ds.length ≤ n) : Pl (k + 1) ((z + 2) * n + 3) (.tup ds) := by
  have a : dptL ds ≤ k := dptL_mem fun d hd => (h d hd).dep
  have b := dszL_mem fun d hd => (h d hd).siz
  have c : (z + 2) * ds.length ≤ (z + 2) * n := Nat.mul_le_mul_left _ hn
  exact ⟨gdL_mem fun d hd => (h d hd).good, by show dptL ds + 1 ≤ _; omega, by show dszL ds + 3 ≤ _; omega⟩
theorem Pl.int {i : Int} (h : i.natAbs < 2 ^ 1000) : Pl 0 1921 (.int i) := ⟨decide_eq_true (Nat.lt_trans (log_lt (k := 1000) (by decide) h) (by decide)), Nat.zero_le _, Nat.le_refl _⟩
theorem Pl.bl {b : Bool} : Pl 0 5 (.bl b) := ⟨rfl, Nat.zero_le _, Nat.le_refl _⟩
theorem Pl.non : Pl 0 4 .non := ⟨rfl, Nat.zero_le _, Nat.le_refl _⟩
theorem ok_of {s : Str} (h : ∀ c ∈ s.cps.toList, c < 1114112) : PyData.canLay0 (.str s) = true := by
  show PyData.strOk s = true
  unfold PyData.strOk
  rw [Array.all_eq_true_iff_forall_mem]
  intro c hc
  exact decide_eq_true (by have := h c (Array.mem_toList_iff.mpr hc); omega)
theorem Pl.str {s : Str} {n : Nat} (h : ∀ c ∈ s.cps.toList, c < 1114112) (hl : s.length ≤ n) : Pl 0 (10 * n + 2) (.str s) := ⟨ok_of h, Nat.zero_le _, by show 10 * s.length + 2 ≤ _; omega⟩
theorem Pl.repr {k z : Nat} {x : D} {μ : Mem} {Q : D → Mem → Prop} {E : XD} (hx : Pl k z x) (hk : k ≤ 60) (hz : z ≤ 16777216) (q : Q (.str (toPy x).shown) μ) : reprAD [x] μ Q E := by
  have h : reprD [x] μ Q E := repr_w hx.good (Nat.le_trans hx.dep hk) (Nat.le_trans hx.siz hz) q
  have hg := hx.good
  cases x with
  | dct kvs => cases hg
  | _ => exact h

/-- a dict of plain scalars can be shown -/
def Shw (kvs : List (Key × D)) : Prop := ∃ ps, dkPy kvs = some ps ∧ PyData.showableKv ps = true ∧ (PyData.dict ps).depth ≤ 60 ∧ (PyData.dict ps).shown.length ≤ sizeLine
theorem Shw.repr {kvs : List (Key × D)} {μ : Mem} {Q : D → Mem → Prop} {E : XD} (h : Shw kvs) (q : ∀ s, Q (.str s) μ) : reprAD [.dct kvs] μ Q E := by
  obtain ⟨ps, e, h1, h2, h3⟩ := h
  show W.bnd (W.opt (dkPy kvs)) _ μ Q E
  rw [e]
  exact ⟨⟨h1, h2, h3⟩, q _⟩
theorem Pl.sign {ch : Nat} (h : ch < 1114112) : Pl 0 12 (.str ⟨#[ch]⟩) := Pl.str (n := 1) (by simpa using h) (Nat.le_refl 1)
theorem Pl.all {k z : Nat} {ds : List D} (h : ∀ d ∈ ds, Pl k z d) : gdL ds = true ∧ dptL ds ≤ k := ⟨gdL_mem fun d hd => (h d hd).good, dptL_mem fun d hd => (h d hd).dep⟩
/-! ### classes of plain data -/
theorem ty_nonM {μ : Mem} : tyM μ .non = some "NoneType" := rfl
theorem ty_blM {μ : Mem} {b : Bool} : tyM μ (.bl b) = some "bool" := rfl
theorem ty_intM {μ : Mem} {i : Int} : tyM μ (.int i) = some "int" := rfl
theorem ty_strM {μ : Mem} {s : Str} : tyM μ (.str s) = some "str" := rfl
theorem ty_tupM {μ : Mem} {ds : List D} : tyM μ (.tup ds) = some "tuple" := rfl
theorem ty_lstM {μ : Mem} {ds : List D} : tyM μ (.lst ds) = some "list" := rfl
theorem ty_dctM {μ : Mem} {ds : List (Key × D)} : tyM μ (.dct ds) = some "dict" := rfl
theorem kb_non_str : kitB "NoneType" "str" = some false := by decide +kernel
theorem kb_non_int : kitB "NoneType" "int" = some false := by decide +kernel
theorem kb_non_bool : kitB "NoneType" "bool" = some false := by decide +kernel
theorem kb_non_tuple : kitB "NoneType" "tuple" = some false := by decide +kernel
theorem kb_non_list : kitB "NoneType" "list" = some false := by decide +kernel
theorem kb_non_dict : kitB "NoneType" "dict" = some false := by decide +kernel
theorem kb_bl_str : kitB "bool" "str" = some false := by decide +kernel
theorem kb_bl_int : kitB "bool" "int" = some true := by decide +kernel
theorem kb_bl_bool : kitB "bool" "bool" = some true := by decide +kernel
theorem kb_bl_tuple : kitB "bool" "tuple" = some false := by decide +kernel
theorem kb_bl_list : kitB "bool" "list" = some false := by decide +kernel
theorem kb_bl_dict : kitB "bool" "dict" = some false := by decide +kernel
theorem kb_int_str : kitB "int" "str" = some false := by decide +kernel
theorem kb_int_int : kitB "int" "int" = some true := by decide +kernel
theorem kb_int_bool : kitB "int" "bool" = some false := by decide +kernel
theorem kb_int_tuple : kitB "int" "tuple" = some false := by decide +kernel
theorem kb_int_list : kitB "int" "list" = some false := by decide +kernel
theorem kb_int_dict : kitB "int" "dict" = some false := by decide +kernel
theorem kb_str_str : kitB "str" "str" = some true := by decide +kernel
theorem kb_str_int : kitB "str" "int" = some false := by decide +kernel
theorem kb_str_bool : kitB "str" "bool" = some false := by decide +kernel
theorem kb_str_tuple : kitB "str" "tuple" = some false := by decide +kernel
theorem kb_str_list : kitB "str" "list" = some false := by decide +kernel
theorem kb_str_dict : kitB "str" "dict" = some false := by decide +kernel
theorem kb_tup_str : kitB "tuple" "str" = some false := by decide +kernel
theorem kb_tup_int : kitB "tuple" "int" = some false := by decide +kernel
theorem kb_tup_bool : kitB "tuple" "bool" = some false := by decide +kernel
theorem kb_tup_tuple : kitB "tuple" "tuple" = some true := by decide +kernel
theorem kb_tup_list : kitB "tuple" "list" = some false := by decide +kernel
theorem kb_tup_dict : kitB "tuple" "dict" = some false := by decide +kernel
theorem kb_lst_str : kitB "list" "str" = some false := by decide +kernel
theorem kb_lst_int : kitB "list" "int" = some false := by decide +kernel
theorem kb_lst_bool : kitB "list" "bool" = some false := by decide +kernel
theorem kb_lst_tuple : kitB "list" "tuple" = some false := by decide +kernel
theorem kb_lst_list : kitB "list" "list" = some true := by decide +kernel
theorem kb_lst_dict : kitB "list" "dict" = some false := by decide +kernel
theorem kb_dct_str : kitB "dict" "str" = some false := by decide +kernel
theorem kb_dct_int : kitB "dict" "int" = some false := by decide +kernel
theorem kb_dct_bool : kitB "dict" "bool" = some false := by decide +kernel
theorem kb_dct_tuple : kitB "dict" "tuple" = some false := by decide +kernel
theorem kb_dct_list : kitB "dict" "list" = some false := by decide +kernel
theorem kb_dct_dict : kitB "dict" "dict" = some true := by decide +kernel

theorem isNon_bl (b : Bool) : DL.isNon (.bl b) = false := (Eq.refl _).trans rfl
theorem isNon_lst (b : List D) : DL.isNon (.lst b) = false := (Eq.refl _).trans rfl
theorem isNon_dct (b : List (Key × D)) : DL.isNon (.dct b) = false := (Eq.refl _).trans rfl

/-! ### dicts made by comprehensions -/
theorem x_addM {p : Addr} {b : List D} {μ : Mem} {Q : D → Mem → Prop} {E : XD} : addMD (.obj p) (.lst b) μ Q E = onL (μ p) fun a => (a.length + b.length ≤ sizeLine ∧ ∀ q, μ q = none → Q (.obj q) (put μ q (.ml (a ++ b)))) := by
  show W.bnd (W.opt (lsOf (.obj p) μ)) _ μ Q E = _
  unfold lsOf onL
  dsimp only
  cases μ p with
  | none => rfl
  | some o => cases o <;> rfl
theorem x_addMl {a b : List D} {μ : Mem} {Q : D → Mem → Prop} {E : XD} : addMD (.lst a) (.lst b) μ Q E = (a.length + b.length ≤ sizeLine ∧ ∀ q, μ q = none → Q (.obj q) (put μ q (.ml (a ++ b)))) := propext ⟨fun h => h, fun h => h⟩
theorem rev_obj {p : Addr} {μ : Mem} {Q : D → Mem → Prop} {E : XD} : revTD (.obj p) μ Q E = onL (μ p) fun ds => Q (.lst ds.reverse) μ := by
  show W.bnd (W.opt (lsOf (.obj p) μ)) _ μ Q E = _
  unfold lsOf onL
  dsimp only
  cases μ p with
  | none => rfl
  | some o => cases o <;> rfl
end DL

namespace DL
open PySem PySem.Spec PyProof.Rows L2

/-! ### repr and == tell plain worths apart alike -/
end DL

/-! DMa: truths as numbers, str(), .upper(), == (), repr of things that hold dicts -/
namespace DL
open PySem PySem.Spec PyProof.Rows L2

def tI (b : Bool) : Int := if b = true then 1 else 0
section
variable {X : Cx}
end
def addBD (x y : D) : W D := match x, y with
  | .bl b, .int j => W.ret (.int (tI b + j))
  | .int i, .bl b => W.ret (.int (i + tI b))
  | x, y => addD x y
def subBD (x y : D) : W D := match x, y with
  | .bl b, .int j => W.ret (.int (tI b - j))
  | .int i, .bl b => W.ret (.int (i - tI b))
  | x, y => subD x y
def mulBD (x y : D) : W D := match x, y with
  | .bl b, .int j => W.ret (.int (tI b * j))
  | x, y => mulAD x y
/-! ### str() of numbers, truths, texts -/
def blS (b : Bool) : Str := if b = true then PySem.Str.ofString "True" else PySem.Str.ofString "False"
def strD : List D → W D
  | [.int i] => W.req (i.natAbs.log2 < 1920) (W.ret (.str (toString i : String)))
  | [.bl b] => W.ret (.str (blS b))
  | [.str s] => W.ret (.str s)
  | _ => W.bad
/-! ### .upper() -/
def upperD (x : D) (as : List D) : W D := match x, as with
  | .str z, [] => W.req (z.length ≤ 5592405) (W.ret (.str (Txt.upper z)))
  | _, _ => W.bad
/-! ### a tuple beside () -/
def eqTD (f : Bool → Bool) (x y : D) : W D := match x, y with
  | .tup ds, .tup [] => W.ret (.bl (f (decide (ds = []))))
  | _, _ => W.bad
end DL

/-! DMb: repr of things that hold dicts of plain worths at any depth -/
namespace DL
open PySem PySem.Spec PyProof.Rows L2

mutual
inductive DpG (K : PySem.W.Frag) (H : Hp) : V → PyData → Prop
  | non : DpG K H .non .none
  | bl (b : Bool) : DpG K H (.bl b) (.bool b)
  | int (i : Int) : DpG K H (.int i) (.int i)
  | str (x : Str) : DpG K H (.str x) (.str x)
  | lst {a : Addr} {xs : List V} {ds : List PyData} (hs : SqL K H a xs) (hl : DpGs K H xs ds) : DpG K H (.ref a) (.list ds)
  | tup {a : Addr} {xs : List V} {ds : List PyData} (hs : SqT K H a xs) (hl : DpGs K H xs ds) : DpG K H (.ref a) (.tuple ds)
  | dct {a : Addr} {ks : List (Key × V)} {ps : List (PyData × PyData)} (hs : Rd H a (.dK ks)) (he : kvPy ks = some ps) : DpG K H (.ref a) (.dict ps)
inductive DpGs (K : PySem.W.Frag) (H : Hp) : List V → List PyData → Prop
  | nil : DpGs K H [] []
  | cons {v : V} {vs : List V} {d : PyData} {ds : List PyData} (h : DpG K H v d) (r : DpGs K H vs ds) : DpGs K H (v :: vs) (d :: ds)
end
mutual
inductive RdX (h : Heap) : Value → PyData → Prop
  | plain {v : Value} {d : PyData} {as : List Addr} (r : Reads h v d as) (hs : d.hasDict = true → sysModules ∉ as) : RdX h v d
  | lst {a : Addr} {o : Obj} {vs : Array Value} {n : Nat} {xs : List PyData} (h1 : h.get? a = some o) (h2 : o.cls = .type "list") (h3 : o.data = .seq vs n) (r : RdXs h vs.toList xs) : RdX h (.ref a) (.list xs)
  | tup {a : Addr} {o : Obj} {vs : Array Value} {n : Nat} {xs : List PyData} (h1 : h.get? a = some o) (h2 : o.cls = .type "tuple") (h3 : o.data = .seq vs n) (r : RdXs h vs.toList xs) : RdX h (.ref a) (.tuple xs)
inductive RdXs (h : Heap) : List Value → List PyData → Prop
  | nil : RdXs h [] []
  | cons {v : Value} {vs : List Value} {d : PyData} {ds : List PyData} (x : RdX h v d) (r : RdXs h vs ds) : RdXs h (v :: vs) (d :: ds)
end
mutual
theorem RdX.reads {h : Heap} : ∀ {v : Value} {d : PyData}, RdX h v d → ∃ as, Reads h v d as
  | _, _, .plain r _ => ⟨_, r⟩
  | _, _, .lst h1 h2 h3 r => by
    obtain ⟨as, q⟩ := RdXs.reads r
    exact ⟨_, Reads.list h1 h2 h3 q⟩
  | _, _, .tup h1 h2 h3 r => by
    obtain ⟨as, q⟩ := RdXs.reads r
    exact ⟨_, Reads.tuple h1 h2 h3 q⟩
theorem RdXs.reads {h : Heap} : ∀ {vs : List Value} {ds : List PyData}, RdXs h vs ds → ∃ as, ReadsAll h vs ds as
  | _, _, .nil => ⟨_, .nil⟩
  | _, _, .cons x r => by
    obtain ⟨as, q⟩ := RdX.reads x
    obtain ⟨bs, q'⟩ := RdXs.reads r
    exact ⟨_, .cons q q'⟩
end
section
variable {X : Cx} {pins : List (Addr × Obj)} {σ : L2.St} {H : Hp} {s : Shared}
end
section
variable {prog : Program} {w : World} {h₀ : Heap}
mutual
theorem RdX.repr : ∀ {v : Value} {d : PyData}, RdX h₀ v d → d.showable = true → d.shown.length ≤ sizeLine → ∃ bs, ReadAtMost h₀ d.depth bs ∧ ReprK prog w bs h₀ d.depth v d.shown
  | _, _, .plain r hs, h, hz => ReprK.of_reads r h hs hz
  | _, _, .lst (a := a) (vs := vs) (xs := xs) h1 h2 h3 q, h, hz => by
    have hz1 : (listText (PyData.shownAll xs)).length ≤ sizeLine := by simpa only [PyData.shown] using hz
    obtain ⟨bs, hb, hk⟩ := RdXs.repr q (by simpa [PyData.showable] using h) (fun t m => Nat.le_trans (listText_mem_le m) hz1)
    obtain ⟨as, q4⟩ := RdXs.reads q
    have rr := Reads.list h1 h2 h3 q4
    have out : a ∉ bs := not_mem_of_deeper rr (by simp only [PyData.depth]; omega) hb
    refine ⟨a :: bs, hb.cons rr (by simp only [PyData.depth]; omega), ?_⟩
    simp only [PyData.depth, PyData.shown]
    obtain ⟨l⟩ := vs
    cases l with
    | nil =>
      have q' : RdXs h₀ [] xs := q
      cases q'
      simp only [PyData.shownAll, listText_nil]
      exact .listEmpty h1 h2 h3
    | cons x l => exact .list h1 h2 h3 out (by simpa using hk.length_eq) (fun i y e => hk.item i y (by simpa using e))
  | _, _, .tup (a := a) (xs := xs) h1 h2 h3 q, h, hz => by
    have hz1 : (tupleText (PyData.shownAll xs)).length ≤ sizeLine := by simpa only [PyData.shown] using hz
    obtain ⟨bs, hb, hk⟩ := RdXs.repr q (by simpa [PyData.showable] using h) (fun t m => Nat.le_trans (tupleText_mem_le m) hz1)
    obtain ⟨as, q4⟩ := RdXs.reads q
    have rr := Reads.tuple h1 h2 h3 q4
    have out : a ∉ bs := not_mem_of_deeper rr (by simp only [PyData.depth]; omega) hb
    refine ⟨a :: bs, hb.cons rr (by simp only [PyData.depth]; omega), ?_⟩
    simp only [PyData.depth, PyData.shown]
    exact .tuple h1 h2 h3 out hk
theorem RdXs.repr : ∀ {vs : List Value} {ds : List PyData}, RdXs h₀ vs ds → PyData.showableAll ds = true → (∀ t ∈ PyData.shownAll ds, t.length ≤ sizeLine) → ∃ bs, ReadAtMost h₀ (PyData.depthAll ds) bs ∧ ReprAllK prog w bs h₀ (PyData.depthAll ds) vs (PyData.shownAll ds)
  | _, _, .nil, _, _ => ⟨[], (fun _ h => nomatch h), by simp only [PyData.shownAll]; exact .nil⟩
  | _, _, .cons (d := d) (ds := ds) x r, h, hz => by
    have hh : d.showable = true ∧ PyData.showableAll ds = true := by simpa [PyData.showableAll] using h
    obtain ⟨b1, c1, k1⟩ := RdX.repr x hh.1 (hz _ (by simp only [PyData.shownAll]; exact List.mem_cons_self ..))
    obtain ⟨b2, c2, k2⟩ := RdXs.repr r hh.2 (fun t m => hz t (by simp only [PyData.shownAll]; exact List.mem_cons_of_mem _ m))
    refine ⟨b1 ++ b2, ?_, ?_⟩
    · simp only [PyData.depthAll]
      exact (c1.mono (Nat.le_max_left _ _)).append (c2.mono (Nat.le_max_right _ _))
    · simp only [PyData.depthAll, PyData.shownAll]
      exact .cons ((k1.more fun b m => List.mem_append_left _ m).level_le (Nat.le_max_left _ _)) (k2.more_le (fun b m => List.mem_append_right _ m) (Nat.le_max_right _ _))
end
end
mutual
/-- what a thing is, dicts of plain worths in it too -/
def pyG : D → Option PyData
  | .non => some .none
  | .bl b => some (.bool b)
  | .int i => some (.int i)
  | .str s => some (.str s)
  | .tup ds => (pyGs ds).map .tuple
  | .lst ds => (pyGs ds).map .list
  | .dct kvs => (dkPy kvs).map .dict
  | _ => none
def pyGs : List D → Option (List PyData)
  | [] => some []
  | d :: r => match pyG d, pyGs r with
    | some x, some xs => some (x :: xs)
    | _, _ => none
end
section
variable {K : PySem.W.Frag} {F H : Hp} (e : Same F H)
include e
end
def reprGD : List D → W D
  | [.tup ds] => W.bnd (W.opt (pyGs ds)) fun ps => W.req (PyData.showableAll ps = true ∧ PyData.depthAll ps ≤ 60 ∧ (tupleText (PyData.shownAll ps)).length ≤ sizeLine) (W.ret (.str (tupleText (PyData.shownAll ps))))
  | xs => reprAD xs
/-- a def that is never to be called -/
theorem fng_bad {P : Program} {w : World} {K : PySem.W.Frag} {mg : Str → Option Value} {base : Heap} {k : Nat} {f : Addr} {fd : FuncData} {ps : List Str} : FnG P w K mg base CX0 k f fd ps (spD K ps.length (fun _ => W.bad)) :=
  ⟨fun vs H Q E h => h.1, fun A outer s H args us vs Q E _ _ _ _ _ h => by
    obtain ⟨_, F, ds, μ, Q', ED, _, _, _, hm, _⟩ := h
    exact hm.elim⟩
end DL

/-! DMd: a list of anything beside [] -/
namespace DL
open PySem PySem.Spec PyProof.Rows L2

def rEqL (K : PySem.W.Frag) (f : Bool → Bool) : R2 := fun x y H Q => ∃ a b xs, x = .ref a ∧ y = .ref b ∧ SqL K H a xs ∧ SqL K H b [] ∧ Q (.bl (f (decide (xs = [])))) H
theorem op_eqL {X : Cx} (hu : X.A.units + 64 < cLine) : OpR X (compareOp .Eq) (rEqL X.K id) := by
  intro pins s σ H x y v u Q I rx ry h
  obtain ⟨a, b, xs, rfl, rfl, ha, hb, q⟩ := h
  cases rx; cases ry
  obtain ⟨its, rv, ⟨o, n, ho, hc, _, hd⟩, _⟩ := I.list ha
  obtain ⟨its', rv', ⟨o', n', ho', hc', _, hd'⟩, _⟩ := I.list hb
  cases rv'
  have t1 : s.heap.IsList a its.toArray := ⟨o, ho, hc, n, hd⟩
  have t2 : s.heap.IsList b #[] := ⟨o', ho', hc', n', hd'⟩
  have hl := rv.length
  cases xs with
  | nil =>
    have e : its = [] := List.length_eq_zero_iff.mp (by simpa using hl.symm)
    subst e
    exact SeqAt.RcAt.lists (e := fun _ => true) t1 t2 rfl (by omega) (fun j _ h2 => absurd h2 (Nat.not_lt_zero j)) _ _ _ _ ⟨.bl _, H, I, rfl, q⟩
  | cons x r =>
    refine SeqAt.RcAt.lists_lengths t1 t2 ?_ (by omega) _ _ _ _ ⟨.bl _, H, I, rfl, q⟩
    cases its with
    | nil => simp at hl
    | cons y r' => simp
def eqLD (f : Bool → Bool) (x y : D) : W D := match x, y with
  | .lst ds, .lst [] => W.ret (.bl (f (decide (ds = []))))
  | _, _ => W.bad
theorem opd_eqL {K : PySem.W.Frag} {f : Bool → Bool} : OpD K (rEqL K f) (eqLD f) := by
  intro F H μ x y dx dy Q ED Qh r ix iy h bk
  unfold eqLD at h
  split at h
  · rename_i ds
    cases ix with
    | lst hs hl =>
      rename_i vs
      cases iy with
      | lst hs' hl' =>
        cases hl'
        refine ⟨_, _, vs, rfl, rfl, sql_up r.sub hs, sql_up r.sub hs', ?_⟩
        have e := hl.length
        have e2 : decide (vs = ([] : List V)) = decide (ds = []) := by
          rw [Bool.eq_iff_iff, decide_eq_true_eq, decide_eq_true_eq, ← List.length_eq_zero_iff, ← List.length_eq_zero_iff, e]
        rw [e2]
        exact back_is bk r (.bl _) h
  · exact h.elim
theorem x_eqL {μ : Mem} {Q : D → Mem → Prop} {E : XD} {f : Bool → Bool} {ds : List D} : eqLD f (.lst ds) (.lst []) μ Q E = Q (.bl (f (decide (ds = [])))) μ := propext ⟨fun h => h, fun h => h⟩
end DL

/-! DMc: steps of DMa's words; things of any kind, their bounds -/
namespace DL
open PySem PySem.Spec PyProof.Rows L2

section
variable {μ : Mem} {Q : D → Mem → Prop} {E : XD}
theorem x_addBb {b : Bool} {j : Int} : addBD (.bl b) (.int j) μ Q E = Q (.int (tI b + j)) μ := propext ⟨fun h => h, fun h => h⟩
theorem x_addBib {i : Int} {b : Bool} : addBD (.int i) (.bl b) μ Q E = Q (.int (i + tI b)) μ := propext ⟨fun h => h, fun h => h⟩
theorem x_addBi {i j : Int} : addBD (.int i) (.int j) μ Q E = Q (.int (i + j)) μ := propext ⟨fun h => h, fun h => h⟩
theorem x_addBs {a b : Str} : addBD (.str a) (.str b) μ Q E = (a.length + b.length ≤ sizeLine ∧ Q (.str (a ++ b)) μ) := propext ⟨fun h => h, fun h => h⟩
theorem x_addBt {a b : List D} : addBD (.tup a) (.tup b) μ Q E = (a.length + b.length ≤ sizeLine ∧ Q (.tup (a ++ b)) μ) := propext ⟨fun h => h, fun h => h⟩
theorem x_addBl {a b : List D} : addBD (.lst a) (.lst b) μ Q E = (a.length + b.length ≤ sizeLine ∧ Q (.lst (a ++ b)) μ) := propext ⟨fun h => h, fun h => h⟩
theorem x_subBb {b : Bool} {j : Int} : subBD (.bl b) (.int j) μ Q E = Q (.int (tI b - j)) μ := propext ⟨fun h => h, fun h => h⟩
theorem x_subBib {i : Int} {b : Bool} : subBD (.int i) (.bl b) μ Q E = Q (.int (i - tI b)) μ := propext ⟨fun h => h, fun h => h⟩
theorem x_subBi {i j : Int} : subBD (.int i) (.int j) μ Q E = Q (.int (i - j)) μ := propext ⟨fun h => h, fun h => h⟩
theorem x_mulBb {b : Bool} {j : Int} : mulBD (.bl b) (.int j) μ Q E = Q (.int (tI b * j)) μ := propext ⟨fun h => h, fun h => h⟩
theorem x_mulBi {i j : Int} : mulBD (.int i) (.int j) μ Q E = mulAD (.int i) (.int j) μ Q E := propext ⟨fun h => h, fun h => h⟩
theorem x_strI {i : Int} : strD [.int i] μ Q E = (i.natAbs.log2 < 1920 ∧ Q (.str (PySem.Str.ofString (toString i))) μ) := propext ⟨fun h => h, fun h => h⟩
theorem x_strS {s : Str} : strD [.str s] μ Q E = Q (.str s) μ := propext ⟨fun h => h, fun h => h⟩
theorem x_strB {b : Bool} : strD [.bl b] μ Q E = Q (.str (blS b)) μ := propext ⟨fun h => h, fun h => h⟩
theorem x_up {z : Str} : upperD (.str z) [] μ Q E = (z.length ≤ 5592405 ∧ Q (.str (Txt.upper z)) μ) := propext ⟨fun h => h, fun h => h⟩
theorem x_eqT {f : Bool → Bool} {ds : List D} : eqTD f (.tup ds) (.tup []) μ Q E = Q (.bl (f (decide (ds = [])))) μ := propext ⟨fun h => h, fun h => h⟩
end
mutual
/-- how much room a thing's repr takes -/
def dsx : D → Nat
  | .non => 4
  | .bl _ => 5
  | .int _ => 1921
  | .str s => 10 * s.length + 2
  | .tup ds => dsxL ds + 3
  | .lst ds => dsxL ds + 3
  | .dct (_ :: _) => 20
  | _ => 2
def dsxL : List D → Nat
  | [] => 0
  | d :: r => dsx d + 2 + dsxL r
end
/-- {}, {'a': 1} -/
def okd : List (Key × D) → Bool
  | [] => true
  | [(.inr x, .int i)] => decide (x = PySem.Str.ofString "a") && decide (i = 1)
  | _ => false
mutual
/-- plain things and {}: numbers and texts within bounds that grow with s -/
def okx (s : Nat) : D → Bool
  | .non => true
  | .bl _ => true
  | .int i => decide (i.natAbs ≤ 10000000000000000000000000000000000000000 * (s + 1))
  | .str x => decide (x.length ≤ 2000 * (s + 1)) && x.cps.toList.all fun c => decide (c < 128)
  | .tup ds => okxL s ds
  | .lst ds => okxL s ds
  | .dct kvs => okd kvs
  | _ => false
def okxL (s : Nat) : List D → Bool
  | [] => true
  | d :: r => okx s d && okxL s r
end
mutual
def toPyG : D → PyData
  | .non => .none
  | .bl b => .bool b
  | .int i => .int i
  | .str s => .str s
  | .tup ds => .tuple (toPyGs ds)
  | .lst ds => .list (toPyGs ds)
  | .dct [(.inr x, .int i)] => .dict [(.str x, .int i)]
  | .dct _ => .dict []
  | _ => .none
def toPyGs : List D → List PyData
  | [] => []
  | d :: r => toPyG d :: toPyGs r
end
theorem okxL_all {s : Nat} : ∀ {ds : List D}, okxL s ds = true ↔ ∀ x ∈ ds, okx s x = true
  | [] => ⟨fun _ _ h => (nomatch h), fun _ => rfl⟩
  | d :: r => by
    show (okx s d && okxL s r) = true ↔ _
    rw [Bool.and_eq_true, okxL_all (ds := r), List.forall_mem_cons]
mutual
theorem okx_up {s s' : Nat} (hs : s ≤ s') : ∀ {d : D}, okx s d = true → okx s' d = true
  | .non, _ => rfl
  | .bl _, _ => rfl
  | .int i, h => by
    have h' := of_decide_eq_true (show decide (i.natAbs ≤ 10000000000000000000000000000000000000000 * (s + 1)) = true from h)
    exact decide_eq_true (by omega)
  | .str x, h => by
    have h' := Bool.and_eq_true_iff.mp (show (decide (x.length ≤ 2000 * (s + 1)) && x.cps.toList.all fun c => decide (c < 128)) = true from h)
    have h1 := of_decide_eq_true h'.1
    exact Bool.and_eq_true_iff.mpr ⟨decide_eq_true (by omega), h'.2⟩
  | .tup ds, h => okxL_up hs (ds := ds) h
  | .lst ds, h => okxL_up hs (ds := ds) h
  | .dct kvs, h => h
  | .obj _, h => by cases h
  | .ty _, h => by cases h
  | .fnv _ _ _ _ _ _, h => by cases h
  | .exv _ _ _ _, h => by cases h
theorem okxL_up {s s' : Nat} (hs : s ≤ s') : ∀ {ds : List D}, okxL s ds = true → okxL s' ds = true
  | [], _ => rfl
  | d :: r, h => by
    have h' := Bool.and_eq_true_iff.mp (show (okx s d && okxL s r) = true from h)
    exact Bool.and_eq_true_iff.mpr ⟨okx_up hs h'.1, okxL_up hs h'.2⟩
end
theorem piledX {x : Str} (h : ∀ c ∈ x.cps.toList, c < 128) : (reprText x).length ≤ 10 * x.length + 2 := StrLaws.reprText_len x fun c hc => by have := h c hc; omega
mutual
theorem okx_py {s : Nat} (hs : s ≤ 10) : ∀ {d : D}, okx s d = true → pyG d = some (toPyG d) ∧ (toPyG d).showable = true ∧ (toPyG d).depth ≤ dpt d + 1 ∧ (toPyG d).shown.length ≤ dsx d
  | .non, _ => ⟨rfl, rfl, Nat.zero_le _, by decide⟩
  | .bl b, _ => ⟨rfl, rfl, Nat.zero_le _, by cases b <;> decide⟩
  | .int i, h => by
    have h' := of_decide_eq_true (show decide (i.natAbs ≤ 10000000000000000000000000000000000000000 * (s + 1)) = true from h)
    have hb : i.natAbs.log2 < 1920 := Nat.lt_trans (log_lt (k := 1000) (by decide) (Nat.lt_of_le_of_lt (show i.natAbs ≤ 2 ^ 150 by omega) (Nat.pow_lt_pow_right (by decide) (by decide)))) (by decide)
    exact ⟨rfl, by simpa [PyData.showable, toPyG] using hb, Nat.zero_le _, int_text_len_1921 hb⟩
  | .str x, h => by
    have h' := Bool.and_eq_true_iff.mp (show (decide (x.length ≤ 2000 * (s + 1)) && x.cps.toList.all fun c => decide (c < 128)) = true from h)
    exact ⟨rfl, rfl, Nat.zero_le _, piledX fun c hc => of_decide_eq_true (List.all_eq_true.mp h'.2 c hc)⟩
  | .tup ds, h => by
    obtain ⟨h1, h3, h4, h5⟩ := okxL_py hs (ds := ds) h
    refine ⟨by unfold pyG; rw [h1]; rfl, h3, by show PyData.depthAll _ + 1 ≤ dptL ds + 1 + 1; omega, ?_⟩
    have := tupleText_le (PyData.shownAll (toPyGs ds))
    show (tupleText (PyData.shownAll (toPyGs ds))).length ≤ dsxL ds + 3
    omega
  | .lst ds, h => by
    obtain ⟨h1, h3, h4, h5⟩ := okxL_py hs (ds := ds) h
    refine ⟨by unfold pyG; rw [h1]; rfl, h3, by show PyData.depthAll _ + 1 ≤ dptL ds + 1 + 1; omega, ?_⟩
    have := listText_le (PyData.shownAll (toPyGs ds))
    show (listText (PyData.shownAll (toPyGs ds))).length ≤ dsxL ds + 3
    omega
  | .dct kvs, h => by
    match kvs, h with
    | [], _ => exact ⟨rfl, rfl, by decide, by decide +kernel⟩
    | [(.inr x, .int i)], h =>
      have h' := Bool.and_eq_true_iff.mp (show (decide (x = PySem.Str.ofString "a") && decide (i = 1)) = true from h)
      have e1 := of_decide_eq_true h'.1
      have e2 := of_decide_eq_true h'.2
      subst e1 e2
      exact ⟨rfl, by decide +kernel, by decide, by decide +kernel⟩
  | .obj _, h => by cases h
  | .ty _, h => by cases h
  | .fnv _ _ _ _ _ _, h => by cases h
  | .exv _ _ _ _, h => by cases h
theorem okxL_py {s : Nat} (hs : s ≤ 10) : ∀ {ds : List D}, okxL s ds = true → pyGs ds = some (toPyGs ds) ∧ PyData.showableAll (toPyGs ds) = true ∧ PyData.depthAll (toPyGs ds) ≤ dptL ds + 1 ∧ piled (PyData.shownAll (toPyGs ds)) ≤ dsxL ds
  | [], _ => ⟨rfl, rfl, Nat.zero_le _, Nat.le_refl _⟩
  | d :: r, h => by
    have h' := Bool.and_eq_true_iff.mp (show (okx s d && okxL s r) = true from h)
    obtain ⟨a1, a2, a3, a4⟩ := okx_py hs h'.1
    obtain ⟨b1, b2, b3, b4⟩ := okxL_py hs h'.2
    refine ⟨?_, ?_, ?_, ?_⟩
    · unfold pyGs
      rw [a1, b1]
      rfl
    · show ((toPyG d).showable && PyData.showableAll (toPyGs r)) = true
      rw [a2, b2]
      rfl
    · show max (toPyG d).depth (PyData.depthAll (toPyGs r)) ≤ max (dpt d) (dptL r) + 1
      omega
    · show piled ((toPyG d).shown :: PyData.shownAll (toPyGs r)) ≤ dsx d + 2 + dsxL r
      rw [piled_cons]
      omega
end
theorem dsxL_mem {x : D} : ∀ {l : List D}, x ∈ l → dsx x + 2 ≤ dsxL l
  | [], h => nomatch h
  | d :: r, h => by
    show dsx x + 2 ≤ dsx d + 2 + dsxL r
    rcases List.mem_cons.mp h with z | z
    · rw [z]; omega
    · have := dsxL_mem z
      omega
theorem dpt_mem {x : D} : ∀ {l : List D}, x ∈ l → dpt x ≤ dptL l
  | [], h => nomatch h
  | d :: r, h => by
    show dpt x ≤ max (dpt d) (dptL r)
    rcases List.mem_cons.mp h with z | z
    · rw [z]; omega
    · have := dpt_mem z
      omega
/-- a thing of any kind -/
structure An (s k Z : Nat) (d : D) : Prop where
  ok : okx s d = true
  dp : dpt d ≤ k
  sz : dsx d ≤ Z
theorem An.up {s k Z s' k' Z' : Nat} {d : D} (h : An s k Z d) (hs : s ≤ s') (hk : k ≤ k') (hz : Z ≤ Z') : An s' k' Z' d := ⟨okx_up hs h.ok, Nat.le_trans h.dp hk, Nat.le_trans h.sz hz⟩
theorem An.tup {s k Z : Nat} {es : List D} (h : ∀ x ∈ es, okx s x = true ∧ dpt x ≤ k) (hz : dsxL es + 3 ≤ Z) : An s (k + 1) Z (.tup es) :=
  ⟨okxL_all.mpr fun x hx => (h x hx).1, Nat.succ_le_succ (dptL_mem fun x hx => (h x hx).2), hz⟩
theorem An.lst {s k Z : Nat} {es : List D} (h : ∀ x ∈ es, okx s x = true ∧ dpt x ≤ k) (hz : dsxL es + 3 ≤ Z) : An s (k + 1) Z (.lst es) :=
  ⟨okxL_all.mpr fun x hx => (h x hx).1, Nat.succ_le_succ (dptL_mem fun x hx => (h x hx).2), hz⟩
theorem An.mem {s k Z : Nat} {es : List D} (h : An s k Z (.tup es)) : ∀ x ∈ es, okx s x = true ∧ dpt x + 1 ≤ k := fun x hx =>
  ⟨okxL_all.mp h.ok x hx, Nat.le_trans (Nat.succ_le_succ (dpt_mem hx)) h.dp⟩
theorem An.at {s k Z : Nat} {es : List D} (h : An s k Z (.tup es)) {x : D} (hx : x ∈ es) : An s (k - 1) Z x := by
  have hz : dsxL es + 3 ≤ Z := h.sz
  have := dsxL_mem hx
  have := (h.mem x hx).2
  exact ⟨(h.mem x hx).1, by omega, by omega⟩
theorem An.int {s k Z : Nat} {i : Int} (h : i.natAbs ≤ 10000000000000000000000000000000000000000 * (s + 1)) (hz : 1921 ≤ Z) : An s k Z (.int i) := ⟨decide_eq_true h, Nat.zero_le _, hz⟩
theorem An.str {s k Z : Nat} {x : Str} (h : x.length ≤ 2000 * (s + 1)) (hc : ∀ c ∈ x.cps.toList, c < 128) (hz : 10 * x.length + 2 ≤ Z) : An s k Z (.str x) :=
  ⟨Bool.and_eq_true_iff.mpr ⟨decide_eq_true h, List.all_eq_true.mpr fun c m => decide_eq_true (hc c m)⟩, Nat.zero_le _, hz⟩
theorem An.non {s k Z : Nat} (hz : 4 ≤ Z) : An s k Z .non := ⟨rfl, Nat.zero_le _, hz⟩
theorem An.bl {s k Z : Nat} {b : Bool} (hz : 5 ≤ Z) : An s k Z (.bl b) := ⟨rfl, Nat.zero_le _, hz⟩
end DL

/-! DNa: own exception classes over any built-in one: made, stored into, their base's __init__. -/
namespace PySem
namespace DNX
open Builtin Builtin.ObjectAttr

/-- own classes, then the tail tl -/
def tlOk (tl : List Value) : List Value → Bool
  | .ref _ :: r => tlOk tl r
  | l => l == tl
theorem tlOk_cases {tl : List Value} : ∀ l : List Value, tlOk tl l = true → (∃ c r, l = .ref c :: r ∧ tlOk tl r = true) ∨ l = tl := by
  intro l e
  cases l with
  | nil => exact .inr (beq_iff_eq.mp e)
  | cons a r => cases a <;> first | exact .inl ⟨_, r, rfl, e⟩ | exact .inr (beq_iff_eq.mp e)
theorem tlOk_pass {tl : List Value} {self : Value} (h : refuseLoop self "__setattr__" tl = pure ()) : ∀ l : List Value, tlOk tl l = true → refuseLoop self "__setattr__" l = pure () := by
  intro l
  induction l with
  | nil =>
    intro e
    rcases tlOk_cases [] e with ⟨c, r, q, _⟩ | q
    · cases q
    · rw [q]; exact h
  | cons a r ih =>
    intro e
    rcases tlOk_cases (a :: r) e with ⟨c, r', q, z⟩ | q
    · obtain ⟨rfl, rfl⟩ := List.cons.inj q
      rw [refuseLoop_ref]; exact ih z
    · rw [q]; exact h
theorem tlOk_contains {tl : List Value} (X : String) : ∀ l : List Value, tlOk tl l = true → l.contains (.type X) = tl.contains (.type X) := by
  intro l
  induction l with
  | nil =>
    intro e
    rcases tlOk_cases [] e with ⟨c, r, q, _⟩ | q
    · cases q
    · rw [q]
  | cons a r ih =>
    intro e
    rcases tlOk_cases (a :: r) e with ⟨c, r', q, z⟩ | q
    · obtain ⟨rfl, rfl⟩ := List.cons.inj q
      rw [List.contains_cons, ih z]; rfl
    · rw [q]

/-- what is asked of the built-in class beneath: the one whose __new__ it is, the one whose __init__ it is -/
structure XBase (Bn newId Bi initId : String) (tl : List Value) : Prop where
  new : ∃ i0 b0, ExcBaseFacts Bn newId i0 b0
  plain : plainId initId = true
  entry : entryFor table initId = some Builtin.«BaseException.__init__»
  split : splitId initId = some (Bi, "__init__")
  kind : builtinKind initId = some .slot
  row : Manifest.signature? initId = some ⟨.positional, "*", Bi, .self, [⟨"args", .varPos, false⟩]⟩
  star : (Bi != "*") = true
  bind : ∀ self, bindSpecial (.builtin initId) self = pure (.builtin initId, [self])
  cN : tl.contains (.type Bn) = true
  cI : tl.contains (.type Bi) = true
  cA : tl.contains (.type "AttributeError") = false
  cM : tl.contains (.type "NameError") = false
  cO : tl.contains (.type "object") = true
  pass : ∀ self, refuseLoop self "__setattr__" tl = pure ()
abbrev veTl : List Value := [.type "ValueError", .type "Exception", .type "BaseException", .type "object"]
abbrev keTl : List Value := [.type "KeyError", .type "LookupError", .type "Exception", .type "BaseException", .type "object"]
abbrev aeTl : List Value := [.type "ArithmeticError", .type "Exception", .type "BaseException", .type "object"]
theorem xb_VE : XBase "ValueError" "ValueError.__new__" "ValueError" "ValueError.__init__" veTl :=
  ⟨⟨_, _, F.excBase_ValueError⟩, F.excBase_ValueError.init.plain, F.excBase_ValueError.initEntry, F.excBase_ValueError.initSplit, F.excBase_ValueError.initKind, F.excBase_ValueError.initRow, F.excBase_ValueError.noStar, F.excBase_ValueError.init.bind,
    by decide +kernel, by decide +kernel, by decide +kernel, by decide +kernel, by decide +kernel, fun self => by kernel_rfl⟩
theorem xb_AE : XBase "ArithmeticError" "ArithmeticError.__new__" "ArithmeticError" "ArithmeticError.__init__" aeTl :=
  ⟨⟨_, _, F.excBase_ArithmeticError⟩, F.excBase_ArithmeticError.init.plain, F.excBase_ArithmeticError.initEntry, F.excBase_ArithmeticError.initSplit, F.excBase_ArithmeticError.initKind, F.excBase_ArithmeticError.initRow, F.excBase_ArithmeticError.noStar, F.excBase_ArithmeticError.init.bind,
    by decide +kernel, by decide +kernel, by decide +kernel, by decide +kernel, by decide +kernel, fun self => by kernel_rfl⟩
theorem xb_KE : XBase "LookupError" "LookupError.__new__" "KeyError" "KeyError.__init__" keTl :=
  ⟨⟨_, _, F.excBase_LookupError⟩, PyProof.Rows.excClass_KeyError.init.plain, PyProof.Rows.excClass_KeyError.initEntry, PyProof.Rows.excClass_KeyError.initSplit, PyProof.Rows.excClass_KeyError.initKind, PyProof.Rows.excClass_KeyError.initSig, PyProof.Rows.excClass_KeyError.notStar, PyProof.Rows.excClass_KeyError.init.bind,
    by decide +kernel, by decide +kernel, by decide +kernel, by decide +kernel, by decide +kernel, fun self => by kernel_rfl⟩

section
variable {M : Model} {A : Around} {E : Value → Shared → Prop} {h : Heap} {g : Array GenState} {d : Drawn} {t : Nat} {os : OsState}
variable {nm q : Str} {C N : Addr} {bs bm tl : List Value} {hdct : Bool} {sn : List Str} {sub : List Value} {ab : Bool} {col : Option Bool} {dd : Option Addr} {k0 k1 k2 k3 k5 : Option Value} {Bn newId Bi initId : String}
theorem has_of {X : String} {b : Bool} (T : tlOk tl bm = true) (c : tl.contains (.type X) = b) : (Value.ref C :: bm).contains (.type X) = b := by
  rw [List.contains_cons, tlOk_contains X bm T, c]
  rfl
theorem check_init {e : Addr} {oe : Obj} {rest : List Value} {Q : Unit → Shared → Prop} (F : XBase Bn newId Bi initId tl) (T : tlOk tl bm = true)
    (hC : h.get? C = some (excClassObj nm q C N bs bm hdct sn sub ab col dd k0 k1 k2 k3 k5 newId)) (he : h.get? e = some oe) (hcls : oe.cls = .ref C) (hq : Q () ⟨h, g, d, t, os⟩) :
    wpAny M A (checkBuiltinCall initId ⟨.ref e :: rest, []⟩) Q E ⟨h, g, d, t, os⟩ := by
  have hcB := has_of (C := C) T F.cI
  have hshort := F.star
  simp only [checkBuiltinCall, F.kind, F.split, F.row]
  repeat (first | (with_reducible refine wpAny_loadPart_at he ?_; rw [hcls]) | with_reducible refine wpAny_loadPart_at hC ?_ | (with_reducible refine wpAny_isSubtype_exc hC ?_; rw [hcB]) | wp_step)
  refine wpAny_onRaise ?_
  rw [show ∀ (a b : String) (n : Nat), Bind.check ⟨.positional, "*", Bi, .self, [⟨"args", .varPos, false⟩]⟩ a b n (List.map (fun x => x.fst) ({ pos := Value.ref e :: rest } : Args).kw) = pure () from
    fun a b n => check_star_args _ _ _ _ _ _]
  exact wpAny_pure hq
end
section
variable {prog : Program} {w : World} {A : Around} {E : Value → Shared → Prop} {R : Result → Shared → Prop} {h : Heap} {g : Array GenState} {d : Drawn} {t : Nat} {os : OsState}
variable {nm q : Str} {C N : Addr} {bs bm tl : List Value} {hdct : Bool} {sn : List Str} {sub : List Value} {ab : Bool} {col : Option Bool} {dd : Option Addr} {k0 k1 k2 k3 k5 : Option Value} {Bn newId Bi initId : String}
/-- the base's __init__(e, ..): the args are laid anew -/
theorem init_made {e t0 : Addr} {rest : List Value} (F : XBase Bn newId Bi initId tl) (T : tlOk tl bm = true)
    (hC : h.get? C = some (excClassObj nm q C N bs bm hdct sn sub ab col dd k0 k1 k2 k3 k5 newId)) (he : h.get? e = some (HandSPX.excO C t0)) (hrest : rest.length ≤ sizeLine)
    (hq : ∀ h' t1, (∀ b o, b ≠ e → h.get? b = some o → h'.get? b = some o) → h'.get? e = some (HandSPX.excO C t1) → R (.ok (.ret .none)) ⟨h', g, d, t, os⟩) :
    codeAny (model prog w) A (.call (.builtin initId) ⟨.ref e :: rest, []⟩) R ⟨h, g, d, t, os⟩ := by
  refine codeAny_call_builtin F.plain F.entry (check_init F T hC he rfl ?_)
  wp_walk
  refine hq _ h.objs.size (fun b o hb ho => ?_) ?_
  · rw [Heap.get?_update_other _ _ (Ne.symm hb)]
    exact Heap.get?_push_of_some _ ho
  · rw [Heap.get?_update_self _ (Heap.get?_push_of_some _ he) rfl]
    rfl
end
/-! ### self.name = v, the first one -/
theorem store_made {prog : Program} {w : World} {A : Around} {R : Result → Shared → Prop} {hp : Heap} {g : Array GenState} {d : Drawn} {t : Nat} {os : OsState}
    {K : PySem.W.Frag} {name : Str} {tk : Tok} {v : Value} {x C : Addr} {fv : Array Value} {cd : ClassData} {Bn newId Bi initId : String} {tl : List Value} (F : XBase Bn newId Bi initId tl)
    (X : K.In hp) (hx : hp.get? x = some { cls := .ref C, data := .fields fv }) (hcd : PySem.W.clsIn K C = some cd) (hm : tlOk tl cd.mro = true) (hne : cd.mro.isEmpty = false) (hh : cd.hasDict = true) (ha : PySem.W.findIn K (.ref C) name = some none)
    (hq : ∀ h' tk' dx, (∀ b o, b ≠ x → hp.get? b = some o → h'.get? b = some o) → hp.objs.size ≤ dx → dx ≠ x → h'.get? x = some { cls := .ref C, dict := some dx, data := .fields fv } →
      h'.Ns1 dx (fun y => if y = name then some v else none) → R (.ok (.ret .none)) ⟨h', g, d, tk', os⟩) :
    codeAny (model prog w) A (.call (.builtin "object.__setattr__") ⟨[.ref x, .str name tk, v], []⟩) R ⟨hp, g, d, t, os⟩ := by
  have I : PySem.W.InstAt hp x { cls := .ref C, data := .fields fv } C none := ⟨hx, rfl, rfl, trivial⟩
  have SF := PySem.F.store_object
  have hob : cd.mro.contains (.type "object") = true := (tlOk_contains "object" _ hm).trans F.cO
  have hxs : x ≠ hp.objs.size := Nat.ne_of_lt (Heap.lt_size hx)
  have sub : PySem.W.Looks (model prog w) hp (isInstance (.ref x) (.type "object")) true := I.type.andThen (PySem.W.looks_mroIn X (by unfold PySem.W.mroIn; rw [hcd, Option.bind_some, if_neg (by rw [hne]; decide), hob]))
  refine codeAny_call_builtin SF.slot.plain SF.entry (@PySem.W.check_slot (model prog w) _ _ ⟨hp, g, d, t, os⟩ "object.__setattr__" "object" "__setattr__" (.ref x) [.str name tk, v] [] _ SF.kind SF.split sub (SF.args (.ref x) (.str name tk) v) ?_)
  have hmr : PySem.W.Looks (model prog w) hp (mroOf (.ref C)) cd.mro := (PySem.W.looks_clsIn X hcd).andThen .now
  have L3 : PySem.W.Looks (model prog w) hp (storeTaker? none) none := .now
  have hcls : PySem.W.Looks (model prog w) hp (classData C) cd := PySem.W.looks_clsIn X hcd
  rw [PySem.W.osa_eq, refuse_eq]
  refine wpAny_bind (wpAny_bind (I.type.at (wpAny_bind (hmr.at ?_))))
  rw [tlOk_pass (F.pass _) _ hm]
  refine wpAny_pure (wpAny_bind (I.type.at (wpAny_bind ((PySem.W.looks_findIn X ha).at (wpAny_bind (L3.at ?_))))))
  show wpAny _ _ (storeInOwnDict (.ref x) (.ref C) (.str name tk) name v false) _ _ _
  obtain ⟨nm, bs, mro, ns, qn, hd, sn, sb, ab, col, del⟩ := cd
  dsimp only at hh
  subst hh
  unfold storeInOwnDict ownDictForStores
  repeat (first | with_reducible refine HandSPX.store_in_new ?_ ?_ | with_reducible refine wpAny_loadPart_at hx ?_ | with_reducible refine hcls.at ?_ | wp_step)
  · exact ⟨_, #[], _, (Heap.get?_update_ne _ _ _ _ hxs.symm).trans (Heap.get?_push_at rfl rfl), rfl, fun e he => absurd he (by simp), fun _ => rfl⟩
  · intro h' tk' hn' hs
    have hx₁ : (hp.push { cls := .type "dict", data := .dict #[] }).get? x = some { cls := .ref C, data := .fields fv } := Heap.get?_push_of_some _ hx
    refine hq h' tk' hp.objs.size (fun b o hb ho => ?_) (Nat.le_refl _) hxs.symm ?_ hn'
    · exact (hs.2 b (Nat.ne_of_lt (Heap.lt_size ho))).trans ((Heap.get?_update_ne _ _ _ _ hb).trans (Heap.get?_push_of_some _ ho))
    · exact (hs.2 x hxs).trans (Heap.get?_update_self _ hx₁ rfl)
end DNX
end PySem

/-! DNb: C(e), C an own exception class whose __init__ calls its base's and keeps one field. -/
namespace DN
open PySem PySem.Spec PyProof.Rows L2 DL PySem.DNX

/-- what the written part says of the class -/
structure OxC (K : PySem.W.Frag) (C : Addr) (newId : String) (tl : List Value) : Prop where
  cls : ∃ nm q N bs bm sn sub ab col dd k0 k1 k2 k3 k5, K.lookup C = some (excClassObj nm q C N bs bm true sn sub ab col dd k0 k1 k2 k3 k5 newId) ∧ tlOk tl bm = true
  sa : PySem.W.findIn K (.ref C) "__setattr__" = some (some (.builtin "object.__setattr__"))
  exC : PySem.W.subIn K (.ref C) (.type "BaseException") = some true
  tyC : PySem.W.typeIn K (.ref C) = some (.type "type")
  kC : PySem.W.keepIn K (.ref C) = true
def oxCls (K : PySem.W.Frag) (C : Addr) (newId : String) (tl : List Value) : Bool := match K.lookup C with
  | some ⟨.type "type", _, .cls cd, sl⟩ => (match cd.mro, sl.toList with
    | .ref C' :: bm, [_, _, _, _, some (.builtin n), _] => C' == C && n == newId && !cd.hasDel && cd.hasDict && tlOk tl bm
    | _, _ => false)
  | _ => false
def oxB (K : PySem.W.Frag) (C : Addr) (newId : String) (tl : List Value) : Bool :=
  oxCls K C newId tl && (decide (PySem.W.findIn K (.ref C) "__setattr__" = some (some (.builtin "object.__setattr__"))) && (decide (PySem.W.subIn K (.ref C) (.type "BaseException") = some true) &&
    (decide (PySem.W.typeIn K (.ref C) = some (.type "type")) && PySem.W.keepIn K (.ref C))))
theorem oxB_ok {K : PySem.W.Frag} {C : Addr} {newId : String} {tl : List Value} (h : oxB K C newId tl = true) : OxC K C newId tl := by
  obtain ⟨q, h⟩ := Bool.and_eq_true_iff.mp h
  obtain ⟨h2, h⟩ := Bool.and_eq_true_iff.mp h
  obtain ⟨h3, h⟩ := Bool.and_eq_true_iff.mp h
  obtain ⟨h4, h5⟩ := Bool.and_eq_true_iff.mp h
  refine ⟨?_, of_decide_eq_true h2, of_decide_eq_true h3, of_decide_eq_true h4, h5⟩
  unfold oxCls at q
  split at q
  · rename_i dd cd sl ho
    split at q
    · rename_i C' bm k0 k1 k2 k3 n k5 hm hs
      simp only [Bool.and_eq_true, beq_iff_eq, Bool.not_eq_true'] at q
      obtain ⟨⟨⟨⟨rfl, rfl⟩, hdel⟩, hdc⟩, ht⟩ := q
      obtain ⟨nm, bs, mro, ns, qn, hd, sn, sub, ab, col, del⟩ := cd
      dsimp only at hm hdel hdc
      subst hm hdel hdc
      have hsl : sl = #[k0, k1, k2, k3, some (.builtin n), k5] := by
        obtain ⟨l⟩ := sl
        simp only at hs
        rw [hs]
      subst hsl
      exact ⟨nm, qn, ns, bs, bm, sn, sub, ab, col, dd, k0, k1, k2, k3, k5, ho, ht⟩
    · cases q
  · cases q

section
variable {X : Cx} {pins : List (Addr × Obj)} {σ : L2.St} {H : Hp} {s : Shared} {a C dx : Addr} {f : Str} {y : V} {u : Value} {fs : List (Str × V)} {E : Value → Shared → Prop} {A : Around} {Bn newId Bi initId : String} {tl : List Value}
/-- self.f = y, the first one -/
theorem ost_made {Q : Unit → Shared → Prop} (F : XBase Bn newId Bi initId tl) (T : OxC X.K C newId tl) (I : Inv X pins σ H s) (e : H a = some (exo a C none)) (hno : PySem.W.findIn X.K (.ref C) f = some none) (ry : RelV y u)
    (h : ∀ dx s', H dx = none → dx ≠ a → Inv X pins σ (upd (upd H dx (exd dx [(f, y)])) a (exo a C (some dx))) s' → Q () s') : wpAny (model X.prog X.w) A (setAttr (.ref a) f u) Q E s := by
  obtain ⟨nm, q, N, bs, bm, sn, sub, ab, col, dd, k0, k1, k2, k3, k5, hC, hbm⟩ := T.cls
  have hcl : PySem.W.clsIn X.K C = some { name := nm, bases := bs, mro := .ref C :: bm, ns := N, qualname := q, hasDict := true, slotNames := sn, subclasses := sub, abstract := ab, collection := col, hasDel := false } := by unfold PySem.W.clsIn; rw [hC] <;> rfl
  obtain ⟨t1, ho⟩ := exo_at I.hok e
  obtain ⟨hp, g, d, t, os⟩ := s
  refine PySem.W.set_plain I.kIn (ox := { cls := .ref C, dict := none, data := .fields #[.ref t1, .none, .none, .none, .bool false, .none] }) (od := none) ⟨ho, rfl, rfl, trivial⟩ T.sa ?_
  refine store_made F I.kIn ho hcl (show tlOk tl (.ref C :: bm) = true from hbm) rfl rfl hno (fun h' tk' dx k dn dne hx hn => ?_)
  have hnd : H dx = none := I.hok.fresh dn
  have nd : ∀ {b : Addr} {o : Obj}, hp.get? b = some o → b ≠ dx := fun {b o} q => Nat.ne_of_lt (Nat.lt_of_lt_of_le (Heap.lt_size q) dn)
  have na : ∀ {b : Addr}, H b = none → b ≠ a := fun {b} n z => by
    rw [z, e] at n
    cases n
  have Un1 : Un X.fs [] H (upd (upd H dx (exd dx [(f, y)])) a (exo a C (some dx))) hp h' := {
    keep := fun b o q n _ _ => k b o (na n) q
    slot := fun b o q n _ _ => ⟨o.slots, k b o (na n) q⟩
    free := fun b o q n _ => by rw [upd_ne (na n), upd_ne (nd q)]; exact n
    there := fun b o q _ => by
      by_cases hb : b = a
      · exact ⟨_, by rw [hb]; exact hx⟩
      · exact ⟨o, k b o hb q⟩
    tups := fun b xs q => by rw [upd_ne (at_ne e q exo_tup), upd_ne (ne_of_none q hnd)]; exact q
    frzs := fun b o v q => by rw [upd_ne (at_ne e q exo_frz), upd_ne (ne_of_none q hnd)]; exact q
    tbls := fun b ps q => ⟨#[], by rw [upd_ne (at_ne e q exo_tbl), upd_ne (ne_of_none q hnd), q]; simp⟩ }
  refine h dx _ hnd dne (I.un (t' := tk') Un1 fun b o q => ?_)
  by_cases hb : b = a
  · subst hb
    rw [upd_same] at q
    cases q
    exact exo_ok hx
  · rw [upd_ne hb] at q
    by_cases hd : b = dx
    · subst hd
      rw [upd_same] at q
      cases q
      exact exd_ok hn (relO_put (fs := []) ry fun g => True.intro)
    · rw [upd_ne hd] at q
      exact (I.hok b o q).stay (fun c v hc z => k c v (by
          rcases hc with hc | hc
          · rw [hc]
            exact hb
          · exact at_ne e hc exo_own) z)
        (fun c hc => by rw [upd_ne (at_ne e hc exo_own), upd_ne (ne_of_none hc hnd)]; exact hc) (fun c xs hc => by rw [upd_ne (at_ne e hc exo_tup), upd_ne (ne_of_none hc hnd)]; exact hc)
/-- the base's __init__(self, ..): nothing of it is told -/
theorem oinit_made {us : List Value} {Q : Value → Shared → Prop} (F : XBase Bn newId Bi initId tl) (T : OxC X.K C newId tl) (I : Inv X pins σ H s) (e : H a = some (exo a C none)) (hl : us.length ≤ sizeLine) (h : ∀ s', Inv X pins σ H s' → Q .none s') :
    wpAny (model X.prog X.w) A (call (.builtin initId) (.ref a :: us)) Q E s := by
  obtain ⟨nm, q, N, bs, bm, sn, sub, ab, col, dd, k0, k1, k2, k3, k5, hC, hbm⟩ := T.cls
  obtain ⟨t1, ho⟩ := exo_at I.hok e
  obtain ⟨hp, g, d, t, os⟩ := s
  refine wpAny_call (init_made F hbm (I.kIn _ _ hC) ho hl fun h' t2 k hx => ?_)
  have J := I.write (t' := t) (x := a) (e := a) (o := exo a C none) (by rw [e]; exact True.intro) (.inl rfl) k ⟨_, hx⟩ (exo_ok hx)
  have eu : upd H a (exo a C none) = H := by
    funext b
    by_cases hb : b = a
    · rw [hb, upd_same, e]
    · rw [upd_ne hb]
  rw [eu] at J
  exact h _ J
end

/-- the class whose __init__ is called by its name -/
structure BaseC (K : PySem.W.Frag) (CB : Addr) (initId : String) : Prop where
  reads : PySem.W.readsIn K CB (.type "type") = true
  ga : PySem.W.specialIn K (.ref CB) "__getattribute__" = some (some (.builtin "type.__getattribute__"))
  find : PySem.W.findCls K (.ref CB) (.type "type") "__init__" = some (.val (.builtin initId))
  hand : PySem.W.handedIn (.builtin initId) = true
section
variable {X : Cx} {bn : Str} {CB C : Addr} {o e : Expr} {es : List Expr} {to te : TE} {ta : TA} {f : Str} {p p' p1 p2 pos : Pos} {Bn newId Bi initId : String} {tl : List Value}
theorem pe_binit {pl : Sem Bool} (F : XBase Bn newId Bi initId tl) (T : OxC X.K C newId tl) (hg : Gl X bn) (hm : X.mg bn = some (.ref CB)) (hB : BaseC X.K CB initId) (ha : PA X (e :: es) ta) (hdb : (bn == ("__debug__" : Str)) = false)
    (hc : eval (.Call (.Attribute (.Name bn p1) "__init__" p2) (e :: es) [] pos) X.env = (do
      let ov ← eval (.Name bn p1) X.env
      standAt p2.atName
      let (f, first) ← holding [ov] (getMethod ov "__init__" pl)
      callWith pos f first (backTo pos (starEach (e :: es) X.env)) (backToKw pos (keywordEach [] X.env))))
    (he : starEach (e :: es) X.env = (false, eval e X.env) :: starEach es X.env) (hpl : (backTo pos (starEach es X.env)).any (·.1) = false) :
    PE X (.Call (.Attribute (.Name bn p1) "__init__" p2) (e :: es) [] pos) (fun σ H Q => ta σ H fun vs H1 => ∃ (a : Addr) (ws : List V), vs = .ref a :: ws ∧ ws.length ≤ 1000 ∧ H1 a = some (exo a C none) ∧ Q .non H1) := by
  refine ⟨fun pins s σ H Q I h => ?_⟩
  refine PySem.W.methodCall_KW (ld_glob I hg hm ?_ hdb) hc
  refine PySem.W.method_cls I.kIn hB.ga (PySem.W.cls_value I.kIn hB.reads hB.find hB.hand ?_)
  show wpAny _ _ (callWith pos (Value.builtin initId) [] (backTo pos (starEach (e :: es) X.env)) []) _ _ _
  refine PyProof.Rows.callWith_method1 (thn (ha.run pos pins _ σ H _ (I.tok _) h) fun us s1 ⟨vs, H1, I1, r1, a, ws, ev, hl, ea, q⟩ => ?_) he hpl
  subst ev
  cases r1 with
  | @cons _ u0 _ ur ra rw' =>
    obtain rfl : u0 = Value.ref a := ra
    have hlen : ur.length ≤ sizeLine := by
      rw [← Paired.length rw', sizeLine_eq]
      omega
    exact oinit_made F T I1 ea hlen fun s' J => ⟨.non, H1, J, rfl, q⟩
theorem ps_made (F : XBase Bn newId Bi initId tl) (T : OxC X.K C newId tl) (hno : PySem.W.findIn X.K (.ref C) f = some none) (ho : PE X o to) (he : PE X e te) (hs : swapsWith e (some (.Attribute o f p')) pos.line X.env = pure false) :
    PS X (.Assign [.Attribute o f p'] e pos) (fun D σ H => te σ H fun y H1 => to σ H1 fun x H2 => ∃ a : Addr, x = .ref a ∧ H2 a = some (exo a C none) ∧ ∀ dx, H2 dx = none → dx ≠ a → D.nx σ (upd (upd H2 dx (exd dx [(f, y)])) a (exo a C (some dx)))) := by
  refine ⟨fun pins s σ H D I h => ?_⟩
  refine plainObj_wpAny_Assign_Attribute (thn (he.run pins s σ H _ I h) fun v s1 ⟨y, H1, I1, r1, q1⟩ => thn (ho.run pins s1 σ H1 _ I1 q1) fun u s2 ⟨x, H2, I2, r2, a, ex, ea, q⟩ => ?_) hs
  subst ex
  obtain rfl : u = Value.ref a := r2
  exact ost_made F T I2 ea hno r1 fun dx s' n ne J => ⟨σ, _, J, q dx n ne⟩
end
/-- what such an __init__ promises -/
def spI (C : Addr) (f : Str) : Sp := fun vs H Q _ => ∃ (a : Addr) (v : V), vs = [.ref a, v] ∧ H a = some (exo a C none) ∧ ∀ dx, H dx = none → dx ≠ a → Q .non (upd (upd H dx (exd dx [(f, v)])) a (exo a C (some dx)))
theorem fn_init {P : Program} {w : World} {K : PySem.W.Frag} {mg : Str → Option Value} {base : Heap} {k : Nat} {qual : Str} {st : Stmt} {fI C CB : Addr} {fd : FuncData} {prm bn fl m : Str} {j : Nat} {p1 p2 p3 p4 p5 p6 p7 p8 p9 p10 : Pos} {Bn newId Bi initId : String} {tl : List Value}
    (Fn : Fun K "__init__" qual st fI fd) (S : FnScope ["self", prm] ["self", prm] (defScope st)) (vs : Vis (defScope st) "self") (vp : Vis (defScope st) prm) (hgb : (defScope st).names.lookup bn = some .globalImplicit)
    (hbd : defBody st = [.Expr (.Call (.Attribute (.Name bn p1) "__init__" p2) [.Name "self" p3, .Constant (.str m) j p4] [] p5) p6, .Assign [.Attribute (.Name "self" p7) fl p8] (.Name prm p9) p10])
    (hev : ∀ env : Env, ∃ pl : Sem Bool, eval (.Call (.Attribute (.Name bn p1) "__init__" p2) [.Name "self" p3, .Constant (.str m) j p4] [] p5) env = (do
      let ov ← eval (.Name bn p1) env
      standAt p2.atName
      let (f, first) ← holding [ov] (getMethod ov "__init__" pl)
      callWith p5 f first (backTo p5 (starEach [.Name "self" p3, .Constant (.str m) j p4] env)) (backToKw p5 (keywordEach [] env))))
    (d1 : (prm == ("__debug__" : Str)) = false) (d2 : (prm == ("__classdict__" : Str)) = false) (d3 : (bn == ("__debug__" : Str)) = false)
    (F : XBase Bn newId Bi initId tl) (T : OxC K C newId tl) (hm : mg bn = some (.ref CB)) (hB : BaseC K CB initId) (hno : PySem.W.findIn K (.ref C) fl = some none) :
    FnOk P w K mg base CX0 (k + 1) fI fd ["self", prm] (spI C fl) := by
  obtain ⟨oc, od, kV, doc, pm, an, cdv, ct, osl, rfl, lk, hcd⟩ := Fn.ex
  refine fn_of lk hcd S (fun vs H Q E h => by obtain ⟨a, v, rfl, _⟩ := h; rfl) fun A outer s H vs' Q E hr h => ?_
  obtain ⟨a, v, rfl, ea, hq⟩ := h
  rw [hbd]
  have hN : ∀ (i : Nat) (x : Str), (["self", prm] : List Str)[i]? = some x → (cxOf CX0 P w K mg base ["self", prm] qual (defScope st) fI cdv A outer s H E).N[i]? = some x := fun i x e => e
  obtain ⟨pl, hc⟩ := hev (cxOf CX0 P w K mg base ["self", prm] qual (defScope st) fI cdv A outer s H E).env
  refine ⟨_, pss_cons (ps_expr (pe_binit (C := C) F T hgb hm hB (pa_cons (pe_var (i := 0) (hN 0 "self" rfl) vs (by decide) (by decide)) (pa_cons pe_str pa_nil)) d3 hc (by rfl) (by rfl)) (by rfl))
    (pss_one (ps_made (C := C) F T hno (pe_var (i := 0) (hN 0 "self" rfl) vs (by decide) (by decide)) (pe_var (i := 1) (hN 1 prm rfl) vp d1 d2) (by rfl))), ?_⟩
  refine ⟨.ref a, rfl, ?_⟩
  refine ⟨a, [.str m], rfl, by simp, ea, ?_⟩
  exact ⟨v, rfl, .ref a, rfl, a, rfl, ea, hq⟩
section
variable {X : Cx} {x f : Str} {C fI : Addr} {k : Nat} {fd : FuncData} {ps : List Str} {e : Expr} {te : TE} {p pos : Pos} {Bn newId Bi initId : String} {tl : List Value}
end
end DN

/-! DNc: try with several clauses, each with a name or without. -/
namespace DN
open PySem PySem.Spec PyProof.Rows L2 DL PySem.DNX

abbrev TSx := Addr → Value → Option Addr → TS
inductive HdsA (X : Cx) : List ExceptHandler → List (Value × Option Nat × TSx) → Prop
  | nil : HdsA X [] []
  | bare {x : Str} {c : Value} {ts : TSx} {b₀ : Stmt} {suite : List Stmt} {np pos' : Pos} {hds : List ExceptHandler} {l : List (Value × Option Nat × TSx)} (hc : Names X x c)
      (hsu : ∀ (a : Addr) (oe : Obj) (cls : Value) (d : Option Addr) (pn : List (Addr × Obj)), L2N.Zn cls d oe → (∃ vs, oe.data = .fields vs) → PSs (X.suite a ((a, oe) :: pn)) (b₀ :: suite) (ts a cls d)) (r : HdsA X hds l) :
      HdsA X (.ExceptHandler (some (.Name x np)) none (b₀ :: suite) pos' :: hds) ((c, none, ts) :: l)
  | named {x n : Str} {i : Nat} {c : Value} {ts : TSx} {b₀ : Stmt} {suite : List Stmt} {np pos' : Pos} {hds : List ExceptHandler} {l : List (Value × Option Nat × TSx)} (hc : Names X x c) (hi : X.N[i]? = some n) (hln : X.env.kindOf n = some .local)
      (hsu : ∀ (a : Addr) (oe : Obj) (cls : Value) (d : Option Addr) (pn : List (Addr × Obj)), L2N.Zn cls d oe → (∃ vs, oe.data = .fields vs) → PSs (X.suite a ((a, oe) :: pn)) (b₀ :: suite) (ts a cls d)) (r : HdsA X hds l) :
      HdsA X (.ExceptHandler (some (.Name x np)) (some n) (b₀ :: suite) pos' :: hds) ((c, some i, ts) :: l)
section
variable {X : Cx} {body : List Stmt} {h₀ : ExceptHandler} {hds : List ExceptHandler} {l : List (Value × Option Nat × TSx)} {pos : Pos} {tb : WX → TS} {Wout : WX}
end
end DN

/-! DNd: raise, defs that raise, try, over data. -/
namespace DL
open PySem PySem.Spec PyProof.Rows L2 DN

/-! ### what raises nothing -/
def wNox {α : Type} (m : W α) : W α := fun μ Q _ => m μ Q (fun _ _ => False)
def eNox {α : Type} (m : Rho → W α) (ρ : Rho) : W α := wNox (m ρ)
theorem PS.nox {X : Cx} {st : Stmt} {t : TS} (h : PS X.nox st t) : PS X st t := ⟨fun pins s σ H D I hw =>
  wpAny_mono (h.run pins s σ H D (I.wish _) hw) (fun _ _ q => q.unwish) fun _ _ z => False.elim z⟩
section
variable {X : Cx} {Eh : Option EX}
end

/-! ### raise -/
def sRaise0 (n : Str) (ρ : Rho) : W Out := fun μ _ E => E ⟨n, []⟩ μ
def sRaise1 (n f : Str) (me : Rho → W D) (ρ : Rho) : W Out := W.bnd (me ρ) fun d μ _ E => E ⟨n, [(f, d)]⟩ μ
section
variable {X : Cx} {E : XK} {cn : Str → Option Value} {n f : Str} {C : Addr} {e e0 : Expr} {pos : Pos} {me : Rho → W D}
end

/-! ### defs that raise -/
def spX (K : PySem.W.Frag) (cn : Str → Option Value) (n : Nat) (m : List D → W D) : Sp := fun vs H Qh Eh => vs.length = n ∧ ∃ F ds μ Q ED, IsL K F vs ds ∧ Rep K F H μ ∧ Lnk K (some (.ex Eh cn)) F ED ∧ m ds μ Q ED ∧ Back K F (Is K) Q Qh
section
variable {P : Program} {w : World} {K : PySem.W.Frag} {mg : Str → Option Value} {base : Heap} {k : Nat}
end

/-! ### a call at the slots σ₀ -/
section
variable {X : Cx} {Eh : Option EX} {σ₀ : L2.St} {a b c e : Expr} {es : List Expr} {ma mb me : Rho → W D} {tc : Rho → W Bool} {ms : Rho → W (List D)} {pos : Pos}
end
section
variable {X : Cx} {σ₀ : L2.St} {E : XK} {k : Nat} {f : Addr} {fd : FuncData} {ps ks : List Str} {x : Str} {p pos : Pos} {e : Expr} {es : List Expr} {kws : List Keyword} {m : List D → W D} {n : Nat} {ms : Rho → W (List D)}
end
end DL

/-! DNe: try over data; isinstance of the exception that is held, its fields. -/
namespace DL
open PySem PySem.Spec PyProof.Rows L2 DN

/-- a clause: whose classes it takes, its name's slot, its suite -/
structure Hd where
  cm : Str → Bool
  i : Option Nat
  su : Addr → Ex → Rho → W Out
def setO (i : Option Nat) (a : Addr) (ρ : Rho) : Rho := match i with
  | none => ρ
  | some i => ρ.set i (some (.obj a))
def wipeO (i : Option Nat) (o : Out) : Out := match i with
  | none => o
  | some i => (match o with
    | .nx ρ => .nx (ρ.set i none)
    | .rt d => .rt d
    | .bk ρ => .bk (ρ.set i none)
    | .ct ρ => .ct (ρ.set i none))
def tryH : List Hd → Ex → Rho → W Out
  | [], x, _ => fun μ _ E => E x μ
  | h :: r, x, ρ => fun μ Q E => (h.cm x.cls = true → ∀ a, h.su a x (setO h.i a ρ) μ (fun o μ' => Q (wipeO h.i o) μ') (fun _ _ => False)) ∧ (h.cm x.cls = false → tryH r x ρ μ Q E)
def sTry (known : List Str) (mb : Rho → W Out) (hs : List Hd) (ρ : Rho) : W Out := fun μ Q E => mb ρ μ Q (fun x μ' => x.cls ∈ known ∧ tryH hs x ρ μ' Q E)

/-- an exception's dict stays from now on -/
theorem FsIs.hold {K : PySem.W.Frag} {F H : Hp} {μ : Mem} {fs : List (Str × D)} {od : Option Addr} (h : FsIs K F H fs od) (r : Rep K F H μ) : ∃ F', Same F F' ∧ Rep K F' H μ ∧ FsIs K F' F' fs od := by
  rcases h with h | ⟨a, kvs, h1, h2, h3, h4⟩
  · exact ⟨F, Same.refl F, r, .inl h⟩
  · cases e : F a with
    | some o =>
      have z := r.sub _ _ e
      rw [h2] at z
      cases z
      exact ⟨F, Same.refl F, r, .inr ⟨a, kvs, h1, e, h3, h4⟩⟩
    | none =>
      have s := same_new (o := .xd kvs) e
      refine ⟨upd F a (.xd kvs), s, ⟨fun b x q => ?_, fun b mo q => ?_⟩, .inr ⟨a, kvs, h1, upd_same, h3, h4.up s⟩⟩
      · by_cases hb : b = a
        · subst hb; rw [upd_same] at q; rw [h2]; exact q
        · rw [upd_ne hb] at q; exact r.sub _ _ q
      · obtain ⟨f, m⟩ := r.mem b mo q
        have nb : b ≠ a := by
          intro z
          subst z
          cases mo with
          | ml ds => obtain ⟨vs, z1, _⟩ := m; rw [h2] at z1; cases z1
          | md ds => obtain ⟨vs, z1, _⟩ := m; rw [h2] at z1; cases z1
          | mi C fs => obtain ⟨dx, vs, z1, _⟩ := m; rw [h2] at z1; cases z1
          | tb nm => obtain ⟨ps, z1, _⟩ := m; rw [h2] at z1; cases z1
          | st f => obtain ⟨o, e, z1⟩ := m; subst e; rw [h2] at z1; cases z1
        exact ⟨by rw [upd_ne nb]; exact f, m.up s⟩
/-- the suite's reading -/
def suT (K : PySem.W.Frag) (mg : Str → Option Value) (known : List Str) (su : Addr → Ex → Rho → W Out) : TSx := fun a cls d De σ H => ∃ x : Ex, x.cls ∈ known ∧ mg x.cls = some cls ∧ liftS K (some (.held d x.fs)) (su a x) De σ H
/-- the clauses as they are told by names -/
inductive HdsD (K : PySem.W.Frag) (mg : Str → Option Value) (known : List Str) : List (Value × Option Nat × TSx) → List Hd → Prop
  | nil : HdsD K mg known [] []
  | cons {c : Value} {i : Option Nat} {cm : Str → Bool} {su : Addr → Ex → Rho → W Out} {l : List (Value × Option Nat × TSx)} {hs : List Hd} (hc : ∀ n cv, n ∈ known → mg n = some cv → PySem.W.exmOne K cv c = some (cm n)) (r : HdsD K mg known l hs) :
      HdsD K mg known ((c, i, suT K mg known su) :: l) (⟨cm, i, su⟩ :: hs)
/-! ### the exception that is held -/
/-- what an own exception class must say, for isinstance of its instances and for their fields -/
structure XcC (K : PySem.W.Frag) (C : Addr) : Prop where
  cl : (PySem.W.clsIn K C).isSome = true
  ga : PySem.W.findIn K (.ref C) "__getattribute__" = some (some (.builtin "BaseException.__getattribute__"))
  gg : PySem.W.findIn K (.ref C) "__getattr__" = some none
  ex : PySem.W.subIn K (.ref C) (.type "BaseException") = some true
  hd : PySem.W.hasDictIn K C = true
  ca : PySem.W.findIn K (.ref C) "__class__" = some (some (.builtin "object.__class__"))
  cg : PySem.W.specialIn K (.builtin "object.__class__") "__get__" = some (some (.builtin "getset_descriptor.__get__"))
  ct : PySem.W.takesIn K (.builtin "object.__class__") = some true
  mo : PySem.W.mroIn K C (.type "object") = some true
def xcB (K : PySem.W.Frag) (C : Addr) : Bool := (PySem.W.clsIn K C).isSome && (decide (PySem.W.findIn K (.ref C) "__getattribute__" = some (some (.builtin "BaseException.__getattribute__"))) && (decide (PySem.W.findIn K (.ref C) "__getattr__" = some none) &&
  (decide (PySem.W.subIn K (.ref C) (.type "BaseException") = some true) && (PySem.W.hasDictIn K C && (decide (PySem.W.findIn K (.ref C) "__class__" = some (some (.builtin "object.__class__"))) &&
  (decide (PySem.W.specialIn K (.builtin "object.__class__") "__get__" = some (some (.builtin "getset_descriptor.__get__"))) && (decide (PySem.W.takesIn K (.builtin "object.__class__") = some true) && decide (PySem.W.mroIn K C (.type "object") = some true))))))))
theorem xcB_ok {K : PySem.W.Frag} {C : Addr} (h : xcB K C = true) : XcC K C := by
  obtain ⟨h1, h⟩ := Bool.and_eq_true_iff.mp h
  obtain ⟨h2, h⟩ := Bool.and_eq_true_iff.mp h
  obtain ⟨h3, h⟩ := Bool.and_eq_true_iff.mp h
  obtain ⟨h4, h⟩ := Bool.and_eq_true_iff.mp h
  obtain ⟨h5, h⟩ := Bool.and_eq_true_iff.mp h
  obtain ⟨h6, h⟩ := Bool.and_eq_true_iff.mp h
  obtain ⟨h7, h⟩ := Bool.and_eq_true_iff.mp h
  obtain ⟨h8, h9⟩ := Bool.and_eq_true_iff.mp h
  exact ⟨h1, of_decide_eq_true h2, of_decide_eq_true h3, of_decide_eq_true h4, h5, of_decide_eq_true h6, of_decide_eq_true h7, of_decide_eq_true h8, of_decide_eq_true h9⟩
theorem FsIs.at {K : PySem.W.Frag} {F H : Hp} {fs : List (Str × D)} {d : Option Addr} (h : FsIs K F F fs d) (s : Same F H) : d = none ∨ ∃ dd kvs, d = some dd ∧ H dd = some (.xd kvs) := by
  rcases h with h | ⟨a, kvs, h1, h2, _⟩
  · exact .inl h.1
  · exact .inr ⟨a, kvs, h1, s _ _ h2⟩
/-- the name of the exception that is held, asked for its class -/
def eIsX (i : Nat) (a : Addr) (b : Bool) (ρ : Rho) : W D := W.req (ρ[i]? = some (some (.obj a))) (W.ret (.bl b))
section
variable {X : Cx} {a : Addr} {oe : Obj} {cls : Value} {d : Option Addr} {pn : List (Addr × Obj)} {i : Nat} {nm cn : Str} {C2 : Addr} {fs : List (Str × D)} {b : Bool} {p p1 p2 p3 pos : Pos}
/-- a field of the exception that is held -/
def eXf (i : Nat) (a : Addr) (fs : List (Str × D)) (f : Str) (ρ : Rho) : W D := fun μ Q _ => ρ[i]? = some (some (.obj a)) ∧ ∃ d, fs.lookup f = some d ∧ Q d μ
theorem isL_lookup {K : PySem.W.Frag} {F : Hp} {f : Str} {dv : D} : ∀ {kvs : List (Str × V)} {fs : List (Str × D)}, kvs.map (·.1) = fs.map (·.1) → IsL K F (kvs.map (·.2)) (fs.map (·.2)) → fs.lookup f = some dv → ∃ v, kvs.lookup f = some v ∧ Is K F v dv
  | [], [], _, _, h => by cases h
  | (k, v) :: r, (k', d') :: r', e, .cons hv hr, h => by
    obtain ⟨e1, e2⟩ := List.cons.inj e
    have e1' : k = k' := e1
    subst e1'
    by_cases hk : (f == k) = true
    · rw [List.lookup_cons, hk] at h
      cases h
      exact ⟨v, by rw [List.lookup_cons, hk], hv⟩
    · have hk' : (f == k) = false := by simpa using hk
      rw [List.lookup_cons, hk'] at h
      obtain ⟨v2, h2, i2⟩ := isL_lookup e2 hr h
      exact ⟨v2, by rw [List.lookup_cons, hk']; exact h2, i2⟩
end
def clsStmt (s : Stmt) (j : Nat) : Stmt := match s with
  | .ClassDef _ _ _ b _ _ _ _ _ _ _ => b.getD j (.Pass ⟨0, 0, 0, 0⟩)
  | _ => s
theorem Fun.binds {K : PySem.W.Frag} {x qual : Str} {st : Stmt} {f : Addr} {fd : FuncData} {ps : List Str} (Fn : Fun K x qual st f fd)
    (h : ∀ (kV doc pm : Value) (an : Option Addr) (cdv ct : Value) (us : List Value), us.length = ps.length → bindArgs (PySem.W.fnOf x qual (defArgs st) (defBody st) (defScope st) .none kV doc pm an cdv ct) ⟨us, []⟩ = pure (ps.zip us)) : Binds K fd ps [] := by
  obtain ⟨oc, od, kV, doc, pm, an, cdv, ct, osl, rfl, lk, hcd⟩ := Fn.ex
  exact Binds.all (h kV doc pm an cdv ct)
end DL

/-! DNf: y = {k: v for ..}, y a plain local name. -/
namespace DL
open PySem PySem.Spec PyProof.Rows L2 DN
section
variable {X : Cx}
end
section
variable {X : Cx} {kx vx tg iter : Expr} {ifs : List Expr} {scope : Scope} {own : List (Str × Nat)} {ts : List Nat} {pos : Pos} {mi : Rho → W ItD} {g : D → Rho → W Rho} {tt : Rho → W Bool} {tk tv : Rho → W D}
end
end DL

/-! DNg: steps of raise and try; memory that grows; comprehensions whose tests make new objects. -/
namespace DL
open PySem PySem.Spec PyProof.Rows L2 DN

section
variable {α : Type} {ρ : Rho} {μ : Mem} {E : XD}
theorem x_nox {m : Rho → W α} {Q : α → Mem → Prop} : eNox m ρ μ Q E = m ρ μ Q (fun _ _ => False) := propext ⟨fun h => h, fun h => h⟩
theorem x_raise0 {n : Str} {Q : Out → Mem → Prop} : sRaise0 n ρ μ Q E = E ⟨n, []⟩ μ := propext ⟨fun h => h, fun h => h⟩
theorem x_raise1 {n f : Str} {me : Rho → W D} {Q : Out → Mem → Prop} : sRaise1 n f me ρ μ Q E = me ρ μ (fun d μ1 => E ⟨n, [(f, d)]⟩ μ1) E := propext ⟨fun h => h, fun h => h⟩
theorem x_try {known : List Str} {mb : Rho → W Out} {hs : List Hd} {Q : Out → Mem → Prop} : sTry known mb hs ρ μ Q E = mb ρ μ Q (fun x μ' => x.cls ∈ known ∧ tryH hs x ρ μ' Q E) := propext ⟨fun h => h, fun h => h⟩
theorem x_isX {i : Nat} {a : Addr} {b : Bool} {Q : D → Mem → Prop} : eIsX i a b ρ μ Q E = (ρ[i]? = some (some (.obj a)) ∧ Q (.bl b) μ) := propext ⟨fun h => h, fun h => h⟩
theorem x_xf {i : Nat} {a : Addr} {f : Str} {fs : List (Str × D)} {Q : D → Mem → Prop} : eXf i a fs f ρ μ Q E = (ρ[i]? = some (some (.obj a)) ∧ ∃ d, fs.lookup f = some d ∧ Q d μ) := propext ⟨fun h => h, fun h => h⟩
end

theorem x_inDS {f : Bool → Bool} {kvs : List (Key × D)} {s : Str} {μ : Mem} {Q : D → Mem → Prop} {E : XD} : inW f (.str s) (.dct kvs) μ Q E = Q (.bl (f (valD kvs (.inr s)).isSome)) μ := propext ⟨fun h => h, fun h => h⟩
theorem x_inDI {f : Bool → Bool} {kvs : List (Key × D)} {s : Int} {μ : Mem} {Q : D → Mem → Prop} {E : XD} : inW f (.int s) (.dct kvs) μ Q E = Q (.bl (f (valD kvs (.inl s)).isSome)) μ := propext ⟨fun h => h, fun h => h⟩
theorem dec_cons {a : D} {r : List D} : decide (a :: r = []) = false := decide_eq_false (fun h => nomatch h)
/-! ### memory that grows -/
def Ext (μ μ' : Mem) : Prop := ∀ b mo, μ b = some mo → μ' b = some mo
section
variable {μ μ' μ'' : Mem} {p : Addr} {o : MO}
theorem Ext.refl (μ : Mem) : Ext μ μ := fun _ _ h => h
theorem Ext.trans (h : Ext μ μ') (k : Ext μ' μ'') : Ext μ μ'' := fun b mo e => k b mo (h b mo e)
theorem Ext.free (h : Ext μ μ') (hp : μ' p = none) : μ p = none := by
  cases e : μ p with
  | none => rfl
  | some mo => rw [h p mo e] at hp; cases hp
theorem Ext.put (h : Ext μ μ') (hp : μ p = none) : Ext μ (DL.put μ' p o) := fun b mo e => by
  rw [put_ne (by intro z; rw [z, hp] at e; cases e)]
  exact h b mo e
theorem Ext.new (h : Ext μ μ') (hp : μ' p = none) : Ext μ (DL.put μ' p o) := h.put (h.free hp)
theorem Ext.del (h : Ext μ μ') (hp : μ p = none) : Ext μ (DL.del μ' p) := fun b mo e => by
  unfold DL.del
  rw [if_neg (by intro z; rw [z, hp] at e; cases e)]
  exact h b mo e
theorem Dk.ext {sh : Addr → Int → Int → MO} {a c : Addr} {t : Int} (h : Dk sh μ a c t) (k : Ext μ μ') : Dk sh μ' a c t := by
  obtain ⟨n, ⟨s, u, h1, h2⟩, ns, h3, h4⟩ := h
  exact ⟨n, ⟨s, u, k _ _ h1, h2⟩, ns, k _ _ h3, h4⟩
theorem DF.ext {sh : Addr → Int → Int → MO} {μ0 : Mem} {a c : Addr} {t : Int} (h : DF sh μ0 a c t μ) (k : Ext μ μ') : DF sh μ0 a c t μ' := ⟨h.dk.ext k, fun b mo h1 h2 e => k b mo (h.fr b mo h1 h2 e)⟩
end
/-- repr of a tuple of anything -/
theorem An.repr {s k Z : Nat} {ds : List D} {μ : Mem} {Q : D → Mem → Prop} {E : XD} (h : An s k Z (.tup ds)) (hs : s ≤ 10) (hk : k ≤ 50) (hz : Z ≤ 10000000) (q : Q (.str (tupleText (PyData.shownAll (toPyGs ds)))) μ) : reprGD [.tup ds] μ Q E := by
  obtain ⟨h1, h2, h3, h4⟩ := okxL_py hs (ds := ds) h.ok
  have l := tupleText_le (PyData.shownAll (toPyGs ds))
  have a1 : dsxL ds + 3 ≤ Z := h.sz
  have a2 : dptL ds + 1 ≤ k := h.dp
  show W.opt (pyGs ds) μ (fun ps μ' => (PyData.showableAll ps = true ∧ PyData.depthAll ps ≤ 60 ∧ (tupleText (PyData.shownAll ps)).length ≤ sizeLine) ∧ Q (.str (tupleText (PyData.shownAll ps))) μ') E
  rw [h1]
  exact ⟨⟨h2, by omega, by rw [sz_eq]; omega⟩, q⟩
def cntK (S : Key → Bool) : List Key → Nat
  | [] => 0
  | k :: r => (if S k = true then 0 else 1) + cntK (fun j => S j || decide (j = k)) r
end DL

/-! DPa: own classes: instances made, their fields read and stored, their methods called; calls that may raise within defs that may raise. -/
namespace DL
open PySem PySem.Spec PyProof.Rows L2 DN

/-- where the program's classes lie -/
class CA where
  at_ : Nat → Addr
def putFD (f : Str) (v : D) : List (Str × D) → List (Str × D)
  | [] => [(f, v)]
  | (g, x) :: r => if g = f then (g, v) :: r else (g, x) :: putFD f v r
/-! ### fields -/
def fldD (C : Addr) (f : Str) (x : D) : W D := match x with
  | .obj p => fun μ Q _ => ∃ fs v, μ p = some (.mi C fs) ∧ fs.lookup f = some v ∧ Q v μ
  | _ => W.bad
def eFld (C : Addr) (f : Str) (mo : Rho → W D) (ρ : Rho) : W D := W.bnd (mo ρ) (fldD C f)
section
variable {X : Cx} {Eh : Option EX} {o e value : Expr} {f m : Str} {C : Addr} {pos pos' tpos apos : Pos} {mo mv : Rho → W D}
/-- o.f = value -/
def stD (C : Addr) (f : Str) (v x : D) : W Unit := match x with
  | .obj p => fun μ Q _ => ∃ fs, μ p = some (.mi C fs) ∧ fs.length < 1000 ∧ Q () (put μ p (.mi C (putFD f v fs)))
  | _ => W.bad
def sFld (C : Addr) (f : Str) (mo mv : Rho → W D) (ρ : Rho) : W Out := W.bnd (mv ρ) fun v => W.bnd (mo ρ) fun x => W.bnd (stD C f v x) fun _ => W.ret (.nx ρ)
/-- o.f += value, whole numbers -/
def augI (C : Addr) (f : Str) (g : Int → Int → Int) (x : D) (mv : W D) : W Unit := match x with
  | .obj p => fun μ Q E => ∃ fs i, μ p = some (.mi C fs) ∧ fs.lookup f = some (.int i) ∧ mv μ (fun y μ2 => ∃ j fs2, y = .int j ∧ μ2 p = some (.mi C fs2) ∧ fs2.length < 1000 ∧ Q () (put μ2 p (.mi C (putFD f (.int (g i j)) fs2)))) E
  | _ => W.bad
def sAugI (C : Addr) (f : Str) (g : Int → Int → Int) (mo mv : Rho → W D) (ρ : Rho) : W Out := W.bnd (mo ρ) fun x => W.bnd (augI C f g x (mv ρ)) fun _ => W.ret (.nx ρ)
end
/-! ### methods -/
def methD (C : Addr) (mn : Str) (x : D) (k : D → W D) : W D := match x with
  | .obj p => fun μ Q E => (∃ fs, μ p = some (.mi C fs) ∧ fs.lookup mn = none) ∧ k (.obj p) μ Q E
  | _ => W.bad
/-- o.m(..), n parameters with self -/
def eMethC (C : Addr) (mn : Str) (n : Nat) (g : List D → W D) (mo : Rho → W D) (ms : Rho → W (List D)) (ρ : Rho) : W D := W.bnd (mo ρ) fun x => methD C mn x fun x => W.bnd (ms ρ) fun ds => W.req ((x :: ds).length = n) (g (x :: ds))
/-- C(..) -/
def eMake (C : Addr) (n : Nat) (g : List D → W D) (ms : Rho → W (List D)) (ρ : Rho) : W D := W.bnd (ms ρ) fun ds => fun μ Q E => (ds.length + 1 = n) ∧ ∀ p, μ p = none → g (.obj p :: ds) (put μ p (.mi C [])) (fun d μ' => d = .non ∧ Q (.obj p) μ') E
section
variable {X : Cx} {CX : CXT} {k : Nat} {f C : Addr} {fd : FuncData} {ps : List Str} {sp : Sp} {E : XK} {x m : Str} {p pos apos : Pos} {e o : Expr} {es : List Expr} {ta : TE} {t : TA}
end
section
variable {X : Cx} {k : Nat} {f C : Addr} {fd : FuncData} {ps : List Str} {x mn : Str} {p pos apos : Pos} {e o : Expr} {es : List Expr} {g : List D → W D} {n : Nat} {mo : Rho → W D} {ms : Rho → W (List D)} {E : XK}
end
end DL

/-! DPb: del xs[i], xs.index(text), defs that let nothing out, the steps of own classes. -/
namespace DL
open PySem PySem.Spec PyProof.Rows L2 DN

/-! ### a, b, .. = a list -/
def gTpL (n : Nat) (gs : List D → Rho → W Rho) (d : D) (ρ : Rho) : W Rho := match d with
  | .lst ds => W.req (ds.length = n) (gs ds ρ)
  | _ => W.bad
theorem x_gtL {μ : Mem} {E : XD} {ρ : Rho} {Q : Rho → Mem → Prop} {n : Nat} {ds : List D} {gs : List D → Rho → W Rho} : (gTpL n gs (.lst ds) ρ μ Q E) = (ds.length = n ∧ gs ds ρ μ Q E) := propext ⟨fun h => h, fun h => h⟩
section
variable {X : Cx} {Eh : Option EX} {pos : Pos}
theorem dg_unl {es : List Expr} {k : Nat} {ts : List Nat} {gs : List D → Rho → W Rho} {n : Nat} (hc : X.calm = true) (h : DGs X Eh es ts gs)
    (hn : (assignEach es X.env).length = n) (hst : (assignEach es X.env).findIdx? (·.1) = none) : DG X Eh (.Tuple es k pos) ts (gTpL n gs) := by
  refine PG.imp (pg_lst hc h hn hst) fun v σ H Qh ⟨F, ρ, μ, d, Q, ED, env, rep, lnk, iv, hm, bk⟩ => ?_
  cases iv with
  | lst hs hl => exact ⟨_, _, rfl, sql_up rep.sub hs, by rw [hl.length]; exact hm.1, F, ρ, μ, _, Q, ED, env, rep, lnk, hl, hm.2, bk⟩
  | _ => exact hm.elim
end
/-! ### del xs[i] -/
def delD (o i : D) : W Unit := match o, i with
  | .obj p, .int k => fun μ Q _ => ∃ ds j, μ p = some (.ml ds) ∧ (-(2 ^ 62) ≤ k ∧ k < 2 ^ 62) ∧ seqIndex? k ds.length = some j ∧ Q () (put μ p (.ml (ds.eraseIdx j)))
  | _, _ => W.bad
def sDel (mo mi : Rho → W D) (ρ : Rho) : W Out := W.bnd (mo ρ) fun o => W.bnd (mi ρ) fun i => W.bnd (delD o i) fun _ => W.ret (.nx ρ)
section
variable {X : Cx} {Eh : Option EX} {o i : Expr} {tpos pos : Pos} {mo mi : Rho → W D}
end
/-! ### xs.index(text) -/
theorem strs_map (ss : List Str) : strsOf (ss.map .str) = some ss := by
  induction ss with
  | nil => rfl
  | cons s r ih =>
    show (strsOf (r.map D.str)).map (s :: ·) = _
    rw [ih]
    rfl
def indexTD (o : D) : List D → W D
  | [.str k] => W.bnd W.get fun μ => W.bnd (W.opt (lsOf o μ)) fun ds => W.bnd (W.opt (strsOf ds)) fun ns => W.req (k ∈ ns) (W.ret (.int (ns.idxOf k : Nat)))
  | _ => W.bad
theorem x_idxT {ns : List Str} {k : Str} {μ : Mem} {Q : D → Mem → Prop} {E : XD} : indexTD (.lst (ns.map .str)) [.str k] μ Q E = (k ∈ ns ∧ Q (.int (ns.idxOf k : Nat)) μ) := by
  show W.bnd (W.opt (strsOf (ns.map D.str))) _ μ Q E = _
  rw [strs_map]
  rfl
/-! ### x is True, x a truth -/
def isBD (f : Bool → Bool) : D → D → W D
  | .bl a, .bl b => W.ret (.bl (f (decide (a = b))))
  | _, _ => W.bad
theorem x_isB {f : Bool → Bool} {a b : Bool} {μ : Mem} {Q : D → Mem → Prop} {E : XD} : isBD f (.bl a) (.bl b) μ Q E = Q (.bl (f (decide (a = b)))) μ := propext ⟨fun h => h, fun h => h⟩
/-! ### defs that let nothing out here -/
section
variable {P : Program} {w : World} {K : PySem.W.Frag} {mg : Str → Option Value} {base : Heap} {k : Nat} {f : Addr} {fd : FuncData} {ps : List Str} {n : Nat} {m M : List D → W D}
theorem FnG.calm (h : FnG P w K mg base (L2N.CX P w) k f fd ps (spX K mg n m)) : FnG P w K mg base CX0 k f fd ps (spD K n m) := by
  have conv : ∀ vs H Q E, spD K n m vs H Q E → spX K mg n m vs H Q (fun _ _ _ => False) := fun vs H Q E ⟨hl, F, ds, μ, Q', ED, il, rep, nox, hm, bk⟩ =>
    ⟨hl, F, ds, μ, Q', ED, il, rep, fun F' H' μ' x _ _ q _ _ _ => nox x μ' q, hm, bk⟩
  refine ⟨fun vs H Q E q => h.len vs H Q _ (conv vs H Q E q), fun A outer s H args us vs Q E a b c d e q => ?_⟩
  refine codeAny_mono (h.go A outer s H args us vs Q _ a b c d e (conv vs H Q E q)) fun r s' hq => ?_
  cases r with
  | error e =>
    obtain ⟨_, _, _, _, _, _, _, _, _, _, _, _, z⟩ := (show L2N.CX P w outer H s (fun _ _ _ => False) e s' from hq)
    exact z.elim
  | ok fl =>
    cases fl with
    | ret u => exact hq
    | _ => exact False.elim hq
theorem FnG.less {CX : CXT} (h : FnG P w K mg base CX k f fd ps (spD K n m)) (i : ∀ ds μ Q E, M ds μ Q E → m ds μ Q E) : FnG P w K mg base CX k f fd ps (spD K n M) := by
  have conv : ∀ vs H Q E, spD K n M vs H Q E → spD K n m vs H Q E := fun vs H Q E ⟨hl, F, ds, μ, Q', ED, il, rep, nox, hm, bk⟩ => ⟨hl, F, ds, μ, Q', ED, il, rep, nox, i _ _ _ _ hm, bk⟩
  exact ⟨fun vs H Q E q => h.len vs H Q E (conv vs H Q E q), fun A outer s H args us vs Q E a b c d e q => h.go A outer s H args us vs Q E a b c d e (conv vs H Q E q)⟩
end
/-! ### the steps -/
def onMi (o : Option MO) (C : Addr) (g : List (Str × D) → Prop) : Prop := match o with
  | some (.mi C' fs) => C' = C ∧ g fs
  | _ => False
theorem onMi_mi {C C' : Addr} {fs : List (Str × D)} {g : List (Str × D) → Prop} : onMi (some (.mi C' fs)) C g = (C' = C ∧ g fs) := propext ⟨fun h => h, fun h => h⟩
def onSm (o : Option D) (g : D → Prop) : Prop := match o with
  | some v => g v
  | none => False
theorem onSm_some {v : D} {g : D → Prop} : onSm (some v) g = g v := propext ⟨fun h => h, fun h => h⟩
theorem lk_cons {f g : Str} {v : D} {r : List (Str × D)} : ((g, v) :: r).lookup f = if (f == g) = true then some v else r.lookup f := by
  rw [List.lookup_cons]
  cases f == g <;> rfl
theorem lk_nil {f : Str} : ([] : List (Str × D)).lookup f = none := rfl
theorem put_nil {f : Str} {v : D} : putFD f v [] = [(f, v)] := rfl
theorem put_cons {f g : Str} {v x : D} {r : List (Str × D)} : putFD f v ((g, x) :: r) = if (g == f) = true then (g, v) :: r else (g, x) :: putFD f v r := by
  show (if g = f then _ else _) = _
  by_cases h : g = f
  · subst h
    rw [if_pos rfl, if_pos (beq_self_eq_true g)]
  · rw [if_neg h, if_neg (by rw [beq_eq_false_iff_ne.mpr h]; decide)]
section
variable {C p : Addr} {f mn : Str} {ρ : Rho} {μ : Mem} {E : XD} {mo mv mi : Rho → W D} {ms : Rho → W (List D)} {n : Nat} {g : List D → W D}
theorem x_fld {Q : D → Mem → Prop} : eFld C f mo ρ μ Q E = mo ρ μ (fun d μ1 => fldD C f d μ1 Q E) E := propext ⟨fun h => h, fun h => h⟩
theorem x_fldO {Q : D → Mem → Prop} : fldD C f (.obj p) μ Q E = onMi (μ p) C fun fs => onSm (fs.lookup f) fun v => Q v μ := by
  refine propext ⟨fun ⟨fs, v, h1, h2, q⟩ => ?_, fun h => ?_⟩
  · rw [h1, onMi_mi, h2, onSm_some]
    exact ⟨rfl, q⟩
  · unfold onMi at h
    split at h
    · rename_i C' fs e
      obtain ⟨rfl, h⟩ := h
      unfold onSm at h
      split at h
      · rename_i v e2
        exact ⟨fs, v, e, e2, h⟩
      · exact h.elim
    · exact h.elim
theorem x_sfld {Q : Out → Mem → Prop} : DL.sFld C f mo mv ρ μ Q E = mv ρ μ (fun v μ1 => mo ρ μ1 (fun x μ2 => stD C f v x μ2 (fun _ μ3 => Q (.nx ρ) μ3) E) E) E := propext ⟨fun h => h, fun h => h⟩
theorem x_stO {v : D} {Q : Unit → Mem → Prop} : stD C f v (.obj p) μ Q E = onMi (μ p) C fun fs => (fs.length < 1000 ∧ Q () (put μ p (.mi C (putFD f v fs)))) := by
  refine propext ⟨fun ⟨fs, h1, h2, q⟩ => ?_, fun h => ?_⟩
  · rw [h1, onMi_mi]
    exact ⟨rfl, h2, q⟩
  · unfold onMi at h
    split at h
    · rename_i C' fs e
      obtain ⟨rfl, h2, q⟩ := h
      exact ⟨fs, e, h2, q⟩
    · exact h.elim
theorem x_aug {op : Int → Int → Int} {Q : Out → Mem → Prop} : sAugI C f op mo mv ρ μ Q E = mo ρ μ (fun x μ1 => augI C f op x (mv ρ) μ1 (fun _ μ2 => Q (.nx ρ) μ2) E) E := propext ⟨fun h => h, fun h => h⟩
theorem x_augO {op : Int → Int → Int} {m : W D} {Q : Unit → Mem → Prop} : augI C f op (.obj p) m μ Q E = onMi (μ p) C fun fs => onSm (fs.lookup f) fun v => onI v fun i => m μ (fun y μ2 => onI y fun j => onMi (μ2 p) C fun fs2 => (fs2.length < 1000 ∧ Q () (put μ2 p (.mi C (putFD f (.int (op i j)) fs2))))) E := by
  have key : ∀ i : Int, (fun (y : D) (μ2 : Mem) => ∃ j fs2, y = .int j ∧ μ2 p = some (.mi C fs2) ∧ fs2.length < 1000 ∧ Q () (put μ2 p (.mi C (putFD f (.int (op i j)) fs2)))) = (fun y μ2 => onI y fun j => onMi (μ2 p) C fun fs2 => (fs2.length < 1000 ∧ Q () (put μ2 p (.mi C (putFD f (.int (op i j)) fs2))))) := fun i => by
    funext y μ2
    refine propext ⟨fun ⟨j, fs2, h1, h2, h3, q⟩ => ?_, fun h => ?_⟩
    · subst h1
      rw [onI_int, h2, onMi_mi]
      exact ⟨rfl, h3, q⟩
    · unfold onI at h
      split at h
      · unfold onMi at h
        split at h
        · rename_i e
          obtain ⟨rfl, h2, q⟩ := h
          exact ⟨_, _, rfl, e, h2, q⟩
        · exact h.elim
      · exact h.elim
  refine propext ⟨fun ⟨fs, i, h1, h2, q⟩ => ?_, fun h => ?_⟩
  · rw [h1, onMi_mi, h2, onSm_some, onI_int]
    rw [key i] at q
    exact ⟨rfl, q⟩
  · unfold onMi at h
    split at h
    · rename_i C' fs e
      obtain ⟨rfl, h⟩ := h
      unfold onSm at h
      split at h
      · rename_i v e2
        unfold onI at h
        split at h
        · rename_i i
          refine ⟨fs, i, e, e2, ?_⟩
          rw [key i]
          exact h
        · exact h.elim
      · exact h.elim
    · exact h.elim
theorem x_methC {Q : D → Mem → Prop} : eMethC C mn n g mo ms ρ μ Q E = mo ρ μ (fun x μ1 => methD C mn x (fun x => W.bnd (ms ρ) fun ds => W.req ((x :: ds).length = n) (g (x :: ds))) μ1 Q E) E := propext ⟨fun h => h, fun h => h⟩
theorem x_methO {k : D → W D} {Q : D → Mem → Prop} : methD C mn (.obj p) k μ Q E = ((onMi (μ p) C fun fs => fs.lookup mn = none) ∧ k (.obj p) μ Q E) := by
  refine propext ⟨fun ⟨⟨fs, h1, h2⟩, q⟩ => ?_, fun ⟨h, q⟩ => ?_⟩
  · refine ⟨?_, q⟩
    rw [h1, onMi_mi]
    exact ⟨rfl, h2⟩
  · unfold onMi at h
    split at h
    · rename_i C' fs e
      obtain ⟨rfl, h⟩ := h
      exact ⟨⟨fs, e, h⟩, q⟩
    · exact h.elim
theorem x_make {Q : D → Mem → Prop} : eMake C n g ms ρ μ Q E = ms ρ μ (fun ds μ1 => (ds.length + 1 = n ∧ ∀ p, μ1 p = none → g (.obj p :: ds) (put μ1 p (.mi C [])) (fun d μ' => d = .non ∧ Q (.obj p) μ') E)) E := propext ⟨fun h => h, fun h => h⟩
theorem x_del {Q : Out → Mem → Prop} : sDel mo mi ρ μ Q E = mo ρ μ (fun o μ1 => mi ρ μ1 (fun i μ2 => delD o i μ2 (fun _ μ3 => Q (.nx ρ) μ3) E) E) E := propext ⟨fun h => h, fun h => h⟩
theorem x_delO {k : Int} {Q : Unit → Mem → Prop} : delD (.obj p) (.int k) μ Q E = onL (μ p) fun ds => ((-(2 ^ 62) ≤ k ∧ k < 2 ^ 62) ∧ ∃ j, seqIndex? k ds.length = some j ∧ Q () (put μ p (.ml (ds.eraseIdx j)))) := by
  refine propext ⟨fun ⟨ds, j, h1, h2, h3, q⟩ => ?_, fun h => ?_⟩
  · rw [h1, onL_ml]
    exact ⟨h2, j, h3, q⟩
  · unfold onL at h
    split at h
    · rename_i ds e
      obtain ⟨h2, j, h3, q⟩ := h
      exact ⟨ds, j, e, h2, h3, q⟩
    · exact h.elim
end
end DL

/-! DPc: defs as values: a local name that holds one is called; sorted of texts. -/
namespace DL
open PySem PySem.Spec PyProof.Rows L2 DN

/-! ### a local name that holds a def -/
section
variable {X : Cx} {i n : Nat} {x : Str} {p pos : Pos} {e : Expr} {es : List Expr} {t : TA} {ms : Rho → W (List D)} {tb : List (Addr × (List D → W D))}
end
/-! ### sorted of texts -/
def sortedSD : List D → W D
  | [x] => W.bnd W.get fun μ => W.bnd (W.opt (lsOf x μ)) fun ds => W.bnd (W.opt (strsOf ds)) fun ns => W.req (ns.length < 64) fun μ' Q _ => ∀ ys : List Str, ys.Perm ns → sortedS ys = true → Q (.lst (ys.map .str)) μ'
  | _ => W.bad
theorem x_sortS {xs : List Str} {μ : Mem} {Q : D → Mem → Prop} {E : XD} : sortedSD [.lst (xs.map .str)] μ Q E = (xs.length < 64 ∧ ∀ ys : List Str, ys.Perm xs → sortedS ys = true → Q (.lst (ys.map .str)) μ) := by
  show W.bnd (W.opt (strsOf (xs.map D.str))) _ μ Q E = _
  rw [strs_map]
  rfl
/-! ### xs.extend(ys) -/
def extendD (o : D) : List D → W D
  | [x] => W.bnd W.get fun μ => W.bnd (W.opt (mlOf o μ)) fun p => W.bnd (W.opt (lsOf x μ)) fun ds => W.req (p.2.length + ds.length ≤ sizeLine) (W.setL p.1 (p.2 ++ ds) (W.ret .non))
  | _ => W.bad
theorem x_extO {a : Addr} {xs : List D} {μ : Mem} {Q : D → Mem → Prop} {E : XD} : extendD (.obj a) [.lst xs] μ Q E = onL (μ a) fun ds => (ds.length + xs.length ≤ sizeLine ∧ Q .non (put μ a (.ml (ds ++ xs)))) := by
  show W.bnd (W.opt (mlOf (.obj a) μ)) _ μ Q E = _
  unfold mlOf onL
  dsimp only
  cases μ a with
  | none => rfl
  | some mo => cases mo <;> rfl
end DL

/-! DPd: a, *b, c = t. -/
namespace DL
open PySem PySem.Spec PyProof.Rows L2 DN

section
variable {X : Cx} {Eh : Option EX} {pos : Pos}
/-- the star's rest is a list that stays -/
def gStM (i k : Nat) (gs : List D → Rho → W Rho) (d : D) (ρ : Rho) : W Rho := match d with
  | .tup ds => W.req (i + k ≤ ds.length) (gs (ds.take i ++ [.lst ((ds.drop i).take (ds.length - i - k))] ++ ds.drop (ds.length - k)) ρ)
  | _ => W.bad
end
theorem x_gstM {ρ : Rho} {μ : Mem} {E : XD} {i k : Nat} {ds : List D} {gs : List D → Rho → W Rho} {Q : Rho → Mem → Prop} : gStM i k gs (.tup ds) ρ μ Q E = (i + k ≤ ds.length ∧ gs (ds.take i ++ [.lst ((ds.drop i).take (ds.length - i - k))] ++ ds.drop (ds.length - k)) ρ μ Q E) := propext ⟨fun h => h, fun h => h⟩
/-! ### a list that will not change any more -/
def frzD (d : D) : W D := match d with
  | .obj p => fun μ Q _ => ∃ ds, μ p = some (.ml ds) ∧ Q (.lst ds) (del μ p)
  | d => W.ret d
def eFrz (m : Rho → W D) (ρ : Rho) : W D := W.bnd (m ρ) frzD
section
variable {m : Rho → W D} {ρ : Rho} {μ : Mem} {Q : D → Mem → Prop} {E : XD} {p : Addr}
theorem x_frz : eFrz m ρ μ Q E = m ρ μ (fun d μ1 => frzD d μ1 Q E) E := propext ⟨fun h => h, fun h => h⟩
theorem x_frzO : frzD (.obj p) μ Q E = onL (μ p) fun ds => Q (.lst ds) (del μ p) := by
  refine propext ⟨fun ⟨ds, h1, q⟩ => ?_, fun h => ?_⟩
  · rw [h1, onL_ml]
    exact q
  · unfold onL at h
    split at h
    · rename_i ds e
      exact ⟨ds, e, h⟩
    · exact h.elim
end
end DL

/-! DPe: a, *b, c = a list. -/
namespace DL
open PySem PySem.Spec PyProof.Rows L2 DN

section
variable {X : Cx} {Eh : Option EX} {pos : Pos}
/-- a tuple or a list; the star's rest is a list that stays -/
def gStA (i k : Nat) (gs : List D → Rho → W Rho) (d : D) (ρ : Rho) : W Rho := match d with
  | .tup ds => W.req (i + k ≤ ds.length) (gs (ds.take i ++ [.lst ((ds.drop i).take (ds.length - i - k))] ++ ds.drop (ds.length - k)) ρ)
  | .lst ds => W.req (i + k ≤ ds.length) (gs (ds.take i ++ [.lst ((ds.drop i).take (ds.length - i - k))] ++ ds.drop (ds.length - k)) ρ)
  | _ => W.bad
end
theorem x_gstA {ρ : Rho} {μ : Mem} {E : XD} {i k : Nat} {ds : List D} {gs : List D → Rho → W Rho} {Q : Rho → Mem → Prop} : gStA i k gs (.lst ds) ρ μ Q E = (i + k ≤ ds.length ∧ gs (ds.take i ++ [.lst ((ds.drop i).take (ds.length - i - k))] ++ ds.drop (ds.length - k)) ρ μ Q E) := propext ⟨fun h => h, fun h => h⟩
theorem x_gstT {ρ : Rho} {μ : Mem} {E : XD} {i k : Nat} {ds : List D} {gs : List D → Rho → W Rho} {Q : Rho → Mem → Prop} : gStA i k gs (.tup ds) ρ μ Q E = (i + k ≤ ds.length ∧ gs (ds.take i ++ [.lst ((ds.drop i).take (ds.length - i - k))] ++ ds.drop (ds.length - k)) ρ μ Q E) := propext ⟨fun h => h, fun h => h⟩
end DL

/-! DPf: a base's __init__ called by its name, methods with keywords, defaults that are None, len of an instance. -/
namespace DL
open PySem PySem.Spec PyProof.Rows L2 DN

/-! ### B.m(..), B an own class -/
structure SupC (K : PySem.W.Frag) (CB : Addr) (mn : Str) (f : Addr) : Prop where
  reads : PySem.W.readsIn K CB (.type "type") = true
  ga : PySem.W.specialIn K (.ref CB) "__getattribute__" = some (some (.builtin "type.__getattribute__"))
  find : PySem.W.findCls K (.ref CB) (.type "type") mn = some (.val (.ref f))
  hand : PySem.W.handedIn (.ref f) = true
section
variable {X : Cx} {CX : CXT} {k n : Nat} {f C CB : Addr} {fd : FuncData} {ps ks : List Str} {sp : Sp} {E : XK} {bn x mn : Str} {p p1 p2 pos apos : Pos} {e o : Expr} {es : List Expr} {kws : List Keyword} {ta : TE} {t tk : TA} {g : List Value → List Value → List Value} {gV : List V → List V → List V} {m : List D → W D} {ms : Rho → W (List D)} {mo : Rho → W D}
/-! ### methods by keywords, by defaults -/
/-- self, then the keywords' values -/
def gKm {α : Type} (is : List Nat) (us ws : List α) : List α := match us with
  | [u] => u :: pick is ws
  | _ => []
/-- o.m(), the parameters behind self are j Nones -/
def eMethN (C : Addr) (mn : Str) (n j : Nat) (g : List D → W D) (mo : Rho → W D) (ρ : Rho) : W D := W.bnd (mo ρ) fun x => methD C mn x fun x => W.req (1 + j = n) (g (x :: List.replicate j .non))
def eMethK (C : Addr) (mn : Str) (is : List Nat) (n : Nat) (g : List D → W D) (mo : Rho → W D) (ms : Rho → W (List D)) (ρ : Rho) : W D := W.bnd (mo ρ) fun x => methD C mn x fun x => W.bnd (ms ρ) fun ds => W.req ((x :: pick is ds).length = n) (g (x :: pick is ds))
theorem Fun.kkwM {K : PySem.W.Frag} {x qual : Str} {st : Stmt} {f : Addr} {fd : FuncData} {ps : List Str} (ks : List Str) (is : List Nat) (Fn : Fun K x qual st f fd) (h0 : ps ≠ [])
    (h : ∀ (kV doc pm : Value) (an : Option Addr) (cdv ct : Value) (u : Value) (ws : List Value), (u :: pick is ws).length = ps.length → bindArgs (PySem.W.fnOf x qual (defArgs st) (defBody st) (defScope st) .none kV doc pm an cdv ct) ⟨[u], ks.zip ws⟩ = pure (ps.zip (u :: pick is ws))) : KBinds K fd ps ks (gKm is) (gKm is) := by
  obtain ⟨oc, od, kV, doc, pm, an, cdv, ct, osl, rfl, lk, hcd⟩ := Fn.ex
  refine ⟨fun s us ws _ hl => ?_, fun {vs us zs ws} rv rz => ?_⟩
  · match us, hl with
    | [u], hl => exact .of_eq (h kV doc pm an cdv ct u ws hl)
    | [], hl => exact absurd (List.length_eq_zero_iff.mp hl.symm) h0
    | _ :: _ :: _, hl => exact absurd (List.length_eq_zero_iff.mp hl.symm) h0
  · match rv with
    | .nil => exact .nil
    | .cons r .nil => exact .cons r (pick_vals rz)
    | .cons _ (.cons _ _) => exact .nil
/-- a def with one parameter by its name alone, None by default -/
structure KwN (K : PySem.W.Frag) (x qual : Str) (st : Stmt) (kw : Str) (fd : FuncData) : Prop where
  ex : ∃ (D : Addr) (doc pm : Value) (an : Option Addr) (cdv ct : Value), fd = PySem.W.fnOf x qual (defArgs st) (defBody st) (defScope st) .none (.ref D) doc pm an cdv ct ∧ PySem.W.nsIn K D kw = some (some .none)
end
/-! ### len(o) -/
section
variable {X : Cx} {k : Nat} {f C : Addr} {fd : FuncData} {sp : Sp} {x : Str} {p pos : Pos} {e : Expr} {g : List D → W D} {me : Rho → W D}
def lenOD (C : Addr) (g : List D → W D) (as : List D) : W D := match as with
  | [.obj p] => fun μ Q E => (∃ fs, μ p = some (.mi C fs)) ∧ g [.obj p] μ (fun d μ' => ∃ i : Int, d = .int i ∧ 0 ≤ i ∧ i < 2 ^ 63 ∧ Q (.int i) μ') E
  | _ => W.bad
/-- len(o), o an instance of the class at C -/
def eLenO (C : Addr) (g : List D → W D) (ms : Rho → W (List D)) (ρ : Rho) : W D := W.bnd (ms ρ) (lenOD C g)
end
/-! ### steps -/
section
variable {m : Rho → W D} {ρ : Rho} {μ : Mem} {Q : D → Mem → Prop} {E : XD} {p C : Addr} {mn : Str} {n j : Nat} {is : List Nat} {g : List D → W D} {mo : Rho → W D} {ms : Rho → W (List D)}
theorem x_lenO : eLenO C g ms ρ μ Q E = ms ρ μ (fun ds μ1 => lenOD C g ds μ1 Q E) E := propext ⟨fun h => h, fun h => h⟩
theorem x_lenOD : lenOD C g [.obj p] μ Q E = ((∃ fs, μ p = some (.mi C fs)) ∧ g [.obj p] μ (fun d μ' => ∃ i : Int, d = .int i ∧ 0 ≤ i ∧ i < 2 ^ 63 ∧ Q (.int i) μ') E) := propext ⟨fun h => h, fun h => h⟩
theorem x_methN : eMethN C mn n j g mo ρ μ Q E = mo ρ μ (fun x μ1 => methD C mn x (fun x => W.req (1 + j = n) (g (x :: List.replicate j .non))) μ1 Q E) E := propext ⟨fun h => h, fun h => h⟩
theorem x_methK : eMethK C mn is n g mo ms ρ μ Q E = mo ρ μ (fun x μ1 => methD C mn x (fun x => W.bnd (ms ρ) fun ds => W.req ((x :: pick is ds).length = n) (g (x :: pick is ds))) μ1 Q E) E := propext ⟨fun h => h, fun h => h⟩
end
end DL

/-! DMe: tuples can be sorted, empty ones among them too -/
namespace DL
open PySem PySem.Spec PyProof.Rows L2 PySem.W PySem.SeqAt PySem.Calls

section
variable {prog : Program} {w : World} {A : Around} {E : Value → Shared → Prop} {s : Shared}
end
end DL

/-! DMf: sorted(t, key=f), t a tuple, f a def -/
namespace DL
open PySem PySem.Spec PyProof.Rows L2 PySem.W PySem.SeqAt PySem.Calls

section
variable {prog : Program} {w : World} {A : Around} {E : Value → Shared → Prop} {s : Shared}
end
end DL

/-! DMg: sorted(t, key=f) over data -/
namespace DL
open PySem PySem.Spec PyProof.Rows L2 PySem.W PySem.SeqAt PySem.Calls

section
variable {X : Cx} {pins : List (Addr × Obj)} {σ : L2.St} {H : Hp} {s : Shared}
end
/-- a key: a tuple of plain things -/
structure KeyOk (d : D) : Prop where
  good : gd d = true
  tup : ∃ es, d = .tup es
  dep : dpt d ≤ 40
end DL

/-! DMh: sorted(t, key=f) as a word -/
namespace DL
open PySem PySem.Spec PyProof.Rows L2 PySem.W

end DL

/-! DPg: sorted(d, key=f), d a dict whose keys are texts. -/
namespace DL
open PySem PySem.Spec PyProof.Rows L2 PySem.W PySem.SeqAt PySem.Calls

/-! ### sorted of texts, of a dict whose keys are texts -/
def sortedAD : List D → W D
  | [.obj p] => fun μ Q E => match μ p with
    | some (.md kvs) => ∃ ks : List Str, kvs.map (·.1) = ks.map Sum.inr ∧ ks.length < 64 ∧ ∀ ys : List Str, ys.Perm ks → sortedS ys = true → Q (.lst (ys.map .str)) μ
    | _ => sortedSD [.obj p] μ Q E
  | as => sortedSD as
theorem x_sortA {xs : List Str} {μ : Mem} {Q : D → Mem → Prop} {E : XD} : sortedAD [.lst (xs.map .str)] μ Q E = (xs.length < 64 ∧ ∀ ys : List Str, ys.Perm xs → sortedS ys = true → Q (.lst (ys.map .str)) μ) := x_sortS
end DL

/-! DPh: a = b = c = e over fields, methods called in a try's body, int of texts. -/
namespace DL
open PySem PySem.Spec PyProof.Rows L2 DN

section
variable {X : Cx} {Eh : Option EX} {o e : Expr} {f : Str} {C : Addr} {pos pos' : Pos} {mo me : Rho → W D}
/-- o.f as a target -/
def gFld (C : Addr) (f : Str) (mo : Rho → W D) (d : D) (ρ : Rho) : W Rho := W.bnd (mo ρ) fun x => W.bnd (stD C f d x) fun _ => W.ret ρ
def sAsg3 (m : Rho → W D) (g1 g2 g3 : D → Rho → W Rho) (ρ : Rho) : W Out := W.bnd (m ρ) fun d => W.bnd (g1 d ρ) fun ρ1 => W.bnd (g2 d ρ1) fun ρ2 => W.bnd (g3 d ρ2) fun ρ3 => W.ret (.nx ρ3)
end
/-! ### what is never come to -/
/-! ### a method that may raise, in a try's body -/
section
variable {X : Cx} {σ₀ : L2.St} {E : XK} {k : Nat} {f C : Addr} {fd : FuncData} {ps ks : List Str} {mn : Str} {p pos apos : Pos} {o e : Expr} {es : List Expr} {kws : List Keyword} {m : List D → W D} {n : Nat} {mo : Rho → W D} {ms : Rho → W (List D)}
end
/-! ### int of a text -/
def rIntA : List V → Hp → VK → Prop := fun xs H Q => ((∃ i, xs = [.int i] ∧ Q (.int i) H) ∨ ∃ k, xs = [.bl k] ∧ Q (.int (if k then 1 else 0)) H) ∨ ∃ a n, xs = [.str a] ∧ PySem.intText? a = some n ∧ a.length ≤ 640 ∧ Q (.int n) H
theorem call_intA {X : Cx} : CallR X (.type "int") rIntA := DL.CallR.or call_int1 call_int_str
def intAD : List D → W D
  | [.str s] => fun μ Q _ => ∃ n, PySem.intText? s = some n ∧ s.length ≤ 640 ∧ Q (.int n) μ
  | as => intD as
theorem cd_intA {K : PySem.W.Frag} : CallD K rIntA intAD := by
  intro F H μ xs ds Q ED Qh r il h bk
  unfold intAD at h
  split at h
  · obtain ⟨v, rfl, i⟩ := isL1 il
    cases i
    obtain ⟨n, e1, e2, q⟩ := h
    exact .inr ⟨_, n, rfl, e1, e2, back_is bk r (.int _) q⟩
  · exact .inl (cd_int F H μ xs _ Q ED Qh r il h bk)
/-! ### len of a dict -/
def lenAD : List D → W D
  | [.obj p] => fun μ Q E => match μ p with
    | some (.md kvs) => Q (.int kvs.length) μ
    | _ => lenD [.obj p] μ Q E
  | as => lenD as
/-! ### steps -/
section
variable {C : Addr} {f s : Str} {μ : Mem} {ρ : Rho} {E : XD} {mo me : Rho → W D} {d z : D} {p : Addr} {g1 g2 g3 : D → Rho → W Rho}
theorem x_gFld {Q : Rho → Mem → Prop} : gFld C f mo d ρ μ Q E = mo ρ μ (fun x μ1 => stD C f d x μ1 (fun _ μ2 => Q ρ μ2) E) E := propext ⟨fun h => h, fun h => h⟩
theorem x_asg3 {Q : Out → Mem → Prop} : sAsg3 me g1 g2 g3 ρ μ Q E = me ρ μ (fun d μ1 => g1 d ρ μ1 (fun ρ1 μ2 => g2 d ρ1 μ2 (fun ρ2 μ3 => g3 d ρ2 μ3 (fun ρ3 μ4 => Q (.nx ρ3) μ4) E) E) E) E := propext ⟨fun h => h, fun h => h⟩
theorem x_intS {Q : D → Mem → Prop} : intAD [.str s] μ Q E = ∃ n, PySem.intText? s = some n ∧ s.length ≤ 640 ∧ Q (.int n) μ := propext ⟨fun h => h, fun h => h⟩
theorem x_intAb {b : Bool} {Q : D → Mem → Prop} : intAD [.bl b] μ Q E = Q (.int (if b then 1 else 0)) μ := x_intb (E := E)
theorem x_intAi {i : Int} {Q : D → Mem → Prop} : intAD [.int i] μ Q E = Q (.int i) μ := propext ⟨fun h => h, fun h => h⟩
theorem x_getO1 {Q : D → Mem → Prop} : dgetMD (.obj p) [.str s] μ Q E = onM (μ p) fun kvs => Q ((valD kvs (.inr s)).getD .non) μ := by
  show W.bnd (W.opt (dOf (.obj p) μ)) _ μ Q E = _
  unfold dOf onM
  dsimp only
  cases μ p with
  | none => rfl
  | some mo => cases mo <;> rfl
end
end DL

/-! DPi: x is not True, x a truth; list.remove of plain things. -/
namespace DL
open PySem PySem.Spec PyProof.Rows L2 DN

section
open AutoSeq1 (wpAny_loadPart')
open MeetsSeq MeetsSeq2 MeetsSeq3 SeqRoads2 SeqAt
end
section
variable {X : Cx}
open MeetsSeq SeqAt in
end
/-! ### if and elif in a try's body -/
section
variable {X : Cx} {Eh : Option EX} {σ₀ : L2.St} {c : Expr} {a b : Stmt} {ma mb : Rho → W Out} {tc : Rho → W Bool} {pos : Pos}
end
/-! ### d.pop(k), k there -/
/-! ### an own list against [] -/
end DL

/-! DPj: list(d.values()). -/
namespace DL
open PySem PySem.Spec PyProof.Rows L2 DN

def eListVals (mo : Rho → W D) (ρ : Rho) : W D := W.bnd (mo ρ) fun x => W.bnd W.get fun μ => W.bnd (W.opt (dOf x μ)) fun kvs => W.ret (.lst (kvs.map (·.2)))
theorem x_listVals {mo : Rho → W D} {ρ : Rho} {μ : Mem} {Q : D → Mem → Prop} {E : XD} : eListVals mo ρ μ Q E = mo ρ μ (fun x μ1 => W.opt (dOf x μ1) μ1 (fun kvs _ => Q (.lst (kvs.map (·.2))) μ1) E) E := by
  show mo ρ μ (fun x μ1 => W.bnd (W.opt (dOf x μ1)) (fun kvs => W.ret (.lst (kvs.map (·.2)))) μ1 Q E) E = _
  congr 1
  funext x μ1
  show W.bnd (W.opt (dOf x μ1)) (fun kvs => W.ret (.lst (kvs.map (·.2)))) μ1 Q E = W.opt (dOf x μ1) μ1 (fun kvs _ => Q (.lst (kvs.map (·.2))) μ1) E
  cases dOf x μ1 <;> rfl
/-! ### sorted of a tuple of texts -/
section
open PySem.W PySem.SeqAt PySem.Calls
variable {prog : Program} {w : World} {A : Around} {E : Value → Shared → Prop} {s : Shared}
end
def sortedBD : List D → W D
  | [.tup ds] => W.bnd (W.opt (strsOf ds)) fun ns => W.req (ns.length < 64) fun μ' Q _ => ∀ ys : List Str, ys.Perm ns → sortedS ys = true → Q (.lst (ys.map .str)) μ'
  | as => sortedAD as
theorem x_sortB {xs : List Str} {μ : Mem} {Q : D → Mem → Prop} {E : XD} : sortedBD [.lst (xs.map .str)] μ Q E = (xs.length < 64 ∧ ∀ ys : List Str, ys.Perm xs → sortedS ys = true → Q (.lst (ys.map .str)) μ) := x_sortS
theorem x_sortBT {xs : List Str} {μ : Mem} {Q : D → Mem → Prop} {E : XD} : sortedBD [.tup (xs.map .str)] μ Q E = (xs.length < 64 ∧ ∀ ys : List Str, ys.Perm xs → sortedS ys = true → Q (.lst (ys.map .str)) μ) := by
  show W.bnd (W.opt (strsOf (xs.map D.str))) _ μ Q E = _
  rw [strs_map]
  rfl
end DL

/-! DQa: functions without a name: made, handed to a def, called there. -/
namespace DL
open PySem PySem.Spec PyProof.Rows L2 LamX NdefX

/-! ### the object -/
section
variable {X : Cx} {pins : List (Addr × Obj)} {σ : L2.St} {H : Hp} {s : Shared}
end
/-! ### what is known of a function that is a value -/
/-- how many values it takes, what it is, what it computes -/
abbrev Tb := List (Nat × D × (List D → W D))
structure FnV (P : Program) (w : World) (K : PySem.W.Frag) (mg : Str → Option Value) (base : Heap) (k n : Nat) (d : D) (m : List D → W D) : Prop where
  at_ : ∀ (F H : Hp) (h : Heap) (v : V), Same F H → HOk P w H h → K.In h → Is K F v d → ∃ f, v = .ref f ∧ PySem.W.FnAt f h
  run : ∀ (A : Around) (outer : List Env) (s : Shared) (F H : Hp) (f : Addr) (us : List Value) (vs : List V) (ds : List D) (μ : Mem) (Q : D → Mem → Prop) (ED : XD) (Qh : VK) (E : XK), A.guards = some [] → Room k A → Env0 P w K mg base A outer s H → Is K F (.ref f) d → Rep K F H μ → Vals vs us → IsL K F vs ds → NoX ED → ds.length = n → m ds μ Q ED → Back K F (Is K) Q Qh →
    codeAny (model P w) A (.call (.ref f) ⟨us, []⟩) (CR CX0 outer P w H s Qh E) s
def FnVs (P : Program) (w : World) (K : PySem.W.Frag) (mg : Str → Option Value) (base : Heap) (k : Nat) (tb : Tb) : Prop := ∀ t ∈ tb, FnV P w K mg base k t.1 t.2.1 t.2.2
section
variable {P : Program} {w : World} {K : PySem.W.Frag} {mg : Str → Option Value} {base : Heap} {k j n : Nat} {d : D} {m : List D → W D} {tb : Tb}
theorem FnV.mono (h : FnV P w K mg base j n d m) (l : j ≤ k) : FnV P w K mg base k n d m := ⟨h.at_, fun A outer s F H f us vs ds μ Q ED Qh E hg hr => h.run A outer s F H f us vs ds μ Q ED Qh E hg (hr.mono l)⟩
theorem FnVs.mono (h : FnVs P w K mg base j tb) (l : j ≤ k) : FnVs P w K mg base k tb := fun t ht => (h t ht).mono l
end
/-! ### the base, the running frames and what is tracked taken out -/
section
variable {h : Heap} {H : Hp} {l : List Env} {b : Addr} {o : Obj}
end
section
variable {X : Cx} {pins : List (Addr × Obj)} {σ : L2.St} {H : Hp} {s : Shared}
end
/-! ### the function by its body -/
section
variable {P : Program} {w : World} {K : PySem.W.Frag} {mg : Str → Option Value} {base : Heap} {k : Nat}
end
end DL

/-! DQb: the rules: a function without a name among a call's values; a local name that holds a function; keyword-only parameters. -/
namespace DL
open PySem PySem.Spec PyProof.Rows L2 LamX NdefX

/-! ### keyword-only parameters -/
def gSel {α : Type} (sel : List (Bool × Nat)) (cs us ws : List α) : List α := us ++ sel.filterMap fun p => if p.1 = true then ws[p.2]? else cs[p.2]?
/-- what a call of np values and the keywords ks binds; cs: the defaults that are asked -/
structure KBd (K : PySem.W.Frag) (fd : FuncData) (ps : List Str) (np : Nat) (ks : List Str) (sel : List (Bool × Nat)) (cs : List D) : Prop where
  ex : ∃ (cu : List Value) (cv : List V), (∀ F, IsL K F cv cs) ∧ KBn K fd ps np ks (gSel sel cu) (gSel sel cv)
/-- a def with keyword-only parameters and their defaults -/
structure KwD (K : PySem.W.Frag) (x qual : Str) (st : Stmt) (kws : List (Str × D)) (fd : FuncData) : Prop where
  ex : ∃ (D0 : Addr) (doc pm : Value) (an : Option Addr) (cdv ct : Value), fd = PySem.W.fnOf x qual (defArgs st) (defBody st) (defScope st) .none (.ref D0) doc pm an cdv ct ∧ ∀ q ∈ kws, ∃ u, PySem.W.nsIn K D0 q.1 = some (some u) ∧ GV K u q.2
/-! ### the call -/
section
variable {X : Cx} {k n np : Nat} {f : Addr} {fd : FuncData} {ps ks : List Str} {x : Str} {p pos : Pos} {e : Expr} {es : List Expr} {kws : List Keyword} {m : List D → W D} {ms mk : Rho → W (List D)} {sel : List (Bool × Nat)} {cs : List D}
def eCallM (np nk n : Nat) (sel : List (Bool × Nat)) (cs : List D) (m : List D → W D) (ms mk : Rho → W (List D)) (ρ : Rho) : W D := W.bnd (ms ρ) fun ds => W.bnd (mk ρ) fun es => W.req (ds.length = np ∧ es.length = nk ∧ (gSel sel cs ds es).length = n) (m (gSel sel cs ds es))
end
/-! ### a local name that holds a function -/
/-! ### a function without a name among the values -/
def capsOf : List Nat → Rho → Option (List D)
  | [], _ => some []
  | j :: r, ρ => match ρ[j]? with
    | some (some d) => (capsOf r ρ).map (d :: ·)
    | _ => none
def eLam (P : Addr) (nm : Nat → Nat → Str) (js : List Nat) (ρ : Rho) : W D := fun μ Q _ => ∃ caps, μ P = some (.tb nm) ∧ capsOf js ρ = some caps ∧ ∀ f o c q ws, Q (.fnv f o c q ws caps) μ
section
variable {X : Cx} {P c : Addr} {nm : Nat → Nat → Str} {params : Arguments} {body e : Expr} {es : List Expr} {scope : Scope} {js : List Nat} {lpos : Pos} {mr : Rho → W (List D)} {me : Rho → W D} {i : Nat} {R : L2.St → Rho → D → Prop}
end
def eCallL (np nk n : Nat) (sel : List (Bool × Nat)) (cs : List D) (m : Tb → List D → W D) (tb : Tb) (i nl N : Nat) (js : List Nat) (mL : Rho → W D) (ms mk : Rho → W (List D)) (ρ : Rho) : W D := W.bnd (ms ρ) fun ds => W.bnd (mk ρ) fun es => fun μ Q E => ∃ d caps, ds[i]? = some d ∧ capsOf js ρ = some caps ∧
  W.req (ds.length = np ∧ es.length = nk ∧ (gSel sel cs ds es).length = n) (m ((nl, d, fun as => mL (startD N (as ++ caps))) :: tb) (gSel sel cs ds es)) μ Q E
section
variable {X : Cx} {k kt n np i : Nat} {f : Addr} {fd : FuncData} {ps ks N pl fr : List Str} {x : Str} {p pos : Pos} {e : Expr} {es : List Expr} {kws : List Keyword} {m : Tb → List D → W D} {ms mk : Rho → W (List D)} {sel : List (Bool × Nat)} {cs : List D}
  {params : Arguments} {body : Expr} {sc scope : Scope} {js : List Nat} {mL : Rho → W D}
end
/-! ### readings -/
def onCp (o : Option (List D)) (g : List D → Prop) : Prop := match o with
  | some c => g c
  | none => False
theorem onCp_some {c : List D} {g : List D → Prop} : onCp (some c) g = g c := rfl
section
variable {μ : Mem} {Q : D → Mem → Prop} {E : XD} {ρ : Rho}
theorem x_callM {np nk n : Nat} {sel : List (Bool × Nat)} {cs : List D} {m : List D → W D} {ms mk : Rho → W (List D)} : eCallM np nk n sel cs m ms mk ρ μ Q E = ms ρ μ (fun ds μ1 => mk ρ μ1 (fun es μ2 => (ds.length = np ∧ es.length = nk ∧ (gSel sel cs ds es).length = n) ∧ m (gSel sel cs ds es) μ2 Q E) E) E := rfl
theorem x_lam {P : Addr} {nm : Nat → Nat → Str} {js : List Nat} : eLam P nm js ρ μ Q E = onCp (capsOf js ρ) fun caps => μ P = some (.tb nm) ∧ ∀ f o c q ws, Q (.fnv f o c q ws caps) μ := by
  unfold eLam onCp
  cases capsOf js ρ with
  | none => exact propext ⟨fun ⟨_, _, h, _⟩ => (nomatch h), fun h => False.elim h⟩
  | some caps => exact propext ⟨fun ⟨c, h1, h2, h3⟩ => by cases h2; exact ⟨h1, h3⟩, fun ⟨h1, h3⟩ => ⟨caps, h1, rfl, h3⟩⟩
theorem x_callL {np nk n i nl N : Nat} {sel : List (Bool × Nat)} {cs : List D} {m : Tb → List D → W D} {tb : Tb} {js : List Nat} {mL : Rho → W D} {ms mk : Rho → W (List D)} : eCallL np nk n sel cs m tb i nl N js mL ms mk ρ μ Q E =
    ms ρ μ (fun ds μ1 => mk ρ μ1 (fun es μ2 => onSm ds[i]? fun d => onCp (capsOf js ρ) fun caps => (ds.length = np ∧ es.length = nk ∧ (gSel sel cs ds es).length = n) ∧ m ((nl, d, fun as => mL (startD N (as ++ caps))) :: tb) (gSel sel cs ds es) μ2 Q E) E) E := by
  show ms ρ μ (fun ds μ1 => mk ρ μ1 (fun es μ2 => ∃ d caps, ds[i]? = some d ∧ capsOf js ρ = some caps ∧ W.req (ds.length = np ∧ es.length = nk ∧ (gSel sel cs ds es).length = n) (m ((nl, d, fun as => mL (startD N (as ++ caps))) :: tb) (gSel sel cs ds es)) μ2 Q E) E) E = _
  congr 1
  funext ds μ1
  congr 1
  funext es μ2
  unfold onSm onCp
  cases ds[i]? with
  | none => exact propext ⟨fun ⟨_, _, h, _⟩ => (nomatch h), fun h => False.elim h⟩
  | some d =>
    cases capsOf js ρ with
    | none => exact propext ⟨fun ⟨_, _, _, h, _⟩ => (nomatch h), fun h => False.elim h⟩
    | some caps => exact propext ⟨fun ⟨_, _, h1, h2, h3⟩ => by cases h1; cases h2; exact h3, fun h3 => ⟨d, caps, rfl, rfl, h3⟩⟩
end
end DL

/-! DQc: defs whose code object is known; the end of a law with tables of code objects. -/
namespace DL
open PySem PySem.Spec PyProof.Rows L2 LamX NdefX

section
variable {P : Program} {w : World} {K : PySem.W.Frag} {mg : Str → Option Value} {base : Heap} {k : Nat}
end
/-! ### the end -/
end DL

/-! DQd: x in d.values(), d a dict of the module. -/
namespace DL
open PySem PySem.Spec PyProof.Rows L2 LamX NdefX PySem.W PySem.Calls

section
variable {prog : Program} {w : World} {A : Around} {E : Value → Shared → Prop} {s : Shared} {r d : Addr} {n : Nat} {P : Nat → Value → Prop} {OK : Heap → Prop}
end
section
variable {X : Cx}
end
def isStrD : D → Bool
  | .str _ => true
  | _ => false
def strIs (z : Str) : D → Bool
  | .str y => y == z
  | _ => false
def kvalD (f : Bool → Bool) (kvs : List (Str × D)) (d : D) : W D := match d with
  | .str z => W.req (kvs.all (fun q => isStrD q.2) = true) (W.ret (.bl (f (kvs.any fun q => strIs z q.2))))
  | _ => W.bad
section
variable {X : Cx}
variable {Eh : Option EX} {x : Str} {u : Value} {kvs : List (Str × D)} {e : Expr} {me : Rho → W D} {p pos apos cpos : Pos} {f : Bool → Bool}
end
theorem x_kval {f : Bool → Bool} {kvs : List (Str × D)} {z : Str} {μ : Mem} {Q : D → Mem → Prop} {E : XD} : kvalD f kvs (.str z) μ Q E = (kvs.all (fun q => isStrD q.2) = true ∧ Q (.bl (f (kvs.any fun q => strIs z q.2))) μ) := rfl
end DL

/-! DQe: while. -/
namespace DL
open PySem PySem.Spec PyProof.Rows L2 PySem.W

end DL

/-! DQf: sorted(xs, key=f), f a local name that holds a function. -/
namespace DL
open PySem PySem.Spec PyProof.Rows L2 LamX NdefX PySem.W PySem.SeqAt PySem.Calls

/-- keys: tuples of plain things, or whole numbers, or texts -/
structure KeyV (d : D) : Prop where
  good : gd d = true
  dep : dpt d ≤ 40
end DL

/-! DQg: a function without a name as the one keyword of a method's call. -/
namespace DL
open PySem PySem.Spec PyProof.Rows L2 LamX NdefX

def eMethL (C : Addr) (mn : Str) (m : Tb → List D → W D) (P : Addr) (nm : Nat → Nat → Str) (js : List Nat) (nl N : Nat) (mL : Rho → W D) (mo : Rho → W D) (ρ : Rho) : W D := W.bnd (mo ρ) fun x => methD C mn x fun x => fun μ Q E => ∃ caps, μ P = some (.tb nm) ∧ capsOf js ρ = some caps ∧
  ∀ f o c q ws, m [(nl, .fnv f o c q ws caps, fun as => mL (startD N (as ++ caps)))] [x, .fnv f o c q ws caps] μ Q E
section
variable {X : Cx} {k kt : Nat} {C f P c : Addr} {fd : FuncData} {ps N pl fr : List Str} {mn kn : Str} {apos pos kp lpos : Pos} {o : Expr} {m : Tb → List D → W D} {mo : Rho → W D} {nm : Nat → Nat → Str}
  {params : Arguments} {body : Expr} {sc scope : Scope} {js : List Nat} {mL : Rho → W D}
end
theorem x_methL {C : Addr} {mn : Str} {m : Tb → List D → W D} {P : Addr} {nm : Nat → Nat → Str} {js : List Nat} {nl N : Nat} {mL mo : Rho → W D} {ρ : Rho} {μ : Mem} {Q : D → Mem → Prop} {E : XD} : eMethL C mn m P nm js nl N mL mo ρ μ Q E = mo ρ μ (fun x μ1 => methD C mn x (fun x => fun μ Q E => ∃ caps, μ P = some (.tb nm) ∧ capsOf js ρ = some caps ∧ ∀ f o c q ws, m [(nl, .fnv f o c q ws caps, fun as => mL (startD N (as ++ caps)))] [x, .fnv f o c q ws caps] μ Q E) μ1 Q E) E := rfl
end DL

/-! DQh: defs with defaults at places; instances made with keywords, with defaults. -/
namespace DL
open PySem PySem.Spec PyProof.Rows L2 LamX NdefX

structure PosD (K : PySem.W.Frag) (x qual : Str) (st : Stmt) (cs : List D) (f : Addr) (fd : FuncData) : Prop where
  ex : ∃ (oc : Value) (od : Option Addr) (T : Addr) (kV doc pm : Value) (an : Option Addr) (cdv ct : Value) (osl : Array (Option Value)) (o : Obj) (its : List Value) (n : Nat) (dvs : List V),
    fd = PySem.W.fnOf x qual (defArgs st) (defBody st) (defScope st) (.ref T) kV doc pm an cdv ct ∧ K.lookup f = some ⟨oc, od, .func fd, osl⟩ ∧ PySem.W.codeIn K cdv qual = true ∧ K.lookup T = some o ∧ o.data = .seq its.toArray n ∧ Vals dvs its ∧ ∀ F, IsL K F dvs cs
  kp : PySem.W.keepIn K (.ref f) = true
section
variable {P : Program} {w : World} {K : PySem.W.Frag} {mg : Str → Option Value} {base : Heap} {CX : CXT} {k : Nat}
end
def eMakeM (C : Addr) (np nk n : Nat) (sel : List (Bool × Nat)) (cs : List D) (g : List D → W D) (ms mk : Rho → W (List D)) (ρ : Rho) : W D := W.bnd (ms ρ) fun ds => W.bnd (mk ρ) fun es => fun μ Q E => (ds.length + 1 = np ∧ es.length = nk ∧ (gSel sel cs (.non :: ds) es).length = n) ∧ ∀ p, μ p = none → g (gSel sel cs (.obj p :: ds) es) (put μ p (.mi C [])) (fun d μ' => d = .non ∧ Q (.obj p) μ') E
section
variable {X : Cx} {k n np : Nat} {C f : Addr} {fd : FuncData} {ps ks : List Str} {x : Str} {p pos : Pos} {e : Expr} {es : List Expr} {kws : List Keyword} {m : List D → W D} {ms mk : Rho → W (List D)} {sel : List (Bool × Nat)} {cs : List D}
theorem x_makeM {ρ : Rho} {μ : Mem} {Q : D → Mem → Prop} {E : XD} {nk : Nat} : eMakeM C np nk n sel cs m ms mk ρ μ Q E = ms ρ μ (fun ds μ1 => mk ρ μ1 (fun es μ2 => (ds.length + 1 = np ∧ es.length = nk ∧ (gSel sel cs (.non :: ds) es).length = n) ∧ ∀ p, μ2 p = none → m (gSel sel cs (.obj p :: ds) es) (put μ2 p (.mi C [])) (fun d μ' => d = .non ∧ Q (.obj p) μ') E) E) E := rfl
end
end DL

/-! DQi: sorted(xs), xs a list of tuples of plain things. -/
namespace DL
open PySem PySem.Spec PyProof.Rows L2 LamX NdefX PySem.W PySem.SeqAt PySem.Calls

def tupLe : D → D → Bool := dataLe false toPy
def TupsV (ds : List D) : Prop := (∀ d ∈ ds, KeyV d ∧ ∃ x r, d = .tup (x :: r)) ∧ AllAlike (ds.map toPy)
def sortedTD : List D → W D
  | [.lst ds] => W.req (TupsV ds) (W.ret (.lst (ds.mergeSort tupLe)))
  | _ => W.bad
theorem x_sortTD {ds : List D} {μ : Mem} {Q : D → Mem → Prop} {E : XD} : sortedTD [.lst ds] μ Q E = (TupsV ds ∧ Q (.lst (ds.mergeSort tupLe)) μ) := rfl
end DL

/-! DQj: defs that let nothing out, called while an exception is handled. -/
namespace DL
open PySem PySem.Spec PyProof.Rows L2 LamX NdefX
open L2H (RoomH PinOk cxH inv_startH)

structure FnQ (P : Program) (w : World) (K : PySem.W.Frag) (mg : Str → Option Value) (base : Heap) (k : Nat) (f : Addr) (fd : FuncData) (ps : List Str) (sp : Sp) : Prop where
  len : ∀ vs H Q E, sp vs H Q E → vs.length = ps.length
  go : ∀ (A : Around) (outer : List Env) (s : Shared) (H : Hp) (args : Args) (us : List Value) (vs : List V) (Q : VK) (E : XK) (p : Addr × Obj), A.guards = some [] → RoomH k A → PinOk outer H s p → Env0 P w K mg base A outer s H → BindsTo s fd args (ps.zip us) → Vals vs us → sp vs H Q E →
    codeAny (model P w) A (.call (.ref f) args) (CR CX0 outer P w H s Q E) s
theorem RoomH.units {k : Nat} {A : Around} (r : RoomH k A) : A.units + 64 < cLine := by have := r.un; omega
section
variable {P : Program} {w : World} {K : PySem.W.Frag} {mg : Str → Option Value} {base : Heap} {k : Nat}
end
section
variable {X : Cx} {k : Nat} {f C : Addr} {fd : FuncData} {ps : List Str} {x mn : Str} {p pos apos : Pos} {e o : Expr} {es : List Expr} {g : List D → W D} {n : Nat} {mo : Rho → W D} {ms : Rho → W (List D)} {E : XK} {sp : Sp} {ta : TE} {t : TA} {Eh : Option EX}
end
end DL

/-! DQk: any thing in a list of texts; repr of a list of things with dicts -/
namespace PySem.SeqAt
open PySem
open MeetsSeq
section
variable {A : Around} {s : Shared}
end
end PySem.SeqAt
namespace DL
open PySem PySem.Spec PyProof.Rows L2

/-- what a thing is beside texts -/
inductive KdV (K : PySem.W.Frag) (H : Hp) : V → Option Str → Prop
  | str (s : Str) : KdV K H (.str s) (some s)
  | non : KdV K H .non none
  | bl (b : Bool) : KdV K H (.bl b) none
  | int (i : Int) : KdV K H (.int i) none
  | tup {a : Addr} {vs : List V} (h : SqT K H a vs) : KdV K H (.ref a) none
  | lst {a : Addr} {vs : List V} (h : SqL K H a vs) : KdV K H (.ref a) none
  | dct {a : Addr} {ks : List (Key × V)} (h : Rd H a (.dK ks)) : KdV K H (.ref a) none
section
variable {X : Cx}
end
/-! ### repr of a list of such things -/
def reprLD : List D → W D
  | [.lst (d :: ds)] => W.bnd (W.opt (pyGs (d :: ds))) fun ps => W.req (PyData.showableAll ps = true ∧ PyData.depthAll ps ≤ 60 ∧ (listText (PyData.shownAll ps)).length ≤ sizeLine) (W.ret (.str (listText (PyData.shownAll ps))))
  | xs => reprGD xs
/-- a thing whose repr is told: depth k, room z -/
structure Sg (k z : Nat) (d : D) : Prop where
  py : ∃ p, pyG d = some p ∧ p.showable = true ∧ p.depth ≤ k ∧ p.shown.length ≤ z
structure SgL (k z : Nat) (ds : List D) : Prop where
  py : ∃ ps, pyGs ds = some ps ∧ PyData.showableAll ps = true ∧ PyData.depthAll ps ≤ k ∧ piled (PyData.shownAll ps) ≤ z
theorem Sg.mono {k z k' z' : Nat} {d : D} (h : Sg k z d) (hk : k ≤ k') (hz : z ≤ z') : Sg k' z' d := by
  obtain ⟨p, a, b, c, e⟩ := h.py
  exact ⟨p, a, b, Nat.le_trans c hk, Nat.le_trans e hz⟩
theorem SgL.mono {k z k' z' : Nat} {d : List D} (h : SgL k z d) (hk : k ≤ k') (hz : z ≤ z') : SgL k' z' d := by
  obtain ⟨p, a, b, c, e⟩ := h.py
  exact ⟨p, a, b, Nat.le_trans c hk, Nat.le_trans e hz⟩
theorem SgL.nil {k : Nat} : SgL k 0 [] := ⟨[], rfl, rfl, Nat.zero_le _, Nat.le_refl _⟩
theorem SgL.cons {k a b : Nat} {d : D} {r : List D} (h : Sg k a d) (hr : SgL k b r) : SgL k (a + 2 + b) (d :: r) := by
  obtain ⟨p, p1, p2, p3, p4⟩ := h.py
  obtain ⟨ps, q1, q2, q3, q4⟩ := hr.py
  refine ⟨p :: ps, ?_, ?_, ?_, ?_⟩
  · unfold pyGs
    rw [p1, q1]
  · show (p.showable && PyData.showableAll ps) = true
    rw [p2, q2]
    rfl
  · show max p.depth (PyData.depthAll ps) ≤ k
    omega
  · show piled (p.shown :: PyData.shownAll ps) ≤ _
    rw [piled_cons]
    omega
theorem SgL.all {k z : Nat} : ∀ {n : Nat} {ds : List D}, (∀ d ∈ ds, Sg k z d) → ds.length ≤ n → SgL k (n * (z + 2)) ds
  | n, [], _, _ => SgL.nil.mono (Nat.le_refl _) (Nat.zero_le _)
  | 0, d :: r, _, h => absurd h (by simp)
  | n + 1, d :: r, h, hl => by
    have i := SgL.all (n := n) (ds := r) (fun x hx => h x (List.mem_cons_of_mem _ hx)) (by simpa using hl)
    refine (SgL.cons (h d (List.mem_cons_self ..)) i).mono (Nat.le_refl _) ?_
    rw [Nat.succ_mul]
    omega
theorem Sg.tup {k z : Nat} {ds : List D} (h : SgL k z ds) : Sg (k + 1) (z + 3) (.tup ds) := by
  obtain ⟨ps, q1, q2, q3, q4⟩ := h.py
  have l := tupleText_le (PyData.shownAll ps)
  refine ⟨.tuple ps, by unfold pyG; rw [q1]; rfl, q2, by show PyData.depthAll ps + 1 ≤ k + 1; omega, ?_⟩
  show (tupleText (PyData.shownAll ps)).length ≤ z + 3
  omega
theorem Sg.lst {k z : Nat} {ds : List D} (h : SgL k z ds) : Sg (k + 1) (z + 2) (.lst ds) := by
  obtain ⟨ps, q1, q2, q3, q4⟩ := h.py
  have l := listText_le (PyData.shownAll ps)
  refine ⟨.list ps, by unfold pyG; rw [q1]; rfl, q2, by show PyData.depthAll ps + 1 ≤ k + 1; omega, ?_⟩
  show (listText (PyData.shownAll ps)).length ≤ z + 2
  omega
theorem Sg.non {k : Nat} : Sg k 4 .non := ⟨.none, rfl, rfl, Nat.zero_le _, by decide⟩
theorem Sg.bl {k : Nat} {b : Bool} : Sg k 5 (.bl b) := ⟨.bool b, rfl, rfl, Nat.zero_le _, by cases b <;> decide⟩
theorem Sg.int {k : Nat} {i : Int} (h : i.natAbs.log2 < 1920) : Sg k 1921 (.int i) := ⟨.int i, rfl, by simpa [PyData.showable] using h, Nat.zero_le _, int_text_len_1921 h⟩
theorem Sg.str {k n : Nat} {s : Str} (h : ∀ c ∈ s.cps.toList, c < 1114112) (hn : s.length ≤ n) : Sg k (10 * n + 2) (.str s) := ⟨.str s, rfl, rfl, Nat.zero_le _, by
  have : (reprText s).length ≤ 10 * s.length + 2 := StrLaws.reprText_len s fun c hc => by have := h c hc; omega
  show (reprText s).length ≤ 10 * n + 2
  omega⟩
theorem Sg.repr {k z : Nat} {d : D} {ds : List D} (h : SgL k z (d :: ds)) (hk : k ≤ 60) (hz : z ≤ 16000000) : ∃ w : Str, ∀ (μ : Mem) (Q : D → Mem → Prop) (E : XD), Q (.str w) μ → reprLD [.lst (d :: ds)] μ Q E := by
  obtain ⟨ps, q1, q2, q3, q4⟩ := h.py
  have l := listText_le (PyData.shownAll ps)
  refine ⟨listText (PyData.shownAll ps), fun μ Q E q => ?_⟩
  show W.opt (pyGs (d :: ds)) μ (fun ps μ' => (PyData.showableAll ps = true ∧ PyData.depthAll ps ≤ 60 ∧ (listText (PyData.shownAll ps)).length ≤ sizeLine) ∧ Q (.str (listText (PyData.shownAll ps))) μ') E
  rw [q1]
  exact ⟨⟨q2, by omega, by rw [sz_eq]; omega⟩, q⟩
end DL

/-! DQl: repr of anything that stays, dicts of anything in it too. -/
namespace DL
open PySem PySem.Spec PyProof.Rows L2

mutual
inductive DpX (K : PySem.W.Frag) (H : Hp) : V → PyData → Prop
  | non : DpX K H .non .none
  | bl (b : Bool) : DpX K H (.bl b) (.bool b)
  | int (i : Int) : DpX K H (.int i) (.int i)
  | str (x : Str) : DpX K H (.str x) (.str x)
  | lst {a : Addr} {xs : List V} {ds : List PyData} (hs : SqL K H a xs) (hl : DpXs K H xs ds) : DpX K H (.ref a) (.list ds)
  | tup {a : Addr} {xs : List V} {ds : List PyData} (hs : SqT K H a xs) (hl : DpXs K H xs ds) : DpX K H (.ref a) (.tuple ds)
  | dct {a : Addr} {ks : List (Key × V)} {ps : List (PyData × PyData)} (hs : Rd H a (.dK ks)) (hk : ps.map (·.1) = ks.map fun q => keyPy q.1) (hl : DpXs K H (ks.map (·.2)) (ps.map (·.2))) : DpX K H (.ref a) (.dict ps)
inductive DpXs (K : PySem.W.Frag) (H : Hp) : List V → List PyData → Prop
  | nil : DpXs K H [] []
  | cons {v : V} {vs : List V} {d : PyData} {ds : List PyData} (h : DpX K H v d) (r : DpXs K H vs ds) : DpXs K H (v :: vs) (d :: ds)
end
mutual
inductive RdY (h : Heap) : Value → PyData → Prop
  | plain {v : Value} {d : PyData} {as : List Addr} (r : Reads h v d as) (hs : d.hasDict = false) : RdY h v d
  | lst {a : Addr} {o : Obj} {vs : Array Value} {n : Nat} {xs : List PyData} (h1 : h.get? a = some o) (h2 : o.cls = .type "list") (h3 : o.data = .seq vs n) (r : RdYs h vs.toList xs) : RdY h (.ref a) (.list xs)
  | tup {a : Addr} {o : Obj} {vs : Array Value} {n : Nat} {xs : List PyData} (h1 : h.get? a = some o) (h2 : o.cls = .type "tuple") (h3 : o.data = .seq vs n) (r : RdYs h vs.toList xs) : RdY h (.ref a) (.tuple xs)
  | dct {a : Addr} {o : Obj} {es : Array DictEntry} {n : Nat} {ps : List (PyData × PyData)} (h1 : h.get? a = some o) (h2 : o.cls = .type "dict") (h3 : o.data = .dict es n) (hsm : (a == sysModules) = false) (r1 : RdYs h (es.toList.map (·.key)) (ps.map (·.1))) (r2 : RdYs h (es.toList.map (·.val)) (ps.map (·.2))) : RdY h (.ref a) (.dict ps)
inductive RdYs (h : Heap) : List Value → List PyData → Prop
  | nil : RdYs h [] []
  | cons {v : Value} {vs : List Value} {d : PyData} {ds : List PyData} (x : RdY h v d) (r : RdYs h vs ds) : RdYs h (v :: vs) (d :: ds)
end
mutual
theorem RdY.reads {h : Heap} : ∀ {v : Value} {d : PyData}, RdY h v d → ∃ as, Reads h v d as
  | _, _, .plain r _ => ⟨_, r⟩
  | _, _, .lst h1 h2 h3 r => by
    obtain ⟨as, q⟩ := RdYs.reads r
    exact ⟨_, Reads.list h1 h2 h3 q⟩
  | _, _, .tup h1 h2 h3 r => by
    obtain ⟨as, q⟩ := RdYs.reads r
    exact ⟨_, Reads.tuple h1 h2 h3 q⟩
  | _, _, .dct h1 h2 h3 _ r1 r2 => by
    obtain ⟨as, q⟩ := RdYs.reads r1
    obtain ⟨bs, q'⟩ := RdYs.reads r2
    exact ⟨_, Reads.dict h1 h2 h3 q q'⟩
theorem RdYs.reads {h : Heap} : ∀ {vs : List Value} {ds : List PyData}, RdYs h vs ds → ∃ as, ReadsAll h vs ds as
  | _, _, .nil => ⟨_, .nil⟩
  | _, _, .cons x r => by
    obtain ⟨as, q⟩ := RdY.reads x
    obtain ⟨bs, q'⟩ := RdYs.reads r
    exact ⟨_, .cons q q'⟩
end
theorem key_rdy {h : Heap} {k : Key} {u : Value} (r : keyIs k u = true) : RdY h u (keyPy k) := by
  refine .plain (key_reads r) ?_
  cases k <;> rfl
theorem kv_two {P : Program} {w : World} {h : Heap} : ∀ {es : List DictEntry} {vs : List (Key × Value)} {ks : List (Key × V)}, Pairs (mixKind P w) es vs → KV ks vs → RdYs h (es.map (·.key)) (ks.map fun q => keyPy q.1) ∧ Vals (ks.map (·.2)) (es.map (·.val))
  | [], [], [], _, _ => ⟨.nil, .nil⟩
  | e :: es, (k, u) :: vs, (k', v) :: ks, hp, hk => by
    cases hk with
    | cons r rr =>
      obtain ⟨rfl, r⟩ := r
      cases hp with
      | cons hp1 hp2 hp3 =>
        obtain ⟨a, b⟩ := kv_two (h := h) hp3 rr
        refine ⟨.cons (key_rdy hp1) a, .cons ?_ b⟩
        show RelV v e.val
        rw [hp2]
        exact r
  | [], _ :: _, _, hp, _ => by cases hp
  | _ :: _, [], _, hp, _ => by cases hp
  | [], [], _ :: _, _, hk => by cases hk
  | _ :: _, _ :: _, [], _, hk => by cases hk
section
variable {X : Cx} {pins : List (Addr × Obj)} {σ : L2.St} {H : Hp} {s : Shared}
mutual
theorem DpX.rdy (I : Inv X pins σ H s) : ∀ {v : V} {d : PyData} {u : Value}, DpX X.K H v d → RelV v u → RdY s.heap u d
  | _, _, _, .non, r => by cases r; exact .plain .none rfl
  | _, _, _, .bl b, r => by cases r; exact .plain (.bool b) rfl
  | _, _, _, .int i, r => by obtain ⟨t, rfl⟩ := r; exact .plain (.int i t) rfl
  | _, _, _, .str x, r => by obtain ⟨t, rfl⟩ := r; exact .plain (.str x t) rfl
  | _, _, _, .lst hs hl, r => by
    cases r
    obtain ⟨its, rv, ⟨o, n, ho, hc, _, hd⟩, _⟩ := I.list hs
    exact .lst ho hc hd (DpXs.rdy I hl rv)
  | _, _, _, .tup hs hl, r => by
    cases r
    obtain ⟨its, rv, ⟨o, ho, hc, n, hd⟩, _⟩ := I.tuple hs
    exact .tup ho hc hd (DpXs.rdy I hl rv)
  | _, _, _, .dct (a := a) hs hk hl, r => by
    cases r
    obtain ⟨z, hsm, vs, rel, o, es, ep, ho, hex, hdat, hkeys, hpairs, hnd⟩ := dk_rd I.hok hs
    obtain ⟨r1, r2⟩ := kv_two (h := s.heap) hpairs rel
    exact .dct ho hex.1 hdat hsm (by rw [hk]; exact r1) (DpXs.rdy I hl r2)
theorem DpXs.rdy (I : Inv X pins σ H s) : ∀ {vs : List V} {ds : List PyData} {us : List Value}, DpXs X.K H vs ds → Vals vs us → RdYs s.heap us ds
  | _, _, _, .nil, r => by cases r; exact .nil
  | _, _, _, .cons h q, r => by
    cases r with
    | cons r1 r2 => exact .cons (DpX.rdy I h r1) (DpXs.rdy I q r2)
end
end
section
variable {prog : Program} {w : World} {h₀ : Heap}
mutual
theorem RdY.repr : ∀ {v : Value} {d : PyData}, RdY h₀ v d → d.showable = true → d.shown.length ≤ sizeLine → ∃ bs, ReadAtMost h₀ d.depth bs ∧ ReprK prog w bs h₀ d.depth v d.shown
  | _, _, .plain r hs, h, hz => ReprK.of_reads r h (fun z => by rw [hs] at z; cases z) hz
  | _, _, .lst (a := a) (vs := vs) (xs := xs) h1 h2 h3 q, h, hz => by
    have hz1 : (listText (PyData.shownAll xs)).length ≤ sizeLine := by simpa only [PyData.shown] using hz
    obtain ⟨bs, hb, hk⟩ := RdYs.repr q (by simpa [PyData.showable] using h) (fun t m => Nat.le_trans (listText_mem_le m) hz1)
    obtain ⟨as, q4⟩ := RdYs.reads q
    have rr := Reads.list h1 h2 h3 q4
    have out : a ∉ bs := not_mem_of_deeper rr (by simp only [PyData.depth]; omega) hb
    refine ⟨a :: bs, hb.cons rr (by simp only [PyData.depth]; omega), ?_⟩
    simp only [PyData.depth, PyData.shown]
    obtain ⟨l⟩ := vs
    cases l with
    | nil =>
      have q' : RdYs h₀ [] xs := q
      cases q'
      simp only [PyData.shownAll, listText_nil]
      exact .listEmpty h1 h2 h3
    | cons x l => exact .list h1 h2 h3 out (by simpa using hk.length_eq) (fun i y e => hk.item i y (by simpa using e))
  | _, _, .tup (a := a) (xs := xs) h1 h2 h3 q, h, hz => by
    have hz1 : (tupleText (PyData.shownAll xs)).length ≤ sizeLine := by simpa only [PyData.shown] using hz
    obtain ⟨bs, hb, hk⟩ := RdYs.repr q (by simpa [PyData.showable] using h) (fun t m => Nat.le_trans (tupleText_mem_le m) hz1)
    obtain ⟨as, q4⟩ := RdYs.reads q
    have rr := Reads.tuple h1 h2 h3 q4
    have out : a ∉ bs := not_mem_of_deeper rr (by simp only [PyData.depth]; omega) hb
    refine ⟨a :: bs, hb.cons rr (by simp only [PyData.depth]; omega), ?_⟩
    simp only [PyData.depth, PyData.shown]
    exact .tuple h1 h2 h3 out hk
  | _, _, .dct (a := a) (es := es) (ps := ps) h1 h2 h3 hsm q1 q2, h, hz => by
    have hz1 : (dictText (PyData.shownKv ps)).length ≤ sizeLine := by simpa only [PyData.shown] using hz
    obtain ⟨s1, s2⟩ := PyData.showableKv_split ps (by simpa [PyData.showable] using h)
    obtain ⟨b1, c1, k1⟩ := RdYs.repr q1 s1 (fun t ht => let ⟨p, hp, hl⟩ := PyData.shownKv_key_le ps t ht; Nat.le_trans hl (Nat.le_trans (dictText_mem_le hp) hz1))
    obtain ⟨b2, c2, k2⟩ := RdYs.repr q2 s2 (fun t ht => let ⟨p, hp, hl⟩ := PyData.shownKv_val_le ps t ht; Nat.le_trans hl (Nat.le_trans (dictText_mem_le hp) hz1))
    obtain ⟨as1, r1⟩ := RdYs.reads q1
    obtain ⟨as2, r2⟩ := RdYs.reads q2
    have rr := Reads.dict h1 h2 h3 r1 r2
    have hb : ReadAtMost h₀ (PyData.depthKv ps) (b1 ++ b2) := (c1.mono (PyData.depthAll_keys_le ps)).append (c2.mono (PyData.depthAll_vals_le ps))
    have hna : a ∉ b1 ++ b2 := not_mem_of_deeper rr (by simp only [PyData.depth]; omega) hb
    refine ⟨a :: (b1 ++ b2), ReadAtMost.cons rr (by simp only [PyData.depth]; omega) hb, ?_⟩
    simp only [PyData.depth, PyData.shown, PyData.shownKv_eq]
    exact ReprK.dict h1 h2 h3 hsm hna (ReprEntriesK.of_two es.toList _ _ (k1.more_le (fun b hb => List.mem_append_left _ hb) (PyData.depthAll_keys_le ps)) (k2.more_le (fun b hb => List.mem_append_right _ hb) (PyData.depthAll_vals_le ps)))
theorem RdYs.repr : ∀ {vs : List Value} {ds : List PyData}, RdYs h₀ vs ds → PyData.showableAll ds = true → (∀ t ∈ PyData.shownAll ds, t.length ≤ sizeLine) → ∃ bs, ReadAtMost h₀ (PyData.depthAll ds) bs ∧ ReprAllK prog w bs h₀ (PyData.depthAll ds) vs (PyData.shownAll ds)
  | _, _, .nil, _, _ => ⟨[], (fun _ h => nomatch h), by simp only [PyData.shownAll]; exact .nil⟩
  | _, _, .cons (d := d) (ds := ds) x r, h, hz => by
    have hh : d.showable = true ∧ PyData.showableAll ds = true := by simpa [PyData.showableAll] using h
    obtain ⟨b1, c1, k1⟩ := RdY.repr x hh.1 (hz _ (by simp only [PyData.shownAll]; exact List.mem_cons_self ..))
    obtain ⟨b2, c2, k2⟩ := RdYs.repr r hh.2 (fun t m => hz t (by simp only [PyData.shownAll]; exact List.mem_cons_of_mem _ m))
    refine ⟨b1 ++ b2, ?_, ?_⟩
    · simp only [PyData.depthAll]
      exact (c1.mono (Nat.le_max_left _ _)).append (c2.mono (Nat.le_max_right _ _))
    · simp only [PyData.depthAll, PyData.shownAll]
      exact .cons ((k1.more fun b m => List.mem_append_left _ m).level_le (Nat.le_max_left _ _)) (k2.more_le (fun b m => List.mem_append_right _ m) (Nat.le_max_right _ _))
end
end
def rReprX (K : PySem.W.Frag) : List V → Hp → VK → Prop := fun xs H Q => ∃ (a : Addr) (p : PyData), xs = [.ref a] ∧ DpX K H (.ref a) p ∧ p.showable = true ∧ p.depth ≤ 60 ∧ p.shown.length ≤ sizeLine ∧ Q (.str p.shown) H
theorem call_reprX {X : Cx} (hg : X.A.guards = some []) (hu : X.A.units + 64 < cLine) : CallR X (.builtin "repr") (rReprX X.K) := by
  intro pins s σ H xs us Q I r h
  obtain ⟨a, p, rfl, hp, h1, h2, hz, q⟩ := h
  obtain ⟨u, rfl, ru⟩ := vals1 r
  have rx := DpX.rdy I hp ru
  cases ru
  have fin : ∀ h' (t : Tok) tk, (∀ b o, s.heap.get? b = some o → h'.get? b = some o) → ∃ v H', Inv X pins σ H' { s with heap := h', toks := tk } ∧ RelV v (.str p.shown t) ∧ Q v H' := fun h' t tk hk => ⟨.str _, H, I.kept (t' := tk) hk, ⟨_, rfl⟩, q⟩
  cases rx with
  | plain r hs => exact repr_of_reads' r h1 (fun z => by rw [hs] at z; cases z) hg (by omega) (fun _ _ e => e) (fun h' t tk hk => ⟨.str _, H, I.kept (t' := tk) hk, ⟨_, rfl⟩, q⟩) hz
  | @lst _ o vs n ds ho hc hd rr =>
    simp only [PyData.shown, PyData.depth, PyData.showable] at h1 h2 hz q
    obtain ⟨bs, hb, hk⟩ := RdYs.repr (prog := X.prog) (w := X.w) (h₀ := s.heap) rr h1 (fun t m => Nat.le_trans (listText_mem_le m) hz)
    obtain ⟨as, q4⟩ := RdYs.reads rr
    have out : a ∉ bs := not_mem_of_deeper (Reads.list ho hc hd q4) (by simp only [PyData.depth]; omega) hb
    obtain ⟨l⟩ := vs
    cases l with
    | nil =>
      have q' : RdYs s.heap [] ds := rr
      cases q'
      exact repr_of_reads' (Reads.list ho hc hd q4) rfl (fun z => by cases z) hg (by simp only [PyData.depth, PyData.depthAll]; omega) (fun _ _ e => e) (fun h' t tk hk => ⟨.str _, H, I.kept (t' := tk) hk, ⟨_, rfl⟩, q⟩) hz
    | cons x l => exact call_repr_slot (by omega) ⟨o, ho, hc⟩ F.slot_list_repr.toG (call_list_reprK (x := x) (l := l) (na := n) ho hc hd out (by simpa using hk.length_eq) (fun i y e => hk.item i y (by simpa using e)) (A := X.A.in1) (g := []) hg (fun b _ => Clear.nil b) (by show X.A.units + 1 + (PyData.depthAll ds + 1) < cLine; omega) (fun _ _ e => e)
      (fun h' t tk hkk => ⟨_, _, rfl, ⟨.str _, H, I.kept (t' := tk) hkk, ⟨_, rfl⟩, q⟩⟩) hz)
  | @tup _ o vs n ds ho hc hd rr =>
    simp only [PyData.shown, PyData.depth, PyData.showable] at h1 h2 hz q
    obtain ⟨bs, hb, hk⟩ := RdYs.repr (prog := X.prog) (w := X.w) (h₀ := s.heap) rr h1 (fun t m => Nat.le_trans (tupleText_mem_le m) hz)
    obtain ⟨as, q4⟩ := RdYs.reads rr
    have out : a ∉ bs := not_mem_of_deeper (Reads.tuple ho hc hd q4) (by simp only [PyData.depth]; omega) hb
    exact call_repr_slot (by omega) ⟨o, ho, hc⟩ F.slot_tuple_repr (call_tuple_reprK ho hc hd out hk (A := X.A.in1) (g := []) hg (fun b _ => Clear.nil b) (by show X.A.units + 1 + (PyData.depthAll ds + 1) < cLine; omega) (fun _ _ e => e)
      (fun h' t tk hkk => ⟨_, _, rfl, ⟨.str _, H, I.kept (t' := tk) hkk, ⟨_, rfl⟩, q⟩⟩) hz)
  | @dct _ o es n ps ho hc hd hsm r1 r2 =>
    simp only [PyData.shown, PyData.depth, PyData.showable] at h1 h2 hz q
    obtain ⟨s1, s2⟩ := PyData.showableKv_split ps h1
    obtain ⟨b1, c1, k1⟩ := RdYs.repr (prog := X.prog) (w := X.w) (h₀ := s.heap) r1 s1 (fun t ht => let ⟨p, hp, hl⟩ := PyData.shownKv_key_le ps t ht; Nat.le_trans hl (Nat.le_trans (dictText_mem_le hp) hz))
    obtain ⟨b2, c2, k2⟩ := RdYs.repr (prog := X.prog) (w := X.w) (h₀ := s.heap) r2 s2 (fun t ht => let ⟨p, hp, hl⟩ := PyData.shownKv_val_le ps t ht; Nat.le_trans hl (Nat.le_trans (dictText_mem_le hp) hz))
    obtain ⟨as1, q1⟩ := RdYs.reads r1
    obtain ⟨as2, q2⟩ := RdYs.reads r2
    have hb : ReadAtMost s.heap (PyData.depthKv ps) (b1 ++ b2) := (c1.mono (PyData.depthAll_keys_le ps)).append (c2.mono (PyData.depthAll_vals_le ps))
    have out : a ∉ b1 ++ b2 := not_mem_of_deeper (Reads.dict ho hc hd q1 q2) (by simp only [PyData.depth]; omega) hb
    rw [PyData.shownKv_eq] at hz q
    exact call_repr_slot (by omega) ⟨o, ho, hc⟩ F.slot_dict_repr (call_dict_reprK ho hc hd hsm out (ReprEntriesK.of_two es.toList _ _ (k1.more_le (fun b hb => List.mem_append_left _ hb) (PyData.depthAll_keys_le ps)) (k2.more_le (fun b hb => List.mem_append_right _ hb) (PyData.depthAll_vals_le ps))) (A := X.A.in1) (g := []) hg (fun b _ => Clear.nil b) (by show X.A.units + 1 + (PyData.depthKv ps + 1) < cLine; omega) (fun _ _ e => e)
      (fun h' t tk hkk => ⟨_, _, rfl, ⟨.str _, H, I.kept (t' := tk) hkk, ⟨_, rfl⟩, q⟩⟩) hz)

mutual
/-- what a thing is, dicts of anything in it too -/
def pyX : D → Option PyData
  | .non => some .none
  | .bl b => some (.bool b)
  | .int i => some (.int i)
  | .str s => some (.str s)
  | .tup ds => (pyXs ds).map .tuple
  | .lst ds => (pyXs ds).map .list
  | .dct kvs => (pyXk kvs).map .dict
  | _ => none
def pyXs : List D → Option (List PyData)
  | [] => some []
  | d :: r => match pyX d, pyXs r with
    | some x, some xs => some (x :: xs)
    | _, _ => none
def pyXk : List (Key × D) → Option (List (PyData × PyData))
  | [] => some []
  | (k, v) :: r => match pyX v, pyXk r with
    | some x, some xs => some ((keyPy k, x) :: xs)
    | _, _ => none
end
theorem pyXk_two : ∀ {kvs : List (Key × D)} {ps : List (PyData × PyData)}, pyXk kvs = some ps → ps.map (·.1) = kvs.map (fun q => keyPy q.1) ∧ pyXs (kvs.map (·.2)) = some (ps.map (·.2))
  | [], ps, h => by
    unfold pyXk at h
    cases h
    exact ⟨rfl, by unfold pyXs; rfl⟩
  | (k, v) :: r, ps, h => by
    unfold pyXk at h
    split at h
    · rename_i x xs e1 e2
      cases h
      obtain ⟨a, b⟩ := pyXk_two e2
      refine ⟨by rw [List.map_cons, List.map_cons, a], ?_⟩
      rw [List.map_cons, List.map_cons]
      unfold pyXs
      rw [e1, b]
    · cases h
section
variable {K : PySem.W.Frag} {F H : Hp} (e : Same F H)
include e
mutual
theorem Is.dpx : ∀ {v : V} {d : D} {p : PyData}, Is K F v d → pyX d = some p → DpX K H v p
  | _, _, _, .non, h => by unfold pyX at h; cases h; exact .non
  | _, _, _, .bl b, h => by unfold pyX at h; cases h; exact .bl b
  | _, _, _, .int i, h => by unfold pyX at h; cases h; exact .int i
  | _, _, _, .str s, h => by unfold pyX at h; cases h; exact .str s
  | _, _, _, .tup hs hl, h => by
    unfold pyX at h
    obtain ⟨ps, h1, rfl⟩ := Option.map_eq_some_iff.mp h
    exact .tup (sqt_up e hs) (IsL.dpx hl h1)
  | _, _, _, .lst hs hl, h => by
    unfold pyX at h
    obtain ⟨ps, h1, rfl⟩ := Option.map_eq_some_iff.mp h
    exact .lst (sql_up e hs) (IsL.dpx hl h1)
  | _, _, _, .dct (ks := ks) (ds := ds) hs hk hl, h => by
    unfold pyX at h
    obtain ⟨ps, h1, rfl⟩ := Option.map_eq_some_iff.mp h
    obtain ⟨e1, e2⟩ := pyXk_two h1
    refine .dct (.inl (e _ _ hs)) ?_ (IsL.dpx hl e2)
    rw [e1]
    have := congrArg (List.map keyPy) hk
    rw [List.map_map, List.map_map] at this
    exact this.symm
  | _, _, _, .obj a, h => by unfold pyX at h; cases h
  | _, _, _, .ty a, h => by unfold pyX at h; cases h
  | _, _, _, .fnv _ _ _, h => by unfold pyX at h; cases h
  | _, _, _, .exv0 _, h => by unfold pyX at h; cases h
  | _, _, _, .exv _ _ _ _, h => by unfold pyX at h; cases h
theorem IsL.dpx : ∀ {vs : List V} {ds : List D} {ps : List PyData}, IsL K F vs ds → pyXs ds = some ps → DpXs K H vs ps
  | _, _, _, .nil, h => by unfold pyXs at h; cases h; exact .nil
  | _, _, _, .cons i r, h => by
    unfold pyXs at h
    split at h
    · rename_i x xs e1 e2
      cases h
      exact .cons (Is.dpx i e1) (IsL.dpx r e2)
    · cases h
end
end
/-- what lies in the heap -/
def big : D → Bool
  | .tup _ => true
  | .lst _ => true
  | .dct _ => true
  | _ => false
def reprXD : List D → W D
  | [d] => if big d = true then W.bnd (W.opt (pyX d)) fun p => W.req (p.showable = true ∧ p.depth ≤ 60 ∧ p.shown.length ≤ sizeLine) (W.ret (.str p.shown)) else reprAD [d]
  | xs => reprAD xs
theorem cd_reprX {K : PySem.W.Frag} : CallD K (fun xs H Q => rReprX K xs H Q ∨ (rRepr K xs H Q ∨ rReprD xs H Q)) reprXD := by
  intro F H μ xs ds Q ED Qh r il h bk
  unfold reprXD at h
  split at h
  · rename_i d
    split at h
    · rename_i hb
      obtain ⟨v, rfl, i⟩ := isL1 il
      obtain ⟨p, e, ⟨h1, h2, h3⟩, q⟩ := opt_of h
      have hx := Is.dpx r.sub i e
      cases i with
      | tup hs hl => exact .inl ⟨_, p, rfl, hx, h1, h2, h3, back_is bk r (.str _) q⟩
      | lst hs hl => exact .inl ⟨_, p, rfl, hx, h1, h2, h3, back_is bk r (.str _) q⟩
      | dct hs hk hl => exact .inl ⟨_, p, rfl, hx, h1, h2, h3, back_is bk r (.str _) q⟩
      | _ => cases hb
    · exact .inr (cd_reprA F H μ xs _ Q ED Qh r il h bk)
  · exact .inr (cd_reprA F H μ xs ds Q ED Qh r il h bk)
/-- a thing whose repr is told: depth k, room z -/
structure Sx (k z : Nat) (d : D) : Prop where
  py : ∃ p, pyX d = some p ∧ p.showable = true ∧ p.depth ≤ k ∧ p.shown.length ≤ z
structure SxL (k z : Nat) (ds : List D) : Prop where
  py : ∃ ps, pyXs ds = some ps ∧ PyData.showableAll ps = true ∧ PyData.depthAll ps ≤ k ∧ piled (PyData.shownAll ps) ≤ z
structure SxK (k z : Nat) (ds : List (Key × D)) : Prop where
  py : ∃ ps, pyXk ds = some ps ∧ PyData.showableKv ps = true ∧ PyData.depthKv ps ≤ k ∧ piled (PyData.shownKv ps) ≤ z
theorem Sx.mono {k z k' z' : Nat} {d : D} (h : Sx k z d) (hk : k ≤ k') (hz : z ≤ z') : Sx k' z' d := by
  obtain ⟨p, a, b, c, e⟩ := h.py
  exact ⟨p, a, b, Nat.le_trans c hk, Nat.le_trans e hz⟩
theorem SxL.mono {k z k' z' : Nat} {d : List D} (h : SxL k z d) (hk : k ≤ k') (hz : z ≤ z') : SxL k' z' d := by
  obtain ⟨p, a, b, c, e⟩ := h.py
  exact ⟨p, a, b, Nat.le_trans c hk, Nat.le_trans e hz⟩
theorem SxL.nil {k : Nat} : SxL k 0 [] := ⟨[], by unfold pyXs; rfl, rfl, Nat.zero_le _, Nat.le_refl _⟩
theorem SxL.cons {k a b : Nat} {d : D} {r : List D} (h : Sx k a d) (hr : SxL k b r) : SxL k (a + 2 + b) (d :: r) := by
  obtain ⟨p, p1, p2, p3, p4⟩ := h.py
  obtain ⟨ps, q1, q2, q3, q4⟩ := hr.py
  refine ⟨p :: ps, ?_, ?_, ?_, ?_⟩
  · unfold pyXs
    rw [p1, q1]
  · show (p.showable && PyData.showableAll ps) = true
    rw [p2, q2]
    rfl
  · show max p.depth (PyData.depthAll ps) ≤ k
    omega
  · show piled (p.shown :: PyData.shownAll ps) ≤ _
    rw [piled_cons]
    omega
theorem SxL.all {k z : Nat} : ∀ {n : Nat} {ds : List D}, (∀ d ∈ ds, Sx k z d) → ds.length ≤ n → SxL k (n * (z + 2)) ds
  | n, [], _, _ => SxL.nil.mono (Nat.le_refl _) (Nat.zero_le _)
  | 0, d :: r, _, h => absurd h (by simp)
  | n + 1, d :: r, h, hl => by
    have i := SxL.all (n := n) (ds := r) (fun x hx => h x (List.mem_cons_of_mem _ hx)) (by simpa using hl)
    refine (SxL.cons (h d (List.mem_cons_self ..)) i).mono (Nat.le_refl _) ?_
    rw [Nat.succ_mul]
    omega
theorem Sx.tup {k z : Nat} {ds : List D} (h : SxL k z ds) : Sx (k + 1) (z + 3) (.tup ds) := by
  obtain ⟨ps, q1, q2, q3, q4⟩ := h.py
  have l := tupleText_le (PyData.shownAll ps)
  refine ⟨.tuple ps, by unfold pyX; rw [q1]; rfl, q2, by show PyData.depthAll ps + 1 ≤ k + 1; omega, ?_⟩
  show (tupleText (PyData.shownAll ps)).length ≤ z + 3
  omega
theorem Sx.lst {k z : Nat} {ds : List D} (h : SxL k z ds) : Sx (k + 1) (z + 2) (.lst ds) := by
  obtain ⟨ps, q1, q2, q3, q4⟩ := h.py
  have l := listText_le (PyData.shownAll ps)
  refine ⟨.list ps, by unfold pyX; rw [q1]; rfl, q2, by show PyData.depthAll ps + 1 ≤ k + 1; omega, ?_⟩
  show (listText (PyData.shownAll ps)).length ≤ z + 2
  omega
theorem Sx.non {k : Nat} : Sx k 4 .non := ⟨.none, by unfold pyX; rfl, rfl, Nat.zero_le _, by decide⟩
theorem Sx.bl {k : Nat} {b : Bool} : Sx k 5 (.bl b) := ⟨.bool b, by unfold pyX; rfl, rfl, Nat.zero_le _, by cases b <;> decide⟩
theorem Sx.int {k : Nat} {i : Int} (h : i.natAbs.log2 < 1920) : Sx k 1921 (.int i) := ⟨.int i, by unfold pyX; rfl, by simpa [PyData.showable] using h, Nat.zero_le _, int_text_len_1921 h⟩
theorem Sx.str {k n : Nat} {s : Str} (h : ∀ c ∈ s.cps.toList, c < 1114112) (hn : s.length ≤ n) : Sx k (10 * n + 2) (.str s) := ⟨.str s, by unfold pyX; rfl, rfl, Nat.zero_le _, by
  have : (reprText s).length ≤ 10 * s.length + 2 := StrLaws.reprText_len s fun c hc => by have := h c hc; omega
  show (reprText s).length ≤ 10 * n + 2
  omega⟩
theorem SxK.nil {k : Nat} : SxK k 0 [] := ⟨[], by unfold pyXk; rfl, rfl, Nat.zero_le _, Nat.le_refl _⟩
theorem SxK.consS {k a b n : Nat} {s : Str} {d : D} {r : List (Key × D)} (hs : ∀ c ∈ s.cps.toList, c < 1114112) (hn : s.length ≤ n) (h : Sx k a d) (hr : SxK k b r) : SxK k (10 * n + a + 6 + b) ((.inr s, d) :: r) := by
  obtain ⟨p, p1, p2, p3, p4⟩ := h.py
  obtain ⟨ps, q1, q2, q3, q4⟩ := hr.py
  refine ⟨(.str s, p) :: ps, ?_, ?_, ?_, ?_⟩
  · unfold pyXk
    rw [p1, q1]
    rfl
  · show (true && p.showable && PyData.showableKv ps) = true
    rw [p2, q2]
    rfl
  · show max (max 0 p.depth) (PyData.depthKv ps) ≤ k
    omega
  · show piled ((reprText s ++ ": " ++ p.shown) :: PyData.shownKv ps) ≤ _
    have : (reprText s).length ≤ 10 * s.length + 2 := StrLaws.reprText_len s fun c hc => by have := hs c hc; omega
    rw [piled_cons, strLen_append, strLen_append]
    have e : ((": " : String) : Str).length = 2 := by decide +kernel
    omega
theorem dictText_le (ts : List Str) : (dictText ts).length ≤ piled ts + 2 := by
  have e : (dictText ts).length = 1 + (Str.join ", " ts).length + 1 := by
    unfold dictText
    rw [strLen_append, strLen_append]
    rfl
  by_cases h : ts = []
  · subst h
    rw [e]
    show 1 + 0 + 1 ≤ _
    omega
  · have := join_length_add ts h
    omega
theorem Sx.dct {k z : Nat} {ds : List (Key × D)} (h : SxK k z ds) : Sx (k + 1) (z + 2) (.dct ds) := by
  obtain ⟨ps, q1, q2, q3, q4⟩ := h.py
  have l := dictText_le (PyData.shownKv ps)
  refine ⟨.dict ps, by unfold pyX; rw [q1]; rfl, q2, by show PyData.depthKv ps + 1 ≤ k + 1; omega, ?_⟩
  show (dictText (PyData.shownKv ps)).length ≤ z + 2
  omega
theorem Sx.repr {k z : Nat} {d : D} (h : Sx k z d) (hb : big d = true) (hk : k ≤ 60) (hz : z ≤ 16000000) : ∃ w : Str, ∀ (μ : Mem) (Q : D → Mem → Prop) (E : XD), Q (.str w) μ → reprXD [d] μ Q E := by
  obtain ⟨p, q1, q2, q3, q4⟩ := h.py
  refine ⟨p.shown, fun μ Q E q => ?_⟩
  show (if big d = true then W.bnd (W.opt (pyX d)) fun p => W.req (p.showable = true ∧ p.depth ≤ 60 ∧ p.shown.length ≤ sizeLine) (W.ret (.str p.shown)) else reprAD [d]) μ Q E
  rw [if_pos hb, q1]
  exact ⟨⟨q2, by omega, by rw [sz_eq]; omega⟩, q⟩
end DL

/-! DQm: comprehensions of two clauses. -/
namespace DL
open PySem PySem.Spec PyProof.Rows L2

section
variable {X : Cx} {elt tg iter tg1 iter1 : Expr} {ifs ifs1 : List Expr} {scope : Scope} {own : List (Str × Nat)} {pos : Pos} {mi mi1 : Rho → W ItD} {g g1 : D → Rho → W Rho} {tt tt1 : Rho → W Bool} {te : Rho → W D} {ts ts1 vs1 : List Nat}
end
/-! ### plain tools -/
end DL

/-! DQn: functions without a name that may raise, called in a try. -/
namespace DL
open PySem PySem.Spec PyProof.Rows L2 LamX NdefX DN

structure FnX (P : Program) (w : World) (K : PySem.W.Frag) (mg : Str → Option Value) (base : Heap) (k n : Nat) (d : D) (m : List D → W D) : Prop where
  at_ : ∀ (F H : Hp) (h : Heap) (v : V), Same F H → HOk P w H h → K.In h → Is K F v d → ∃ f, v = .ref f ∧ PySem.W.FnAt f h
  run : ∀ (A : Around) (outer : List Env) (s : Shared) (F H : Hp) (f : Addr) (us : List Value) (vs : List V) (ds : List D) (μ : Mem) (Q : D → Mem → Prop) (ED : XD) (Qh : VK) (E : XK), A.guards = some [] → Room k A → Env0 P w K mg base A outer s H → Is K F (.ref f) d → Rep K F H μ → Vals vs us → IsL K F vs ds → Lnk K (some (.ex E mg)) F ED → ds.length = n → m ds μ Q ED → Back K F (Is K) Q Qh →
    codeAny (model P w) A (.call (.ref f) ⟨us, []⟩) (CR (L2N.CX P w) outer P w H s Qh E) s
def FnXs (P : Program) (w : World) (K : PySem.W.Frag) (mg : Str → Option Value) (base : Heap) (k : Nat) (tb : Tb) : Prop := ∀ t ∈ tb, FnX P w K mg base k t.1 t.2.1 t.2.2
section
variable {P : Program} {w : World} {K : PySem.W.Frag} {mg : Str → Option Value} {base : Heap} {k j n : Nat} {d : D} {m : List D → W D} {tb : Tb}
theorem FnX.mono (h : FnX P w K mg base j n d m) (l : j ≤ k) : FnX P w K mg base k n d m := ⟨h.at_, fun A outer s F H f us vs ds μ Q ED Qh E hg hr => h.run A outer s F H f us vs ds μ Q ED Qh E hg (hr.mono l)⟩
theorem FnXs.mono (h : FnXs P w K mg base j tb) (l : j ≤ k) : FnXs P w K mg base k tb := fun t ht => (h t ht).mono l
end
/-! ### a local name that holds such a function, called in a try's body -/
/-! ### a def that takes one -/
section
variable {X : Cx} {k kt n np i : Nat} {f : Addr} {fd : FuncData} {ps ks N pl fr : List Str} {x : Str} {p pos : Pos} {e : Expr} {es : List Expr} {kws : List Keyword} {m : Tb → List D → W D} {ms mk : Rho → W (List D)} {sel : List (Bool × Nat)} {cs : List D}
  {params : Arguments} {body : Expr} {sc scope : Scope} {js : List Nat} {mL : Rho → W D}
end
end DL

/-! DQo: plain tools that most laws want. -/
namespace DL
open PySem PySem.Spec PyProof.Rows L2

/-! ### plain data, part by part -/
structure PlL (k z : Nat) (ds : List D) : Prop where
  good : gdL ds = true
  dep : dptL ds ≤ k
  siz : dszL ds ≤ z
theorem PlL.nil {k : Nat} : PlL k 0 [] := ⟨rfl, Nat.zero_le _, Nat.le_refl _⟩
theorem PlL.cons {k z z' : Nat} {d : D} {ds : List D} (h : Pl k z d) (t : PlL k z' ds) : PlL k (z + 2 + z') (d :: ds) := by
  have h1 := h.siz
  have h2 := t.siz
  exact ⟨Bool.and_eq_true_iff.mpr ⟨h.good, t.good⟩, Nat.max_le.mpr ⟨h.dep, t.dep⟩, by show dsz d + 2 + dszL ds ≤ _; omega⟩
theorem PlL.all {k z n : Nat} {ds : List D} (h : ∀ d ∈ ds, Pl k z d) (hn : ds.length ≤ n) : PlL k ((z + 2) * n) ds :=
  ⟨gdL_mem fun d hd => (h d hd).good, dptL_mem fun d hd => (h d hd).dep, Nat.le_trans (dszL_mem fun d hd => (h d hd).siz) (Nat.mul_le_mul_left _ hn)⟩
theorem PlL.tup {k z : Nat} {ds : List D} (h : PlL k z ds) : Pl (k + 1) (z + 3) (.tup ds) := by
  have h1 := h.siz
  have h2 := h.dep
  exact ⟨h.good, by show dptL ds + 1 ≤ _; omega, by show dszL ds + 3 ≤ _; omega⟩
theorem PlL.lst {k z : Nat} {ds : List D} (h : PlL k z ds) : Pl (k + 1) (z + 3) (.lst ds) := by
  have h1 := h.siz
  have h2 := h.dep
  exact ⟨h.good, by show dptL ds + 1 ≤ _; omega, by show dszL ds + 3 ≤ _; omega⟩
theorem Pl.to {k z : Nat} {d : D} (h : Pl 0 z d) : Pl k z d := h.mono (Nat.zero_le _) (Nat.le_refl _)
/-! ### items -/
theorem atI_n {α : Type} {ds : List α} {k : Nat} : k < ds.length → atI ds (k : Int) = ds[k]? := fun h => by
  unfold atI ixN
  rw [if_pos (by omega), if_pos (by omega), Int.toNat_natCast]
  rfl
/-! ### dicts -/
/-! ### lists -/
/-! ### the least, the greatest of numbers -/
end DL

/-! DQp: len(set(xs)), xs a tuple or list of whole numbers and texts. -/
namespace DL
open PySem PySem.Spec PyProof.Rows L2
section
variable {P : Program} {w : World} {A : Around} {R : Result → Shared → Prop} {it : Addr} {fp wr : List Addr} {G : Array GenState → Array GenState → Prop} {n : Nat} {Pv : Nat → Value → Prop} {St : Nat → Shared → Prop}
end
section
variable {P : Program} {w : World} {A : Around} {E : Value → Shared → Prop} {s : Shared}
end
/-! ### the same over V, over D -/
section
variable {X : Cx}
def keysT : List D → Option (List Key)
  | [] => some []
  | d :: r => match keyOf d, keysT r with
    | some k, some ks => some (k :: ks)
    | _, _ => none
/-- len(set(xs)) -/
def lenSetD (d : D) : W D := match d with
  | .tup ds => W.bnd (W.opt (keysT ds)) fun ks => W.req (ks.length ≤ 4000) (W.ret (.int ((cntK (fun _ => false) ks : Nat) : Int)))
  | _ => W.bad
def eLenSet (m : Rho → W D) (ρ : Rho) : W D := W.bnd (m ρ) lenSetD
theorem x_lenSet {m : Rho → W D} {ρ : Rho} {μ : Mem} {Q : D → Mem → Prop} {E : XD} : eLenSet m ρ μ Q E = m ρ μ (fun d μ1 => lenSetD d μ1 Q E) E := propext ⟨fun h => h, fun h => h⟩
end
/-! ### a if c else b, as a test -/
section
variable {X : Cx} {Eh : Option EX} {c a b : Expr} {pos : Pos} {tA t1 t2 : TT} {mc ma mb : Rho → W Bool}
def tIfE (c a b : Rho → W Bool) (ρ : Rho) : W Bool := W.bnd (c ρ) fun k => if k = true then a ρ else b ρ
theorem x_ifT {μ : Mem} {E : XD} {ρ : Rho} {Q : Bool → Mem → Prop} : tIfE mc ma mb ρ μ Q E = mc ρ μ (fun k μ1 => if k = true then ma ρ μ1 Q E else mb ρ μ1 Q E) E := by
  unfold tIfE W.bnd
  congr 1
  funext k μ1
  cases k <;> rfl
end
end DL

/-! DQq: len of a dict that is just made; any(xss) of a list of lists. -/
namespace DL
open PySem PySem.Spec PyProof.Rows L2

/-! ### len of a dict -/
def lenBD : List D → W D
  | [.dct kvs] => W.ret (.int kvs.length)
  | as => lenAD as
theorem lenB_d {kvs : List (Key × D)} {μ : Mem} {Q : D → Mem → Prop} {E : XD} : lenBD [.dct kvs] μ Q E = Q (.int kvs.length) μ := propext ⟨fun h => h, fun h => h⟩
/-! ### any of lists -/
end DL
namespace PySem.SeqAt
open PySem
open MeetsSeq
section
variable {A : Around} {s : Shared}
end
end PySem.SeqAt
namespace DL
open PySem PySem.Spec PyProof.Rows L2

section
variable {X : Cx} {pins : List (Addr × Obj)} {σ : L2.St} {H : Hp} {s : Shared} {x : V} {u : Value} {o : Option Str}
end
/-- x == (text,), x any thing -/
inductive OneV (K : PySem.W.Frag) (H : Hp) (z : Str) : V → Bool → Prop
  | non : OneV K H z .non false
  | bl (b : Bool) : OneV K H z (.bl b) false
  | int (i : Int) : OneV K H z (.int i) false
  | str (t : Str) : OneV K H z (.str t) false
  | lst {a : Addr} {xs : List V} (h : SqL K H a xs) : OneV K H z (.ref a) false
  | dct {a : Addr} {ks : List (Key × V)} (h : Rd H a (.dK ks)) : OneV K H z (.ref a) false
  | tup {a : Addr} {xs : List V} {os : List (Option Str)} (h : SqT K H a xs) (k : Paired (KdV K H) xs os) : OneV K H z (.ref a) (decide (os = [some z]))
section
variable {X : Cx} {pins : List (Addr × Obj)} {σ : L2.St} {H : Hp} {s : Shared} {x : V} {u : Value}
end
end DL

/-! DQr: sorted(set(xs)) of whole numbers. -/
namespace DL
open PySem PySem.Spec PyProof.Rows L2
section
variable {P : Program} {w : World} {A : Around} {E : Value → Shared → Prop} {s : Shared}
end

section
variable {X : Cx}
/-- sorted(set(xs)) -/
def sortSetD (d : D) : W D := W.bnd W.get fun μ => W.bnd (W.opt (lsOf d μ)) fun ds => W.bnd (W.opt (intsOf ds)) fun ns => W.req (ns.length ≤ 4000 ∧ ∃ L : List Int, L.length < 64 ∧ ∀ k ∈ ns, k ∈ L) fun μ' Q _ =>
  ∀ ys : List Int, ys.Pairwise (· < ·) → (∀ k, k ∈ ys ↔ k ∈ ns) → Q (.lst (ys.map .int)) μ'
def eSortSet (m : Rho → W D) (ρ : Rho) : W D := W.bnd (m ρ) sortSetD
theorem x_sortSet {m : Rho → W D} {ρ : Rho} {μ : Mem} {Q : D → Mem → Prop} {E : XD} : eSortSet m ρ μ Q E = m ρ μ (fun d μ1 => sortSetD d μ1 Q E) E := propext ⟨fun h => h, fun h => h⟩
end
end DL

/-! DQs: d.update(dict), tuple(d.items()). -/
namespace DL
open PySem PySem.Spec PyProof.Rows L2
open PySem.W (kdx_collect KdxG)
/-! ### d.update(dict) -/
section
variable {X : Cx}
def updD (o : D) : List D → W D
  | [.dct more] => W.bnd W.get fun μ => W.bnd (W.opt (mdOf o μ)) fun p => W.req (p.2.length + more.length ≤ sizeLine) fun μ Q _ => Q .non (put μ p.1 (.md (mergeD p.2 more)))
  | _ => W.bad
theorem x_updD {p : Addr} {more : List (Key × D)} {μ : Mem} {Q : D → Mem → Prop} {E : XD} : updD (.obj p) [.dct more] μ Q E = onM (μ p) fun kvs => (kvs.length + more.length ≤ sizeLine ∧ Q .non (put μ p (.md (mergeD kvs more)))) := by
  show W.bnd (W.opt (mdOf (.obj p) μ)) _ μ Q E = _
  unfold mdOf onM
  dsimp only
  cases μ p with
  | none => exact propext ⟨(fun h => by obtain ⟨_, e, _⟩ := opt_of h; cases e), fun h => False.elim h⟩
  | some o =>
    cases o with
    | md kvs => exact propext ⟨fun h => h, fun h => h⟩
    | _ => exact propext ⟨(fun h => by obtain ⟨_, e, _⟩ := opt_of h; cases e), fun h => False.elim h⟩
end
/-! ### tuple(d.items()) -/
section
variable {P : Program} {w : World} {A : Around} {E : Value → Shared → Prop} {s : Shared} {r d : Addr} {es : Array DictEntry} {ep : Nat}
end
section
variable {X : Cx}
theorem paired_of {α β : Type} {R : α → β → Prop} : ∀ {l : List α} {m : List β}, l.length = m.length → (∀ (j : Nat) (a : α) (b : β), l[j]? = some a → m[j]? = some b → R a b) → Paired R l m
  | [], [], _, _ => .nil
  | [], _ :: _, h, _ => by simp at h
  | _ :: _, [], h, _ => by simp at h
  | a :: l, b :: m, h, hr => .cons (hr 0 a b rfl rfl) (paired_of (by simpa using h) fun j x y hx hy => hr (j + 1) x y hx hy)
theorem nd_at {α : Type} {l : List α} {i j : Nat} {x : α} (h : l.Nodup) (hi : l[i]? = some x) (hj : l[j]? = some x) : i = j := by
  obtain ⟨l1, e1⟩ := List.getElem?_eq_some_iff.mp hi
  obtain ⟨l2, e2⟩ := List.getElem?_eq_some_iff.mp hj
  rcases Nat.lt_trichotomy i j with z | z | z
  · exact absurd (e1.trans e2.symm) (List.pairwise_iff_getElem.mp h i j l1 l2 z)
  · exact z
  · exact absurd (e2.trans e1.symm) (List.pairwise_iff_getElem.mp h j i l2 l1 z)
theorem vals_refs : ∀ as : List Addr, Vals (as.map V.ref) (as.map Value.ref)
  | [] => .nil
  | a :: r => .cons rfl (vals_refs r)
end
/-! ### the same over D -/
def kD : Key → D
  | .inl i => .int i
  | .inr s => .str s
def pairD (kv : Key × D) : D := .tup [kD kv.1, kv.2]
def tupItD (d : D) : W D := W.bnd W.get fun μ => W.bnd (W.opt (mdOf d μ)) fun p => W.ret (.tup (p.2.map pairD))
def eTupIt (m : Rho → W D) (ρ : Rho) : W D := W.bnd (m ρ) tupItD
theorem MoIs.ext {K : PySem.W.Frag} {F F' H H' : Hp} {a : Addr} {mo : MO} (e : Same F F') (k : ∀ o, H a = some o → H' a = some o) (h : MoIs K F H a mo) : MoIs K F' H' a mo := by
  cases mo with
  | ml ds => obtain ⟨vs, h1, h2⟩ := h; exact ⟨vs, k _ h1, h2.up e⟩
  | md ds => obtain ⟨vs, h1, h2, h3⟩ := h; exact ⟨vs, k _ h1, h2, h3.up e⟩
  | mi C fs => obtain ⟨dx, vs, h1, h2, h3⟩ := h; exact ⟨dx, vs, k _ h1, h2, h3.up e⟩
  | tb nm => obtain ⟨ps, h1, h2, h3⟩ := h; exact ⟨ps, k _ h1, h2, fun p cv hc => by obtain ⟨c, e1, e2⟩ := h3 p cv hc; exact ⟨c, e1, e _ _ e2⟩⟩
  | st f => obtain ⟨o, e1, h1⟩ := h; exact ⟨o, e1, k _ h1⟩
section
variable {X : Cx}
theorem x_tupIt {m : Rho → W D} {ρ : Rho} {μ : Mem} {Q : D → Mem → Prop} {E : XD} : eTupIt m ρ μ Q E = m ρ μ (fun d μ1 => tupItD d μ1 Q E) E := propext ⟨fun h => h, fun h => h⟩
theorem x_tupItO {p : Addr} {μ : Mem} {Q : D → Mem → Prop} {E : XD} : tupItD (.obj p) μ Q E = onM (μ p) fun kvs => Q (.tup (kvs.map pairD)) μ := by
  show W.bnd (W.opt (mdOf (.obj p) μ)) _ μ Q E = _
  unfold mdOf onM
  dsimp only
  cases μ p with
  | none => exact propext ⟨(fun h => by obtain ⟨_, e, _⟩ := opt_of h; cases e), fun h => False.elim h⟩
  | some o =>
    cases o with
    | md kvs => exact propext ⟨fun h => h, fun h => h⟩
    | _ => exact propext ⟨(fun h => by obtain ⟨_, e, _⟩ := opt_of h; cases e), fun h => False.elim h⟩
end
end DL

/-! DQt: xs.extend(a tuple). -/
namespace DL
open PySem PySem.Spec PyProof.Rows L2
def tuOf : D → Option (List D)
  | .tup ds => some ds
  | _ => none
def extendTD (o : D) : List D → W D
  | [x] => W.bnd W.get fun μ => W.bnd (W.opt (mlOf o μ)) fun p => W.bnd (W.opt (tuOf x)) fun ds => W.req (p.2.length + ds.length ≤ sizeLine) (W.setL p.1 (p.2 ++ ds) (W.ret .non))
  | _ => W.bad
theorem x_extT {a : Addr} {xs : List D} {μ : Mem} {Q : D → Mem → Prop} {E : XD} : extendTD (.obj a) [.tup xs] μ Q E = onL (μ a) fun ds => (ds.length + xs.length ≤ sizeLine ∧ Q .non (put μ a (.ml (ds ++ xs)))) := by
  show W.bnd (W.opt (mlOf (.obj a) μ)) _ μ Q E = _
  unfold mlOf onL
  dsimp only
  cases μ a with
  | none => rfl
  | some mo => cases mo <;> rfl
end DL

/-! DQu: y = [te for g in mi if tt for g1 in mi1 if tt1]. -/
namespace DL
open PySem PySem.Spec PyProof.Rows L2
section
variable {X : Cx} {elt tg iter tg1 iter1 : Expr} {ifs ifs1 : List Expr} {scope : Scope} {own : List (Str × Nat)} {vs1 : List Nat} {pos : Pos} {mi mi1 : Rho → W ItD} {g g1 : D → Rho → W Rho} {tt tt1 : Rho → W Bool} {te : Rho → W D} {ts ts1 : List Nat}
end
end DL

/-! DQv: a list comprehension over range(n) while an exception is handled. -/
namespace DL
open PySem PySem.Spec PyProof.Rows L2 LamX NdefX
open L2H (RoomH PinOk cxH inv_startH HotC Hot1 TurnH PIH PIEH)

section
variable {X : Cx} {p : Addr × Obj} {σ : L2.St} {H : Hp} {s : Shared} {b : Addr}
end
section
variable {X : Cx}
end
end DL

/-! DQw: defs that take the exception that is handled, called in a clause's suite. -/
namespace DL
open PySem PySem.Spec PyProof.Rows L2 LamX NdefX
open L2H (RoomH PinOk cxH inv_startH HotC Hot1 TurnH PIH PIEH)

structure FnE (P : Program) (w : World) (K : PySem.W.Frag) (mg : Str → Option Value) (base : Heap) (k : Nat) (f : Addr) (fd : FuncData) (ps : List Str) (sp : Addr × Obj → Sp) : Prop where
  len : ∀ p vs H Q E, sp p vs H Q E → vs.length = ps.length
  go : ∀ (A : Around) (outer : List Env) (s : Shared) (H : Hp) (args : Args) (us : List Value) (vs : List V) (Q : VK) (E : XK) (p : Addr × Obj), A.guards = some [] → RoomH k A → Hot1 A p → PinOk outer H s p → Env0 P w K mg base A outer s H → BindsTo s fd args (ps.zip us) → Vals vs us → sp p vs H Q E →
    codeAny (model P w) A (.call (.ref f) args) (CR CX0 outer P w H s Q E) s
section
variable {P : Program} {w : World} {K : PySem.W.Frag} {mg : Str → Option Value} {base : Heap} {k : Nat}
end
/-! ### the call -/
section
variable {X : Cx} {a : Addr} {oe : Obj} {cls : Value} {d : Option Addr} {pn : List (Addr × Obj)} {i k : Nat} {nm fn pm : Str} {f : Addr} {fd : FuncData} {known : List Str} {m : Addr → Ex → W D} {x : Ex} {p p1 pos : Pos}
end
/-! ### isinstance of it, where it is pinned -/
section
variable {X : Cx} {a : Addr} {oe : Obj} {cls : Value} {d : Option Addr} {i : Nat} {nm cn : Str} {C2 : Addr} {fs : List (Str × D)} {b : Bool} {p p1 p2 pos : Pos} {ec : Expr} {c : V} {u : Value}
end
theorem bt_ValueError : bootBuiltins "ValueError" = some (.type "ValueError") := by decide +kernel
theorem bt_KeyError : bootBuiltins "KeyError" = some (.type "KeyError") := by decide +kernel
theorem bt_ArithmeticError : bootBuiltins "ArithmeticError" = some (.type "ArithmeticError") := by decide +kernel
/-! ### name = [.. for x in range(n) ..] there -/
section
variable {X : Cx} {Eh : Option EX} {elt tg : Expr} {ifs : List Expr} {scope : Scope} {own : List (Str × Nat)} {pos : Pos} {g : D → Rho → W Rho} {tt : Rho → W Bool} {te : Rho → W D} {ts : List Nat}
theorem PIH.imp {iter : Expr} {wi wi' : TI} (h : PIH X tg iter wi) (i : ∀ σ H R, wi' σ H R → wi σ H R) : PIH X tg iter wi' := ⟨fun pins s σ H R I q => h.run pins s σ H R I (i _ _ _ q)⟩
end
section
variable {μ : Mem} {Q : D → Mem → Prop} {E : XD} {ρ : Rho} {i : Nat} {a : Addr}
end
end DL

/-! DQxa: own exceptions made by a call with keywords. -/
namespace PySem
namespace DNX
open Builtin Builtin.ObjectAttr
section
variable {M : Model} {A : Around} {E : Value → Shared → Prop} {h : Heap} {g : Array GenState} {d : Drawn} {t : Nat} {os : OsState}
variable {nm q : Str} {C N : Addr} {bs bm tl : List Value} {hdct : Bool} {sn : List Str} {sub : List Value} {ab : Bool} {col : Option Bool} {dd : Option Addr} {k0 k1 k2 k3 k5 : Option Value} {Bn newId Bi initId : String} {kw : List (Str × Value)}
theorem check_newK {rest : List Value} {Q : Unit → Shared → Prop} (F : XBase Bn newId Bi initId tl) (T : tlOk tl bm = true)
    (hC : h.get? C = some (excClassObj nm q C N bs bm hdct sn sub ab col dd k0 k1 k2 k3 k5 newId)) (hq : Q () ⟨h, g, d, t, os⟩) : wpAny M A (checkBuiltinCall newId ⟨.ref C :: rest, kw⟩) Q E ⟨h, g, d, t, os⟩ := by
  obtain ⟨_, _, FN⟩ := F.new
  have hcont := has_of (C := C) T F.cN
  have hstar := FN.noStar
  simp only [checkBuiltinCall, FN.newKind, FN.newSplit, FN.newRow]
  repeat (first | refine wpAny_loadPart_at hC ?_ | (refine wpAny_isSubtype_exc hC ?_; rw [hcont]) | refine wpAny_staticBase_exc hC ?_ | refine wpAny_madeBy_exc hC ?_ | simp only [bne_self_eq_false, Bool.false_eq_true, if_false] | wp_step)
  exact hq
theorem check_callK {rest : List Value} {Q : Unit → Shared → Prop} (hC : h.get? C = some (excClassObj nm q C N bs bm hdct sn sub ab col dd k0 k1 k2 k3 k5 newId))
    (hq : Q () ⟨h, g, d, t, os⟩) : wpAny M A (checkBuiltinCall "type.__call__" ⟨.ref C :: rest, kw⟩) Q E ⟨h, g, d, t, os⟩ := by
  have f3 := tc_sub
  have hT : (⟨h, g, d, t, os⟩ : Shared).TypeIs (.ref C) "type" := ⟨_, hC, rfl⟩
  simp only [checkBuiltinCall, tc_kind, tc_split]
  repeat (any_goals (first | assumption | with_reducible refine wpAny_loadPart_at hC ?_ | with_reducible refine wpAny_onRaise ?_ | with_reducible refine wpAny_map ?_ | wp_step))
end
section
variable {prog : Program} {w : World} {A : Around} {E : Value → Shared → Prop} {R : Result → Shared → Prop} {h : Heap} {g : Array GenState} {d : Drawn} {t : Nat} {os : OsState}
variable {nm q : Str} {C N : Addr} {bs bm tl : List Value} {hdct : Bool} {sn : List Str} {sub : List Value} {ab : Bool} {col : Option Bool} {dd : Option Addr} {k0 k1 k2 k3 k5 : Option Value} {Bn newId Bi initId : String} {kw : List (Str × Value)}
theorem new_madeK {rest : List Value} (F : XBase Bn newId Bi initId tl) (T : tlOk tl bm = true)
    (hC : h.get? C = some (excClassObj nm q C N bs bm hdct sn sub ab col dd k0 k1 k2 k3 k5 newId)) (hrest : rest.length ≤ sizeLine)
    (hq : R (.ok (.ret (.ref (h.objs.size + 1)))) ⟨(h.push { cls := .type "tuple", data := .seq rest.toArray }).push
      { cls := .ref C, data := .fields #[.ref h.objs.size, .none, .none, .none, .bool false, .none] }, g, d, t, os⟩) :
    codeAny (model prog w) A (.builtin newId ⟨.ref C :: rest, kw⟩) R ⟨h, g, d, t, os⟩ := by
  obtain ⟨_, _, FN⟩ := F.new
  have hends := FN.ends
  have hcB := has_of (C := C) T F.cN
  have hcA := has_of (C := C) T F.cA
  have hcN := has_of (C := C) T F.cM
  refine codeAny_builtinAt FN.entry ?_
  unfold Builtin.«BaseException.__new__»
  refine wpAt_bind ?_
  show wpAt _ _ _ (stack >>= _) _ _ _
  refine wpAt_bind (wpAt_stack fun p below => wpAt_of_wpAny ?_)
  wp_walk
  refine wpAt_of_wpAny ?_
  rw [FN.owner]
  repeat (first | with_reducible refine wpAny_madeHere_exc FN.canon hC ?_ | with_reducible refine wpAny_loadPart_at hC ?_ | (with_reducible refine wpAny_isSubtype_exc hC ?_; first | rw [hcB] | rw [hcA] | rw [hcN]) | wp_step)
  show R _ _
  rw [Heap.size_push]
  exact hq
theorem type_call_madeK {rest : List Value} {fI : Addr} {Q : Fin → Shared → Prop} (F : XBase Bn newId Bi initId tl) (T : tlOk tl bm = true)
    (hC : h.get? C = some (excClassObj nm q C N bs bm hdct sn sub ab col dd k0 k1 k2 k3 k5 newId))
    (hi : PySem.W.Looks (model prog w) h (typeLookup (.ref C) "__init__") (some (.ref fI))) (hb : ∀ self, PySem.W.Looks (model prog w) h (bindSpecial (.ref fI) self) (.ref fI, [self])) (hrest : rest.length ≤ sizeLine)
    (hq : codeAny (model prog w) A (.call (.ref fI) ⟨.ref (h.objs.size + 1) :: rest, kw⟩)
      (fun r s' => match r with | .ok (.ret v) => v = .none ∧ Q (.done (.ret (.ref (h.objs.size + 1)))) s' | .ok _ => False | .error e => E e s')
      ⟨(h.push (PySem.W.kdv_tup rest)).push (HandSPX.excO C h.objs.size), g, d, t, os⟩) :
    wpAny (model prog w) A (Builtin.«type.__call__» ⟨.ref C :: rest, kw⟩) Q E ⟨h, g, d, t, os⟩ := by
  obtain ⟨_, _, FN⟩ := F.new
  repeat (first | with_reducible refine wpAny_loadPart_at hC ?_ | with_reducible refine wpAny_madeBy_exc hC ?_ | wp_step)
  refine codeAny_call_builtin_code (Code.quiet_builtin _ FN.quiet) (check_newK F T hC ?_)
  refine new_madeK F T hC hrest ?_
  show wpAny _ _ _ _ _ _
  have k : ∀ b o, h.get? b = some o → ((h.push (PySem.W.kdv_tup rest)).push (HandSPX.excO C h.objs.size)).get? b = some o := fun b o e => Heap.get?_push_of_some _ (Heap.get?_push_of_some _ e)
  have hC₁ := k _ _ hC
  have hget : ((h.push (PySem.W.kdv_tup rest)).push (HandSPX.excO C h.objs.size)).get? (h.objs.size + 1) = some (HandSPX.excO C h.objs.size) := by heap_get
  have hcC : (Value.ref C :: bm).contains (.ref C) = true := by simp
  have i1 := hi.keeps k
  have b1 := (hb (.ref (h.objs.size + 1))).keeps k
  unfold isInstance
  repeat (first | with_reducible refine wpAny_loadPart_at hget ?_ | (with_reducible refine wpAny_isSubtype_exc hC₁ ?_; rw [hcC]) | wp_step)
  show wpAny _ _ (typeLookup (.ref C) _) _ _ _
  refine i1.at ?_
  refine wpAny_holding (wpAny_bind (b1.at ?_))
  refine wpAny_bind (wpAny_call (codeAny_mono hq fun r s' z => ?_))
  rcases r with e | (v | _ | _ | _) <;> first | exact z | exact z.elim | skip
  obtain ⟨rfl, z⟩ := z
  first
    | exact wpAny_pure (wpAny_pure z)
    | (wp_walk; exact z)
/-- C(.., k = v, ..), C's __init__ a def -/
theorem call_madeK {rest : List Value} {fI : Addr} (F : XBase Bn newId Bi initId tl) (T : tlOk tl bm = true)
    (hC : h.get? C = some (excClassObj nm q C N bs bm hdct sn sub ab col dd k0 k1 k2 k3 k5 newId))
    (hi : PySem.W.Looks (model prog w) h (typeLookup (.ref C) "__init__") (some (.ref fI))) (hb : ∀ self, PySem.W.Looks (model prog w) h (bindSpecial (.ref fI) self) (.ref fI, [self])) (hrest : rest.length ≤ sizeLine)
    (hq : codeAny (model prog w) (A.under (.builtin "type.__call__" ⟨.ref C :: rest, kw⟩)) (.call (.ref fI) ⟨.ref (h.objs.size + 1) :: rest, kw⟩) (PySem.W.InitBack (h.objs.size + 1) R)
      ⟨(h.push (PySem.W.kdv_tup rest)).push (HandSPX.excO C h.objs.size), g, d, t, os⟩) :
    codeAny (model prog w) A (.call (.ref C) ⟨rest, kw⟩) R ⟨h, g, d, t, os⟩ := by
  have f1 := tc_lookup
  have f2 := tc_bind (.ref C)
  have hTy : (⟨h, g, d, t, os⟩ : Shared).TypeIs (.ref C) "type" := ⟨_, hC, rfl⟩
  refine codeAny_of_tree ?_
  show wpAny _ _ (callAny (.ref C) _) _ _ _
  repeat (any_goals (first | assumption | with_reducible refine wpAny_loadPart_at hC ?_ | wp_step))
  refine ⟨rfl, ?_⟩
  refine codeAny_call_builtin_at (Code.quiet_builtin _ (by decide +kernel)) entry_typeCall (check_callK hC (type_call_madeK F T hC hi hb hrest ?_))
  refine codeAny_mono hq fun r s' z => ?_
  rcases r with e | (v | _ | _ | _) <;> exact z
end
end DNX
end PySem

/-! DQx: own exceptions that are values: made at places and by keywords, asked for their classes and fields. -/
namespace DN
open PySem PySem.Spec PyProof.Rows L2 DL PySem.DNX
theorem refs_of_tl : ∀ {l : List Value}, tlOk veTl l = true → PySem.HandSPX.refsVE l = true := by
  intro l
  induction l with
  | nil => intro h; exact h
  | cons v r ih =>
    intro h
    cases v with
    | ref c => exact ih h
    | _ => exact h
theorem OxC.oex {K : PySem.W.Frag} {C : Addr} (T : OxC K C "ValueError.__new__" veTl) : OexC K C := by
  obtain ⟨nm, q, N, bs, bm, sn, sub, ab, col, dd, k0, k1, k2, k3, k5, hC, hbm⟩ := T.cls
  exact ⟨⟨nm, q, N, bs, bm, sn, sub, ab, col, dd, k0, k1, k2, k3, k5, hC, refs_of_tl hbm⟩, T.sa, T.exC, T.tyC, T.kC⟩
/-- what an __init__ promises that keeps its values under the names fl -/
def spV (C : Addr) (fl : List Str) : Sp := fun vs H Q _ => ∃ (a : Addr) (ws : List V), vs = .ref a :: ws ∧ ws.length = fl.length ∧ H a = some (exo a C none) ∧ ∀ dx, H dx = none → dx ≠ a → Q .non (upd (upd H dx (exd dx (fl.zip ws).reverse)) a (exo a C (some dx)))
section
variable {P : Program} {w : World} {K : PySem.W.Frag} {mg : Str → Option Value} {base : Heap} {k : Nat}
theorem fn_of1 {fI C : Addr} {fd : FuncData} {ps : List Str} {f : Str} (F : FnOk P w K mg base CX0 k fI fd ps (spI C f)) : FnOk P w K mg base CX0 k fI fd ps (spV C [f]) := by
  have h : ∀ vs H Q E, spV C [f] vs H Q E → spI C f vs H Q E := fun vs H Q E ⟨a, ws, e, hl, ea, hq⟩ => by
    match ws, hl with
    | [v], _ => exact ⟨a, v, e, ea, hq⟩
  exact ⟨fun vs H Q E q => F.len vs H Q E (h vs H Q E q), fun A outer s H args us vs Q E hr e0 hb rv q => F.run A outer s H args us vs Q E hr e0 hb rv (h vs H Q E q)⟩
theorem fn_init3 {qual : Str} {st : Stmt} {fI C CB : Addr} {fd : FuncData} {q1 q2 q3 bn f1 f2 f3 m : Str} {j : Nat} {p1 p2 p3 p4 p5 p6 a1 a2 a3 a4 b1 b2 b3 b4 c1 c2 c3 c4 : Pos}
    (Fn : Fun K "__init__" qual st fI fd) (S : FnScope ["self", q1, q2, q3] ["self", q1, q2, q3] (defScope st)) (vs : Vis (defScope st) "self") (v1 : Vis (defScope st) q1) (v2 : Vis (defScope st) q2) (v3 : Vis (defScope st) q3) (hgb : (defScope st).names.lookup bn = some .globalImplicit)
    (hbd : defBody st = [.Expr (.Call (.Attribute (.Name bn p1) "__init__" p2) [.Name "self" p3, .Constant (.str m) j p4] [] p5) p6, .Assign [.Attribute (.Name "self" a1) f1 a2] (.Name q1 a3) a4, .Assign [.Attribute (.Name "self" b1) f2 b2] (.Name q2 b3) b4, .Assign [.Attribute (.Name "self" c1) f3 c2] (.Name q3 c3) c4])
    (hev : ∀ env : Env, ∃ pl : Sem Bool, eval (.Call (.Attribute (.Name bn p1) "__init__" p2) [.Name "self" p3, .Constant (.str m) j p4] [] p5) env = (do
      let ov ← eval (.Name bn p1) env
      standAt p2.atName
      let (f, first) ← holding [ov] (getMethod ov "__init__" pl)
      callWith p5 f first (backTo p5 (starEach [.Name "self" p3, .Constant (.str m) j p4] env)) (backToKw p5 (keywordEach [] env))))
    (d1 : (q1 == ("__debug__" : Str)) = false) (e1 : (q1 == ("__classdict__" : Str)) = false) (d2 : (q2 == ("__debug__" : Str)) = false) (e2 : (q2 == ("__classdict__" : Str)) = false) (d3 : (q3 == ("__debug__" : Str)) = false) (e3 : (q3 == ("__classdict__" : Str)) = false) (db : (bn == ("__debug__" : Str)) = false)
    (T : OxC K C "ValueError.__new__" veTl) (hm : mg bn = some (.ref CB)) (hB : BaseC K CB "ValueError.__init__") (n1 : PySem.W.findIn K (.ref C) f1 = some none) (n2 : PySem.W.findIn K (.ref C) f2 = some none) (n3 : PySem.W.findIn K (.ref C) f3 = some none) :
    FnOk P w K mg base CX0 (k + 1) fI fd ["self", q1, q2, q3] (spV C [f1, f2, f3]) := by
  obtain ⟨oc, od, kV, doc, pm, an, cdv, ct, osl, rfl, lk, hcd⟩ := Fn.ex
  refine fn_of lk hcd S (fun vs H Q E h => by obtain ⟨a, ws, rfl, hl, _⟩ := h; simpa using hl) fun A outer s H vs' Q E hr h => ?_
  obtain ⟨a, ws, rfl, hl, ea, hq⟩ := h
  match ws, hl with
  | [x1, x2, x3], _ =>
  rw [hbd]
  have hN : ∀ (i : Nat) (x : Str), (["self", q1, q2, q3] : List Str)[i]? = some x → (cxOf CX0 P w K mg base ["self", q1, q2, q3] qual (defScope st) fI cdv A outer s H E).N[i]? = some x := fun i x e => e
  obtain ⟨pl, hc⟩ := hev (cxOf CX0 P w K mg base ["self", q1, q2, q3] qual (defScope st) fI cdv A outer s H E).env
  have sf : ∀ p : Pos, PE (cxOf CX0 P w K mg base ["self", q1, q2, q3] qual (defScope st) fI cdv A outer s H E) (.Name "self" p) _ := fun p => pe_var (i := 0) (hN 0 "self" rfl) vs (by decide) (by decide)
  refine ⟨_, pss_cons (ps_expr (pe_binit (C := C) xb_VE T hgb hm hB (pa_cons (sf _) (pa_cons pe_str pa_nil)) db hc (by rfl) (by rfl)) (by rfl))
    (pss_cons (ps_ost (sf _) (pe_var (i := 1) (hN 1 q1 rfl) v1 d1 e1) (by rfl)) (pss_cons (ps_ost (sf _) (pe_var (i := 2) (hN 2 q2 rfl) v2 d2 e2) (by rfl)) (pss_one (ps_ost (sf _) (pe_var (i := 3) (hN 3 q3 rfl) v3 d3 e3) (by rfl))))), ?_⟩
  refine ⟨.ref a, rfl, ?_⟩
  refine ⟨a, [.str m], rfl, by simp, ea, ?_⟩
  refine ⟨x1, rfl, .ref a, rfl, a, C, rfl, T.oex, n1, .inl ⟨ea, fun dx hd hne => ?_⟩⟩
  have g1 : ∀ o, (upd (upd H dx o) a (exo a C (some dx))) dx = some o := fun o => by rw [upd_ne hne, upd_same]
  have g2 : ∀ o o', upd (upd (upd H dx o) a (exo a C (some dx))) dx o' = upd (upd H dx o') a (exo a C (some dx)) := fun o o' => by
    funext b
    by_cases hb : b = dx
    · rw [hb, upd_same, upd_ne hne, upd_same]
    · rw [upd_ne hb]
      by_cases h2 : b = a
      · rw [h2, upd_same, upd_same]
      · rw [upd_ne h2, upd_ne hb, upd_ne h2, upd_ne hb]
  refine ⟨x2, rfl, .ref a, rfl, a, C, rfl, T.oex, n2, .inr ⟨dx, _, upd_same, g1 _, by simp, ?_⟩⟩
  rw [g2]
  refine ⟨x3, rfl, .ref a, rfl, a, C, rfl, T.oex, n3, .inr ⟨dx, _, upd_same, g1 _, by simp, ?_⟩⟩
  rw [g2]
  exact hq dx hd hne
end
section
variable {X : Cx} {C fI : Addr} {k : Nat} {fd : FuncData} {ps ks fl : List Str} {Bn newId Bi initId : String} {tl : List Value} {g : List Value → List Value → List Value} {gV : List V → List V → List V}
/-- C(..), the new one a value -/
theorem run_mkV {pins : List (Addr × Obj)} {σ : L2.St} {H : Hp} {s : Shared} {Q : VK} {us ws : List Value} {vs zs es : List V} (F : XBase Bn newId Bi initId tl) (T : OxC X.K C newId tl) (iC : PySem.W.findIn X.K (.ref C) "__init__" = some (some (.ref fI))) (tI : PySem.W.typeIn X.K (.ref fI) = some (.type "function"))
    (F1 : FnOk X.prog X.w X.K X.mg X.base CX0 k fI fd ps (spV C fl)) (hr : Room (k + 1) X.A) (hb : KBinds X.K fd ps ks g gV) (I : Inv X pins σ H s) (r : Vals vs us) (rz : Vals zs ws) (hz : vs.length ≤ 1000)
    (he : ∀ a : Addr, gV (.ref a :: vs) zs = .ref a :: es) (hl : es.length = fl.length) (h : ∀ a dx, H a = none → H dx = none → dx ≠ a → Q (.ref a) (upd (upd H dx (exd dx (fl.zip es).reverse)) a (exo a C (some dx)))) :
    wpAny (model X.prog X.w) X.A (call (.ref C) us (ks.zip ws)) (EP X pins σ Q) X.xe s := by
  obtain ⟨nm, q, N, bs, bm, sn, sub, ab, col, dd, k0, k1, k2, k3, k5, hC, hbm⟩ := T.cls
  obtain ⟨hp, g0, dr, tk, os⟩ := s
  have hsz : hp.objs.size ≤ hp.objs.size + 1 := Nat.le_succ _
  have hn : H (hp.objs.size + 1) = none := I.hok.fresh hsz
  have kk : ∀ b o, hp.get? b = some o → ((hp.push (PySem.W.kdv_tup us)).push (PySem.HandSPX.excO C hp.objs.size)).get? b = some o := fun b o e => Heap.get?_push_of_some _ (Heap.get?_push_of_some _ e)
  have hget : ((hp.push (PySem.W.kdv_tup us)).push (PySem.HandSPX.excO C hp.objs.size)).get? (hp.objs.size + 1) = some (PySem.HandSPX.excO C hp.objs.size) := by heap_get
  have I2 : Inv X pins σ (upd H (hp.objs.size + 1) (exo (hp.objs.size + 1) C none)) ⟨(hp.push (PySem.W.kdv_tup us)).push (PySem.HandSPX.excO C hp.objs.size), g0, dr, tk, os⟩ :=
    I.laid (t' := tk) (a := hp.objs.size + 1) (o := exo (hp.objs.size + 1) C none) (h' := (hp.push (PySem.W.kdv_tup us)).push (PySem.HandSPX.excO C hp.objs.size)) kk hsz (exo_ok hget)
  have r2 : Vals (V.ref (hp.objs.size + 1) :: vs) (Value.ref (hp.objs.size + 1) :: us) := .cons rfl r
  have rr := hb.rel r2 rz
  rw [he] at rr
  have hq : spV C fl (V.ref (hp.objs.size + 1) :: es) (upd H (hp.objs.size + 1) (exo (hp.objs.size + 1) C none)) (fun v H2 => v = .non ∧ Q (.ref (hp.objs.size + 1)) H2) (fun _ _ _ => False) := by
    refine ⟨_, es, rfl, hl, upd_same, fun dx hd hne => ⟨rfl, ?_⟩⟩
    rw [upd_ne hne] at hd
    have ee : upd (upd (upd H (hp.objs.size + 1) (exo (hp.objs.size + 1) C none)) dx (exd dx (fl.zip es).reverse)) (hp.objs.size + 1) (exo (hp.objs.size + 1) C (some dx)) = upd (upd H dx (exd dx (fl.zip es).reverse)) (hp.objs.size + 1) (exo (hp.objs.size + 1) C (some dx)) := by
      funext b
      by_cases h2 : b = hp.objs.size + 1
      · rw [h2, upd_same, upd_same]
      · rw [upd_ne h2, upd_ne h2]
        by_cases hb : b = dx
        · rw [hb, upd_same, upd_same]
        · rw [upd_ne hb, upd_ne hb, upd_ne h2]
    rw [ee]
    exact h _ dx hn hd hne
  have hln : (g (Value.ref (hp.objs.size + 1) :: us) ws).length = ps.length := by
    rw [← rr.length]
    exact F1.len _ _ _ _ hq
  have hus : us.length ≤ sizeLine := by
    rw [← Paired.length r, sizeLine_eq]
    omega
  refine wpAny_call (call_madeK F hbm (I.kIn _ _ hC) (PySem.W.looks_findIn I.kIn iC) (fun self => PySem.W.bind_fn I.kIn self tI) hus
    (codeAny_mono (F1.run _ X.stack _ _ ⟨Value.ref (hp.objs.size + 1) :: us, ks.zip ws⟩ _ _ _ (fun _ _ _ => False) (hr.make C us (ks.zip ws)) (I2.env0.make C us (ks.zip ws)) (hb.to _ (Value.ref (hp.objs.size + 1) :: us) ws I2.kIn hln) rr hq) fun r s' hq' => ?_))
  cases r with
  | error er => exact hq'.elim
  | ok fo =>
    cases fo with
    | ret u2 =>
      obtain ⟨v, H', I3, rv, ev, q3⟩ := I2.after hq'
      subst ev
      exact ⟨rv, ⟨V.ref (hp.objs.size + 1), H', I3, rfl, q3⟩⟩
    | next => exact False.elim hq'
    | brk => exact False.elim hq'
    | cont => exact False.elim hq'
end
end DN
namespace DL
open PySem PySem.Spec PyProof.Rows L2 PySem.DNX
open DN (OxC spV run_mkV)
theorem zip_rev1 {fl : List Str} {es : List V} (h : es.length = fl.length) : ((fl.zip es).reverse).map (·.1) = fl.reverse := by
  rw [List.map_reverse]
  congr 1
  rw [List.map_fst_zip]
  omega
theorem zip_rev2 {fl : List Str} {es : List V} (h : es.length = fl.length) : ((fl.zip es).reverse).map (·.2) = es.reverse := by
  rw [List.map_reverse]
  congr 1
  rw [List.map_snd_zip]
  omega
/-- C(..): the exception, its fields -/
def eMkV (C : Addr) (n : Str) (fl : List Str) (sel : List D → List D) (ms : Rho → W (List D)) (ρ : Rho) : W D := W.bnd (ms ρ) fun ds => W.req ((sel ds).length = fl.length ∧ ds.length ≤ 1000) (W.ret (.exv C n fl.reverse (sel ds).reverse))
section
variable {X : Cx} {C fI : Addr} {k : Nat} {fd : FuncData} {ps ks fl : List Str} {Bn newId Bi initId : String} {tl : List Value} {x n : Str} {p pos : Pos} {e : Expr} {es : List Expr} {kws : List Keyword} {ms : Rho → W (List D)}
theorem back_exv {F H : Hp} {μ : Mem} {Q : D → Mem → Prop} {Qh : VK} {vs : List V} {ds : List D} {a dx : Addr} (bk : Back X.K F (Is X.K) Q Qh) (r : Rep X.K F H μ) (ha : H a = none) (hd : H dx = none) (ne : dx ≠ a) (il : IsL X.K F vs ds) (hl : vs.length = fl.length) (q : Q (.exv C n fl.reverse ds.reverse) μ) :
    Qh (.ref a) (upd (upd H dx (exd dx (fl.zip vs).reverse)) a (exo a C (some dx))) := by
  have s1 := same_new (o := exd dx (fl.zip vs).reverse) (r.nn hd)
  have r1 := r.new (o := exd dx (fl.zip vs).reverse) hd
  have ha1 : (upd H dx (exd dx (fl.zip vs).reverse)) a = none := by rw [upd_ne (Ne.symm ne)]; exact ha
  have s2 := same_new (o := exo a C (some dx)) (r1.nn ha1)
  have r2 := r1.new (o := exo a C (some dx)) ha1
  refine bk _ _ _ _ _ (s1.trans s2) r2 (.exv (dx := dx) (kvs := (fl.zip vs).reverse) upd_same ?_ (zip_rev1 hl) ?_) q
  · rw [upd_ne ne, upd_same]
  · rw [zip_rev2 hl]
    exact (il.up (s1.trans s2)).rev
/-- C(e, ..) -/
theorem de_mkV (F : XBase Bn newId Bi initId tl) (T : OxC X.K C newId tl) (iC : PySem.W.findIn X.K (.ref C) "__init__" = some (some (.ref fI))) (tI : PySem.W.typeIn X.K (.ref fI) = some (.type "function"))
    (F1 : FnOk X.prog X.w X.K X.mg X.base CX0 k fI fd ps (spV C fl)) (hr : Room (k + 1) X.A) (hg : Gl X x) (hm : X.mg x = some (.ref C)) (hb : KBinds X.K fd ps [] (fun us _ => us) (fun vs _ => vs))
    (ha : DA X none (e :: es) ms) (hdb : (x == ("__debug__" : Str)) = false) (he : starEach (e :: es) X.env = (false, eval e X.env) :: starEach es X.env) (hpl : (backTo pos (starEach es X.env)).any (·.1) = false) :
    DE X none (.Call (.Name x p) (e :: es) [] pos) (eMkV C n fl id ms) := by
  refine ⟨fun pins s σ H Qh I h => ?_⟩
  obtain ⟨F0, ρ, μ, Q, ED, env, rep, nx, hmm, bk⟩ := h
  refine wpAny_Call_Name_kw (ld_glob I hg hm ?_ hdb)
  refine PySem.W.callWith_K (h₀ := X.base) I.ok.mod.kin T.kC (thn (ha.run pos pins _ σ H (fun vs H1 => ∃ F1 ds μ1, Same F0 F1 ∧ Rep X.K F1 H1 μ1 ∧ IsL X.K F1 vs ds ∧ ds.length = fl.length ∧ ds.length ≤ 1000 ∧ Q (.exv C n fl.reverse ds.reverse) μ1) I
    ⟨F0, ρ, μ, _, ED, env, rep, nx, hmm, fun v1 H1 d1 F1 μ1 s1 r1 i1 q1 => ⟨F1, d1, μ1, s1, r1, i1, q1.1.1, q1.1.2, q1.2⟩⟩) fun us s1 ⟨vs, H1, I1, rv, F2, ds, μ1, sm, rep1, il, l1, l2, hq⟩ => ⟨I1.kIn, ?_⟩) he hpl
  have l3 : vs.length = fl.length := by rw [il.length]; exact l1
  exact run_mkV (ks := []) (ws := []) (zs := []) (es := vs) F T iC tI F1 hr hb I1 rv .nil (by rw [il.length]; exact l2) (fun a => rfl) l3 fun a dx h1 h2 ne => back_exv (fun v3 H3 d3 F3 μ3 s3 r3 i3 q3 => bk v3 H3 d3 F3 μ3 (sm.trans s3) r3 i3 q3) rep1 h1 h2 ne il l3 hq
/-- C(k = e, ..) -/
theorem de_mkVK {is : List Nat} (F : XBase Bn newId Bi initId tl) (T : OxC X.K C newId tl) (iC : PySem.W.findIn X.K (.ref C) "__init__" = some (some (.ref fI))) (tI : PySem.W.typeIn X.K (.ref fI) = some (.type "function"))
    (F1 : FnOk X.prog X.w X.K X.mg X.base CX0 k fI fd ps (spV C fl)) (hr : Room (k + 1) X.A) (hg : Gl X x) (hm : X.mg x = some (.ref C)) (hb : KBinds X.K fd ps ks (gKm is) (gKm is))
    (hkw : DK X none kws ms) (hdb : (x == ("__debug__" : Str)) = false) (hall : (backToKw pos (keywordEach kws X.env)).all (·.1.isSome) = true) (hks : (backToKw pos (keywordEach kws X.env)).filterMap (·.1) = ks)
    (hpl : ((backTo pos (starEach [] X.env)).any (·.1) || (backToKw pos (keywordEach kws X.env)).any (·.1.isNone)) = false) :
    DE X none (.Call (.Name x p) [] kws pos) (eMkV C n fl (pick is) ms) := by
  refine ⟨fun pins s σ H Qh I h => ?_⟩
  obtain ⟨F0, ρ, μ, Q, ED, env, rep, nx, hmm, bk⟩ := h
  refine wpAny_Call_Name_kw (ld_glob I hg hm ?_ hdb)
  refine PySem.W.callWith_KW0 (h₀ := X.base) I.ok.mod.kin T.kC hall (thn (hkw.run pos pins _ σ H (fun zs H1 => ∃ F1 ds μ1, Same F0 F1 ∧ Rep X.K F1 H1 μ1 ∧ IsL X.K F1 zs ds ∧ (pick is ds).length = fl.length ∧ Q (.exv C n fl.reverse (pick is ds).reverse) μ1) I
    ⟨F0, ρ, μ, _, ED, env, rep, nx, hmm, fun v1 H1 d1 F1 μ1 s1 r1 i1 q1 => ⟨F1, d1, μ1, s1, r1, i1, q1.1.1, q1.2⟩⟩) fun ws s1 ⟨zs, H1, I1, rz, F2, ds, μ1, sm, rep1, il, l1, hq⟩ => ⟨I1.kIn, ?_⟩) hpl
  rw [hks]
  have il2 := pick_isL (is := is) il
  have l3 : (pick is zs).length = fl.length := by rw [il2.length]; exact l1
  exact run_mkV (ks := ks) (us := []) (vs := []) (es := pick is zs) F T iC tI F1 hr hb I1 .nil rz (Nat.zero_le _) (fun a => rfl) l3 fun a dx h1 h2 ne => back_exv (fun v3 H3 d3 F3 μ3 s3 r3 i3 q3 => bk v3 H3 d3 F3 μ3 (sm.trans s3) r3 i3 q3) rep1 h1 h2 ne il2 l3 hq
/-- C(), C without own __init__ -/
theorem de_mkV0 {B newB initB : String} {bmB : List Value} (F : ExcBaseFacts B newB initB bmB) (q : PySem.W.excIn X.K C bmB newB = true) (gC : X.mg x = some (.ref C)) (kC : PySem.W.keepIn X.K (.ref C) = true) (hg : Gl X x)
    (hdb : (x == ("__debug__" : Str)) = false) : DE X none (.Call (.Name x p) [] [] pos) (eC (.exv C n [] [])) := by
  refine ⟨fun pins s σ H Qh I h => ?_⟩
  obtain ⟨F0, ρ, μ, Q, ED, env, rep, nx, hmm, bk⟩ := h
  refine wpAny_Call_Name_kw (ld_glob I hg gC ?_ hdb)
  refine PySem.W.callWith_K0 I.kIn kC ?_
  obtain ⟨bm, N, nm, qn, bs, hdct, sn, sub, ab, col, dd, k0, k1, k2, k3, k5, mN, hC, hN, hni, T⟩ := exc_obj I.kIn q
  refine wpAny_call_exc_subT F T hC hN hni (fun h' e hm => ?_) (by show 0 ≤ sizeLine; omega)
  have hn : H e = none := I.hok.gone hm.new
  obtain ⟨t, ht, _, _⟩ := hm.there
  have s1 := same_new (o := exo e C none) (rep.nn hn)
  exact ⟨.ref e, upd H e (exo e C none), I.laidN hm.keeps hm.new hn (exo_ok ht), rfl, bk _ _ _ _ _ s1 (rep.new hn) (.exv0 upd_same) hmm⟩
end
/-! ### isinstance of it, its fields -/
theorem inst_exo {X : Cx} {a C : Addr} {dx : Option Addr} {kvs : List (Str × V)} {pins : List (Addr × Obj)} {σ : L2.St} {H : Hp} {s : Shared} (I : Inv X pins σ H s) (e : H a = some (exo a C dx)) (hd : ∀ d, dx = some d → H d = some (exd d kvs)) :
    ∃ oe od, PySem.W.InstAt s.heap a oe C od ∧ oe.dict = dx ∧ ∃ vs, oe.data = .fields vs := by
  obtain ⟨t1, ho⟩ := exo_at I.hok e
  cases dx with
  | none => exact ⟨_, none, ⟨ho, rfl, rfl, trivial⟩, rfl, _, rfl⟩
  | some d =>
    obtain ⟨mA, hns, rel⟩ := exd_at I.hok (hd d rfl)
    obtain ⟨oD, _, _, hoD, _, _⟩ := hns.count (within_of rel)
    exact ⟨_, some oD, ⟨ho, rfl, rfl, hoD⟩, rfl, _, rfl⟩
/-- an exception's class among those of tb -/
def isV (tb : List (Str × Addr)) (sub : Str → Bool) : D → W D
  | .exv C n _ _ => W.req ((n, C) ∈ tb) (W.ret (.bl (sub n)))
  | _ => W.bad
def eIsV (tb : List (Str × Addr)) (sub : Str → Bool) (me : Rho → W D) (ρ : Rho) : W D := W.bnd (me ρ) (isV tb sub)
def rIsV (K : PySem.W.Frag) : List V → Hp → VK → Prop := fun xs H Q => ∃ (a C : Addr) (dx : Option Addr) (kvs : List (Str × V)) (c : V) (u : Value) (b : Bool), xs = [.ref a, c] ∧ H a = some (exo a C dx) ∧ (∀ d, dx = some d → H d = some (exd d kvs)) ∧ XcC K C ∧ (∀ w, RelV c w → w = u) ∧ PySem.W.kitOne K (.ref C) u = some b ∧ Q (.bl b) H
theorem call_isV {X : Cx} : CallR X (.builtin "isinstance") (rIsV X.K) := by
  intro pins s σ H xs us Q I r h
  obtain ⟨a, C, dx, kvs, c, u, b, rfl, ea, hd, T, hu, e, q⟩ := h
  obtain ⟨u1, u2, rfl, r1, r2⟩ := vals2 r
  obtain rfl : u1 = Value.ref a := r1
  obtain rfl := hu _ r2
  obtain ⟨oe, od, J, _⟩ := inst_exo I ea hd
  exact PySem.W.kia_one (PySem.W.kitx_exc T.cl T.ga T.gg T.ex T.ca T.cg T.ct T.mo) I.kIn J e (fun z => nomatch z) fun tk => ⟨.bl b, H, I.kept (t' := tk) fun _ _ z => z, rfl, q⟩
section
variable {X : Cx} {Eh : Option EX} {cn : Str} {C2 : Addr} {p p2 pos : Pos} {eo ec : Expr} {c : V} {u : Value} {me : Rho → W D} {tb : List (Str × Addr)} {sub : Str → Bool}
theorem de_isVV (hT : ∀ q ∈ tb, XcC X.K q.2 ∧ PySem.W.kitOne X.K (.ref q.2) u = some (sub q.1)) (ha : DE X Eh eo me)
    (hg : Gl X "isinstance") (hm : X.mg "isinstance" = none) (hec : PE X ec (tC c)) (hu : ∀ w, RelV c w → w = u) (he : starEach [eo, ec] X.env = (false, eval eo X.env) :: starEach [ec] X.env) (he2 : starEach [ec] X.env = (false, eval ec X.env) :: starEach [] X.env) (hpl : (backTo pos (starEach [ec] X.env)).any (·.1) = false) :
    DE X Eh (.Call (.Name "isinstance" p) [eo, ec] [] pos) (eIsV tb sub me) := by
  refine PE.imp (pe_callB call_isV hg hm bt_isinstance (pa_cons ha (pa_cons hec pa_nil he2) he) (by decide) (by decide) he hpl) fun σ H Qh h => ?_
  obtain ⟨F, ρ, μ, Q, ED, env, rep, lnk, hm, bk⟩ := h
  refine ⟨F, ρ, μ, _, ED, env, rep, lnk, hm, fun v1 H1 d1 F1 μ1 s1 r1 i1 q1 => ?_⟩
  cases d1 with
  | exv C n ns ds =>
    obtain ⟨hmem, hq⟩ := q1
    obtain ⟨hX, hk⟩ := hT _ hmem
    have bk1 := bk (.bl (sub n)) H1 (.bl (sub n)) F1 μ1 s1 r1 (.bl _) hq
    cases i1 with
    | exv0 hF => exact ⟨_, C, none, [], c, u, sub n, rfl, r1.sub _ _ hF, (fun d z => nomatch z), hX, hu, hk, bk1⟩
    | @exv a _ dx _ kvs _ _ hF hD _ _ => exact ⟨a, C, some dx, kvs, c, u, sub n, rfl, r1.sub _ _ hF, (fun d z => by cases z; exact r1.sub _ _ hD), hX, hu, hk, bk1⟩
  | _ => exact q1.elim
/-- an own class -/
theorem de_isV (hT : ∀ q ∈ tb, XcC X.K q.2 ∧ PySem.W.kitOne X.K (.ref q.2) (.ref C2) = some (sub q.1)) (ha : DE X Eh eo me)
    (hg : Gl X "isinstance") (hm : X.mg "isinstance" = none) (hg2 : Gl X cn) (hm2 : X.mg cn = some (.ref C2)) (h3 : (cn == ("__debug__" : Str)) = false) (he : starEach [eo, .Name cn p2] X.env = (false, eval eo X.env) :: starEach [.Name cn p2] X.env) :
    DE X Eh (.Call (.Name "isinstance" p) [eo, .Name cn p2] [] pos) (eIsV tb sub me) :=
  de_isVV (c := .ref C2) (u := .ref C2) hT ha hg hm (pe_glob hg2 hm2 rfl h3) (fun _ r => r) he (by rfl) (by rfl)
/-- a built-in one -/
theorem de_isVB {B : String} (hT : ∀ q ∈ tb, XcC X.K q.2 ∧ PySem.W.kitOne X.K (.ref q.2) (.type B) = some (sub q.1)) (ha : DE X Eh eo me)
    (hg : Gl X "isinstance") (hm : X.mg "isinstance" = none) (hg2 : Gl X cn) (hm2 : X.mg cn = none) (hbt : bootBuiltins cn = some (.type B)) (hnn : cn ≠ "__name__") (h3 : (cn == ("__debug__" : Str)) = false) (he : starEach [eo, .Name cn p2] X.env = (false, eval eo X.env) :: starEach [.Name cn p2] X.env) :
    DE X Eh (.Call (.Name "isinstance" p) [eo, .Name cn p2] [] pos) (eIsV tb sub me) :=
  de_isVV (c := .ty B) (u := .type B) hT ha hg hm (pe_bltn hg2 hm2 hbt rfl hnn h3) (fun _ r => r) he (by rfl) (by rfl)
end
/-- a field of an exception -/
def fldV (tb : List (Str × Addr)) (f : Str) : D → W D
  | .exv C n ns ds => W.req ((n, C) ∈ tb) (W.opt ((ns.zip ds).lookup f))
  | _ => W.bad
def eFldV (tb : List (Str × Addr)) (f : Str) (me : Rho → W D) (ρ : Rho) : W D := W.bnd (me ρ) (fldV tb f)
theorem de_fldV {X : Cx} {Eh : Option EX} {eo : Expr} {me : Rho → W D} {tb : List (Str × Addr)} {f : Str} {pos : Pos} (hT : ∀ q ∈ tb, XcC X.K q.2 ∧ PySem.W.findIn X.K (.ref q.2) f = some none) (ha : DE X Eh eo me)
    (hb : attributeBase eo f X.env (eval eo X.env) = eval eo X.env) : DE X Eh (.Attribute eo f pos) (eFldV tb f me) := by
  refine ⟨fun pins s σ H Qh I h => ?_⟩
  obtain ⟨F, ρ, μ, Q, ED, env, rep, lnk, hm, bk⟩ := h
  refine attr_of hb (thn (ha.run pins s σ H (fun x H1 => ∃ (a C dx : Addr) (kvs : List (Str × V)) (v : V), x = .ref a ∧ H1 a = some (exo a C (some dx)) ∧ H1 dx = some (exd dx kvs) ∧ XcC X.K C ∧ PySem.W.findIn X.K (.ref C) f = some none ∧ kvs.lookup f = some v ∧ Qh v H1) I
    ⟨F, ρ, μ, _, ED, env, rep, lnk, hm, fun v1 H1 d1 F1 μ1 s1 r1 i1 q1 => ?_⟩) fun u s1 hh => ?_)
  · cases d1 with
    | exv C n ns ds =>
      obtain ⟨hmem, q2⟩ := q1
      obtain ⟨dv, hl, hq⟩ := opt_of q2
      obtain ⟨hX, hno⟩ := hT _ hmem
      cases i1 with
      | exv0 hF => cases hl
      | @exv a _ dx _ kvs _ _ hF hD hns hI =>
        have ll : ds.length = ns.length := by rw [← hI.length, ← hns, List.length_map, List.length_map]
        have e1 : (ns.zip ds).map (·.1) = ns := List.map_fst_zip (by omega)
        have e2 : (ns.zip ds).map (·.2) = ds := List.map_snd_zip (by omega)
        obtain ⟨v, hv, iv⟩ := isL_lookup (fs := ns.zip ds) (kvs := kvs) (by rw [e1]; exact hns) (by rw [e2]; exact hI) hl
        exact ⟨a, C, dx, kvs, v, rfl, r1.sub _ _ hF, r1.sub _ _ hD, hX, hno, hv, bk v H1 dv F1 μ1 s1 r1 iv hq⟩
    | _ => exact q1.elim
  · obtain ⟨x, H1, I1, rx, a, C, dx, kvs, v, ex, ea, ed, T, hno, hl, q⟩ := hh
    subst ex
    obtain rfl : u = Value.ref a := rx
    obtain ⟨t1, ho⟩ := exo_at I1.hok ea
    obtain ⟨mA, hns, hr⟩ := exd_at I1.hok ed
    obtain ⟨od, hod, hlk⟩ := lookIn_ns hns
    obtain ⟨u, hu, ru⟩ := RelO.some_of (v := v) (o := mA f) (by rw [← hl]; exact hr f)
    have J : PySem.W.InstAt s1.heap a _ C (some od) := ⟨ho, rfl, rfl, hod⟩
    exact PySem.HandSPX.exc_get I1.kIn J T.ga T.gg T.ex (PySem.W.findObj_own T.hd hno rfl (by rw [hlk, hu])) (handed_of ru) ⟨v, H1, I1.tok _, ru, q⟩
theorem tb_ok {K : PySem.W.Frag} {tb : List (Str × Addr)} {u : Value} {sub : Str → Bool} (h1 : tb.all (fun q => xcB K q.2) = true) (h2 : tb.all (fun q => decide (PySem.W.kitOne K (.ref q.2) u = some (sub q.1))) = true) : ∀ q ∈ tb, XcC K q.2 ∧ PySem.W.kitOne K (.ref q.2) u = some (sub q.1) :=
  fun q hq => ⟨xcB_ok (List.all_eq_true.mp h1 q hq), of_decide_eq_true (List.all_eq_true.mp h2 q hq)⟩
theorem tf_ok {K : PySem.W.Frag} {tb : List (Str × Addr)} {f : Str} (h : tb.all (fun q => xcB K q.2 && decide (PySem.W.findIn K (.ref q.2) f = some none)) = true) : ∀ q ∈ tb, XcC K q.2 ∧ PySem.W.findIn K (.ref q.2) f = some none :=
  fun q hq => by
    obtain ⟨a, b⟩ := Bool.and_eq_true_iff.mp (List.all_eq_true.mp h q hq)
    exact ⟨xcB_ok a, of_decide_eq_true b⟩
end DL

/-! DQya: list(zip(a, b)) over iterators of any kind, at the library's level. -/
namespace PySem
namespace ZL
open Sem (wp)
section
variable {prog : Program} {w : World} {A : Around} {E : Value → Shared → Prop} {s : Shared} {z TI TO i1 i2 T : Addr} {f : Bool} {oT : Obj} {fp1 fp2 : List Addr} {n1 n2 i : Nat} {P1 P2 : Nat → Value → Prop} {St1 St2 : Nat → Heap → Prop}
theorem next_item_held {Q : Value → Shared → Prop} (S : ZipSep2 z TI TO i1 i2 fp1 fp2) (D1 : Draws prog w A i1 fp1 n1 P1 St1) (D2 : Draws prog w A i2 fp2 n2 P2 St2)
    (hz : IsZipHeld s.heap z TI TO T f) (hT : s.heap.get? T = some oT) (hTI : IsTupOf2 s.heap TI (.ref i1) (.ref i2)) (st1 : St1 i s.heap) (st2 : St2 i s.heap) (hlt1 : i < n1) (hlt2 : i < n2)
    (hQ : ∀ x1 x2 h' tk, P1 i x1 → P2 i x2 → IsZipHeld h' z TI TO T true → St1 (i + 1) h' → St2 (i + 1) h' → IsTupOf2 h' s.heap.objs.size x1 x2 → h'.objs.size = s.heap.objs.size + 1 →
      (∀ c o, c ≠ z → c ≠ i1 → c ≠ i2 → s.heap.get? c = some o → h'.get? c = some o) → Q (.ref s.heap.objs.size) { s with heap := h', toks := tk }) :
    wpAny (model prog w) A (Builtin.«zip.__next__» ⟨[.ref z], []⟩) (fun fin s' => ∃ v, fin = .done (.ret v) ∧ Q v s') E s := by
  obtain ⟨hp, g, d, tk0, os⟩ := s
  show wpAny _ _ (field (.ref z) 2 >>= _) _ _ _
  refine wpAny_bind (wpAny_field hz rfl (x := .bool false) rfl ?_)
  show wpAny _ _ (field (.ref z) 3 >>= _) _ _ _
  refine wpAny_bind (wpAny_field hz rfl (x := .ref TI) rfl ?_)
  refine wpAny_bind (wpAny_seqItems hTI rfl ?_)
  show wpAny _ _ (Builtin.SmallTypes.ownedTupleIsFree (.ref z) >>= _) _ _ _
  refine wpAny_bind (wpAny_tupleHeld_zip hz hT fun g0 hz0 hs0 => ?_)
  replace hs0 : Heap.SameBut z hp g0 := hs0
  simp only [Bool.false_eq_true, if_false]
  refine wpAny_bind ?_
  rw [← Array.forIn_toList]
  simp only [List.forIn_cons, List.forIn_nil]
  refine wpAny_bind (wpAny_bind (wpAny_holding ?_))
  show wpAny _ _ (Builtin.SmallTypes.nextOf (.ref i1) >>= _) _ _ ⟨g0, g, d, tk0, os⟩
  refine wpAny_bind (D1.item i _ _ _ hlt1 (D1.over st1 hs0 S.zf1) fun x1 p1 tk1 hx1 sn1 hp1 => wpAny_pure ?_)
  replace hp1 : Heap.SameBut i1 g0 p1 := hp1
  refine wpAny_pure ?_
  refine wpAny_bind (wpAny_bind (wpAny_holding ?_))
  show wpAny _ _ (Builtin.SmallTypes.nextOf (.ref i2) >>= _) _ _ ⟨p1, g, d, tk1, os⟩
  refine wpAny_bind (D2.item i _ _ _ hlt2 (D2.over (D2.over st2 hs0 S.zf2) hp1 S.sep1_2) fun x2 p2 tk2 hx2 sn2 hp2 => wpAny_pure ?_)
  replace hp2 : Heap.SameBut i2 p1 p2 := hp2
  refine wpAny_pure (wpAny_pure ?_)
  show wpAny _ _ (newTuple [x1, x2] >>= _) _ _ ⟨p2, g, d, tk2, os⟩
  refine wpAny_bind (wpAny_newTuple ?_)
  have hsz : p2.objs.size = hp.objs.size := by rw [hp2.1, hp1.1, hs0.1]
  have hz₃ : IsZipHeld p2 z TI TO T true := hp2.extBut _ _ S.zi2 (hp1.extBut _ _ S.zi1 hz0)
  have hk : ∀ c o, c ≠ z → c ≠ i1 → c ≠ i2 → hp.get? c = some o → p2.get? c = some o := fun c o c1 c2 c3 e => hp2.extBut _ _ c3 (hp1.extBut _ _ c2 (hs0.extBut _ _ c1 e))
  have h1₃ : St1 (i + 1) p2 := D1.over sn1 hp2 S.sep2_1
  refine wpAny_pure ⟨_, rfl, ?_⟩
  show Q (.ref p2.objs.size) _
  have hpr : IsTupOf2 (p2.push { cls := .type "tuple", data := .seq #[x1, x2] }) p2.objs.size x1 x2 := Heap.get?_push_size _ rfl
  have hz4 : (p2.push { cls := .type "tuple", data := .seq #[x1, x2] }).objs.size = p2.objs.size + 1 := Heap.size_push ..
  rw [hsz] at hpr hz4 ⊢
  exact hQ x1 x2 _ tk2 hx1 hx2 (Heap.get?_push_of_some _ hz₃) (D1.frame _ _ _ h1₃ fun b _ o e => Heap.get?_push_of_some _ e) (D2.frame _ _ _ sn2 fun b _ o e => Heap.get?_push_of_some _ e) hpr hz4 fun c o c1 c2 c3 e => Heap.get?_push_of_some _ (hk c o c1 c2 c3 e)
theorem next_end_held {Q : Fin → Shared → Prop} (S : ZipSep2 z TI TO i1 i2 fp1 fp2) (D1 : Draws prog w A i1 fp1 n1 P1 St1) (D2 : Draws prog w A i2 fp2 n2 P2 St2)
    (hz : IsZipHeld s.heap z TI TO T f) (hT : s.heap.get? T = some oT) (hTI : IsTupOf2 s.heap TI (.ref i1) (.ref i2)) (st1 : St1 i s.heap) (st2 : St2 i s.heap) (hle1 : i ≤ n1) (hle2 : i ≤ n2) (hend : i = n1 ∨ i = n2)
    (hE : ∀ h' tk e, (∀ c o, c ≠ z → c ≠ i1 → c ≠ i2 → s.heap.get? c = some o → h'.get? c = some o) → (∃ o, h'.get? e = some o ∧ o.cls = .type "StopIteration") → E (.ref e) { s with heap := h', toks := tk }) :
    wpAny (model prog w) A (Builtin.«zip.__next__» ⟨[.ref z], []⟩) Q E s := by
  obtain ⟨hp, g, d, tk0, os⟩ := s
  show wpAny _ _ (field (.ref z) 2 >>= _) _ _ _
  refine wpAny_bind (wpAny_field hz rfl (x := .bool false) rfl ?_)
  show wpAny _ _ (field (.ref z) 3 >>= _) _ _ _
  refine wpAny_bind (wpAny_field hz rfl (x := .ref TI) rfl ?_)
  refine wpAny_bind (wpAny_seqItems hTI rfl ?_)
  show wpAny _ _ (Builtin.SmallTypes.ownedTupleIsFree (.ref z) >>= _) _ _ _
  refine wpAny_bind (wpAny_tupleHeld_zip hz hT fun g0 hz0 hs0 => ?_)
  replace hs0 : Heap.SameBut z hp g0 := hs0
  simp only [Bool.false_eq_true, if_false]
  refine wpAny_bind ?_
  rw [← Array.forIn_toList]
  simp only [List.forIn_cons, List.forIn_nil]
  refine wpAny_bind (wpAny_bind (wpAny_holding ?_))
  show wpAny _ _ (Builtin.SmallTypes.nextOf (.ref i1) >>= _) _ _ ⟨g0, g, d, tk0, os⟩
  by_cases hlt1 : i < n1
  · refine wpAny_bind (D1.item i _ _ _ hlt1 (D1.over st1 hs0 S.zf1) fun x1 p1 tk1 hx1 sn1 hp1 => wpAny_pure ?_)
    replace hp1 : Heap.SameBut i1 g0 p1 := hp1
    refine wpAny_pure ?_
    have hi2 : i = n2 := by omega
    refine wpAny_bind (wpAny_bind (wpAny_holding ?_))
    show wpAny _ _ (Builtin.SmallTypes.nextOf (.ref i2) >>= _) _ _ ⟨p1, g, d, tk1, os⟩
    refine wpAny_bind (D2.done ⟨p1, g, d, tk1, os⟩ _ _ (by rw [← hi2]; exact (D2.over (D2.over st2 hs0 S.zf2) hp1 S.sep1_2)) fun q e hq he => ?_)
    replace hq : Heap.ExtBut i2 p1 q := hq
    exact hE q tk1 e (fun c o cz c1 c2 x => hq _ _ c2 (hp1.extBut _ _ c1 (hs0.extBut _ _ cz x))) he
  · have hi1 : i = n1 := by omega
    refine wpAny_bind (D1.done ⟨g0, g, d, tk0, os⟩ _ _ (by rw [← hi1]; exact (D1.over st1 hs0 S.zf1)) fun q e hq he => ?_)
    replace hq : Heap.ExtBut i1 g0 q := hq
    exact hE q tk0 e (fun c o cz c1 c2 x => hq _ _ c1 (hs0.extBut _ _ cz x)) he
theorem pyNext_item_held {Q : Option Value → Shared → Prop} (S : ZipSep2 z TI TO i1 i2 fp1 fp2) (D1 : Draws prog w A.in1 i1 fp1 n1 P1 St1) (D2 : Draws prog w A.in1 i2 fp2 n2 P2 St2)
    (hz : IsZipHeld s.heap z TI TO T f) (hT : s.heap.get? T = some oT) (hTI : IsTupOf2 s.heap TI (.ref i1) (.ref i2)) (st1 : St1 i s.heap) (st2 : St2 i s.heap) (hlt1 : i < n1) (hlt2 : i < n2)
    (hQ : ∀ x1 x2 h' tk, P1 i x1 → P2 i x2 → IsZipHeld h' z TI TO T true → St1 (i + 1) h' → St2 (i + 1) h' → IsTupOf2 h' s.heap.objs.size x1 x2 → h'.objs.size = s.heap.objs.size + 1 →
      (∀ c o, c ≠ z → c ≠ i1 → c ≠ i2 → s.heap.get? c = some o → h'.get? c = some o) → Q (some (.ref s.heap.objs.size)) { s with heap := h', toks := tk }) :
    wpAny (model prog w) A (pyNext (.ref z)) Q E s := by
  have hTy : s.TypeIs (.ref z) "zip" := ⟨_, hz, rfl⟩
  unfold pyNext
  exact wpAny_bind (wpAny_attempt (wpAny_callSpecial?_slot (name := Str.ofString "__next__") hTy F.slot_zip_next
    (wpAny_call_entry F.slot_zip_next hTy F.entry_zip_next
      (next_item_held S D1 D2 hz hT hTI st1 st2 hlt1 hlt2 fun x1 x2 h' tk y1 y2 a1 a3 a4 a5 a6 a7 => wpAny_pure (hQ x1 x2 h' tk y1 y2 a1 a3 a4 a5 a6 a7)) (F.args_zip_next_1 _))))
theorem pyNext_end_held {Q : Option Value → Shared → Prop} (S : ZipSep2 z TI TO i1 i2 fp1 fp2) (D1 : Draws prog w A.in1 i1 fp1 n1 P1 St1) (D2 : Draws prog w A.in1 i2 fp2 n2 P2 St2)
    (hz : IsZipHeld s.heap z TI TO T f) (hT : s.heap.get? T = some oT) (hTI : IsTupOf2 s.heap TI (.ref i1) (.ref i2)) (st1 : St1 i s.heap) (st2 : St2 i s.heap) (hle1 : i ≤ n1) (hle2 : i ≤ n2) (hend : i = n1 ∨ i = n2)
    (hQ : ∀ h' tk, (∀ c o, c ≠ z → c ≠ i1 → c ≠ i2 → s.heap.get? c = some o → h'.get? c = some o) → Q none { s with heap := h', toks := tk }) : wpAny (model prog w) A (pyNext (.ref z)) Q E s := by
  have hTy : s.TypeIs (.ref z) "zip" := ⟨_, hz, rfl⟩
  unfold pyNext
  refine wpAny_bind (wpAny_attempt (wpAny_callSpecial?_slot (name := Str.ofString "__next__") hTy F.slot_zip_next
    (wpAny_call_entry F.slot_zip_next hTy F.entry_zip_next (next_end_held S D1 D2 hz hT hTI st1 st2 hle1 hle2 hend fun h' tk e hk he => ?_) (F.args_zip_next_1 _))))
  obtain ⟨o, ho, hc⟩ := he
  refine wpAny_bind (wpAny_isInstance (T := "StopIteration") (b := true) ⟨o, ho, hc⟩ isSubtype_stop ?_)
  exact wpAny_pure (hQ _ _ hk)
/-- the state of the zip at the turn i: nothing handed out as yet, or a tuple that stands above S -/
def ZS (S z TI TO : Addr) (i : Nat) (h : Heap) : Prop := (i = 0 ∧ IsZip h z TI TO .none ∧ IsTupOf2 h TO .none .none) ∨ ∃ T f oT, IsZipHeld h z TI TO T f ∧ h.get? T = some oT ∧ S < T
structure G (P1 P2 : Nat → Value → Prop) (lo : Addr) (h : Heap) (as : List Addr) : Prop where
  rise : as.Pairwise (· < ·)
  above : ∀ a ∈ as, lo < a
  pairs : ∀ (j : Nat) (a : Addr), as[j]? = some a → ∃ x y, P1 j x ∧ P2 j y ∧ h.get? a = some { cls := .type "tuple", data := .seq #[x, y] }
theorem G.there {lo : Addr} {h : Heap} {as : List Addr} (g : G P1 P2 lo h as) {a : Addr} (ha : a ∈ as) : a < h.objs.size := by
  obtain ⟨j, hj⟩ := List.mem_iff_getElem?.mp ha
  obtain ⟨_, _, _, _, e⟩ := g.pairs j a hj
  exact Heap.lt_size e
theorem item (S : ZipSep2 z TI TO i1 i2 fp1 fp2) (D1 : Draws prog w A.in1 i1 fp1 n1 P1 St1) (D2 : Draws prog w A.in1 i2 fp2 n2 P2 St2) {L : Addr} (hL : L < s.heap.objs.size) (h1 : z < L) (h2 : i1 < L) (h3 : i2 < L) (h4 : TO < L) {Q : Option Value → Shared → Prop}
    (hz : ZS L z TI TO i s.heap) (hTI : IsTupOf2 s.heap TI (.ref i1) (.ref i2)) (st1 : St1 i s.heap) (st2 : St2 i s.heap) (hlt1 : i < n1) (hlt2 : i < n2)
    (hQ : ∀ x1 x2 h' tk, P1 i x1 → P2 i x2 → ZS L z TI TO (i + 1) h' → St1 (i + 1) h' → St2 (i + 1) h' → IsTupOf2 h' s.heap.objs.size x1 x2 → h'.objs.size = s.heap.objs.size + 1 →
      (∀ c o, c ≠ z → c ≠ TO → c ≠ i1 → c ≠ i2 → s.heap.get? c = some o → h'.get? c = some o) → Q (some (.ref s.heap.objs.size)) { s with heap := h', toks := tk }) :
    wpAny (model prog w) A (pyNext (.ref z)) Q E s := by
  rcases hz with ⟨rfl, hz, hTO⟩ | ⟨T, f, oT, hz, hT, hlt⟩
  · refine wpAny_pyNext_zipD2_item S D1 D2 hz hTI hTO st1 st2 hlt1 hlt2 fun x1 x2 h' tk p1 p2 a1 a2 a3 a4 a5 a6 a7 => hQ x1 x2 h' tk p1 p2 (.inr ⟨s.heap.objs.size, false, _, a1, a5, hL⟩) a3 a4 a5 a6 a7
  · refine pyNext_item_held S D1 D2 hz hT hTI st1 st2 hlt1 hlt2 fun x1 x2 h' tk p1 p2 a1 a3 a4 a5 a6 a7 => hQ x1 x2 h' tk p1 p2 (.inr ⟨T, true, _, a1, a7 T _ ?_ ?_ ?_ hT, hlt⟩) a3 a4 a5 a6 fun c o c1 _ c2 c3 e => a7 c o c1 c2 c3 e
    · exact Nat.ne_of_gt (Nat.lt_trans h1 hlt)
    · exact Nat.ne_of_gt (Nat.lt_trans h2 hlt)
    · exact Nat.ne_of_gt (Nat.lt_trans h3 hlt)
theorem stop (S : ZipSep2 z TI TO i1 i2 fp1 fp2) (D1 : Draws prog w A.in1 i1 fp1 n1 P1 St1) (D2 : Draws prog w A.in1 i2 fp2 n2 P2 St2) {L : Addr} {Q : Option Value → Shared → Prop}
    (hz : ZS L z TI TO i s.heap) (hTI : IsTupOf2 s.heap TI (.ref i1) (.ref i2)) (st1 : St1 i s.heap) (st2 : St2 i s.heap) (hle1 : i ≤ n1) (hle2 : i ≤ n2) (hend : i = n1 ∨ i = n2)
    (hQ : ∀ h' tk, (∀ c o, c ≠ z → c ≠ TO → c ≠ i1 → c ≠ i2 → s.heap.get? c = some o → h'.get? c = some o) → Q none { s with heap := h', toks := tk }) : wpAny (model prog w) A (pyNext (.ref z)) Q E s := by
  rcases hz with ⟨rfl, hz, hTO⟩ | ⟨T, f, oT, hz, hT, _⟩
  · exact wpAny_pyNext_zipD2_end S D1 D2 hz hTI hTO st1 st2 hle1 hle2 hend hQ
  · exact pyNext_end_held S D1 D2 hz hT hTI st1 st2 hle1 hle2 hend fun h' tk hk => hQ h' tk fun c o c1 _ c2 c3 e => hk c o c1 c2 c3 e
end
section
variable {prog : Program} {w : World} {A : Around} {s : Shared} {R : Result → Shared → Prop} {z TI TO i1 i2 : Addr} {fp1 fp2 : List Addr} {n1 n2 n : Nat} {P1 P2 : Nat → Value → Prop} {St1 St2 : Nat → Heap → Prop}
theorem loop {S : Addr} (Z : ZipSep2 z TI TO i1 i2 fp1 fp2) (D1 : Draws prog w A.in1.in1 i1 fp1 n1 P1 St1) (D2 : Draws prog w A.in1.in1 i2 fp2 n2 P2 St2) (hn : min n1 n2 = n) (hS1 : S ∉ fp1) (hS2 : S ∉ fp2) (lz : z < S) (l1 : i1 < S) (l2 : i2 < S) (lO : TO < S) (lI : TI < S)
    (hsz : n ≤ sizeLine) (res : Value) {h₁ : Heap}
    (hR : ∀ h' tk acc c as, (∀ b o, b ≠ S → b ≠ z → b ≠ TO → b ≠ i1 → b ≠ i2 → h₁.get? b = some o → h'.get? b = some o) → h'.get? S = some { cls := .type "list", dict := none, data := .seq acc c, slots := #[] } → as.length = n → G P1 P2 S h' as →
      acc.toList = as.map Value.ref → R (.ok (.ret res)) { s with heap := h', toks := tk }) :
    ∀ (k i : Nat) (h : Heap) (tk c : Nat) (acc : Array Value) (as : List Addr), n - i = k → i ≤ n → ZS S z TI TO i h → IsTupOf2 h TI (.ref i1) (.ref i2) → St1 i h → St2 i h → (∀ b o, b ≠ S → b ≠ z → b ≠ TO → b ≠ i1 → b ≠ i2 → h₁.get? b = some o → h.get? b = some o) →
      h.get? S = some { cls := .type "list", dict := none, data := .seq acc c, slots := #[] } → acc.toList = as.map Value.ref → as.length = i → G P1 P2 S h as →
      codeAny (model prog w) A (.builtin "list.extend.loop" ⟨[.ref S, .ref z, res], []⟩) R { s with heap := h, toks := tk } := by
  have nz : S ≠ z := Nat.ne_of_gt lz
  have nO : S ≠ TO := Nat.ne_of_gt lO
  have nI : TI ≠ S := Nat.ne_of_lt lI
  have n1' : S ≠ i1 := Nat.ne_of_gt l1
  have n2' : S ≠ i2 := Nat.ne_of_gt l2
  intro k
  induction k with
  | zero =>
    intro i h tk c acc as hk hi hz hTI st1 st2 hkeep hS hacc hal hG
    have hin : i = n := by omega
    refine codeAny_builtin PySem.F.entry_extend_loop ?_
    rw [Around.under_plainId PySem.F.plain_extend_loop _]
    show wpAny _ A.in1 (pyNext (.ref z) >>= _) _ _ _
    refine wpAny_bind (stop (s := { s with heap := h, toks := tk }) (A := A.in1) Z D1 D2 hz hTI st1 st2 (by omega) (by omega) (by omega) fun h' tk' he => ?_)
    refine wpAny_pure (hR h' tk' acc c as (fun b o h1 h2 h3 h4 h5 e => he b o h2 h3 h4 h5 (hkeep b o h1 h2 h3 h4 h5 e)) (he S _ nz nO n1' n2' hS) (by omega) ⟨hG.rise, hG.above, fun j a hj => ?_⟩ hacc)
    obtain ⟨x, y, e1, e2, e3⟩ := hG.pairs j a hj
    have up := hG.above a (List.mem_of_getElem? hj)
    exact ⟨x, y, e1, e2, he a _ (Nat.ne_of_gt (Nat.lt_trans lz up)) (Nat.ne_of_gt (Nat.lt_trans lO up)) (Nat.ne_of_gt (Nat.lt_trans l1 up)) (Nat.ne_of_gt (Nat.lt_trans l2 up)) e3⟩
  | succ k ih =>
    intro i h tk c acc as hk hi hz hTI st1 st2 hkeep hS hacc hal hG
    have hlt : i < n := by omega
    have hasz : acc.size = i := by rw [← Array.length_toList, hacc, List.length_map, hal]
    refine codeAny_builtin PySem.F.entry_extend_loop ?_
    rw [Around.under_plainId PySem.F.plain_extend_loop _]
    show wpAny _ A.in1 (pyNext (.ref z) >>= _) _ _ _
    refine wpAny_bind (item (s := { s with heap := h, toks := tk }) (A := A.in1) Z D1 D2 (Heap.lt_size hS) lz l1 l2 lO hz hTI st1 st2 (by omega) (by omega) fun x1 x2 h' tk' p1 p2 hz' sn1 sn2 ht hz4 hkp => ?_)
    dsimp only at ht hz4 hkp ⊢
    have hS' := hkp S _ nz nO n1' n2' hS
    have up : ∀ b o, b ≠ S → h'.get? b = some o → (h'.update S (Obj.mapSeq (·.push (Value.ref h.objs.size)))).get? b = some o := fun b o hb e => (Heap.get?_update_other _ _ (Ne.symm hb)).trans e
    have hSl : S < h.objs.size := Heap.lt_size hS
    have hTI' := hkp TI _ Z.TIz Z.TITO Z.TIi1 Z.TIi2 hTI
    have hzz : ZS S z TI TO (i + 1) (h'.update S (Obj.mapSeq (·.push (Value.ref h.objs.size)))) := by
      rcases hz' with ⟨e, _⟩ | ⟨T, f, oT, a1, a2, a3⟩
      · exact absurd e (Nat.succ_ne_zero i)
      · exact .inr ⟨T, f, oT, up z _ (Ne.symm nz) a1, up T _ (Nat.ne_of_gt a3) a2, a3⟩
    show wpAny _ A.in1 (updateSeq S (·.push (Value.ref h.objs.size)) >>= _) _ _ _
    refine wpAny_bind ?_
    refine wpAny_updateSeq hS' rfl (wpAny_pure ⟨plainId_quiet PySem.F.plain_extend_loop _, ih (i + 1) _ tk' _ (acc.push (Value.ref h.objs.size)) (as ++ [h.objs.size]) (by omega) hlt hzz (up TI _ nI hTI') (D1.frame _ _ _ sn1 fun b hb o e => up b o (fun q => hS1 (q ▸ hb)) e) (D2.frame _ _ _ sn2 fun b hb o e => up b o (fun q => hS2 (q ▸ hb)) e)
      (fun b o h1 h2 h3 h4 h5 e => up b o h1 (hkp b o h2 h3 h4 h5 (hkeep b o h1 h2 h3 h4 h5 e))) (Heap.get?_update_self _ hS' rfl) (by rw [Array.toList_push, hacc, List.map_append]; rfl) (by rw [List.length_append, hal]; rfl) ⟨?_, ?_, ?_⟩⟩) (by rw [hasz]; omega) (by show (acc.push (Value.ref h.objs.size)).size ≤ sizeLine + 1; rw [Array.size_push, hasz]; omega)
    · refine List.pairwise_append.mpr ⟨hG.rise, List.pairwise_singleton _ _, fun a ha b hb => ?_⟩
      rw [List.mem_singleton.mp hb]
      exact hG.there ha
    · intro a ha
      rcases List.mem_append.mp ha with ha | ha
      · exact hG.above a ha
      · rw [List.mem_singleton.mp ha]; exact hSl
    · intro j b hj
      rcases Nat.lt_trichotomy j as.length with h1 | h1 | h1
      · rw [List.getElem?_append_left h1] at hj
        obtain ⟨x', y', e1, e2, e3⟩ := hG.pairs j b hj
        have hb := hG.above b (List.mem_of_getElem? hj)
        exact ⟨x', y', e1, e2, up b _ (Nat.ne_of_gt hb) (hkp b _ (Nat.ne_of_gt (Nat.lt_trans lz hb)) (Nat.ne_of_gt (Nat.lt_trans lO hb)) (Nat.ne_of_gt (Nat.lt_trans l1 hb)) (Nat.ne_of_gt (Nat.lt_trans l2 hb)) e3)⟩
      · subst h1
        have hb : h.objs.size = b := by simpa using hj
        subst hb
        exact ⟨x1, x2, by rw [hal]; exact p1, by rw [hal]; exact p2, up _ _ (Nat.ne_of_gt hSl) ht⟩
      · have hnone : (as ++ [h.objs.size])[j]? = none := List.getElem?_eq_none (by rw [List.length_append, List.length_singleton]; omega)
        rw [hnone] at hj; cases hj
end
theorem zip_no_len : typeLookup (.type "zip") "__len__" = pure none := am_miss_of_fast (by decide +kernel)
theorem zip_no_hint : typeLookup (.type "zip") "__length_hint__" = pure none := am_miss_of_fast (by decide +kernel)
section
variable {prog : Program} {w : World} {A : Around} {E : Value → Shared → Prop} {s : Shared} {z TI TO i1 i2 : Addr} {fp1 fp2 : List Addr} {n1 n2 n : Nat} {P1 P2 : Nat → Value → Prop} {St1 St2 : Nat → Heap → Prop}
/-- list(z), z a zip that has not begun -/
theorem call_list {Q : Value → Shared → Prop} (Z : ZipSep2 z TI TO i1 i2 fp1 fp2) (D1 : Draws prog w A.in1.in1.in1 i1 fp1 n1 P1 St1) (D2 : Draws prog w A.in1.in1.in1 i2 fp2 n2 P2 St2) (hn : min n1 n2 = n) (hsz : n ≤ sizeLine)
    (hz : IsZip s.heap z TI TO .none) (hTI : IsTupOf2 s.heap TI (.ref i1) (.ref i2)) (hTO : IsTupOf2 s.heap TO .none .none) (st1 : St1 0 s.heap) (st2 : St2 0 s.heap) (hf1 : ∀ b ∈ fp1, b < s.heap.objs.size) (hf2 : ∀ b ∈ fp2, b < s.heap.objs.size)
    (hQ : ∀ h' tk acc c as, (∀ b o, b ≠ z → b ≠ TO → b ≠ i1 → b ≠ i2 → s.heap.get? b = some o → h'.get? b = some o) → h'.get? s.heap.objs.size = some { cls := .type "list", dict := none, data := .seq acc c, slots := #[] } → as.length = n → G P1 P2 s.heap.objs.size h' as →
      acc.toList = as.map Value.ref → Q (.ref s.heap.objs.size) { s with heap := h', toks := tk }) :
    wpAny (model prog w) A (call (.type "list") [.ref z]) Q E s := by
  refine callType_codes (Q₁ := fun obj s₁ => obj = .ref s.heap.objs.size ∧ s₁ = { s with heap := s.heap.push { cls := .type "list", data := .seq #[] } }) PySem.F.called_list (PySem.F.typeCall_list_1 _) PySem.F.entry_list_init
    (code_list_new _ ⟨rfl, rfl⟩) fun obj s₁ h₁ => ?_
  obtain ⟨rfl, rfl⟩ := h₁
  have hS : (s.heap.push { cls := .type "list", data := .seq #[] }).get? s.heap.objs.size = some { cls := .type "list", data := .seq #[] } := Heap.get?_push_size _ rfl
  refine ⟨⟨_, hS, rfl⟩, PySem.F.args_list_init_2 _ _, ?_⟩
  have lz : z < s.heap.objs.size := Heap.lt_size hz
  have hSz : s.heap.objs.size ≠ z := Nat.ne_of_gt lz
  show wpAny _ _ (do let old ← Builtin.List.listItems (.ref s.heap.objs.size); Builtin.List.listUpdate (.ref s.heap.objs.size) (fun _ => #[]); letGo old.toList.reverse; Builtin.List.listExtendWith (.ref s.heap.objs.size) (.ref z) .none) _ _ _
  refine wpAny_bind ?_
  unfold Builtin.List.listItems
  refine wpAny_bind (wpAny_seqItems hS rfl (wpAny_pure ?_))
  show wpAny _ _ (updateSeq s.heap.objs.size (fun _ => #[]) >>= fun _ => letGo (#[] : Array Value).toList.reverse >>= fun _ => Builtin.List.listExtendWith (.ref s.heap.objs.size) (.ref z) .none) _ _ _
  refine wpAny_bind (wpAny_updateSeq hS rfl ?_)
  have hS2 := Heap.get?_update_self (Obj.mapSeq (fun _ => (#[] : Array Value))) hS rfl
  refine wpAny_bind (wpAny_letGo ?_)
  have up : ∀ {h : Heap} (fn : Obj → Obj), (∀ b o, s.heap.get? b = some o → h.get? b = some o) → ∀ b o, s.heap.get? b = some o → (h.update s.heap.objs.size fn).get? b = some o := fun {h} fn q b o e =>
    (Heap.get?_update_other _ _ (Ne.symm (Nat.ne_of_lt (Heap.lt_size e)))).trans (q b o e)
  have k1 : ∀ b o, s.heap.get? b = some o → (s.heap.push { cls := .type "list", data := .seq #[] }).get? b = some o := fun b o e => Heap.get?_push_of_some _ e
  have k2 := up (Obj.mapSeq (fun _ => (#[] : Array Value))) k1
  unfold Builtin.List.listExtendWith
  have gty : ∀ {h : Heap}, (∀ b o, s.heap.get? b = some o → h.get? b = some o) → ({ s with heap := h } : Shared).TypeIs (.ref z) "zip" := fun {h} q => ⟨_, q z _ hz, rfl⟩
  refine wpAny_bind (wpAny_typeOf (gty k2) ?_)
  have h1 : Builtin.List.listSameRef (.ref s.heap.objs.size) (.ref z) = false := by simp [Builtin.List.listSameRef, hSz]
  have h2 : (Value.type "zip" == Value.type "list") = false := by decide
  have h3 : (Value.type "zip" == Value.type "tuple") = false := by decide
  simp only [h1, h2, h3, Bool.or_false, Bool.false_eq_true, if_false]
  refine wpAny_bind (wpAny_pyIter_zip (k2 z _ hz) ?_)
  refine wpAny_bind (wpAny_holding ?_)
  unfold Builtin.List.listLengthHint
  refine wpAny_bind (wpAny_specialOf (gty k2) zip_no_len ?_)
  show wpAny _ _ (specialOf (Value.ref z) (Str.ofString "__length_hint__") >>= _) _ _ _
  refine wpAny_bind (wpAny_specialOf (gty k2) zip_no_hint ?_)
  refine wpAny_pure ?_
  show wpAny _ _ (rule "list.extend.makes-room" >>= fun _ => Builtin.List.listTouch (.ref s.heap.objs.size) >>= fun _ =>
    again (.builtin "list.extend.loop" ⟨[.ref s.heap.objs.size, .ref z, .none], []⟩)) _ _ _
  refine wpAny_bind (wpAny_rule ?_)
  refine wpAny_bind ?_
  show wpAny _ _ (updateSeq s.heap.objs.size (·.push .none) >>= fun _ => updateSeq s.heap.objs.size (·.pop)) _ _ _
  refine wpAny_bind (wpAny_updateSeq hS2 rfl ?_)
  have hS3 := Heap.get?_update_self (Obj.mapSeq (·.push Value.none)) hS2 rfl
  refine wpAny_updateSeq (hz := by seq_fits) hS3 rfl ?_
  have hS4 := Heap.get?_update_self (Obj.mapSeq (·.pop)) hS3 rfl
  have k4 := up (Obj.mapSeq (·.pop)) (up (Obj.mapSeq (·.push Value.none)) k2)
  have lt1 : i1 < s.heap.objs.size := hf1 _ Z.mem1
  have lt2 : i2 < s.heap.objs.size := hf2 _ Z.mem2
  refine wpAny_pure ⟨plainId_quiet F.plain_extend_loop _, ?_⟩
  exact loop (A := A.in1) (s := s) (h₁ := s.heap) Z D1 D2 hn (fun q => Nat.lt_irrefl _ (hf1 _ q)) (fun q => Nat.lt_irrefl _ (hf2 _ q)) lz lt1 lt2 (Heap.lt_size hTO) (Heap.lt_size hTI) hsz .none
    (fun h' tk acc c as q1 q2 q3 q4 q5 => ⟨rfl, hQ h' tk acc c as (fun b o c1 c2 c3 c4 e => q1 b o (Nat.ne_of_lt (Heap.lt_size e)) c1 c2 c3 c4 e) q2 q3 q4 q5⟩)
    n 0 _ s.toks _ #[] [] (Nat.sub_zero _) (Nat.zero_le _) (.inl ⟨rfl, k4 z _ hz, k4 TO _ hTO⟩) (k4 TI _ hTI) (D1.frame _ _ _ st1 fun b _ o e => k4 b o e) (D2.frame _ _ _ st2 fun b _ o e => k4 b o e) (fun b o _ _ _ _ _ e => k4 b o e) hS4 rfl rfl
    ⟨List.Pairwise.nil, (fun _ ha => nomatch ha), (fun j a hj => by simp at hj)⟩
end
end ZL
end PySem

/-! DQy: list(zip(text, list)). -/
namespace DL
open PySem PySem.Spec PyProof.Rows L2
/-- the signs of a text -/
def sgs (x : Str) : List Str := x.cps.toList.map fun c => ⟨#[c]⟩
def tLzip (K : PySem.W.Frag) (x : Str) (te : TE) : TE := fun σ H Q => te σ H fun v H1 => ∃ (l : Addr) (xs : List V), [V.str x, v] = [V.str x, .ref l] ∧ SqL K H1 l xs ∧
  ∀ (H' : Hp) (q : Addr) (ts : List Addr), (∀ b o, H1 b = some o → H' b = some o) → (∀ t ∈ q :: ts, H1 t = none) → H' q = some (.lst (ts.map V.ref)) → Paired (fun t (p : Str × V) => H' t = some (.tup [.str p.1, p.2])) ts ((sgs x).zip xs) → Q (.ref q) H'
section
variable {X : Cx} {x : Str} {j : Nat} {e : Expr} {te : TE} {p p2 cp zpos pos : Pos}
theorem pe_lzip (hc : X.calm = true) (he : PE X e te) (hg1 : Gl X "list") (hm1 : X.mg "list" = none) (hg2 : Gl X "zip") (hm2 : X.mg "zip" = none)
    (hs1 : starEach [.Constant (.str x) j cp, e] X.env = (false, eval (.Constant (.str x) j cp) X.env) :: starEach [e] X.env) (hsE : starEach [e] X.env = (false, eval e X.env) :: starEach [] X.env) (hpl : (backTo zpos (starEach [e] X.env)).any (·.1) = false)
    (hs2 : starEach [.Call (.Name "zip" p2) [.Constant (.str x) j cp, e] [] zpos] X.env = (false, eval (.Call (.Name "zip" p2) [.Constant (.str x) j cp, e] [] zpos) X.env) :: starEach [] X.env) :
    PE X (.Call (.Name "list" p) [.Call (.Name "zip" p2) [.Constant (.str x) j cp, e] [] zpos] [] pos) (tLzip X.K x te) := by
  refine ⟨fun pins s σ H Q I h => ?_⟩
  refine wpAny_Call_Name_kw (ld_blt I hg1 hm1 PyProof.Rows.boot_list ?_)
  refine PyProof.Rows.callWith_type1 ?_ hs2 rfl
  rw [hs2]
  show wpAny _ _ (spliced ((false, eval (.Call (.Name "zip" p2) [.Constant (.str x) j cp, e] [] zpos) X.env) :: backTo pos (starEach [] X.env))) _ _ s
  refine Calls.spliced_cons ?_
  refine Call_ (ld_blt I hg2 hm2 PyProof.Rows.boot_zip (PyProof.Rows.callWith_type1 (thn ((pa_cons (pe_str (X := X)) (pa_cons he pa_nil hsE) hs1).run zpos pins s σ H (fun vs H1 => ∃ (l : Addr) (xs : List V), vs = [V.str x, .ref l] ∧ SqL X.K H1 l xs ∧
  ∀ (H' : Hp) (q : Addr) (ts : List Addr), (∀ b o, H1 b = some o → H' b = some o) → (∀ t ∈ q :: ts, H1 t = none) → H' q = some (.lst (ts.map V.ref)) → Paired (fun t (p : Str × V) => H' t = some (.tup [.str p.1, p.2])) ts ((sgs x).zip xs) → Q (.ref q) H') I h) fun us s1 ⟨vs, H1, I1, r1, q1⟩ => ?_) hs1 hpl))
  obtain ⟨l, xs, ev, hl, q⟩ := q1
  subst ev
  obtain ⟨u1, u2, rfl, ⟨t, rfl⟩, r2⟩ := vals2 r1
  obtain rfl : u2 = Value.ref l := r2
  obtain ⟨its, rv, pl, hz⟩ := I1.list hl
  have hh := I1.ok.hd hc
  refine zip_begins2 (begins_text x t) (begins_list l its.toArray) trivial pl.isList fun h' hz5 hTI hTO g1 g2 hsz hk => ?_
  refine Calls.spliced_nil ?_
  have N := s1.heap.objs.size
  have hn : min x.cps.size its.toArray.size ≤ sizeLine := Nat.le_trans (Nat.min_le_right _ _) (by rw [List.size_toArray, ← rv.length]; exact hz)
  refine ZL.call_list (s := { s1 with heap := h' }) (zip_sep2 (fp1 := []) (fp2 := [l]) (fun b hb => nomatch hb) (fun b hb => by rw [List.mem_singleton.mp hb]; exact pl.lt)) (Draws.text (A := X.A.in1.in1.in1) hh s1.heap.objs.size x t) (Draws.list (A := X.A.in1.in1.in1) hh (s1.heap.objs.size + 1) l (Nat.ne_of_lt (Nat.lt_succ_of_lt pl.lt)) its.toArray) rfl hn hz5 hTI hTO ⟨_, g1, rfl, rfl⟩ ⟨⟨_, g2, rfl, rfl⟩, pl.isList.at fun o e => hk l o e⟩
    (fun b hb => by rw [List.mem_singleton.mp hb]; show s1.heap.objs.size < h'.objs.size; rw [hsz]; exact Nat.lt_add_of_pos_right (by decide)) (fun b hb => ?_) fun h2 tk acc c as hk2 hS hal hG hacc => ?_
  · show b < h'.objs.size
    rw [hsz]
    rcases List.mem_cons.mp hb with z | hb
    · rw [z]; exact Nat.add_lt_add_left (by decide) _
    · rw [List.mem_singleton.mp hb]; exact Nat.lt_of_lt_of_le pl.lt (Nat.le_add_right _ _)
  · have low : ∀ b o, s1.heap.get? b = some o → h2.get? b = some o := fun b o eb => by
      have lb := Heap.lt_size eb
      exact hk2 b o (Nat.ne_of_lt (Nat.lt_of_lt_of_le lb (Nat.le_add_right _ _))) (Nat.ne_of_lt (Nat.lt_of_lt_of_le lb (Nat.le_add_right _ _))) (Nat.ne_of_lt lb) (Nat.ne_of_lt (Nat.lt_of_lt_of_le lb (Nat.le_add_right _ _))) (hk b o eb)
    have hS' : h2.get? h'.objs.size = some { cls := .type "list", dict := none, data := .seq acc c, slots := #[] } := hS
    have lS : s1.heap.objs.size ≤ h'.objs.size := by rw [hsz]; exact Nat.le_add_right _ _
    have nd : as.Nodup := List.Pairwise.imp (fun h => Nat.ne_of_lt h) hG.rise
    have J1 : Inv X pins σ H1 { s1 with heap := h2, toks := tk } := I1.kept (t' := tk) low
    have fresh : ∀ b, s1.heap.objs.size ≤ b → H1 b = none := fun b hb => I1.hok.fresh hb
    have lz : as.length ≤ sizeLine := by rw [hal]; exact hn
    have J2 : Inv X pins σ (upd H1 h'.objs.size (.lst (as.map V.ref))) { s1 with heap := h2, toks := tk } :=
      J1.take (h' := h2) (t' := tk) (fun b ob _ e => e) (I1.fpOk lS (fresh _ lS)) ⟨by rw [List.length_map]; exact lz, acc.toList, c, by rw [hacc]; exact vals_refs as, by rw [Array.toArray_toList]; exact hS'⟩
    obtain ⟨H2, J3, g, qt⟩ := DX.takeT (P := fun b us => ∃ (j : Nat) (cc : Nat) (y : V), as[j]? = some b ∧ x.cps[j]? = some cc ∧ xs[j]? = some y ∧ us = [V.str ⟨#[cc]⟩, y]) I1 as _ J2 nd fun b hb => by
      obtain ⟨i, hi⟩ := List.mem_iff_getElem?.mp hb
      obtain ⟨vx, vy, ⟨cc, u, hcc, rfl⟩, hy, hg⟩ := hG.pairs i b hi
      have hy : its[i]? = some vy := by rw [← hy]; simp
      have li : i < its.length := (List.getElem?_eq_some_iff.mp hy).1
      have lx : i < xs.length := by rw [rv.length]; exact li
      have ey : xs[i]? = some (xs[i]'lx) := List.getElem?_eq_getElem lx
      obtain ⟨vy', ey', ry⟩ := rv.get ey
      have z := hy.symm.trans ey'
      cases z
      have lo := Nat.le_trans lS (Nat.le_of_lt (hG.above b hb))
      refine ⟨lo, ?_, _, ⟨i, cc, xs[i]'lx, hi, hcc, ey, rfl⟩, fun H2 => ⟨by show 2 ≤ sizeLine; rw [sizeLine_eq]; omega, [_, vy], .cons ⟨u, rfl⟩ (.cons ry .nil), _, hg, rfl, 0, rfl⟩⟩
      rw [upd_ne (Nat.ne_of_gt (hG.above b hb))]
      exact fresh b lo
    have up : ∀ b o, H1 b = some o → H2 b = some o := fun b o e => g b o (by rw [upd_ne (ne_of_none e (fresh _ lS))]; exact e)
    refine ⟨.ref h'.objs.size, H2, J3, rfl, q H2 h'.objs.size as up (fun t ht => ?_) (g _ _ upd_same) (paired_of ?_ fun i t pr ht hpr => ?_)⟩
    · rcases List.mem_cons.mp ht with e | ht
      · rw [e]; exact fresh _ lS
      · exact fresh t (Nat.le_trans lS (Nat.le_of_lt (hG.above t ht)))
    · rw [hal, List.length_zip, List.size_toArray]
      unfold sgs
      rw [List.length_map, Array.length_toList, rv.length]
      simp
    · obtain ⟨us, ⟨i', cc, y, hi, hcc, hy, rfl⟩, e⟩ := qt t (List.mem_of_getElem? ht)
      have ij : i' = i := nd_at nd hi ht
      subst ij
      rw [List.getElem?_zip_eq_some] at hpr
      obtain ⟨e1, e2⟩ := hpr
      have e1 : (sgs x)[i']? = some pr.1 := e1
      unfold sgs at e1
      rw [List.getElem?_map, Array.getElem?_toList, hcc] at e1
      have e1 := Option.some.inj e1
      rw [hy] at e2
      rw [← e1, ← Option.some.inj e2]
      exact e
end
def lzipD (x : Str) (d : D) : W D := W.bnd W.get fun μ => W.bnd (W.opt (lsOf d μ)) fun ds => W.ret (.lst (((sgs x).zip ds).map fun p => D.tup [.str p.1, p.2]))
theorem lzip_isL {K : PySem.W.Frag} {F F' H' : Hp} {ts : List Addr} (hF : ∀ t o, H' t = some o → t ∈ ts → F' t = some o) (e : Same F F') : ∀ {as : List Addr} {ks : List Str} {xs : List V} {ds : List D}, (∀ t ∈ as, t ∈ ts) → Paired (fun t (p : Str × V) => H' t = some (.tup [.str p.1, p.2])) as (ks.zip xs) → IsL K F xs ds →
    IsL K F' (as.map V.ref) ((ks.zip ds).map fun p => D.tup [.str p.1, p.2])
  | _, [], _, _, _, hp, _ => by
    cases hp
    exact .nil
  | _, k :: ks, [], [], _, hp, .nil => by
    cases hp
    exact .nil
  | _, k :: ks, x :: xs, d :: ds, hs, hp, .cons iv r => by
    cases hp with
    | @cons t _ l _ h hr => exact .cons (.tup (.inl (.inl (hF t _ h (hs t (List.mem_cons_self ..))))) (.cons (.str _) (.cons (iv.up e) .nil))) (lzip_isL hF e (fun x hx => hs x (List.mem_cons_of_mem _ hx)) hr r)
section
variable {X : Cx} {Eh : Option EX} {x : Str} {j : Nat} {e : Expr} {me : Rho → W D} {p p2 cp zpos pos : Pos}
theorem de_lzip (hc : X.calm = true) (he : DE X Eh e me) (hg1 : Gl X "list") (hm1 : X.mg "list" = none) (hg2 : Gl X "zip") (hm2 : X.mg "zip" = none)
    (hs1 : starEach [.Constant (.str x) j cp, e] X.env = (false, eval (.Constant (.str x) j cp) X.env) :: starEach [e] X.env) (hsE : starEach [e] X.env = (false, eval e X.env) :: starEach [] X.env) (hpl : (backTo zpos (starEach [e] X.env)).any (·.1) = false)
    (hs2 : starEach [.Call (.Name "zip" p2) [.Constant (.str x) j cp, e] [] zpos] X.env = (false, eval (.Call (.Name "zip" p2) [.Constant (.str x) j cp, e] [] zpos) X.env) :: starEach [] X.env) :
    DE X Eh (.Call (.Name "list" p) [.Call (.Name "zip" p2) [.Constant (.str x) j cp, e] [] zpos] [] pos) (eUn (lzipD x) me) := by
  refine PE.imp (pe_lzip hc he hg1 hm1 hg2 hm2 hs1 hsE hpl hs2) fun σ H Qh h => ?_
  obtain ⟨F, ρ, μ, Q, ED, env, rep, lnk, hm, bk⟩ := h
  refine ⟨F, ρ, μ, _, ED, env, rep, lnk, hm, fun v1 H1 d1 F1 μ1 s1 r1 i1 q1 => ?_⟩
  obtain ⟨ds, e1, q⟩ := opt_of q1
  obtain ⟨l, xs, rfl, hl, il⟩ := ls_of r1 i1 e1
  refine ⟨l, xs, rfl, hl, fun H' q' ts hk1 hn1 hq hpr => ?_⟩
  let F2 : Hp := fun x => if x ∈ q' :: ts then H' x else F1 x
  have s2 : Same F1 F2 := fun x o ex => by
    have : x ∉ q' :: ts := fun hx => by
      have := r1.sub _ _ ex
      rw [hn1 x hx] at this
      cases this
    show (if x ∈ q' :: ts then H' x else F1 x) = some o
    rw [if_neg this]
    exact ex
  have r2 : Rep X.K F2 H' μ1 := by
    refine ⟨fun x o ex => ?_, fun x mo' ex => ?_⟩
    · have ex : (if x ∈ q' :: ts then H' x else F1 x) = some o := ex
      split at ex
      · exact ex
      · exact hk1 _ _ (r1.sub _ _ ex)
    · obtain ⟨f, m⟩ := r1.mem x mo' ex
      refine ⟨?_, m.ext s2 fun o => hk1 x o⟩
      show (if x ∈ q' :: ts then H' x else F1 x) = none
      rw [if_neg fun hx => m.ne (hn1 x hx) rfl]
      exact f
  have hF : ∀ t o, H' t = some o → t ∈ q' :: ts → F2 t = some o := fun t o ho ht => by
    show (if t ∈ q' :: ts then H' t else F1 t) = some o
    rw [if_pos ht]
    exact ho
  exact bk _ _ _ F2 μ1 (s1.trans s2) r2 (.lst (.inl (.inl (hF _ _ hq (List.mem_cons_self ..)))) (lzip_isL (ts := q' :: ts) hF s2 (fun t ht => List.mem_cons_of_mem _ ht) hpr il)) q
end
/-! ### steps -/
section
variable {C : Addr} {n f x : Str} {fl ns : List Str} {sel : List D → List D} {ms : Rho → W (List D)} {me : Rho → W D} {ds : List D} {tb : List (Str × Addr)} {sub : Str → Bool} {ρ : Rho} {μ : Mem} {Q : D → Mem → Prop} {E : XD}
theorem x_mkV : eMkV C n fl sel ms ρ μ Q E = ms ρ μ (fun ds μ1 => ((sel ds).length = fl.length ∧ ds.length ≤ 1000) ∧ Q (.exv C n fl.reverse (sel ds).reverse) μ1) E := rfl
theorem x_isV : eIsV tb sub me ρ μ Q E = me ρ μ (fun d μ1 => isV tb sub d μ1 Q E) E := rfl
theorem x_isVe : isV tb sub (.exv C n ns ds) μ Q E = ((n, C) ∈ tb ∧ Q (.bl (sub n)) μ) := rfl
theorem x_fldV : eFldV tb f me ρ μ Q E = me ρ μ (fun d μ1 => fldV tb f d μ1 Q E) E := rfl
theorem x_fldVe : fldV tb f (.exv C n ns ds) μ Q E = ((n, C) ∈ tb ∧ W.opt ((ns.zip ds).lookup f) μ Q E) := rfl
theorem x_lzip : lzipD x (.lst ds) μ Q E = Q (.lst (((sgs x).zip ds).map fun p => D.tup [.str p.1, p.2])) μ := rfl
end
end DL

namespace Lk01
open PySem PySem.Spec PyProof.Rows L2 DL
/-! ### the text: printed by gen.py -/
def topS (i : Nat) : Stmt := PySem.Challenge.pw_stillfiles_k01_refusals_made.main.body.getD i (.Pass ⟨0, 0, 0, 0⟩)
abbrev s__law_deck : Stmt := topS 33
abbrev NN__law_deck : List Str := ["_law_script"]
theorem sc__law_deck : FnScope NN__law_deck ["_law_script"] (defScope s__law_deck) := ⟨rfl, rfl, rfl, by decide +kernel, rfl, by decide +kernel, by decide +kernel⟩
theorem vi__law_deck_0 : Vis (defScope s__law_deck) "_law_script" := .inl (by decide +kernel)
abbrev s__law_draw : Stmt := topS 34
abbrev NN__law_draw : List Str := ["_law_deck_here", "_law_most", "_law_seed", "_law_mixed"]
theorem sc__law_draw : FnScope NN__law_draw ["_law_deck_here", "_law_most"] (defScope s__law_draw) := ⟨rfl, rfl, rfl, by decide +kernel, rfl, by decide +kernel, by decide +kernel⟩
theorem vi__law_draw_0 : Vis (defScope s__law_draw) "_law_deck_here" := .inl (by decide +kernel)
theorem vi__law_draw_1 : Vis (defScope s__law_draw) "_law_most" := .inl (by decide +kernel)
theorem vi__law_draw_2 : Vis (defScope s__law_draw) "_law_seed" := .inl (by decide +kernel)
theorem lo__law_draw_2 : Loc (defScope s__law_draw) "_law_seed" := .inl (by decide +kernel)
theorem vi__law_draw_3 : Vis (defScope s__law_draw) "_law_mixed" := .inl (by decide +kernel)
theorem lo__law_draw_3 : Loc (defScope s__law_draw) "_law_mixed" := .inl (by decide +kernel)
abbrev s__law_any : Stmt := topS 35
abbrev NN__law_any : List Str := ["_law_deck_here", "_law_deep", "_law_sort", "_law_parts", "_law_k"]
theorem sc__law_any : FnScope NN__law_any ["_law_deck_here", "_law_deep"] (defScope s__law_any) := ⟨rfl, rfl, rfl, by decide +kernel, rfl, by decide +kernel, by decide +kernel⟩
theorem vi__law_any_0 : Vis (defScope s__law_any) "_law_deck_here" := .inr (.inl (by decide +kernel))
theorem vi__law_any_1 : Vis (defScope s__law_any) "_law_deep" := .inr (.inl (by decide +kernel))
theorem vi__law_any_2 : Vis (defScope s__law_any) "_law_sort" := .inl (by decide +kernel)
theorem lo__law_any_2 : Loc (defScope s__law_any) "_law_sort" := .inl (by decide +kernel)
theorem vi__law_any_3 : Vis (defScope s__law_any) "_law_parts" := .inl (by decide +kernel)
theorem ll__law_any_3 : (defScope s__law_any).names.lookup ("_law_parts" : Str) = some NameKind.local := by decide +kernel
abbrev s__law_placed : Stmt := topS 36
abbrev NN__law_placed : List Str := ["_law_a", "_law_b", "_law_c", "_law_found"]
theorem sc__law_placed : FnScope NN__law_placed ["_law_a", "_law_b", "_law_c"] (defScope s__law_placed) := ⟨rfl, rfl, rfl, by decide +kernel, rfl, by decide +kernel, by decide +kernel⟩
theorem vi__law_placed_0 : Vis (defScope s__law_placed) "_law_a" := .inl (by decide +kernel)
theorem vi__law_placed_1 : Vis (defScope s__law_placed) "_law_b" := .inl (by decide +kernel)
theorem vi__law_placed_2 : Vis (defScope s__law_placed) "_law_c" := .inl (by decide +kernel)
theorem vi__law_placed_3 : Vis (defScope s__law_placed) "_law_found" := .inl (by decide +kernel)
theorem lo__law_placed_3 : Loc (defScope s__law_placed) "_law_found" := .inl (by decide +kernel)
abbrev s__law_named : Stmt := topS 37
abbrev NN__law_named : List Str := ["_law_a", "_law_b", "_law_c", "_law_found"]
theorem sc__law_named : FnScope NN__law_named ["_law_a", "_law_b", "_law_c"] (defScope s__law_named) := ⟨rfl, rfl, rfl, by decide +kernel, rfl, by decide +kernel, by decide +kernel⟩
theorem vi__law_named_0 : Vis (defScope s__law_named) "_law_a" := .inl (by decide +kernel)
theorem vi__law_named_1 : Vis (defScope s__law_named) "_law_b" := .inl (by decide +kernel)
theorem vi__law_named_2 : Vis (defScope s__law_named) "_law_c" := .inl (by decide +kernel)
theorem vi__law_named_3 : Vis (defScope s__law_named) "_law_found" := .inl (by decide +kernel)
theorem lo__law_named_3 : Loc (defScope s__law_named) "_law_found" := .inl (by decide +kernel)
abbrev s__law_classes : Stmt := topS 38
abbrev NN__law_classes : List Str := ["_law_e", "_law_found"]
theorem sc__law_classes : FnScope NN__law_classes ["_law_e"] (defScope s__law_classes) := ⟨rfl, rfl, rfl, by decide +kernel, rfl, by decide +kernel, by decide +kernel⟩
theorem vi__law_classes_0 : Vis (defScope s__law_classes) "_law_e" := .inl (by decide +kernel)
theorem vi__law_classes_1 : Vis (defScope s__law_classes) "_law_found" := .inl (by decide +kernel)
theorem lo__law_classes_1 : Loc (defScope s__law_classes) "_law_found" := .inl (by decide +kernel)
abbrev s__law_fields : Stmt := topS 39
abbrev NN__law_fields : List Str := ["_law_made", "_law_found"]
theorem sc__law_fields : FnScope NN__law_fields ["_law_made"] (defScope s__law_fields) := ⟨rfl, rfl, rfl, by decide +kernel, rfl, by decide +kernel, by decide +kernel⟩
theorem vi__law_fields_0 : Vis (defScope s__law_fields) "_law_made" := .inl (by decide +kernel)
theorem vi__law_fields_1 : Vis (defScope s__law_fields) "_law_found" := .inl (by decide +kernel)
theorem lo__law_fields_1 : Loc (defScope s__law_fields) "_law_found" := .inl (by decide +kernel)
abbrev s__law_right : Stmt := topS 40
abbrev NN__law_right : List Str := ["_law_made", "_law_a", "_law_b", "_law_c", "_law_k", "_law_under", "_law_j"]
theorem sc__law_right : FnScope NN__law_right ["_law_made", "_law_a", "_law_b", "_law_c"] (defScope s__law_right) := ⟨rfl, rfl, rfl, by decide +kernel, rfl, by decide +kernel, by decide +kernel⟩
theorem vi__law_right_0 : Vis (defScope s__law_right) "_law_made" := .inl (by decide +kernel)
theorem vi__law_right_1 : Vis (defScope s__law_right) "_law_a" := .inl (by decide +kernel)
theorem vi__law_right_2 : Vis (defScope s__law_right) "_law_b" := .inl (by decide +kernel)
theorem vi__law_right_3 : Vis (defScope s__law_right) "_law_c" := .inl (by decide +kernel)
theorem vi__law_right_4 : Vis (defScope s__law_right) "_law_k" := .inr (.inl (by decide +kernel))
theorem lo__law_right_4 : Loc (defScope s__law_right) "_law_k" := .inr (by decide +kernel)
theorem vi__law_right_5 : Vis (defScope s__law_right) "_law_under" := .inl (by decide +kernel)
theorem lo__law_right_5 : Loc (defScope s__law_right) "_law_under" := .inl (by decide +kernel)
abbrev s_law : Stmt := topS 41
abbrev NN_law : List Str := ["_law_script", "_law_deck_here", "_law_kept", "_law_turn", "_law_a", "_law_b", "_law_c", "_law_k", "_law_made"]
theorem sc_law : FnScope NN_law ["_law_script"] (defScope s_law) := ⟨rfl, rfl, rfl, by decide +kernel, rfl, by decide +kernel, by decide +kernel⟩
theorem vi_law_0 : Vis (defScope s_law) "_law_script" := .inl (by decide +kernel)
theorem lo_law_1 : Loc (defScope s_law) "_law_deck_here" := .inr (by decide +kernel)
theorem vi_law_2 : Vis (defScope s_law) "_law_kept" := .inl (by decide +kernel)
theorem lo_law_2 : Loc (defScope s_law) "_law_kept" := .inl (by decide +kernel)
theorem lo_law_3 : Loc (defScope s_law) "_law_turn" := .inl (by decide +kernel)
theorem vi_law_4 : Vis (defScope s_law) "_law_a" := .inl (by decide +kernel)
theorem lo_law_4 : Loc (defScope s_law) "_law_a" := .inl (by decide +kernel)
theorem vi_law_5 : Vis (defScope s_law) "_law_b" := .inl (by decide +kernel)
theorem lo_law_5 : Loc (defScope s_law) "_law_b" := .inl (by decide +kernel)
theorem vi_law_6 : Vis (defScope s_law) "_law_c" := .inl (by decide +kernel)
theorem lo_law_6 : Loc (defScope s_law) "_law_c" := .inl (by decide +kernel)
abbrev si_Used : Stmt := clsStmt (topS 12) 0
theorem sci_Used : FnScope ["self", "name"] ["self", "name"] (defScope si_Used) := ⟨rfl, rfl, rfl, by decide +kernel, rfl, by decide +kernel, by decide +kernel⟩
abbrev si_NoFit : Stmt := clsStmt (topS 11) 0
theorem sci_NoFit : FnScope ["self", "name"] ["self", "name"] (defScope si_NoFit) := ⟨rfl, rfl, rfl, by decide +kernel, rfl, by decide +kernel, by decide +kernel⟩
abbrev si_Taken : Stmt := clsStmt (topS 10) 0
theorem sci_Taken : FnScope ["self", "name"] ["self", "name"] (defScope si_Taken) := ⟨rfl, rfl, rfl, by decide +kernel, rfl, by decide +kernel, by decide +kernel⟩
abbrev si_NoName : Stmt := clsStmt (topS 9) 0
theorem sci_NoName : FnScope ["self", "name"] ["self", "name"] (defScope si_NoName) := ⟨rfl, rfl, rfl, by decide +kernel, rfl, by decide +kernel, by decide +kernel⟩
abbrev si_Over : Stmt := clsStmt (topS 20) 0
theorem sci_Over : FnScope ["self", "until"] ["self", "until"] (defScope si_Over) := ⟨rfl, rfl, rfl, by decide +kernel, rfl, by decide +kernel, by decide +kernel⟩
abbrev si_NotNow : Stmt := clsStmt (topS 19) 0
theorem sci_NotNow : FnScope ["self", "state"] ["self", "state"] (defScope si_NotNow) := ⟨rfl, rfl, rfl, by decide +kernel, rfl, by decide +kernel, by decide +kernel⟩
abbrev si_Tired : Stmt := clsStmt (topS 18) 0
theorem sci_Tired : FnScope ["self", "tries"] ["self", "tries"] (defScope si_Tired) := ⟨rfl, rfl, rfl, by decide +kernel, rfl, by decide +kernel, by decide +kernel⟩
abbrev si_TooLate : Stmt := clsStmt (topS 17) 0
theorem sci_TooLate : FnScope ["self", "base"] ["self", "base"] (defScope si_TooLate) := ⟨rfl, rfl, rfl, by decide +kernel, rfl, by decide +kernel, by decide +kernel⟩
abbrev si_NoText : Stmt := clsStmt (topS 16) 0
theorem sci_NoText : FnScope ["self", "row"] ["self", "row"] (defScope si_NoText) := ⟨rfl, rfl, rfl, by decide +kernel, rfl, by decide +kernel, by decide +kernel⟩
abbrev si_NoDeed : Stmt := clsStmt (topS 15) 0
theorem sci_NoDeed : FnScope ["self", "deed"] ["self", "deed"] (defScope si_NoDeed) := ⟨rfl, rfl, rfl, by decide +kernel, rfl, by decide +kernel, by decide +kernel⟩
abbrev si_NoRow : Stmt := clsStmt (topS 14) 0
theorem sci_NoRow : FnScope ["self", "place"] ["self", "place"] (defScope si_NoRow) := ⟨rfl, rfl, rfl, by decide +kernel, rfl, by decide +kernel, by decide +kernel⟩
abbrev si_NoChange : Stmt := clsStmt (topS 13) 0
theorem sci_NoChange : FnScope ["self", "place"] ["self", "place"] (defScope si_NoChange) := ⟨rfl, rfl, rfl, by decide +kernel, rfl, by decide +kernel, by decide +kernel⟩
abbrev si_NoWriter : Stmt := clsStmt (topS 28) 0
theorem sci_NoWriter : FnScope ["self", "name"] ["self", "name"] (defScope si_NoWriter) := ⟨rfl, rfl, rfl, by decide +kernel, rfl, by decide +kernel, by decide +kernel⟩
abbrev si_NoTag : Stmt := clsStmt (topS 27) 0
theorem sci_NoTag : FnScope ["self", "name"] ["self", "name"] (defScope si_NoTag) := ⟨rfl, rfl, rfl, by decide +kernel, rfl, by decide +kernel, by decide +kernel⟩
abbrev si_NoCommit : Stmt := clsStmt (topS 26) 0
theorem sci_NoCommit : FnScope ["self", "number"] ["self", "number"] (defScope si_NoCommit) := ⟨rfl, rfl, rfl, by decide +kernel, rfl, by decide +kernel, by decide +kernel⟩
abbrev si_NoTable : Stmt := clsStmt (topS 25) 0
theorem sci_NoTable : FnScope ["self", "name"] ["self", "name"] (defScope si_NoTable) := ⟨rfl, rfl, rfl, by decide +kernel, rfl, by decide +kernel, by decide +kernel⟩
abbrev si_NoFile : Stmt := clsStmt (topS 24) 0
theorem sci_NoFile : FnScope ["self", "file"] ["self", "file"] (defScope si_NoFile) := ⟨rfl, rfl, rfl, by decide +kernel, rfl, by decide +kernel, by decide +kernel⟩
abbrev si_NoColumn : Stmt := clsStmt (topS 23) 0
theorem sci_NoColumn : FnScope ["self", "name"] ["self", "name"] (defScope si_NoColumn) := ⟨rfl, rfl, rfl, by decide +kernel, rfl, by decide +kernel, by decide +kernel⟩
abbrev si_Clash : Stmt := clsStmt (topS 21) 0
theorem sci_Clash : FnScope ["self", "number", "word", "file"] ["self", "number", "word", "file"] (defScope si_Clash) := ⟨rfl, rfl, rfl, by decide +kernel, rfl, by decide +kernel, by decide +kernel⟩
abbrev si_Lost : Stmt := clsStmt (topS 31) 0
theorem sci_Lost : FnScope ["self", "step"] ["self", "step"] (defScope si_Lost) := ⟨rfl, rfl, rfl, by decide +kernel, rfl, by decide +kernel, by decide +kernel⟩
abbrev si_Crash : Stmt := clsStmt (topS 30) 0
theorem sci_Crash : FnScope ["self", "step"] ["self", "step"] (defScope si_Crash) := ⟨rfl, rfl, rfl, by decide +kernel, rfl, by decide +kernel, by decide +kernel⟩
theorem nd_0 : (("_law_script" : Str) == ("__debug__" : Str)) = false := by decide +kernel
theorem nc_0 : (("_law_script" : Str) == ("__classdict__" : Str)) = false := by decide +kernel
theorem nd_1 : (("_law_deck_here" : Str) == ("__debug__" : Str)) = false := by decide +kernel
theorem nc_1 : (("_law_deck_here" : Str) == ("__classdict__" : Str)) = false := by decide +kernel
theorem nd_2 : (("_law_seed" : Str) == ("__debug__" : Str)) = false := by decide +kernel
theorem nc_2 : (("_law_seed" : Str) == ("__classdict__" : Str)) = false := by decide +kernel
theorem nd_3 : (("_law_most" : Str) == ("__debug__" : Str)) = false := by decide +kernel
theorem nc_3 : (("_law_most" : Str) == ("__classdict__" : Str)) = false := by decide +kernel
theorem nd_4 : (("_law_mixed" : Str) == ("__debug__" : Str)) = false := by decide +kernel
theorem nc_4 : (("_law_mixed" : Str) == ("__classdict__" : Str)) = false := by decide +kernel
theorem nd_5 : (("_law_draw" : Str) == ("__debug__" : Str)) = false := by decide +kernel
theorem nd_6 : (("_law_deep" : Str) == ("__debug__" : Str)) = false := by decide +kernel
theorem nc_6 : (("_law_deep" : Str) == ("__classdict__" : Str)) = false := by decide +kernel
theorem nd_7 : (("_law_sort" : Str) == ("__debug__" : Str)) = false := by decide +kernel
theorem nc_7 : (("_law_sort" : Str) == ("__classdict__" : Str)) = false := by decide +kernel
theorem nd_8 : (("_law_any" : Str) == ("__debug__" : Str)) = false := by decide +kernel
theorem nd_9 : (("_law_parts" : Str) == ("__debug__" : Str)) = false := by decide +kernel
theorem nc_9 : (("_law_parts" : Str) == ("__classdict__" : Str)) = false := by decide +kernel
theorem nd_10 : (("Used" : Str) == ("__debug__" : Str)) = false := by decide +kernel
theorem nd_11 : (("StillError" : Str) == ("__debug__" : Str)) = false := by decide +kernel
theorem nd_12 : (("name" : Str) == ("__debug__" : Str)) = false := by decide +kernel
theorem nc_12 : (("name" : Str) == ("__classdict__" : Str)) = false := by decide +kernel
theorem nd_13 : (("_law_a" : Str) == ("__debug__" : Str)) = false := by decide +kernel
theorem nc_13 : (("_law_a" : Str) == ("__classdict__" : Str)) = false := by decide +kernel
theorem nd_14 : (("NoFit" : Str) == ("__debug__" : Str)) = false := by decide +kernel
theorem nd_15 : (("Taken" : Str) == ("__debug__" : Str)) = false := by decide +kernel
theorem nd_16 : (("NoName" : Str) == ("__debug__" : Str)) = false := by decide +kernel
theorem nd_17 : (("NoLine" : Str) == ("__debug__" : Str)) = false := by decide +kernel
theorem nd_18 : (("Busy" : Str) == ("__debug__" : Str)) = false := by decide +kernel
theorem nd_19 : (("Last" : Str) == ("__debug__" : Str)) = false := by decide +kernel
theorem nd_20 : (("Full" : Str) == ("__debug__" : Str)) = false := by decide +kernel
theorem nd_21 : (("NoRule" : Str) == ("__debug__" : Str)) = false := by decide +kernel
theorem nd_22 : (("NoCond" : Str) == ("__debug__" : Str)) = false := by decide +kernel
theorem nd_23 : (("NoShape" : Str) == ("__debug__" : Str)) = false := by decide +kernel
theorem nd_24 : (("_law_found" : Str) == ("__debug__" : Str)) = false := by decide +kernel
theorem nc_24 : (("_law_found" : Str) == ("__classdict__" : Str)) = false := by decide +kernel
theorem nd_25 : (("Over" : Str) == ("__debug__" : Str)) = false := by decide +kernel
theorem nd_26 : (("until" : Str) == ("__debug__" : Str)) = false := by decide +kernel
theorem nc_26 : (("until" : Str) == ("__classdict__" : Str)) = false := by decide +kernel
theorem nd_27 : (("NotNow" : Str) == ("__debug__" : Str)) = false := by decide +kernel
theorem nd_28 : (("state" : Str) == ("__debug__" : Str)) = false := by decide +kernel
theorem nc_28 : (("state" : Str) == ("__classdict__" : Str)) = false := by decide +kernel
theorem nd_29 : (("Tired" : Str) == ("__debug__" : Str)) = false := by decide +kernel
theorem nd_30 : (("tries" : Str) == ("__debug__" : Str)) = false := by decide +kernel
theorem nc_30 : (("tries" : Str) == ("__classdict__" : Str)) = false := by decide +kernel
theorem nd_31 : (("TooLate" : Str) == ("__debug__" : Str)) = false := by decide +kernel
theorem nd_32 : (("base" : Str) == ("__debug__" : Str)) = false := by decide +kernel
theorem nc_32 : (("base" : Str) == ("__classdict__" : Str)) = false := by decide +kernel
theorem nd_33 : (("NoText" : Str) == ("__debug__" : Str)) = false := by decide +kernel
theorem nd_34 : (("row" : Str) == ("__debug__" : Str)) = false := by decide +kernel
theorem nc_34 : (("row" : Str) == ("__classdict__" : Str)) = false := by decide +kernel
theorem nd_35 : (("NoDeed" : Str) == ("__debug__" : Str)) = false := by decide +kernel
theorem nd_36 : (("deed" : Str) == ("__debug__" : Str)) = false := by decide +kernel
theorem nc_36 : (("deed" : Str) == ("__classdict__" : Str)) = false := by decide +kernel
theorem nd_37 : (("NoRow" : Str) == ("__debug__" : Str)) = false := by decide +kernel
theorem nd_38 : (("place" : Str) == ("__debug__" : Str)) = false := by decide +kernel
theorem nc_38 : (("place" : Str) == ("__classdict__" : Str)) = false := by decide +kernel
theorem nd_39 : (("NoChange" : Str) == ("__debug__" : Str)) = false := by decide +kernel
theorem nd_40 : (("NoWriter" : Str) == ("__debug__" : Str)) = false := by decide +kernel
theorem nd_41 : (("Missing" : Str) == ("__debug__" : Str)) = false := by decide +kernel
theorem nd_42 : (("NoTag" : Str) == ("__debug__" : Str)) = false := by decide +kernel
theorem nd_43 : (("NoCommit" : Str) == ("__debug__" : Str)) = false := by decide +kernel
theorem nd_44 : (("number" : Str) == ("__debug__" : Str)) = false := by decide +kernel
theorem nc_44 : (("number" : Str) == ("__classdict__" : Str)) = false := by decide +kernel
theorem nd_45 : (("NoTable" : Str) == ("__debug__" : Str)) = false := by decide +kernel
theorem nd_46 : (("NoFile" : Str) == ("__debug__" : Str)) = false := by decide +kernel
theorem nd_47 : (("file" : Str) == ("__debug__" : Str)) = false := by decide +kernel
theorem nc_47 : (("file" : Str) == ("__classdict__" : Str)) = false := by decide +kernel
theorem nd_48 : (("NoColumn" : Str) == ("__debug__" : Str)) = false := by decide +kernel
theorem nd_49 : (("Clash" : Str) == ("__debug__" : Str)) = false := by decide +kernel
theorem nd_50 : (("word" : Str) == ("__debug__" : Str)) = false := by decide +kernel
theorem nc_50 : (("word" : Str) == ("__classdict__" : Str)) = false := by decide +kernel
theorem nd_51 : (("_law_c" : Str) == ("__debug__" : Str)) = false := by decide +kernel
theorem nc_51 : (("_law_c" : Str) == ("__classdict__" : Str)) = false := by decide +kernel
theorem nd_52 : (("_law_b" : Str) == ("__debug__" : Str)) = false := by decide +kernel
theorem nc_52 : (("_law_b" : Str) == ("__classdict__" : Str)) = false := by decide +kernel
theorem nd_53 : (("Lost" : Str) == ("__debug__" : Str)) = false := by decide +kernel
theorem nd_54 : (("Trouble" : Str) == ("__debug__" : Str)) = false := by decide +kernel
theorem nd_55 : (("step" : Str) == ("__debug__" : Str)) = false := by decide +kernel
theorem nc_55 : (("step" : Str) == ("__classdict__" : Str)) = false := by decide +kernel
theorem nd_56 : (("Crash" : Str) == ("__debug__" : Str)) = false := by decide +kernel
theorem nd_57 : (("_law_e" : Str) == ("__debug__" : Str)) = false := by decide +kernel
theorem nc_57 : (("_law_e" : Str) == ("__classdict__" : Str)) = false := by decide +kernel
theorem nd_58 : (("ArithmeticError" : Str) == ("__debug__" : Str)) = false := by decide +kernel
theorem nd_59 : (("KeyError" : Str) == ("__debug__" : Str)) = false := by decide +kernel
theorem nd_60 : (("ValueError" : Str) == ("__debug__" : Str)) = false := by decide +kernel
theorem nd_61 : (("_law_made" : Str) == ("__debug__" : Str)) = false := by decide +kernel
theorem nc_61 : (("_law_made" : Str) == ("__classdict__" : Str)) = false := by decide +kernel
theorem nd_62 : (("_law_k" : Str) == ("__debug__" : Str)) = false := by decide +kernel
theorem nc_62 : (("_law_k" : Str) == ("__classdict__" : Str)) = false := by decide +kernel
theorem nd_63 : (("_law_classes" : Str) == ("__debug__" : Str)) = false := by decide +kernel
theorem nd_64 : (("_law_j" : Str) == ("__debug__" : Str)) = false := by decide +kernel
theorem nc_64 : (("_law_j" : Str) == ("__classdict__" : Str)) = false := by decide +kernel
theorem nd_65 : (("_law_under" : Str) == ("__debug__" : Str)) = false := by decide +kernel
theorem nc_65 : (("_law_under" : Str) == ("__classdict__" : Str)) = false := by decide +kernel
theorem nd_66 : (("_law_fields" : Str) == ("__debug__" : Str)) = false := by decide +kernel
theorem nd_67 : (("_law_deck" : Str) == ("__debug__" : Str)) = false := by decide +kernel
theorem nd_68 : (("_law_kept" : Str) == ("__debug__" : Str)) = false := by decide +kernel
theorem nc_68 : (("_law_kept" : Str) == ("__classdict__" : Str)) = false := by decide +kernel
theorem nd_69 : (("_law_named" : Str) == ("__debug__" : Str)) = false := by decide +kernel
theorem nd_70 : (("_law_placed" : Str) == ("__debug__" : Str)) = false := by decide +kernel
theorem nd_71 : (("_law_right" : Str) == ("__debug__" : Str)) = false := by decide +kernel
end Lk01

namespace Lk01
open PySem PySem.Spec PyProof.Rows L2 DL
/-! ### the mirrors: printed by gen.py -/
variable [CA]
abbrev cC_Used : Addr := CA.at_ 0
abbrev cC_NoFit : Addr := CA.at_ 1
abbrev cC_Taken : Addr := CA.at_ 2
abbrev cC_NoName : Addr := CA.at_ 3
abbrev cC_NoLine : Addr := CA.at_ 4
abbrev cC_Busy : Addr := CA.at_ 5
abbrev cC_Last : Addr := CA.at_ 6
abbrev cC_Full : Addr := CA.at_ 7
abbrev cC_NoRule : Addr := CA.at_ 8
abbrev cC_NoCond : Addr := CA.at_ 9
abbrev cC_NoShape : Addr := CA.at_ 10
abbrev cC_Over : Addr := CA.at_ 11
abbrev cC_NotNow : Addr := CA.at_ 12
abbrev cC_Tired : Addr := CA.at_ 13
abbrev cC_TooLate : Addr := CA.at_ 14
abbrev cC_NoText : Addr := CA.at_ 15
abbrev cC_NoDeed : Addr := CA.at_ 16
abbrev cC_NoRow : Addr := CA.at_ 17
abbrev cC_NoChange : Addr := CA.at_ 18
abbrev cC_NoWriter : Addr := CA.at_ 19
abbrev cC_NoTag : Addr := CA.at_ 20
abbrev cC_NoCommit : Addr := CA.at_ 21
abbrev cC_NoTable : Addr := CA.at_ 22
abbrev cC_NoFile : Addr := CA.at_ 23
abbrev cC_NoColumn : Addr := CA.at_ 24
abbrev cC_Clash : Addr := CA.at_ 25
abbrev cC_Lost : Addr := CA.at_ 26
abbrev cC_Crash : Addr := CA.at_ 27
abbrev tbV : List (Str × Addr) := [(PySem.Str.ofString "Used", cC_Used), (PySem.Str.ofString "NoFit", cC_NoFit), (PySem.Str.ofString "Taken", cC_Taken), (PySem.Str.ofString "NoName", cC_NoName), (PySem.Str.ofString "NoLine", cC_NoLine), (PySem.Str.ofString "Busy", cC_Busy), (PySem.Str.ofString "Last", cC_Last), (PySem.Str.ofString "Full", cC_Full), (PySem.Str.ofString "NoRule", cC_NoRule), (PySem.Str.ofString "NoCond", cC_NoCond), (PySem.Str.ofString "NoShape", cC_NoShape), (PySem.Str.ofString "Over", cC_Over), (PySem.Str.ofString "NotNow", cC_NotNow), (PySem.Str.ofString "Tired", cC_Tired), (PySem.Str.ofString "TooLate", cC_TooLate), (PySem.Str.ofString "NoText", cC_NoText), (PySem.Str.ofString "NoDeed", cC_NoDeed), (PySem.Str.ofString "NoRow", cC_NoRow), (PySem.Str.ofString "NoChange", cC_NoChange), (PySem.Str.ofString "NoWriter", cC_NoWriter), (PySem.Str.ofString "NoTag", cC_NoTag), (PySem.Str.ofString "NoCommit", cC_NoCommit), (PySem.Str.ofString "NoTable", cC_NoTable), (PySem.Str.ofString "NoFile", cC_NoFile), (PySem.Str.ofString "NoColumn", cC_NoColumn), (PySem.Str.ofString "Clash", cC_Clash), (PySem.Str.ofString "Lost", cC_Lost), (PySem.Str.ofString "Crash", cC_Crash)]
abbrev tbF_deed : List (Str × Addr) := [(PySem.Str.ofString "NoDeed", cC_NoDeed)]
abbrev tbF_place : List (Str × Addr) := [(PySem.Str.ofString "NoRow", cC_NoRow), (PySem.Str.ofString "NoChange", cC_NoChange)]
abbrev tbF_name : List (Str × Addr) := [(PySem.Str.ofString "Used", cC_Used), (PySem.Str.ofString "NoFit", cC_NoFit), (PySem.Str.ofString "Taken", cC_Taken), (PySem.Str.ofString "NoName", cC_NoName), (PySem.Str.ofString "NoWriter", cC_NoWriter), (PySem.Str.ofString "NoTag", cC_NoTag), (PySem.Str.ofString "NoTable", cC_NoTable), (PySem.Str.ofString "NoColumn", cC_NoColumn)]
abbrev tbF_until : List (Str × Addr) := [(PySem.Str.ofString "Over", cC_Over)]
abbrev tbF_state : List (Str × Addr) := [(PySem.Str.ofString "NotNow", cC_NotNow)]
abbrev tbF_tries : List (Str × Addr) := [(PySem.Str.ofString "Tired", cC_Tired)]
abbrev tbF_base : List (Str × Addr) := [(PySem.Str.ofString "TooLate", cC_TooLate)]
abbrev tbF_row : List (Str × Addr) := [(PySem.Str.ofString "NoText", cC_NoText)]
abbrev tbF_file : List (Str × Addr) := [(PySem.Str.ofString "NoFile", cC_NoFile), (PySem.Str.ofString "Clash", cC_Clash)]
abbrev tbF_word : List (Str × Addr) := [(PySem.Str.ofString "Clash", cC_Clash)]
abbrev tbF_number : List (Str × Addr) := [(PySem.Str.ofString "NoCommit", cC_NoCommit), (PySem.Str.ofString "Clash", cC_Clash)]
abbrev tbF_step : List (Str × Addr) := [(PySem.Str.ofString "Lost", cC_Lost), (PySem.Str.ofString "Crash", cC_Crash)]
def vsub_Full (n : Str) : Bool := decide (n ∈ ([PySem.Str.ofString "Full"] : List Str))
def vsub_NoRule (n : Str) : Bool := decide (n ∈ ([PySem.Str.ofString "NoRule"] : List Str))
def vsub_NoCond (n : Str) : Bool := decide (n ∈ ([PySem.Str.ofString "NoCond"] : List Str))
def vsub_NoShape (n : Str) : Bool := decide (n ∈ ([PySem.Str.ofString "NoShape"] : List Str))
def vsub_NoName (n : Str) : Bool := decide (n ∈ ([PySem.Str.ofString "NoName"] : List Str))
def vsub_NoLine (n : Str) : Bool := decide (n ∈ ([PySem.Str.ofString "NoLine"] : List Str))
def vsub_Busy (n : Str) : Bool := decide (n ∈ ([PySem.Str.ofString "Busy"] : List Str))
def vsub_Last (n : Str) : Bool := decide (n ∈ ([PySem.Str.ofString "Last"] : List Str))
def vsub_NoChange (n : Str) : Bool := decide (n ∈ ([PySem.Str.ofString "NoChange"] : List Str))
def vsub_Used (n : Str) : Bool := decide (n ∈ ([PySem.Str.ofString "Used"] : List Str))
def vsub_NoFit (n : Str) : Bool := decide (n ∈ ([PySem.Str.ofString "NoFit"] : List Str))
def vsub_Taken (n : Str) : Bool := decide (n ∈ ([PySem.Str.ofString "Taken"] : List Str))
def vsub_TooLate (n : Str) : Bool := decide (n ∈ ([PySem.Str.ofString "TooLate"] : List Str))
def vsub_NoText (n : Str) : Bool := decide (n ∈ ([PySem.Str.ofString "NoText"] : List Str))
def vsub_NoDeed (n : Str) : Bool := decide (n ∈ ([PySem.Str.ofString "NoDeed"] : List Str))
def vsub_NoRow (n : Str) : Bool := decide (n ∈ ([PySem.Str.ofString "NoRow"] : List Str))
def vsub_Clash (n : Str) : Bool := decide (n ∈ ([PySem.Str.ofString "Clash"] : List Str))
def vsub_Over (n : Str) : Bool := decide (n ∈ ([PySem.Str.ofString "Over"] : List Str))
def vsub_NotNow (n : Str) : Bool := decide (n ∈ ([PySem.Str.ofString "NotNow"] : List Str))
def vsub_Tired (n : Str) : Bool := decide (n ∈ ([PySem.Str.ofString "Tired"] : List Str))
def vsub_NoCommit (n : Str) : Bool := decide (n ∈ ([PySem.Str.ofString "NoCommit"] : List Str))
def vsub_NoTable (n : Str) : Bool := decide (n ∈ ([PySem.Str.ofString "NoTable"] : List Str))
def vsub_NoFile (n : Str) : Bool := decide (n ∈ ([PySem.Str.ofString "NoFile"] : List Str))
def vsub_NoColumn (n : Str) : Bool := decide (n ∈ ([PySem.Str.ofString "NoColumn"] : List Str))
def vsub_Lost (n : Str) : Bool := decide (n ∈ ([PySem.Str.ofString "Lost"] : List Str))
def vsub_Crash (n : Str) : Bool := decide (n ∈ ([PySem.Str.ofString "Crash"] : List Str))
def vsub_NoWriter (n : Str) : Bool := decide (n ∈ ([PySem.Str.ofString "NoWriter"] : List Str))
def vsub_NoTag (n : Str) : Bool := decide (n ∈ ([PySem.Str.ofString "NoTag"] : List Str))
def vsub_Trouble (n : Str) : Bool := decide (n ∈ ([PySem.Str.ofString "Lost", PySem.Str.ofString "Crash"] : List Str))
def vsub_Missing (n : Str) : Bool := decide (n ∈ ([PySem.Str.ofString "NoWriter", PySem.Str.ofString "NoTag", PySem.Str.ofString "NoCommit", PySem.Str.ofString "NoTable", PySem.Str.ofString "NoFile", PySem.Str.ofString "NoColumn"] : List Str))
def vsub_StillError (n : Str) : Bool := decide (n ∈ ([PySem.Str.ofString "Used", PySem.Str.ofString "NoFit", PySem.Str.ofString "Taken", PySem.Str.ofString "NoName", PySem.Str.ofString "NoLine", PySem.Str.ofString "Busy", PySem.Str.ofString "Last", PySem.Str.ofString "Full", PySem.Str.ofString "NoRule", PySem.Str.ofString "NoCond", PySem.Str.ofString "NoShape", PySem.Str.ofString "Over", PySem.Str.ofString "NotNow", PySem.Str.ofString "Tired", PySem.Str.ofString "TooLate", PySem.Str.ofString "NoText", PySem.Str.ofString "NoDeed", PySem.Str.ofString "NoRow", PySem.Str.ofString "NoChange", PySem.Str.ofString "Clash"] : List Str))
def vsub_ArithmeticError (n : Str) : Bool := decide (n ∈ ([PySem.Str.ofString "Lost", PySem.Str.ofString "Crash"] : List Str))
def vsub_KeyError (n : Str) : Bool := decide (n ∈ ([PySem.Str.ofString "NoWriter", PySem.Str.ofString "NoTag", PySem.Str.ofString "NoCommit", PySem.Str.ofString "NoTable", PySem.Str.ofString "NoFile", PySem.Str.ofString "NoColumn"] : List Str))
def vsub_ValueError (n : Str) : Bool := decide (n ∈ ([PySem.Str.ofString "Used", PySem.Str.ofString "NoFit", PySem.Str.ofString "Taken", PySem.Str.ofString "NoName", PySem.Str.ofString "NoLine", PySem.Str.ofString "Busy", PySem.Str.ofString "Last", PySem.Str.ofString "Full", PySem.Str.ofString "NoRule", PySem.Str.ofString "NoCond", PySem.Str.ofString "NoShape", PySem.Str.ofString "Over", PySem.Str.ofString "NotNow", PySem.Str.ofString "Tired", PySem.Str.ofString "TooLate", PySem.Str.ofString "NoText", PySem.Str.ofString "NoDeed", PySem.Str.ofString "NoRow", PySem.Str.ofString "NoChange", PySem.Str.ofString "Clash"] : List Str))
def b__law_deck : Rho → W Out :=
    (sRet (eDisM (pCons (eC (.str (PySem.Str.ofString "cells"))) (eCall listMD (aCons (eSl (eVar 0) oNone (oSome (eC (.int 63)))) aNil)) (pCons (eC (.str (PySem.Str.ofString "turns"))) (eC (.int 0)) (pCons (eC (.str (PySem.Str.ofString "seed"))) (eBin modD (eBin addD (eCall sumD (aCons (eSl (eVar 0) oNone (oSome (eC (.int 63)))) aNil)) (eBin mulAD (eC (.int 104729)) (eCall lenD (aCons (eSl (eVar 0) oNone (oSome (eC (.int 63)))) aNil)))) (eC (.int 2147483549))) pNil)))))
def m__law_deck : List D → W D := bodyD 1 b__law_deck
def b__law_draw : Rho → W Out :=
    (sSeq (sAsg (eBin addD (eBin dgetD (eVar 0) (eC (.str (PySem.Str.ofString "turns")))) (eC (.int 1))) (gDix (eVar 0) (eC (.str (PySem.Str.ofString "turns")))))
    (sSeq (sSet 2 (eBin dgetD (eVar 0) (eC (.str (PySem.Str.ofString "seed")))))
    (sSeq (sIf (tBin neD (eBin dgetD (eVar 0) (eC (.str (PySem.Str.ofString "cells")))) (eLst aNil)) (sSeq (sSet 2 (eMeth "list" popAtD (eBin dgetD (eVar 0) (eC (.str (PySem.Str.ofString "cells")))) (aCons (eC (.int 0)) aNil)))
    (sIf (tBin geD (eVar 2) (eBin powD (eC (.int 10)) (eC (.int 18)))) (sSeq (sDrop (eMeth "list" insertD (eBin dgetD (eVar 0) (eC (.str (PySem.Str.ofString "cells")))) (aCons (eC (.int 0)) (aCons (eBin divD (eVar 2) (eVar 1)) aNil))))
    (sRet (eBin modD (eVar 2) (eVar 1)))) sNil)) sNil)
    (sSeq (sSet 3 (eBin modD (eBin mulAD (eBin addD (eBin addD (eBin modD (eVar 2) (eC (.int 2147483629))) (eBin mulAD (eC (.int 1000003)) (eBin dgetD (eVar 0) (eC (.str (PySem.Str.ofString "turns")))))) (eC (.int 77))) (eC (.int 48271))) (eC (.int 2147483647))))
    (sSeq (sAsg (eBin modD (eBin addD (eBin mulAD (eBin dgetD (eVar 0) (eC (.str (PySem.Str.ofString "seed")))) (eC (.int 31))) (eVar 3)) (eC (.int 2147483549))) (gDix (eVar 0) (eC (.str (PySem.Str.ofString "seed")))))
    (sSeq (sSet 3 (eBin modD (eBin mulAD (eVar 3) (eBin addD (eVar 3) (eC (.int 69621)))) (eC (.int 2147483587))))
    (sRet (eBin modD (eBin addD (eBin divD (eVar 3) (eC (.int 128))) (eBin divD (eBin modD (eBin mulAD (eVar 3) (eC (.int 39373))) (eC (.int 2147483563))) (eC (.int 64)))) (eVar 1)))))))))
def m__law_draw : List D → W D := bodyD 4 b__law_draw
def b__law_any (mr : List D → W D) : Rho → W Out :=
    (sSeq (sSet 2 (eCallD 2 m__law_draw (aCons (eVar 0) (aCons (eBin ixD (eLst (aCons (eC (.int 8)) (aCons (eC (.int 12)) aNil))) (eCall intAD (aCons (eBin gtD (eVar 1) (eC (.int 0))) aNil))) aNil))))
    (sSeq (sIf (tBin ltD (eVar 2) (eC (.int 8))) (sRet (eBin ixD (eLst (aCons (eC .non) (aCons (eC (.bl true)) (aCons (eC (.bl false)) (aCons (eBin subD (eC (.int 0)) (eC (.int 1))) (aCons (eBin powD (eC (.int 10)) (eC (.int 39))) (aCons (eC (.str (PySem.Str.ofString ""))) (aCons (eC (.str (PySem.Str.ofString "ab z"))) (aCons (eBin addD (eC (.int 7)) (eCallD 2 m__law_draw (aCons (eVar 0) (aCons (eC (.int 1000)) aNil)))) aNil))))))))) (eVar 2))) sNil)
    (sSeq (sSet 3 (eLc (iRg1 (aCons (eCallD 2 m__law_draw (aCons (eVar 0) (aCons (eC (.int 4)) aNil))) aNil)) (gNm 4) tsYes (eCallD 2 mr (aCons (eVar 0) (aCons (eBin subD (eVar 1) (eC (.int 1))) aNil))) [4]))
    (sRet (eBin ixD (eLst (aCons (eCall tupleD (aCons (eVar 3) aNil)) (aCons (eVar 3) (aCons (eCall dictD (aCons (eUn (lzipD (PySem.Str.ofString "abcd")) (eVar 3)) aNil)) (aCons (eTup (aCons (eVar 3) (aCons (eTup aNil) aNil))) aNil))))) (eBin subD (eVar 2) (eC (.int 8))))))))
def mm__law_any : Nat → List D → W D
  | 0 => fun _ => W.bad
  | j + 1 => bodyD 5 (b__law_any (mm__law_any j))
def m__law_any : List D → W D := mm__law_any 3
def b__law_placed : Rho → W Out :=
    (sSeq (sSet 3 (eLst (aCons (eC (.exv cC_NoShape (PySem.Str.ofString "NoShape") [] [])) (aCons (eC (.exv cC_NoCond (PySem.Str.ofString "NoCond") [] [])) (aCons (eC (.exv cC_NoRule (PySem.Str.ofString "NoRule") [] [])) (aCons (eC (.exv cC_Full (PySem.Str.ofString "Full") [] [])) (aCons (eC (.exv cC_Last (PySem.Str.ofString "Last") [] [])) (aCons (eC (.exv cC_Busy (PySem.Str.ofString "Busy") [] [])) (aCons (eC (.exv cC_NoLine (PySem.Str.ofString "NoLine") [] [])) (aCons (eMkV cC_NoName (PySem.Str.ofString "NoName") [PySem.Str.ofString "name"] id (aCons (eVar 0) aNil)) (aCons (eMkV cC_Taken (PySem.Str.ofString "Taken") [PySem.Str.ofString "name"] id (aCons (eVar 0) aNil)) (aCons (eMkV cC_NoFit (PySem.Str.ofString "NoFit") [PySem.Str.ofString "name"] id (aCons (eVar 0) aNil)) (aCons (eMkV cC_Used (PySem.Str.ofString "Used") [PySem.Str.ofString "name"] id (aCons (eVar 0) aNil)) aNil)))))))))))))
    (sSeq (sSet 3 (eBin addD (eVar 3) (eLst (aCons (eMkV cC_NoChange (PySem.Str.ofString "NoChange") [PySem.Str.ofString "place"] id (aCons (eVar 0) aNil)) (aCons (eMkV cC_NoRow (PySem.Str.ofString "NoRow") [PySem.Str.ofString "place"] id (aCons (eVar 0) aNil)) (aCons (eMkV cC_NoDeed (PySem.Str.ofString "NoDeed") [PySem.Str.ofString "deed"] id (aCons (eVar 0) aNil)) (aCons (eMkV cC_NoText (PySem.Str.ofString "NoText") [PySem.Str.ofString "row"] id (aCons (eVar 0) aNil)) (aCons (eMkV cC_TooLate (PySem.Str.ofString "TooLate") [PySem.Str.ofString "base"] id (aCons (eVar 0) aNil)) (aCons (eMkV cC_Tired (PySem.Str.ofString "Tired") [PySem.Str.ofString "tries"] id (aCons (eVar 0) aNil)) (aCons (eMkV cC_NotNow (PySem.Str.ofString "NotNow") [PySem.Str.ofString "state"] id (aCons (eVar 0) aNil)) (aCons (eMkV cC_Over (PySem.Str.ofString "Over") [PySem.Str.ofString "until"] id (aCons (eVar 0) aNil)) aNil)))))))))))
    (sSeq (sSet 3 (eBin addD (eVar 3) (eLst (aCons (eMkV cC_Clash (PySem.Str.ofString "Clash") [PySem.Str.ofString "number", PySem.Str.ofString "word", PySem.Str.ofString "file"] id (aCons (eVar 0) (aCons (eVar 1) (aCons (eVar 2) aNil)))) (aCons (eMkV cC_NoColumn (PySem.Str.ofString "NoColumn") [PySem.Str.ofString "name"] id (aCons (eVar 0) aNil)) (aCons (eMkV cC_NoFile (PySem.Str.ofString "NoFile") [PySem.Str.ofString "file"] id (aCons (eVar 0) aNil)) (aCons (eMkV cC_NoTable (PySem.Str.ofString "NoTable") [PySem.Str.ofString "name"] id (aCons (eVar 0) aNil)) (aCons (eMkV cC_NoCommit (PySem.Str.ofString "NoCommit") [PySem.Str.ofString "number"] id (aCons (eVar 0) aNil)) (aCons (eMkV cC_NoTag (PySem.Str.ofString "NoTag") [PySem.Str.ofString "name"] id (aCons (eVar 0) aNil)) (aCons (eMkV cC_NoWriter (PySem.Str.ofString "NoWriter") [PySem.Str.ofString "name"] id (aCons (eVar 0) aNil)) aNil))))))))))
    (sRet (eBin addD (eVar 3) (eLst (aCons (eMkV cC_Crash (PySem.Str.ofString "Crash") [PySem.Str.ofString "step"] id (aCons (eVar 0) aNil)) (aCons (eMkV cC_Lost (PySem.Str.ofString "Lost") [PySem.Str.ofString "step"] id (aCons (eVar 0) aNil)) aNil))))))))
def m__law_placed : List D → W D := bodyD 4 b__law_placed
def b__law_named : Rho → W Out :=
    (sSeq (sSet 3 (eLst (aCons (eC (.exv cC_NoShape (PySem.Str.ofString "NoShape") [] [])) (aCons (eC (.exv cC_NoCond (PySem.Str.ofString "NoCond") [] [])) (aCons (eC (.exv cC_NoRule (PySem.Str.ofString "NoRule") [] [])) (aCons (eC (.exv cC_Full (PySem.Str.ofString "Full") [] [])) (aCons (eC (.exv cC_Last (PySem.Str.ofString "Last") [] [])) (aCons (eC (.exv cC_Busy (PySem.Str.ofString "Busy") [] [])) (aCons (eC (.exv cC_NoLine (PySem.Str.ofString "NoLine") [] [])) (aCons (eMkV cC_NoName (PySem.Str.ofString "NoName") [PySem.Str.ofString "name"] (pick [0]) (aCons (eVar 0) aNil)) (aCons (eMkV cC_Taken (PySem.Str.ofString "Taken") [PySem.Str.ofString "name"] (pick [0]) (aCons (eVar 0) aNil)) aNil)))))))))))
    (sSeq (sSet 3 (eBin addD (eVar 3) (eLst (aCons (eMkV cC_NoFit (PySem.Str.ofString "NoFit") [PySem.Str.ofString "name"] (pick [0]) (aCons (eVar 0) aNil)) (aCons (eMkV cC_Used (PySem.Str.ofString "Used") [PySem.Str.ofString "name"] (pick [0]) (aCons (eVar 0) aNil)) (aCons (eMkV cC_NoChange (PySem.Str.ofString "NoChange") [PySem.Str.ofString "place"] (pick [0]) (aCons (eVar 0) aNil)) (aCons (eMkV cC_NoRow (PySem.Str.ofString "NoRow") [PySem.Str.ofString "place"] (pick [0]) (aCons (eVar 0) aNil)) (aCons (eMkV cC_NoDeed (PySem.Str.ofString "NoDeed") [PySem.Str.ofString "deed"] (pick [0]) (aCons (eVar 0) aNil)) (aCons (eMkV cC_NoText (PySem.Str.ofString "NoText") [PySem.Str.ofString "row"] (pick [0]) (aCons (eVar 0) aNil)) aNil)))))))))
    (sSeq (sSet 3 (eBin addD (eVar 3) (eLst (aCons (eMkV cC_TooLate (PySem.Str.ofString "TooLate") [PySem.Str.ofString "base"] (pick [0]) (aCons (eVar 0) aNil)) (aCons (eMkV cC_Tired (PySem.Str.ofString "Tired") [PySem.Str.ofString "tries"] (pick [0]) (aCons (eVar 0) aNil)) (aCons (eMkV cC_NotNow (PySem.Str.ofString "NotNow") [PySem.Str.ofString "state"] (pick [0]) (aCons (eVar 0) aNil)) (aCons (eMkV cC_Over (PySem.Str.ofString "Over") [PySem.Str.ofString "until"] (pick [0]) (aCons (eVar 0) aNil)) (aCons (eMkV cC_Clash (PySem.Str.ofString "Clash") [PySem.Str.ofString "number", PySem.Str.ofString "word", PySem.Str.ofString "file"] (pick [1, 2, 0]) (aCons (eVar 2) (aCons (eVar 0) (aCons (eVar 1) aNil)))) aNil))))))))
    (sSeq (sSet 3 (eBin addD (eVar 3) (eLst (aCons (eMkV cC_NoColumn (PySem.Str.ofString "NoColumn") [PySem.Str.ofString "name"] (pick [0]) (aCons (eVar 0) aNil)) (aCons (eMkV cC_NoFile (PySem.Str.ofString "NoFile") [PySem.Str.ofString "file"] (pick [0]) (aCons (eVar 0) aNil)) (aCons (eMkV cC_NoTable (PySem.Str.ofString "NoTable") [PySem.Str.ofString "name"] (pick [0]) (aCons (eVar 0) aNil)) (aCons (eMkV cC_NoCommit (PySem.Str.ofString "NoCommit") [PySem.Str.ofString "number"] (pick [0]) (aCons (eVar 0) aNil)) (aCons (eMkV cC_NoTag (PySem.Str.ofString "NoTag") [PySem.Str.ofString "name"] (pick [0]) (aCons (eVar 0) aNil)) aNil))))))))
    (sRet (eBin addD (eVar 3) (eLst (aCons (eMkV cC_NoWriter (PySem.Str.ofString "NoWriter") [PySem.Str.ofString "name"] (pick [0]) (aCons (eVar 0) aNil)) (aCons (eMkV cC_Crash (PySem.Str.ofString "Crash") [PySem.Str.ofString "step"] (pick [0]) (aCons (eVar 0) aNil)) (aCons (eMkV cC_Lost (PySem.Str.ofString "Lost") [PySem.Str.ofString "step"] (pick [0]) (aCons (eVar 0) aNil)) aNil))))))))))
def m__law_named : List D → W D := bodyD 4 b__law_named
def b__law_classes : Rho → W Out :=
    (sSeq (sSet 1 (eLst (aCons (eIsV tbV vsub_NoShape (eVar 0)) (aCons (eIsV tbV vsub_NoCond (eVar 0)) (aCons (eIsV tbV vsub_NoRule (eVar 0)) (aCons (eIsV tbV vsub_Full (eVar 0)) aNil))))))
    (sSeq (sSet 1 (eBin addD (eVar 1) (eLst (aCons (eIsV tbV vsub_Last (eVar 0)) (aCons (eIsV tbV vsub_Busy (eVar 0)) (aCons (eIsV tbV vsub_NoLine (eVar 0)) (aCons (eIsV tbV vsub_NoName (eVar 0)) aNil)))))))
    (sSeq (sSet 1 (eBin addD (eVar 1) (eLst (aCons (eIsV tbV vsub_Taken (eVar 0)) (aCons (eIsV tbV vsub_NoFit (eVar 0)) (aCons (eIsV tbV vsub_Used (eVar 0)) (aCons (eIsV tbV vsub_NoChange (eVar 0)) aNil)))))))
    (sSeq (sSet 1 (eBin addD (eVar 1) (eLst (aCons (eIsV tbV vsub_NoRow (eVar 0)) (aCons (eIsV tbV vsub_NoDeed (eVar 0)) (aCons (eIsV tbV vsub_NoText (eVar 0)) (aCons (eIsV tbV vsub_TooLate (eVar 0)) aNil)))))))
    (sSeq (sSet 1 (eBin addD (eVar 1) (eLst (aCons (eIsV tbV vsub_Tired (eVar 0)) (aCons (eIsV tbV vsub_NotNow (eVar 0)) (aCons (eIsV tbV vsub_Over (eVar 0)) (aCons (eIsV tbV vsub_Clash (eVar 0)) aNil)))))))
    (sSeq (sSet 1 (eBin addD (eVar 1) (eLst (aCons (eIsV tbV vsub_NoColumn (eVar 0)) (aCons (eIsV tbV vsub_NoFile (eVar 0)) (aCons (eIsV tbV vsub_NoTable (eVar 0)) (aCons (eIsV tbV vsub_NoCommit (eVar 0)) aNil)))))))
    (sSeq (sSet 1 (eBin addD (eVar 1) (eLst (aCons (eIsV tbV vsub_NoTag (eVar 0)) (aCons (eIsV tbV vsub_NoWriter (eVar 0)) (aCons (eIsV tbV vsub_Crash (eVar 0)) (aCons (eIsV tbV vsub_Lost (eVar 0)) aNil)))))))
    (sSeq (sSet 1 (eBin addD (eVar 1) (eLst (aCons (eIsV tbV vsub_StillError (eVar 0)) (aCons (eIsV tbV vsub_Missing (eVar 0)) (aCons (eIsV tbV vsub_Trouble (eVar 0)) aNil))))))
    (sRet (eBin addD (eVar 1) (eLst (aCons (eIsV tbV vsub_ValueError (eVar 0)) (aCons (eIsV tbV vsub_KeyError (eVar 0)) (aCons (eIsV tbV vsub_ArithmeticError (eVar 0)) aNil))))))))))))))
def m__law_classes : List D → W D := bodyD 2 b__law_classes
def b__law_fields : Rho → W Out :=
    (sSeq (sSet 1 (eLst (aCons (eFldV tbF_name (PySem.Str.ofString "name") (eBin ixD (eVar 0) (eC (.int 7)))) (aCons (eFldV tbF_name (PySem.Str.ofString "name") (eBin ixD (eVar 0) (eC (.int 8)))) (aCons (eFldV tbF_name (PySem.Str.ofString "name") (eBin ixD (eVar 0) (eC (.int 9)))) (aCons (eFldV tbF_name (PySem.Str.ofString "name") (eBin ixD (eVar 0) (eC (.int 10)))) (aCons (eFldV tbF_place (PySem.Str.ofString "place") (eBin ixD (eVar 0) (eC (.int 11)))) (aCons (eFldV tbF_place (PySem.Str.ofString "place") (eBin ixD (eVar 0) (eC (.int 12)))) (aCons (eFldV tbF_deed (PySem.Str.ofString "deed") (eBin ixD (eVar 0) (eC (.int 13)))) aNil)))))))))
    (sSeq (sSet 1 (eBin addD (eVar 1) (eLst (aCons (eFldV tbF_row (PySem.Str.ofString "row") (eBin ixD (eVar 0) (eC (.int 14)))) (aCons (eFldV tbF_base (PySem.Str.ofString "base") (eBin ixD (eVar 0) (eC (.int 15)))) (aCons (eFldV tbF_tries (PySem.Str.ofString "tries") (eBin ixD (eVar 0) (eC (.int 16)))) (aCons (eFldV tbF_state (PySem.Str.ofString "state") (eBin ixD (eVar 0) (eC (.int 17)))) (aCons (eFldV tbF_until (PySem.Str.ofString "until") (eBin ixD (eVar 0) (eC (.int 18)))) aNil))))))))
    (sSeq (sSet 1 (eBin addD (eVar 1) (eLst (aCons (eFldV tbF_number (PySem.Str.ofString "number") (eBin ixD (eVar 0) (eC (.int 19)))) (aCons (eFldV tbF_word (PySem.Str.ofString "word") (eBin ixD (eVar 0) (eC (.int 19)))) (aCons (eFldV tbF_file (PySem.Str.ofString "file") (eBin ixD (eVar 0) (eC (.int 19)))) (aCons (eFldV tbF_name (PySem.Str.ofString "name") (eBin ixD (eVar 0) (eC (.int 20)))) (aCons (eFldV tbF_file (PySem.Str.ofString "file") (eBin ixD (eVar 0) (eC (.int 21)))) (aCons (eFldV tbF_name (PySem.Str.ofString "name") (eBin ixD (eVar 0) (eC (.int 22)))) aNil)))))))))
    (sRet (eBin addD (eVar 1) (eLst (aCons (eFldV tbF_number (PySem.Str.ofString "number") (eBin ixD (eVar 0) (eC (.int 23)))) (aCons (eFldV tbF_name (PySem.Str.ofString "name") (eBin ixD (eVar 0) (eC (.int 24)))) (aCons (eFldV tbF_name (PySem.Str.ofString "name") (eBin ixD (eVar 0) (eC (.int 25)))) (aCons (eFldV tbF_step (PySem.Str.ofString "step") (eBin ixD (eVar 0) (eC (.int 26)))) (aCons (eFldV tbF_step (PySem.Str.ofString "step") (eBin ixD (eVar 0) (eC (.int 27)))) aNil)))))))))))
def m__law_fields : List D → W D := bodyD 2 b__law_fields
def b__law_right : Rho → W Out :=
    (sSeq (sFor (iRg1 (aCons (eC (.int 28)) aNil)) (gNm 4) (sSeq (sSet 5 (eLst (aCons (eBin ltD (eVar 4) (eC (.int 20))) (aCons (eChain leD ltD (eC (.int 20)) (eVar 4) (eC (.int 26))) (aCons (eBin gtD (eVar 4) (eC (.int 25))) aNil)))))
    (sIf (tBin neD (eCall reprXD (aCons (eCallD 1 m__law_classes (aCons (eBin ixD (eVar 0) (eVar 4)) aNil)) aNil)) (eCall reprXD (aCons (eBin addD (eBin addD (eLc (iRg1 (aCons (eC (.int 28)) aNil)) (gNm 6) tsYes (eBin eqD (eVar 6) (eVar 4)) [6]) (eVar 5)) (eVar 5)) aNil))) (sRet (eC (.bl false))) sNil)))
    (sRet (eAnd (eBin eqD (eCall lenD (aCons (eVar 0) aNil)) (eC (.int 28))) (eBin eqD (eCall reprXD (aCons (eCallD 1 m__law_fields (aCons (eVar 0) aNil)) aNil)) (eCall reprXD (aCons (eBin addD (eBin addD (eBin mulAD (eLst (aCons (eVar 1) aNil)) (eC (.int 13))) (eLst (aCons (eVar 2) (aCons (eVar 3) aNil)))) (eBin mulAD (eLst (aCons (eVar 1) aNil)) (eC (.int 8)))) aNil))))))
def m__law_right : List D → W D := bodyD 7 b__law_right
def b_law : Rho → W Out :=
    (sSeq (sSet 1 (eCallD 1 m__law_deck (aCons (eVar 0) aNil)))
    (sSeq (sSet 2 (eLst aNil))
    (sSeq (sFor (iRg1 (aCons (eC (.int 2)) aNil)) (gNm 3) (sSeq (sAsg (eLc (iRg1 (aCons (eC (.int 3)) aNil)) (gNm 7) tsYes (eCallD 2 m__law_any (aCons (eVar 1) (aCons (eC (.int 2)) aNil))) [7]) (gTpL 3 (gsCons (gNm 4) (gsCons (gNm 5) (gsCons (gNm 6) gsNil)))))
    (sSet 2 (eBin addD (eVar 2) (eLst (aCons (eTup (aCons (eCallD 3 m__law_placed (aCons (eVar 4) (aCons (eVar 5) (aCons (eVar 6) aNil)))) (aCons (eVar 4) (aCons (eVar 5) (aCons (eVar 6) aNil))))) (aCons (eTup (aCons (eCallD 3 m__law_named (aCons (eVar 4) (aCons (eVar 5) (aCons (eVar 6) aNil)))) (aCons (eVar 4) (aCons (eVar 5) (aCons (eVar 6) aNil))))) aNil)))))))
    (sRet (eBin (eqLD id) (eLc (iSeq (eVar 2)) (gTp 4 (gsCons (gNm 8) (gsCons (gNm 4) (gsCons (gNm 5) (gsCons (gNm 6) gsNil))))) (tNotW (tTru (eCallD 4 m__law_right (aCons (eVar 8) (aCons (eVar 4) (aCons (eVar 5) (aCons (eVar 6) aNil))))))) (eC (.int 1)) [8, 4, 5, 6]) (eLst aNil))))))
def m_law : List D → W D := bodyD 9 b_law
end Lk01

namespace Lk01
open PySem PySem.Spec PyProof.Rows L2 DL
/-! ### the derivations: printed by gen.py -/
variable [CA]
structure Facts (P : Params) (K : PySem.W.Frag) (mg : Str → Option Value) (c_StillError c_Missing c_Trouble ai_Used ai_NoFit ai_Taken ai_NoName ai_Over ai_NotNow ai_Tired ai_TooLate ai_NoText ai_NoDeed ai_NoRow ai_NoChange ai_NoWriter ai_NoTag ai_NoCommit ai_NoTable ai_NoFile ai_NoColumn ai_Clash ai_Lost ai_Crash a__law_deck a__law_draw a__law_any a__law_placed a__law_named a__law_classes a__law_fields a__law_right a_law : Addr) (di_Used di_NoFit di_Taken di_NoName di_Over di_NotNow di_Tired di_TooLate di_NoText di_NoDeed di_NoRow di_NoChange di_NoWriter di_NoTag di_NoCommit di_NoTable di_NoFile di_NoColumn di_Clash di_Lost di_Crash d__law_deck d__law_draw d__law_any d__law_placed d__law_named d__law_classes d__law_fields d__law_right d_law : FuncData) : Prop where
  g_StillError : mg "StillError" = some (.ref c_StillError)
  g_Missing : mg "Missing" = some (.ref c_Missing)
  g_Trouble : mg "Trouble" = some (.ref c_Trouble)
  g_Used : mg "Used" = some (.ref cC_Used)
  g_NoFit : mg "NoFit" = some (.ref cC_NoFit)
  g_Taken : mg "Taken" = some (.ref cC_Taken)
  g_NoName : mg "NoName" = some (.ref cC_NoName)
  g_NoLine : mg "NoLine" = some (.ref cC_NoLine)
  g_Busy : mg "Busy" = some (.ref cC_Busy)
  g_Last : mg "Last" = some (.ref cC_Last)
  g_Full : mg "Full" = some (.ref cC_Full)
  g_NoRule : mg "NoRule" = some (.ref cC_NoRule)
  g_NoCond : mg "NoCond" = some (.ref cC_NoCond)
  g_NoShape : mg "NoShape" = some (.ref cC_NoShape)
  g_Over : mg "Over" = some (.ref cC_Over)
  g_NotNow : mg "NotNow" = some (.ref cC_NotNow)
  g_Tired : mg "Tired" = some (.ref cC_Tired)
  g_TooLate : mg "TooLate" = some (.ref cC_TooLate)
  g_NoText : mg "NoText" = some (.ref cC_NoText)
  g_NoDeed : mg "NoDeed" = some (.ref cC_NoDeed)
  g_NoRow : mg "NoRow" = some (.ref cC_NoRow)
  g_NoChange : mg "NoChange" = some (.ref cC_NoChange)
  g_NoWriter : mg "NoWriter" = some (.ref cC_NoWriter)
  g_NoTag : mg "NoTag" = some (.ref cC_NoTag)
  g_NoCommit : mg "NoCommit" = some (.ref cC_NoCommit)
  g_NoTable : mg "NoTable" = some (.ref cC_NoTable)
  g_NoFile : mg "NoFile" = some (.ref cC_NoFile)
  g_NoColumn : mg "NoColumn" = some (.ref cC_NoColumn)
  g_Clash : mg "Clash" = some (.ref cC_Clash)
  g_Lost : mg "Lost" = some (.ref cC_Lost)
  g_Crash : mg "Crash" = some (.ref cC_Crash)
  r_StillError : PySem.W.readsIn K c_StillError (.type "type") = true
  ga_StillError : PySem.W.specialIn K (.ref c_StillError) "__getattribute__" = some (some (.builtin "type.__getattribute__"))
  fc_StillError : PySem.W.findCls K (.ref c_StillError) (.type "type") "__init__" = some (.val (.builtin "ValueError.__init__"))
  r_Missing : PySem.W.readsIn K c_Missing (.type "type") = true
  ga_Missing : PySem.W.specialIn K (.ref c_Missing) "__getattribute__" = some (some (.builtin "type.__getattribute__"))
  fc_Missing : PySem.W.findCls K (.ref c_Missing) (.type "type") "__init__" = some (.val (.builtin "KeyError.__init__"))
  r_Trouble : PySem.W.readsIn K c_Trouble (.type "type") = true
  ga_Trouble : PySem.W.specialIn K (.ref c_Trouble) "__getattribute__" = some (some (.builtin "type.__getattribute__"))
  fc_Trouble : PySem.W.findCls K (.ref c_Trouble) (.type "type") "__init__" = some (.val (.builtin "ArithmeticError.__init__"))
  nf_Used_name : PySem.W.findIn K (.ref cC_Used) "name" = some none
  nf_NoFit_name : PySem.W.findIn K (.ref cC_NoFit) "name" = some none
  nf_Taken_name : PySem.W.findIn K (.ref cC_Taken) "name" = some none
  nf_NoName_name : PySem.W.findIn K (.ref cC_NoName) "name" = some none
  nf_Over_until : PySem.W.findIn K (.ref cC_Over) "until" = some none
  nf_NotNow_state : PySem.W.findIn K (.ref cC_NotNow) "state" = some none
  nf_Tired_tries : PySem.W.findIn K (.ref cC_Tired) "tries" = some none
  nf_TooLate_base : PySem.W.findIn K (.ref cC_TooLate) "base" = some none
  nf_NoText_row : PySem.W.findIn K (.ref cC_NoText) "row" = some none
  nf_NoDeed_deed : PySem.W.findIn K (.ref cC_NoDeed) "deed" = some none
  nf_NoRow_place : PySem.W.findIn K (.ref cC_NoRow) "place" = some none
  nf_NoChange_place : PySem.W.findIn K (.ref cC_NoChange) "place" = some none
  nf_NoWriter_name : PySem.W.findIn K (.ref cC_NoWriter) "name" = some none
  nf_NoTag_name : PySem.W.findIn K (.ref cC_NoTag) "name" = some none
  nf_NoCommit_number : PySem.W.findIn K (.ref cC_NoCommit) "number" = some none
  nf_NoTable_name : PySem.W.findIn K (.ref cC_NoTable) "name" = some none
  nf_NoFile_file : PySem.W.findIn K (.ref cC_NoFile) "file" = some none
  nf_NoColumn_name : PySem.W.findIn K (.ref cC_NoColumn) "name" = some none
  nf_Clash_number : PySem.W.findIn K (.ref cC_Clash) "number" = some none
  nf_Clash_word : PySem.W.findIn K (.ref cC_Clash) "word" = some none
  nf_Clash_file : PySem.W.findIn K (.ref cC_Clash) "file" = some none
  nf_Lost_step : PySem.W.findIn K (.ref cC_Lost) "step" = some none
  nf_Crash_step : PySem.W.findIn K (.ref cC_Crash) "step" = some none
  x_NoLine : PySem.W.excIn K cC_NoLine PySem.DNX.veTl "ValueError.__new__" = true
  k_NoLine : PySem.W.keepIn K (.ref cC_NoLine) = true
  x_Busy : PySem.W.excIn K cC_Busy PySem.DNX.veTl "ValueError.__new__" = true
  k_Busy : PySem.W.keepIn K (.ref cC_Busy) = true
  x_Last : PySem.W.excIn K cC_Last PySem.DNX.veTl "ValueError.__new__" = true
  k_Last : PySem.W.keepIn K (.ref cC_Last) = true
  x_Full : PySem.W.excIn K cC_Full PySem.DNX.veTl "ValueError.__new__" = true
  k_Full : PySem.W.keepIn K (.ref cC_Full) = true
  x_NoRule : PySem.W.excIn K cC_NoRule PySem.DNX.veTl "ValueError.__new__" = true
  k_NoRule : PySem.W.keepIn K (.ref cC_NoRule) = true
  x_NoCond : PySem.W.excIn K cC_NoCond PySem.DNX.veTl "ValueError.__new__" = true
  k_NoCond : PySem.W.keepIn K (.ref cC_NoCond) = true
  x_NoShape : PySem.W.excIn K cC_NoShape PySem.DNX.veTl "ValueError.__new__" = true
  k_NoShape : PySem.W.keepIn K (.ref cC_NoShape) = true
  i_Used : PySem.W.findIn K (.ref cC_Used) "__init__" = some (some (.ref ai_Used))
  o_Used : DN.oxB K cC_Used "ValueError.__new__" PySem.DNX.veTl = true
  ti_Used : PySem.W.typeIn K (.ref ai_Used) = some (.type "function")
  i_NoFit : PySem.W.findIn K (.ref cC_NoFit) "__init__" = some (some (.ref ai_NoFit))
  o_NoFit : DN.oxB K cC_NoFit "ValueError.__new__" PySem.DNX.veTl = true
  ti_NoFit : PySem.W.typeIn K (.ref ai_NoFit) = some (.type "function")
  i_Taken : PySem.W.findIn K (.ref cC_Taken) "__init__" = some (some (.ref ai_Taken))
  o_Taken : DN.oxB K cC_Taken "ValueError.__new__" PySem.DNX.veTl = true
  ti_Taken : PySem.W.typeIn K (.ref ai_Taken) = some (.type "function")
  i_NoName : PySem.W.findIn K (.ref cC_NoName) "__init__" = some (some (.ref ai_NoName))
  o_NoName : DN.oxB K cC_NoName "ValueError.__new__" PySem.DNX.veTl = true
  ti_NoName : PySem.W.typeIn K (.ref ai_NoName) = some (.type "function")
  i_Over : PySem.W.findIn K (.ref cC_Over) "__init__" = some (some (.ref ai_Over))
  o_Over : DN.oxB K cC_Over "ValueError.__new__" PySem.DNX.veTl = true
  ti_Over : PySem.W.typeIn K (.ref ai_Over) = some (.type "function")
  i_NotNow : PySem.W.findIn K (.ref cC_NotNow) "__init__" = some (some (.ref ai_NotNow))
  o_NotNow : DN.oxB K cC_NotNow "ValueError.__new__" PySem.DNX.veTl = true
  ti_NotNow : PySem.W.typeIn K (.ref ai_NotNow) = some (.type "function")
  i_Tired : PySem.W.findIn K (.ref cC_Tired) "__init__" = some (some (.ref ai_Tired))
  o_Tired : DN.oxB K cC_Tired "ValueError.__new__" PySem.DNX.veTl = true
  ti_Tired : PySem.W.typeIn K (.ref ai_Tired) = some (.type "function")
  i_TooLate : PySem.W.findIn K (.ref cC_TooLate) "__init__" = some (some (.ref ai_TooLate))
  o_TooLate : DN.oxB K cC_TooLate "ValueError.__new__" PySem.DNX.veTl = true
  ti_TooLate : PySem.W.typeIn K (.ref ai_TooLate) = some (.type "function")
  i_NoText : PySem.W.findIn K (.ref cC_NoText) "__init__" = some (some (.ref ai_NoText))
  o_NoText : DN.oxB K cC_NoText "ValueError.__new__" PySem.DNX.veTl = true
  ti_NoText : PySem.W.typeIn K (.ref ai_NoText) = some (.type "function")
  i_NoDeed : PySem.W.findIn K (.ref cC_NoDeed) "__init__" = some (some (.ref ai_NoDeed))
  o_NoDeed : DN.oxB K cC_NoDeed "ValueError.__new__" PySem.DNX.veTl = true
  ti_NoDeed : PySem.W.typeIn K (.ref ai_NoDeed) = some (.type "function")
  i_NoRow : PySem.W.findIn K (.ref cC_NoRow) "__init__" = some (some (.ref ai_NoRow))
  o_NoRow : DN.oxB K cC_NoRow "ValueError.__new__" PySem.DNX.veTl = true
  ti_NoRow : PySem.W.typeIn K (.ref ai_NoRow) = some (.type "function")
  i_NoChange : PySem.W.findIn K (.ref cC_NoChange) "__init__" = some (some (.ref ai_NoChange))
  o_NoChange : DN.oxB K cC_NoChange "ValueError.__new__" PySem.DNX.veTl = true
  ti_NoChange : PySem.W.typeIn K (.ref ai_NoChange) = some (.type "function")
  i_NoWriter : PySem.W.findIn K (.ref cC_NoWriter) "__init__" = some (some (.ref ai_NoWriter))
  o_NoWriter : DN.oxB K cC_NoWriter "LookupError.__new__" PySem.DNX.keTl = true
  ti_NoWriter : PySem.W.typeIn K (.ref ai_NoWriter) = some (.type "function")
  i_NoTag : PySem.W.findIn K (.ref cC_NoTag) "__init__" = some (some (.ref ai_NoTag))
  o_NoTag : DN.oxB K cC_NoTag "LookupError.__new__" PySem.DNX.keTl = true
  ti_NoTag : PySem.W.typeIn K (.ref ai_NoTag) = some (.type "function")
  i_NoCommit : PySem.W.findIn K (.ref cC_NoCommit) "__init__" = some (some (.ref ai_NoCommit))
  o_NoCommit : DN.oxB K cC_NoCommit "LookupError.__new__" PySem.DNX.keTl = true
  ti_NoCommit : PySem.W.typeIn K (.ref ai_NoCommit) = some (.type "function")
  i_NoTable : PySem.W.findIn K (.ref cC_NoTable) "__init__" = some (some (.ref ai_NoTable))
  o_NoTable : DN.oxB K cC_NoTable "LookupError.__new__" PySem.DNX.keTl = true
  ti_NoTable : PySem.W.typeIn K (.ref ai_NoTable) = some (.type "function")
  i_NoFile : PySem.W.findIn K (.ref cC_NoFile) "__init__" = some (some (.ref ai_NoFile))
  o_NoFile : DN.oxB K cC_NoFile "LookupError.__new__" PySem.DNX.keTl = true
  ti_NoFile : PySem.W.typeIn K (.ref ai_NoFile) = some (.type "function")
  i_NoColumn : PySem.W.findIn K (.ref cC_NoColumn) "__init__" = some (some (.ref ai_NoColumn))
  o_NoColumn : DN.oxB K cC_NoColumn "LookupError.__new__" PySem.DNX.keTl = true
  ti_NoColumn : PySem.W.typeIn K (.ref ai_NoColumn) = some (.type "function")
  i_Clash : PySem.W.findIn K (.ref cC_Clash) "__init__" = some (some (.ref ai_Clash))
  o_Clash : DN.oxB K cC_Clash "ValueError.__new__" PySem.DNX.veTl = true
  ti_Clash : PySem.W.typeIn K (.ref ai_Clash) = some (.type "function")
  i_Lost : PySem.W.findIn K (.ref cC_Lost) "__init__" = some (some (.ref ai_Lost))
  o_Lost : DN.oxB K cC_Lost "ArithmeticError.__new__" PySem.DNX.aeTl = true
  ti_Lost : PySem.W.typeIn K (.ref ai_Lost) = some (.type "function")
  i_Crash : PySem.W.findIn K (.ref cC_Crash) "__init__" = some (some (.ref ai_Crash))
  o_Crash : DN.oxB K cC_Crash "ArithmeticError.__new__" PySem.DNX.aeTl = true
  ti_Crash : PySem.W.typeIn K (.ref ai_Crash) = some (.type "function")
  vx : tbV.all (fun q => xcB K q.2) = true
  vq_Full : tbV.all (fun q => decide (PySem.W.kitOne K (.ref q.2) (.ref cC_Full) = some (vsub_Full q.1))) = true
  vq_NoRule : tbV.all (fun q => decide (PySem.W.kitOne K (.ref q.2) (.ref cC_NoRule) = some (vsub_NoRule q.1))) = true
  vq_NoCond : tbV.all (fun q => decide (PySem.W.kitOne K (.ref q.2) (.ref cC_NoCond) = some (vsub_NoCond q.1))) = true
  vq_NoShape : tbV.all (fun q => decide (PySem.W.kitOne K (.ref q.2) (.ref cC_NoShape) = some (vsub_NoShape q.1))) = true
  vq_NoName : tbV.all (fun q => decide (PySem.W.kitOne K (.ref q.2) (.ref cC_NoName) = some (vsub_NoName q.1))) = true
  vq_NoLine : tbV.all (fun q => decide (PySem.W.kitOne K (.ref q.2) (.ref cC_NoLine) = some (vsub_NoLine q.1))) = true
  vq_Busy : tbV.all (fun q => decide (PySem.W.kitOne K (.ref q.2) (.ref cC_Busy) = some (vsub_Busy q.1))) = true
  vq_Last : tbV.all (fun q => decide (PySem.W.kitOne K (.ref q.2) (.ref cC_Last) = some (vsub_Last q.1))) = true
  vq_NoChange : tbV.all (fun q => decide (PySem.W.kitOne K (.ref q.2) (.ref cC_NoChange) = some (vsub_NoChange q.1))) = true
  vq_Used : tbV.all (fun q => decide (PySem.W.kitOne K (.ref q.2) (.ref cC_Used) = some (vsub_Used q.1))) = true
  vq_NoFit : tbV.all (fun q => decide (PySem.W.kitOne K (.ref q.2) (.ref cC_NoFit) = some (vsub_NoFit q.1))) = true
  vq_Taken : tbV.all (fun q => decide (PySem.W.kitOne K (.ref q.2) (.ref cC_Taken) = some (vsub_Taken q.1))) = true
  vq_TooLate : tbV.all (fun q => decide (PySem.W.kitOne K (.ref q.2) (.ref cC_TooLate) = some (vsub_TooLate q.1))) = true
  vq_NoText : tbV.all (fun q => decide (PySem.W.kitOne K (.ref q.2) (.ref cC_NoText) = some (vsub_NoText q.1))) = true
  vq_NoDeed : tbV.all (fun q => decide (PySem.W.kitOne K (.ref q.2) (.ref cC_NoDeed) = some (vsub_NoDeed q.1))) = true
  vq_NoRow : tbV.all (fun q => decide (PySem.W.kitOne K (.ref q.2) (.ref cC_NoRow) = some (vsub_NoRow q.1))) = true
  vq_Clash : tbV.all (fun q => decide (PySem.W.kitOne K (.ref q.2) (.ref cC_Clash) = some (vsub_Clash q.1))) = true
  vq_Over : tbV.all (fun q => decide (PySem.W.kitOne K (.ref q.2) (.ref cC_Over) = some (vsub_Over q.1))) = true
  vq_NotNow : tbV.all (fun q => decide (PySem.W.kitOne K (.ref q.2) (.ref cC_NotNow) = some (vsub_NotNow q.1))) = true
  vq_Tired : tbV.all (fun q => decide (PySem.W.kitOne K (.ref q.2) (.ref cC_Tired) = some (vsub_Tired q.1))) = true
  vq_NoCommit : tbV.all (fun q => decide (PySem.W.kitOne K (.ref q.2) (.ref cC_NoCommit) = some (vsub_NoCommit q.1))) = true
  vq_NoTable : tbV.all (fun q => decide (PySem.W.kitOne K (.ref q.2) (.ref cC_NoTable) = some (vsub_NoTable q.1))) = true
  vq_NoFile : tbV.all (fun q => decide (PySem.W.kitOne K (.ref q.2) (.ref cC_NoFile) = some (vsub_NoFile q.1))) = true
  vq_NoColumn : tbV.all (fun q => decide (PySem.W.kitOne K (.ref q.2) (.ref cC_NoColumn) = some (vsub_NoColumn q.1))) = true
  vq_Lost : tbV.all (fun q => decide (PySem.W.kitOne K (.ref q.2) (.ref cC_Lost) = some (vsub_Lost q.1))) = true
  vq_Crash : tbV.all (fun q => decide (PySem.W.kitOne K (.ref q.2) (.ref cC_Crash) = some (vsub_Crash q.1))) = true
  vq_NoWriter : tbV.all (fun q => decide (PySem.W.kitOne K (.ref q.2) (.ref cC_NoWriter) = some (vsub_NoWriter q.1))) = true
  vq_NoTag : tbV.all (fun q => decide (PySem.W.kitOne K (.ref q.2) (.ref cC_NoTag) = some (vsub_NoTag q.1))) = true
  vq_Trouble : tbV.all (fun q => decide (PySem.W.kitOne K (.ref q.2) (.ref c_Trouble) = some (vsub_Trouble q.1))) = true
  vq_Missing : tbV.all (fun q => decide (PySem.W.kitOne K (.ref q.2) (.ref c_Missing) = some (vsub_Missing q.1))) = true
  vq_StillError : tbV.all (fun q => decide (PySem.W.kitOne K (.ref q.2) (.ref c_StillError) = some (vsub_StillError q.1))) = true
  vq_ArithmeticError : tbV.all (fun q => decide (PySem.W.kitOne K (.ref q.2) (.type "ArithmeticError") = some (vsub_ArithmeticError q.1))) = true
  vq_KeyError : tbV.all (fun q => decide (PySem.W.kitOne K (.ref q.2) (.type "KeyError") = some (vsub_KeyError q.1))) = true
  vq_ValueError : tbV.all (fun q => decide (PySem.W.kitOne K (.ref q.2) (.type "ValueError") = some (vsub_ValueError q.1))) = true
  vf_deed : tbF_deed.all (fun q => xcB K q.2 && decide (PySem.W.findIn K (.ref q.2) "deed" = some none)) = true
  vf_place : tbF_place.all (fun q => xcB K q.2 && decide (PySem.W.findIn K (.ref q.2) "place" = some none)) = true
  vf_name : tbF_name.all (fun q => xcB K q.2 && decide (PySem.W.findIn K (.ref q.2) "name" = some none)) = true
  vf_until : tbF_until.all (fun q => xcB K q.2 && decide (PySem.W.findIn K (.ref q.2) "until" = some none)) = true
  vf_state : tbF_state.all (fun q => xcB K q.2 && decide (PySem.W.findIn K (.ref q.2) "state" = some none)) = true
  vf_tries : tbF_tries.all (fun q => xcB K q.2 && decide (PySem.W.findIn K (.ref q.2) "tries" = some none)) = true
  vf_base : tbF_base.all (fun q => xcB K q.2 && decide (PySem.W.findIn K (.ref q.2) "base" = some none)) = true
  vf_row : tbF_row.all (fun q => xcB K q.2 && decide (PySem.W.findIn K (.ref q.2) "row" = some none)) = true
  vf_file : tbF_file.all (fun q => xcB K q.2 && decide (PySem.W.findIn K (.ref q.2) "file" = some none)) = true
  vf_word : tbF_word.all (fun q => xcB K q.2 && decide (PySem.W.findIn K (.ref q.2) "word" = some none)) = true
  vf_number : tbF_number.all (fun q => xcB K q.2 && decide (PySem.W.findIn K (.ref q.2) "number" = some none)) = true
  vf_step : tbF_step.all (fun q => xcB K q.2 && decide (PySem.W.findIn K (.ref q.2) "step" = some none)) = true
  Fi_Used : Fun K "__init__" "Used.__init__" si_Used ai_Used di_Used
  Fi_NoFit : Fun K "__init__" "NoFit.__init__" si_NoFit ai_NoFit di_NoFit
  Fi_Taken : Fun K "__init__" "Taken.__init__" si_Taken ai_Taken di_Taken
  Fi_NoName : Fun K "__init__" "NoName.__init__" si_NoName ai_NoName di_NoName
  Fi_Over : Fun K "__init__" "Over.__init__" si_Over ai_Over di_Over
  Fi_NotNow : Fun K "__init__" "NotNow.__init__" si_NotNow ai_NotNow di_NotNow
  Fi_Tired : Fun K "__init__" "Tired.__init__" si_Tired ai_Tired di_Tired
  Fi_TooLate : Fun K "__init__" "TooLate.__init__" si_TooLate ai_TooLate di_TooLate
  Fi_NoText : Fun K "__init__" "NoText.__init__" si_NoText ai_NoText di_NoText
  Fi_NoDeed : Fun K "__init__" "NoDeed.__init__" si_NoDeed ai_NoDeed di_NoDeed
  Fi_NoRow : Fun K "__init__" "NoRow.__init__" si_NoRow ai_NoRow di_NoRow
  Fi_NoChange : Fun K "__init__" "NoChange.__init__" si_NoChange ai_NoChange di_NoChange
  Fi_NoWriter : Fun K "__init__" "NoWriter.__init__" si_NoWriter ai_NoWriter di_NoWriter
  Fi_NoTag : Fun K "__init__" "NoTag.__init__" si_NoTag ai_NoTag di_NoTag
  Fi_NoCommit : Fun K "__init__" "NoCommit.__init__" si_NoCommit ai_NoCommit di_NoCommit
  Fi_NoTable : Fun K "__init__" "NoTable.__init__" si_NoTable ai_NoTable di_NoTable
  Fi_NoFile : Fun K "__init__" "NoFile.__init__" si_NoFile ai_NoFile di_NoFile
  Fi_NoColumn : Fun K "__init__" "NoColumn.__init__" si_NoColumn ai_NoColumn di_NoColumn
  Fi_Clash : Fun K "__init__" "Clash.__init__" si_Clash ai_Clash di_Clash
  Fi_Lost : Fun K "__init__" "Lost.__init__" si_Lost ai_Lost di_Lost
  Fi_Crash : Fun K "__init__" "Crash.__init__" si_Crash ai_Crash di_Crash
  F__law_deck : Fun K "_law_deck" "_law_deck" s__law_deck a__law_deck d__law_deck
  g__law_deck : mg "_law_deck" = some (.ref a__law_deck)
  F__law_draw : Fun K "_law_draw" "_law_draw" s__law_draw a__law_draw d__law_draw
  g__law_draw : mg "_law_draw" = some (.ref a__law_draw)
  F__law_any : Fun K "_law_any" "_law_any" s__law_any a__law_any d__law_any
  g__law_any : mg "_law_any" = some (.ref a__law_any)
  F__law_placed : Fun K "_law_placed" "_law_placed" s__law_placed a__law_placed d__law_placed
  g__law_placed : mg "_law_placed" = some (.ref a__law_placed)
  F__law_named : Fun K "_law_named" "_law_named" s__law_named a__law_named d__law_named
  g__law_named : mg "_law_named" = some (.ref a__law_named)
  F__law_classes : Fun K "_law_classes" "_law_classes" s__law_classes a__law_classes d__law_classes
  g__law_classes : mg "_law_classes" = some (.ref a__law_classes)
  F__law_fields : Fun K "_law_fields" "_law_fields" s__law_fields a__law_fields d__law_fields
  g__law_fields : mg "_law_fields" = some (.ref a__law_fields)
  F__law_right : Fun K "_law_right" "_law_right" s__law_right a__law_right d__law_right
  g__law_right : mg "_law_right" = some (.ref a__law_right)
  F_law : Fun K "law" "law" s_law a_law d_law
  g_law : mg "law" = some (.ref a_law)
  n_ArithmeticError : mg "ArithmeticError" = none
  n_KeyError : mg "KeyError" = none
  n_ValueError : mg "ValueError" = none
  n_dict : mg "dict" = none
  n_int : mg "int" = none
  n_isinstance : mg "isinstance" = none
  n_len : mg "len" = none
  n_list : mg "list" = none
  n_range : mg "range" = none
  n_repr : mg "repr" = none
  n_sum : mg "sum" = none
  n_tuple : mg "tuple" = none
  n_zip : mg "zip" = none
section
variable {P : Program} {w : World} {K : PySem.W.Frag} {mg : Str → Option Value} {base : Heap} {c_StillError c_Missing c_Trouble ai_Used ai_NoFit ai_Taken ai_NoName ai_Over ai_NotNow ai_Tired ai_TooLate ai_NoText ai_NoDeed ai_NoRow ai_NoChange ai_NoWriter ai_NoTag ai_NoCommit ai_NoTable ai_NoFile ai_NoColumn ai_Clash ai_Lost ai_Crash a__law_deck a__law_draw a__law_any a__law_placed a__law_named a__law_classes a__law_fields a__law_right a_law : Addr} {di_Used di_NoFit di_Taken di_NoName di_Over di_NotNow di_Tired di_TooLate di_NoText di_NoDeed di_NoRow di_NoChange di_NoWriter di_NoTag di_NoCommit di_NoTable di_NoFile di_NoColumn di_Clash di_Lost di_Crash d__law_deck d__law_draw d__law_any d__law_placed d__law_named d__law_classes d__law_fields d__law_right d_law : FuncData}
theorem init_Used (T : Facts w.params K mg c_StillError c_Missing c_Trouble ai_Used ai_NoFit ai_Taken ai_NoName ai_Over ai_NotNow ai_Tired ai_TooLate ai_NoText ai_NoDeed ai_NoRow ai_NoChange ai_NoWriter ai_NoTag ai_NoCommit ai_NoTable ai_NoFile ai_NoColumn ai_Clash ai_Lost ai_Crash a__law_deck a__law_draw a__law_any a__law_placed a__law_named a__law_classes a__law_fields a__law_right a_law di_Used di_NoFit di_Taken di_NoName di_Over di_NotNow di_Tired di_TooLate di_NoText di_NoDeed di_NoRow di_NoChange di_NoWriter di_NoTag di_NoCommit di_NoTable di_NoFile di_NoColumn di_Clash di_Lost di_Crash d__law_deck d__law_draw d__law_any d__law_placed d__law_named d__law_classes d__law_fields d__law_right d_law ) : FnOk P w K mg base CX0 1 ai_Used di_Used ["self", "name"] (DN.spI cC_Used "name") := DN.fn_init (k := 0) T.Fi_Used sci_Used (.inl (by decide +kernel)) (.inl (by decide +kernel)) (by decide +kernel) rfl (fun env => ⟨_, rfl⟩) nd_12 nc_12 nd_11 PySem.DNX.xb_VE (DN.oxB_ok T.o_Used) T.g_StillError ⟨T.r_StillError, T.ga_StillError, T.fc_StillError, by decide +kernel⟩ T.nf_Used_name
theorem kpI_Used (T : Facts w.params K mg c_StillError c_Missing c_Trouble ai_Used ai_NoFit ai_Taken ai_NoName ai_Over ai_NotNow ai_Tired ai_TooLate ai_NoText ai_NoDeed ai_NoRow ai_NoChange ai_NoWriter ai_NoTag ai_NoCommit ai_NoTable ai_NoFile ai_NoColumn ai_Clash ai_Lost ai_Crash a__law_deck a__law_draw a__law_any a__law_placed a__law_named a__law_classes a__law_fields a__law_right a_law di_Used di_NoFit di_Taken di_NoName di_Over di_NotNow di_Tired di_TooLate di_NoText di_NoDeed di_NoRow di_NoChange di_NoWriter di_NoTag di_NoCommit di_NoTable di_NoFile di_NoColumn di_Clash di_Lost di_Crash d__law_deck d__law_draw d__law_any d__law_placed d__law_named d__law_classes d__law_fields d__law_right d_law ) : KBinds K di_Used ["self", "name"] [] (fun us _ => us) (fun vs _ => vs) := Fun.kpos T.Fi_Used fun _ _ _ _ _ _ us hl => match us, hl with | [_, _], _ => rfl
theorem init_NoFit (T : Facts w.params K mg c_StillError c_Missing c_Trouble ai_Used ai_NoFit ai_Taken ai_NoName ai_Over ai_NotNow ai_Tired ai_TooLate ai_NoText ai_NoDeed ai_NoRow ai_NoChange ai_NoWriter ai_NoTag ai_NoCommit ai_NoTable ai_NoFile ai_NoColumn ai_Clash ai_Lost ai_Crash a__law_deck a__law_draw a__law_any a__law_placed a__law_named a__law_classes a__law_fields a__law_right a_law di_Used di_NoFit di_Taken di_NoName di_Over di_NotNow di_Tired di_TooLate di_NoText di_NoDeed di_NoRow di_NoChange di_NoWriter di_NoTag di_NoCommit di_NoTable di_NoFile di_NoColumn di_Clash di_Lost di_Crash d__law_deck d__law_draw d__law_any d__law_placed d__law_named d__law_classes d__law_fields d__law_right d_law ) : FnOk P w K mg base CX0 1 ai_NoFit di_NoFit ["self", "name"] (DN.spI cC_NoFit "name") := DN.fn_init (k := 0) T.Fi_NoFit sci_NoFit (.inl (by decide +kernel)) (.inl (by decide +kernel)) (by decide +kernel) rfl (fun env => ⟨_, rfl⟩) nd_12 nc_12 nd_11 PySem.DNX.xb_VE (DN.oxB_ok T.o_NoFit) T.g_StillError ⟨T.r_StillError, T.ga_StillError, T.fc_StillError, by decide +kernel⟩ T.nf_NoFit_name
theorem kpI_NoFit (T : Facts w.params K mg c_StillError c_Missing c_Trouble ai_Used ai_NoFit ai_Taken ai_NoName ai_Over ai_NotNow ai_Tired ai_TooLate ai_NoText ai_NoDeed ai_NoRow ai_NoChange ai_NoWriter ai_NoTag ai_NoCommit ai_NoTable ai_NoFile ai_NoColumn ai_Clash ai_Lost ai_Crash a__law_deck a__law_draw a__law_any a__law_placed a__law_named a__law_classes a__law_fields a__law_right a_law di_Used di_NoFit di_Taken di_NoName di_Over di_NotNow di_Tired di_TooLate di_NoText di_NoDeed di_NoRow di_NoChange di_NoWriter di_NoTag di_NoCommit di_NoTable di_NoFile di_NoColumn di_Clash di_Lost di_Crash d__law_deck d__law_draw d__law_any d__law_placed d__law_named d__law_classes d__law_fields d__law_right d_law ) : KBinds K di_NoFit ["self", "name"] [] (fun us _ => us) (fun vs _ => vs) := Fun.kpos T.Fi_NoFit fun _ _ _ _ _ _ us hl => match us, hl with | [_, _], _ => rfl
theorem init_Taken (T : Facts w.params K mg c_StillError c_Missing c_Trouble ai_Used ai_NoFit ai_Taken ai_NoName ai_Over ai_NotNow ai_Tired ai_TooLate ai_NoText ai_NoDeed ai_NoRow ai_NoChange ai_NoWriter ai_NoTag ai_NoCommit ai_NoTable ai_NoFile ai_NoColumn ai_Clash ai_Lost ai_Crash a__law_deck a__law_draw a__law_any a__law_placed a__law_named a__law_classes a__law_fields a__law_right a_law di_Used di_NoFit di_Taken di_NoName di_Over di_NotNow di_Tired di_TooLate di_NoText di_NoDeed di_NoRow di_NoChange di_NoWriter di_NoTag di_NoCommit di_NoTable di_NoFile di_NoColumn di_Clash di_Lost di_Crash d__law_deck d__law_draw d__law_any d__law_placed d__law_named d__law_classes d__law_fields d__law_right d_law ) : FnOk P w K mg base CX0 1 ai_Taken di_Taken ["self", "name"] (DN.spI cC_Taken "name") := DN.fn_init (k := 0) T.Fi_Taken sci_Taken (.inl (by decide +kernel)) (.inl (by decide +kernel)) (by decide +kernel) rfl (fun env => ⟨_, rfl⟩) nd_12 nc_12 nd_11 PySem.DNX.xb_VE (DN.oxB_ok T.o_Taken) T.g_StillError ⟨T.r_StillError, T.ga_StillError, T.fc_StillError, by decide +kernel⟩ T.nf_Taken_name
theorem kpI_Taken (T : Facts w.params K mg c_StillError c_Missing c_Trouble ai_Used ai_NoFit ai_Taken ai_NoName ai_Over ai_NotNow ai_Tired ai_TooLate ai_NoText ai_NoDeed ai_NoRow ai_NoChange ai_NoWriter ai_NoTag ai_NoCommit ai_NoTable ai_NoFile ai_NoColumn ai_Clash ai_Lost ai_Crash a__law_deck a__law_draw a__law_any a__law_placed a__law_named a__law_classes a__law_fields a__law_right a_law di_Used di_NoFit di_Taken di_NoName di_Over di_NotNow di_Tired di_TooLate di_NoText di_NoDeed di_NoRow di_NoChange di_NoWriter di_NoTag di_NoCommit di_NoTable di_NoFile di_NoColumn di_Clash di_Lost di_Crash d__law_deck d__law_draw d__law_any d__law_placed d__law_named d__law_classes d__law_fields d__law_right d_law ) : KBinds K di_Taken ["self", "name"] [] (fun us _ => us) (fun vs _ => vs) := Fun.kpos T.Fi_Taken fun _ _ _ _ _ _ us hl => match us, hl with | [_, _], _ => rfl
theorem init_NoName (T : Facts w.params K mg c_StillError c_Missing c_Trouble ai_Used ai_NoFit ai_Taken ai_NoName ai_Over ai_NotNow ai_Tired ai_TooLate ai_NoText ai_NoDeed ai_NoRow ai_NoChange ai_NoWriter ai_NoTag ai_NoCommit ai_NoTable ai_NoFile ai_NoColumn ai_Clash ai_Lost ai_Crash a__law_deck a__law_draw a__law_any a__law_placed a__law_named a__law_classes a__law_fields a__law_right a_law di_Used di_NoFit di_Taken di_NoName di_Over di_NotNow di_Tired di_TooLate di_NoText di_NoDeed di_NoRow di_NoChange di_NoWriter di_NoTag di_NoCommit di_NoTable di_NoFile di_NoColumn di_Clash di_Lost di_Crash d__law_deck d__law_draw d__law_any d__law_placed d__law_named d__law_classes d__law_fields d__law_right d_law ) : FnOk P w K mg base CX0 1 ai_NoName di_NoName ["self", "name"] (DN.spI cC_NoName "name") := DN.fn_init (k := 0) T.Fi_NoName sci_NoName (.inl (by decide +kernel)) (.inl (by decide +kernel)) (by decide +kernel) rfl (fun env => ⟨_, rfl⟩) nd_12 nc_12 nd_11 PySem.DNX.xb_VE (DN.oxB_ok T.o_NoName) T.g_StillError ⟨T.r_StillError, T.ga_StillError, T.fc_StillError, by decide +kernel⟩ T.nf_NoName_name
theorem kpI_NoName (T : Facts w.params K mg c_StillError c_Missing c_Trouble ai_Used ai_NoFit ai_Taken ai_NoName ai_Over ai_NotNow ai_Tired ai_TooLate ai_NoText ai_NoDeed ai_NoRow ai_NoChange ai_NoWriter ai_NoTag ai_NoCommit ai_NoTable ai_NoFile ai_NoColumn ai_Clash ai_Lost ai_Crash a__law_deck a__law_draw a__law_any a__law_placed a__law_named a__law_classes a__law_fields a__law_right a_law di_Used di_NoFit di_Taken di_NoName di_Over di_NotNow di_Tired di_TooLate di_NoText di_NoDeed di_NoRow di_NoChange di_NoWriter di_NoTag di_NoCommit di_NoTable di_NoFile di_NoColumn di_Clash di_Lost di_Crash d__law_deck d__law_draw d__law_any d__law_placed d__law_named d__law_classes d__law_fields d__law_right d_law ) : KBinds K di_NoName ["self", "name"] [] (fun us _ => us) (fun vs _ => vs) := Fun.kpos T.Fi_NoName fun _ _ _ _ _ _ us hl => match us, hl with | [_, _], _ => rfl
theorem init_Over (T : Facts w.params K mg c_StillError c_Missing c_Trouble ai_Used ai_NoFit ai_Taken ai_NoName ai_Over ai_NotNow ai_Tired ai_TooLate ai_NoText ai_NoDeed ai_NoRow ai_NoChange ai_NoWriter ai_NoTag ai_NoCommit ai_NoTable ai_NoFile ai_NoColumn ai_Clash ai_Lost ai_Crash a__law_deck a__law_draw a__law_any a__law_placed a__law_named a__law_classes a__law_fields a__law_right a_law di_Used di_NoFit di_Taken di_NoName di_Over di_NotNow di_Tired di_TooLate di_NoText di_NoDeed di_NoRow di_NoChange di_NoWriter di_NoTag di_NoCommit di_NoTable di_NoFile di_NoColumn di_Clash di_Lost di_Crash d__law_deck d__law_draw d__law_any d__law_placed d__law_named d__law_classes d__law_fields d__law_right d_law ) : FnOk P w K mg base CX0 1 ai_Over di_Over ["self", "until"] (DN.spI cC_Over "until") := DN.fn_init (k := 0) T.Fi_Over sci_Over (.inl (by decide +kernel)) (.inl (by decide +kernel)) (by decide +kernel) rfl (fun env => ⟨_, rfl⟩) nd_26 nc_26 nd_11 PySem.DNX.xb_VE (DN.oxB_ok T.o_Over) T.g_StillError ⟨T.r_StillError, T.ga_StillError, T.fc_StillError, by decide +kernel⟩ T.nf_Over_until
theorem kpI_Over (T : Facts w.params K mg c_StillError c_Missing c_Trouble ai_Used ai_NoFit ai_Taken ai_NoName ai_Over ai_NotNow ai_Tired ai_TooLate ai_NoText ai_NoDeed ai_NoRow ai_NoChange ai_NoWriter ai_NoTag ai_NoCommit ai_NoTable ai_NoFile ai_NoColumn ai_Clash ai_Lost ai_Crash a__law_deck a__law_draw a__law_any a__law_placed a__law_named a__law_classes a__law_fields a__law_right a_law di_Used di_NoFit di_Taken di_NoName di_Over di_NotNow di_Tired di_TooLate di_NoText di_NoDeed di_NoRow di_NoChange di_NoWriter di_NoTag di_NoCommit di_NoTable di_NoFile di_NoColumn di_Clash di_Lost di_Crash d__law_deck d__law_draw d__law_any d__law_placed d__law_named d__law_classes d__law_fields d__law_right d_law ) : KBinds K di_Over ["self", "until"] [] (fun us _ => us) (fun vs _ => vs) := Fun.kpos T.Fi_Over fun _ _ _ _ _ _ us hl => match us, hl with | [_, _], _ => rfl
theorem init_NotNow (T : Facts w.params K mg c_StillError c_Missing c_Trouble ai_Used ai_NoFit ai_Taken ai_NoName ai_Over ai_NotNow ai_Tired ai_TooLate ai_NoText ai_NoDeed ai_NoRow ai_NoChange ai_NoWriter ai_NoTag ai_NoCommit ai_NoTable ai_NoFile ai_NoColumn ai_Clash ai_Lost ai_Crash a__law_deck a__law_draw a__law_any a__law_placed a__law_named a__law_classes a__law_fields a__law_right a_law di_Used di_NoFit di_Taken di_NoName di_Over di_NotNow di_Tired di_TooLate di_NoText di_NoDeed di_NoRow di_NoChange di_NoWriter di_NoTag di_NoCommit di_NoTable di_NoFile di_NoColumn di_Clash di_Lost di_Crash d__law_deck d__law_draw d__law_any d__law_placed d__law_named d__law_classes d__law_fields d__law_right d_law ) : FnOk P w K mg base CX0 1 ai_NotNow di_NotNow ["self", "state"] (DN.spI cC_NotNow "state") := DN.fn_init (k := 0) T.Fi_NotNow sci_NotNow (.inl (by decide +kernel)) (.inl (by decide +kernel)) (by decide +kernel) rfl (fun env => ⟨_, rfl⟩) nd_28 nc_28 nd_11 PySem.DNX.xb_VE (DN.oxB_ok T.o_NotNow) T.g_StillError ⟨T.r_StillError, T.ga_StillError, T.fc_StillError, by decide +kernel⟩ T.nf_NotNow_state
theorem kpI_NotNow (T : Facts w.params K mg c_StillError c_Missing c_Trouble ai_Used ai_NoFit ai_Taken ai_NoName ai_Over ai_NotNow ai_Tired ai_TooLate ai_NoText ai_NoDeed ai_NoRow ai_NoChange ai_NoWriter ai_NoTag ai_NoCommit ai_NoTable ai_NoFile ai_NoColumn ai_Clash ai_Lost ai_Crash a__law_deck a__law_draw a__law_any a__law_placed a__law_named a__law_classes a__law_fields a__law_right a_law di_Used di_NoFit di_Taken di_NoName di_Over di_NotNow di_Tired di_TooLate di_NoText di_NoDeed di_NoRow di_NoChange di_NoWriter di_NoTag di_NoCommit di_NoTable di_NoFile di_NoColumn di_Clash di_Lost di_Crash d__law_deck d__law_draw d__law_any d__law_placed d__law_named d__law_classes d__law_fields d__law_right d_law ) : KBinds K di_NotNow ["self", "state"] [] (fun us _ => us) (fun vs _ => vs) := Fun.kpos T.Fi_NotNow fun _ _ _ _ _ _ us hl => match us, hl with | [_, _], _ => rfl
theorem init_Tired (T : Facts w.params K mg c_StillError c_Missing c_Trouble ai_Used ai_NoFit ai_Taken ai_NoName ai_Over ai_NotNow ai_Tired ai_TooLate ai_NoText ai_NoDeed ai_NoRow ai_NoChange ai_NoWriter ai_NoTag ai_NoCommit ai_NoTable ai_NoFile ai_NoColumn ai_Clash ai_Lost ai_Crash a__law_deck a__law_draw a__law_any a__law_placed a__law_named a__law_classes a__law_fields a__law_right a_law di_Used di_NoFit di_Taken di_NoName di_Over di_NotNow di_Tired di_TooLate di_NoText di_NoDeed di_NoRow di_NoChange di_NoWriter di_NoTag di_NoCommit di_NoTable di_NoFile di_NoColumn di_Clash di_Lost di_Crash d__law_deck d__law_draw d__law_any d__law_placed d__law_named d__law_classes d__law_fields d__law_right d_law ) : FnOk P w K mg base CX0 1 ai_Tired di_Tired ["self", "tries"] (DN.spI cC_Tired "tries") := DN.fn_init (k := 0) T.Fi_Tired sci_Tired (.inl (by decide +kernel)) (.inl (by decide +kernel)) (by decide +kernel) rfl (fun env => ⟨_, rfl⟩) nd_30 nc_30 nd_11 PySem.DNX.xb_VE (DN.oxB_ok T.o_Tired) T.g_StillError ⟨T.r_StillError, T.ga_StillError, T.fc_StillError, by decide +kernel⟩ T.nf_Tired_tries
theorem kpI_Tired (T : Facts w.params K mg c_StillError c_Missing c_Trouble ai_Used ai_NoFit ai_Taken ai_NoName ai_Over ai_NotNow ai_Tired ai_TooLate ai_NoText ai_NoDeed ai_NoRow ai_NoChange ai_NoWriter ai_NoTag ai_NoCommit ai_NoTable ai_NoFile ai_NoColumn ai_Clash ai_Lost ai_Crash a__law_deck a__law_draw a__law_any a__law_placed a__law_named a__law_classes a__law_fields a__law_right a_law di_Used di_NoFit di_Taken di_NoName di_Over di_NotNow di_Tired di_TooLate di_NoText di_NoDeed di_NoRow di_NoChange di_NoWriter di_NoTag di_NoCommit di_NoTable di_NoFile di_NoColumn di_Clash di_Lost di_Crash d__law_deck d__law_draw d__law_any d__law_placed d__law_named d__law_classes d__law_fields d__law_right d_law ) : KBinds K di_Tired ["self", "tries"] [] (fun us _ => us) (fun vs _ => vs) := Fun.kpos T.Fi_Tired fun _ _ _ _ _ _ us hl => match us, hl with | [_, _], _ => rfl
theorem init_TooLate (T : Facts w.params K mg c_StillError c_Missing c_Trouble ai_Used ai_NoFit ai_Taken ai_NoName ai_Over ai_NotNow ai_Tired ai_TooLate ai_NoText ai_NoDeed ai_NoRow ai_NoChange ai_NoWriter ai_NoTag ai_NoCommit ai_NoTable ai_NoFile ai_NoColumn ai_Clash ai_Lost ai_Crash a__law_deck a__law_draw a__law_any a__law_placed a__law_named a__law_classes a__law_fields a__law_right a_law di_Used di_NoFit di_Taken di_NoName di_Over di_NotNow di_Tired di_TooLate di_NoText di_NoDeed di_NoRow di_NoChange di_NoWriter di_NoTag di_NoCommit di_NoTable di_NoFile di_NoColumn di_Clash di_Lost di_Crash d__law_deck d__law_draw d__law_any d__law_placed d__law_named d__law_classes d__law_fields d__law_right d_law ) : FnOk P w K mg base CX0 1 ai_TooLate di_TooLate ["self", "base"] (DN.spI cC_TooLate "base") := DN.fn_init (k := 0) T.Fi_TooLate sci_TooLate (.inl (by decide +kernel)) (.inl (by decide +kernel)) (by decide +kernel) rfl (fun env => ⟨_, rfl⟩) nd_32 nc_32 nd_11 PySem.DNX.xb_VE (DN.oxB_ok T.o_TooLate) T.g_StillError ⟨T.r_StillError, T.ga_StillError, T.fc_StillError, by decide +kernel⟩ T.nf_TooLate_base
theorem kpI_TooLate (T : Facts w.params K mg c_StillError c_Missing c_Trouble ai_Used ai_NoFit ai_Taken ai_NoName ai_Over ai_NotNow ai_Tired ai_TooLate ai_NoText ai_NoDeed ai_NoRow ai_NoChange ai_NoWriter ai_NoTag ai_NoCommit ai_NoTable ai_NoFile ai_NoColumn ai_Clash ai_Lost ai_Crash a__law_deck a__law_draw a__law_any a__law_placed a__law_named a__law_classes a__law_fields a__law_right a_law di_Used di_NoFit di_Taken di_NoName di_Over di_NotNow di_Tired di_TooLate di_NoText di_NoDeed di_NoRow di_NoChange di_NoWriter di_NoTag di_NoCommit di_NoTable di_NoFile di_NoColumn di_Clash di_Lost di_Crash d__law_deck d__law_draw d__law_any d__law_placed d__law_named d__law_classes d__law_fields d__law_right d_law ) : KBinds K di_TooLate ["self", "base"] [] (fun us _ => us) (fun vs _ => vs) := Fun.kpos T.Fi_TooLate fun _ _ _ _ _ _ us hl => match us, hl with | [_, _], _ => rfl
theorem init_NoText (T : Facts w.params K mg c_StillError c_Missing c_Trouble ai_Used ai_NoFit ai_Taken ai_NoName ai_Over ai_NotNow ai_Tired ai_TooLate ai_NoText ai_NoDeed ai_NoRow ai_NoChange ai_NoWriter ai_NoTag ai_NoCommit ai_NoTable ai_NoFile ai_NoColumn ai_Clash ai_Lost ai_Crash a__law_deck a__law_draw a__law_any a__law_placed a__law_named a__law_classes a__law_fields a__law_right a_law di_Used di_NoFit di_Taken di_NoName di_Over di_NotNow di_Tired di_TooLate di_NoText di_NoDeed di_NoRow di_NoChange di_NoWriter di_NoTag di_NoCommit di_NoTable di_NoFile di_NoColumn di_Clash di_Lost di_Crash d__law_deck d__law_draw d__law_any d__law_placed d__law_named d__law_classes d__law_fields d__law_right d_law ) : FnOk P w K mg base CX0 1 ai_NoText di_NoText ["self", "row"] (DN.spI cC_NoText "row") := DN.fn_init (k := 0) T.Fi_NoText sci_NoText (.inl (by decide +kernel)) (.inl (by decide +kernel)) (by decide +kernel) rfl (fun env => ⟨_, rfl⟩) nd_34 nc_34 nd_11 PySem.DNX.xb_VE (DN.oxB_ok T.o_NoText) T.g_StillError ⟨T.r_StillError, T.ga_StillError, T.fc_StillError, by decide +kernel⟩ T.nf_NoText_row
theorem kpI_NoText (T : Facts w.params K mg c_StillError c_Missing c_Trouble ai_Used ai_NoFit ai_Taken ai_NoName ai_Over ai_NotNow ai_Tired ai_TooLate ai_NoText ai_NoDeed ai_NoRow ai_NoChange ai_NoWriter ai_NoTag ai_NoCommit ai_NoTable ai_NoFile ai_NoColumn ai_Clash ai_Lost ai_Crash a__law_deck a__law_draw a__law_any a__law_placed a__law_named a__law_classes a__law_fields a__law_right a_law di_Used di_NoFit di_Taken di_NoName di_Over di_NotNow di_Tired di_TooLate di_NoText di_NoDeed di_NoRow di_NoChange di_NoWriter di_NoTag di_NoCommit di_NoTable di_NoFile di_NoColumn di_Clash di_Lost di_Crash d__law_deck d__law_draw d__law_any d__law_placed d__law_named d__law_classes d__law_fields d__law_right d_law ) : KBinds K di_NoText ["self", "row"] [] (fun us _ => us) (fun vs _ => vs) := Fun.kpos T.Fi_NoText fun _ _ _ _ _ _ us hl => match us, hl with | [_, _], _ => rfl
theorem init_NoDeed (T : Facts w.params K mg c_StillError c_Missing c_Trouble ai_Used ai_NoFit ai_Taken ai_NoName ai_Over ai_NotNow ai_Tired ai_TooLate ai_NoText ai_NoDeed ai_NoRow ai_NoChange ai_NoWriter ai_NoTag ai_NoCommit ai_NoTable ai_NoFile ai_NoColumn ai_Clash ai_Lost ai_Crash a__law_deck a__law_draw a__law_any a__law_placed a__law_named a__law_classes a__law_fields a__law_right a_law di_Used di_NoFit di_Taken di_NoName di_Over di_NotNow di_Tired di_TooLate di_NoText di_NoDeed di_NoRow di_NoChange di_NoWriter di_NoTag di_NoCommit di_NoTable di_NoFile di_NoColumn di_Clash di_Lost di_Crash d__law_deck d__law_draw d__law_any d__law_placed d__law_named d__law_classes d__law_fields d__law_right d_law ) : FnOk P w K mg base CX0 1 ai_NoDeed di_NoDeed ["self", "deed"] (DN.spI cC_NoDeed "deed") := DN.fn_init (k := 0) T.Fi_NoDeed sci_NoDeed (.inl (by decide +kernel)) (.inl (by decide +kernel)) (by decide +kernel) rfl (fun env => ⟨_, rfl⟩) nd_36 nc_36 nd_11 PySem.DNX.xb_VE (DN.oxB_ok T.o_NoDeed) T.g_StillError ⟨T.r_StillError, T.ga_StillError, T.fc_StillError, by decide +kernel⟩ T.nf_NoDeed_deed
theorem kpI_NoDeed (T : Facts w.params K mg c_StillError c_Missing c_Trouble ai_Used ai_NoFit ai_Taken ai_NoName ai_Over ai_NotNow ai_Tired ai_TooLate ai_NoText ai_NoDeed ai_NoRow ai_NoChange ai_NoWriter ai_NoTag ai_NoCommit ai_NoTable ai_NoFile ai_NoColumn ai_Clash ai_Lost ai_Crash a__law_deck a__law_draw a__law_any a__law_placed a__law_named a__law_classes a__law_fields a__law_right a_law di_Used di_NoFit di_Taken di_NoName di_Over di_NotNow di_Tired di_TooLate di_NoText di_NoDeed di_NoRow di_NoChange di_NoWriter di_NoTag di_NoCommit di_NoTable di_NoFile di_NoColumn di_Clash di_Lost di_Crash d__law_deck d__law_draw d__law_any d__law_placed d__law_named d__law_classes d__law_fields d__law_right d_law ) : KBinds K di_NoDeed ["self", "deed"] [] (fun us _ => us) (fun vs _ => vs) := Fun.kpos T.Fi_NoDeed fun _ _ _ _ _ _ us hl => match us, hl with | [_, _], _ => rfl
theorem init_NoRow (T : Facts w.params K mg c_StillError c_Missing c_Trouble ai_Used ai_NoFit ai_Taken ai_NoName ai_Over ai_NotNow ai_Tired ai_TooLate ai_NoText ai_NoDeed ai_NoRow ai_NoChange ai_NoWriter ai_NoTag ai_NoCommit ai_NoTable ai_NoFile ai_NoColumn ai_Clash ai_Lost ai_Crash a__law_deck a__law_draw a__law_any a__law_placed a__law_named a__law_classes a__law_fields a__law_right a_law di_Used di_NoFit di_Taken di_NoName di_Over di_NotNow di_Tired di_TooLate di_NoText di_NoDeed di_NoRow di_NoChange di_NoWriter di_NoTag di_NoCommit di_NoTable di_NoFile di_NoColumn di_Clash di_Lost di_Crash d__law_deck d__law_draw d__law_any d__law_placed d__law_named d__law_classes d__law_fields d__law_right d_law ) : FnOk P w K mg base CX0 1 ai_NoRow di_NoRow ["self", "place"] (DN.spI cC_NoRow "place") := DN.fn_init (k := 0) T.Fi_NoRow sci_NoRow (.inl (by decide +kernel)) (.inl (by decide +kernel)) (by decide +kernel) rfl (fun env => ⟨_, rfl⟩) nd_38 nc_38 nd_11 PySem.DNX.xb_VE (DN.oxB_ok T.o_NoRow) T.g_StillError ⟨T.r_StillError, T.ga_StillError, T.fc_StillError, by decide +kernel⟩ T.nf_NoRow_place
theorem kpI_NoRow (T : Facts w.params K mg c_StillError c_Missing c_Trouble ai_Used ai_NoFit ai_Taken ai_NoName ai_Over ai_NotNow ai_Tired ai_TooLate ai_NoText ai_NoDeed ai_NoRow ai_NoChange ai_NoWriter ai_NoTag ai_NoCommit ai_NoTable ai_NoFile ai_NoColumn ai_Clash ai_Lost ai_Crash a__law_deck a__law_draw a__law_any a__law_placed a__law_named a__law_classes a__law_fields a__law_right a_law di_Used di_NoFit di_Taken di_NoName di_Over di_NotNow di_Tired di_TooLate di_NoText di_NoDeed di_NoRow di_NoChange di_NoWriter di_NoTag di_NoCommit di_NoTable di_NoFile di_NoColumn di_Clash di_Lost di_Crash d__law_deck d__law_draw d__law_any d__law_placed d__law_named d__law_classes d__law_fields d__law_right d_law ) : KBinds K di_NoRow ["self", "place"] [] (fun us _ => us) (fun vs _ => vs) := Fun.kpos T.Fi_NoRow fun _ _ _ _ _ _ us hl => match us, hl with | [_, _], _ => rfl
theorem init_NoChange (T : Facts w.params K mg c_StillError c_Missing c_Trouble ai_Used ai_NoFit ai_Taken ai_NoName ai_Over ai_NotNow ai_Tired ai_TooLate ai_NoText ai_NoDeed ai_NoRow ai_NoChange ai_NoWriter ai_NoTag ai_NoCommit ai_NoTable ai_NoFile ai_NoColumn ai_Clash ai_Lost ai_Crash a__law_deck a__law_draw a__law_any a__law_placed a__law_named a__law_classes a__law_fields a__law_right a_law di_Used di_NoFit di_Taken di_NoName di_Over di_NotNow di_Tired di_TooLate di_NoText di_NoDeed di_NoRow di_NoChange di_NoWriter di_NoTag di_NoCommit di_NoTable di_NoFile di_NoColumn di_Clash di_Lost di_Crash d__law_deck d__law_draw d__law_any d__law_placed d__law_named d__law_classes d__law_fields d__law_right d_law ) : FnOk P w K mg base CX0 1 ai_NoChange di_NoChange ["self", "place"] (DN.spI cC_NoChange "place") := DN.fn_init (k := 0) T.Fi_NoChange sci_NoChange (.inl (by decide +kernel)) (.inl (by decide +kernel)) (by decide +kernel) rfl (fun env => ⟨_, rfl⟩) nd_38 nc_38 nd_11 PySem.DNX.xb_VE (DN.oxB_ok T.o_NoChange) T.g_StillError ⟨T.r_StillError, T.ga_StillError, T.fc_StillError, by decide +kernel⟩ T.nf_NoChange_place
theorem kpI_NoChange (T : Facts w.params K mg c_StillError c_Missing c_Trouble ai_Used ai_NoFit ai_Taken ai_NoName ai_Over ai_NotNow ai_Tired ai_TooLate ai_NoText ai_NoDeed ai_NoRow ai_NoChange ai_NoWriter ai_NoTag ai_NoCommit ai_NoTable ai_NoFile ai_NoColumn ai_Clash ai_Lost ai_Crash a__law_deck a__law_draw a__law_any a__law_placed a__law_named a__law_classes a__law_fields a__law_right a_law di_Used di_NoFit di_Taken di_NoName di_Over di_NotNow di_Tired di_TooLate di_NoText di_NoDeed di_NoRow di_NoChange di_NoWriter di_NoTag di_NoCommit di_NoTable di_NoFile di_NoColumn di_Clash di_Lost di_Crash d__law_deck d__law_draw d__law_any d__law_placed d__law_named d__law_classes d__law_fields d__law_right d_law ) : KBinds K di_NoChange ["self", "place"] [] (fun us _ => us) (fun vs _ => vs) := Fun.kpos T.Fi_NoChange fun _ _ _ _ _ _ us hl => match us, hl with | [_, _], _ => rfl
theorem init_NoWriter (T : Facts w.params K mg c_StillError c_Missing c_Trouble ai_Used ai_NoFit ai_Taken ai_NoName ai_Over ai_NotNow ai_Tired ai_TooLate ai_NoText ai_NoDeed ai_NoRow ai_NoChange ai_NoWriter ai_NoTag ai_NoCommit ai_NoTable ai_NoFile ai_NoColumn ai_Clash ai_Lost ai_Crash a__law_deck a__law_draw a__law_any a__law_placed a__law_named a__law_classes a__law_fields a__law_right a_law di_Used di_NoFit di_Taken di_NoName di_Over di_NotNow di_Tired di_TooLate di_NoText di_NoDeed di_NoRow di_NoChange di_NoWriter di_NoTag di_NoCommit di_NoTable di_NoFile di_NoColumn di_Clash di_Lost di_Crash d__law_deck d__law_draw d__law_any d__law_placed d__law_named d__law_classes d__law_fields d__law_right d_law ) : FnOk P w K mg base CX0 1 ai_NoWriter di_NoWriter ["self", "name"] (DN.spI cC_NoWriter "name") := DN.fn_init (k := 0) T.Fi_NoWriter sci_NoWriter (.inl (by decide +kernel)) (.inl (by decide +kernel)) (by decide +kernel) rfl (fun env => ⟨_, rfl⟩) nd_12 nc_12 nd_41 PySem.DNX.xb_KE (DN.oxB_ok T.o_NoWriter) T.g_Missing ⟨T.r_Missing, T.ga_Missing, T.fc_Missing, by decide +kernel⟩ T.nf_NoWriter_name
theorem kpI_NoWriter (T : Facts w.params K mg c_StillError c_Missing c_Trouble ai_Used ai_NoFit ai_Taken ai_NoName ai_Over ai_NotNow ai_Tired ai_TooLate ai_NoText ai_NoDeed ai_NoRow ai_NoChange ai_NoWriter ai_NoTag ai_NoCommit ai_NoTable ai_NoFile ai_NoColumn ai_Clash ai_Lost ai_Crash a__law_deck a__law_draw a__law_any a__law_placed a__law_named a__law_classes a__law_fields a__law_right a_law di_Used di_NoFit di_Taken di_NoName di_Over di_NotNow di_Tired di_TooLate di_NoText di_NoDeed di_NoRow di_NoChange di_NoWriter di_NoTag di_NoCommit di_NoTable di_NoFile di_NoColumn di_Clash di_Lost di_Crash d__law_deck d__law_draw d__law_any d__law_placed d__law_named d__law_classes d__law_fields d__law_right d_law ) : KBinds K di_NoWriter ["self", "name"] [] (fun us _ => us) (fun vs _ => vs) := Fun.kpos T.Fi_NoWriter fun _ _ _ _ _ _ us hl => match us, hl with | [_, _], _ => rfl
theorem init_NoTag (T : Facts w.params K mg c_StillError c_Missing c_Trouble ai_Used ai_NoFit ai_Taken ai_NoName ai_Over ai_NotNow ai_Tired ai_TooLate ai_NoText ai_NoDeed ai_NoRow ai_NoChange ai_NoWriter ai_NoTag ai_NoCommit ai_NoTable ai_NoFile ai_NoColumn ai_Clash ai_Lost ai_Crash a__law_deck a__law_draw a__law_any a__law_placed a__law_named a__law_classes a__law_fields a__law_right a_law di_Used di_NoFit di_Taken di_NoName di_Over di_NotNow di_Tired di_TooLate di_NoText di_NoDeed di_NoRow di_NoChange di_NoWriter di_NoTag di_NoCommit di_NoTable di_NoFile di_NoColumn di_Clash di_Lost di_Crash d__law_deck d__law_draw d__law_any d__law_placed d__law_named d__law_classes d__law_fields d__law_right d_law ) : FnOk P w K mg base CX0 1 ai_NoTag di_NoTag ["self", "name"] (DN.spI cC_NoTag "name") := DN.fn_init (k := 0) T.Fi_NoTag sci_NoTag (.inl (by decide +kernel)) (.inl (by decide +kernel)) (by decide +kernel) rfl (fun env => ⟨_, rfl⟩) nd_12 nc_12 nd_41 PySem.DNX.xb_KE (DN.oxB_ok T.o_NoTag) T.g_Missing ⟨T.r_Missing, T.ga_Missing, T.fc_Missing, by decide +kernel⟩ T.nf_NoTag_name
theorem kpI_NoTag (T : Facts w.params K mg c_StillError c_Missing c_Trouble ai_Used ai_NoFit ai_Taken ai_NoName ai_Over ai_NotNow ai_Tired ai_TooLate ai_NoText ai_NoDeed ai_NoRow ai_NoChange ai_NoWriter ai_NoTag ai_NoCommit ai_NoTable ai_NoFile ai_NoColumn ai_Clash ai_Lost ai_Crash a__law_deck a__law_draw a__law_any a__law_placed a__law_named a__law_classes a__law_fields a__law_right a_law di_Used di_NoFit di_Taken di_NoName di_Over di_NotNow di_Tired di_TooLate di_NoText di_NoDeed di_NoRow di_NoChange di_NoWriter di_NoTag di_NoCommit di_NoTable di_NoFile di_NoColumn di_Clash di_Lost di_Crash d__law_deck d__law_draw d__law_any d__law_placed d__law_named d__law_classes d__law_fields d__law_right d_law ) : KBinds K di_NoTag ["self", "name"] [] (fun us _ => us) (fun vs _ => vs) := Fun.kpos T.Fi_NoTag fun _ _ _ _ _ _ us hl => match us, hl with | [_, _], _ => rfl
theorem init_NoCommit (T : Facts w.params K mg c_StillError c_Missing c_Trouble ai_Used ai_NoFit ai_Taken ai_NoName ai_Over ai_NotNow ai_Tired ai_TooLate ai_NoText ai_NoDeed ai_NoRow ai_NoChange ai_NoWriter ai_NoTag ai_NoCommit ai_NoTable ai_NoFile ai_NoColumn ai_Clash ai_Lost ai_Crash a__law_deck a__law_draw a__law_any a__law_placed a__law_named a__law_classes a__law_fields a__law_right a_law di_Used di_NoFit di_Taken di_NoName di_Over di_NotNow di_Tired di_TooLate di_NoText di_NoDeed di_NoRow di_NoChange di_NoWriter di_NoTag di_NoCommit di_NoTable di_NoFile di_NoColumn di_Clash di_Lost di_Crash d__law_deck d__law_draw d__law_any d__law_placed d__law_named d__law_classes d__law_fields d__law_right d_law ) : FnOk P w K mg base CX0 1 ai_NoCommit di_NoCommit ["self", "number"] (DN.spI cC_NoCommit "number") := DN.fn_init (k := 0) T.Fi_NoCommit sci_NoCommit (.inl (by decide +kernel)) (.inl (by decide +kernel)) (by decide +kernel) rfl (fun env => ⟨_, rfl⟩) nd_44 nc_44 nd_41 PySem.DNX.xb_KE (DN.oxB_ok T.o_NoCommit) T.g_Missing ⟨T.r_Missing, T.ga_Missing, T.fc_Missing, by decide +kernel⟩ T.nf_NoCommit_number
theorem kpI_NoCommit (T : Facts w.params K mg c_StillError c_Missing c_Trouble ai_Used ai_NoFit ai_Taken ai_NoName ai_Over ai_NotNow ai_Tired ai_TooLate ai_NoText ai_NoDeed ai_NoRow ai_NoChange ai_NoWriter ai_NoTag ai_NoCommit ai_NoTable ai_NoFile ai_NoColumn ai_Clash ai_Lost ai_Crash a__law_deck a__law_draw a__law_any a__law_placed a__law_named a__law_classes a__law_fields a__law_right a_law di_Used di_NoFit di_Taken di_NoName di_Over di_NotNow di_Tired di_TooLate di_NoText di_NoDeed di_NoRow di_NoChange di_NoWriter di_NoTag di_NoCommit di_NoTable di_NoFile di_NoColumn di_Clash di_Lost di_Crash d__law_deck d__law_draw d__law_any d__law_placed d__law_named d__law_classes d__law_fields d__law_right d_law ) : KBinds K di_NoCommit ["self", "number"] [] (fun us _ => us) (fun vs _ => vs) := Fun.kpos T.Fi_NoCommit fun _ _ _ _ _ _ us hl => match us, hl with | [_, _], _ => rfl
theorem init_NoTable (T : Facts w.params K mg c_StillError c_Missing c_Trouble ai_Used ai_NoFit ai_Taken ai_NoName ai_Over ai_NotNow ai_Tired ai_TooLate ai_NoText ai_NoDeed ai_NoRow ai_NoChange ai_NoWriter ai_NoTag ai_NoCommit ai_NoTable ai_NoFile ai_NoColumn ai_Clash ai_Lost ai_Crash a__law_deck a__law_draw a__law_any a__law_placed a__law_named a__law_classes a__law_fields a__law_right a_law di_Used di_NoFit di_Taken di_NoName di_Over di_NotNow di_Tired di_TooLate di_NoText di_NoDeed di_NoRow di_NoChange di_NoWriter di_NoTag di_NoCommit di_NoTable di_NoFile di_NoColumn di_Clash di_Lost di_Crash d__law_deck d__law_draw d__law_any d__law_placed d__law_named d__law_classes d__law_fields d__law_right d_law ) : FnOk P w K mg base CX0 1 ai_NoTable di_NoTable ["self", "name"] (DN.spI cC_NoTable "name") := DN.fn_init (k := 0) T.Fi_NoTable sci_NoTable (.inl (by decide +kernel)) (.inl (by decide +kernel)) (by decide +kernel) rfl (fun env => ⟨_, rfl⟩) nd_12 nc_12 nd_41 PySem.DNX.xb_KE (DN.oxB_ok T.o_NoTable) T.g_Missing ⟨T.r_Missing, T.ga_Missing, T.fc_Missing, by decide +kernel⟩ T.nf_NoTable_name
theorem kpI_NoTable (T : Facts w.params K mg c_StillError c_Missing c_Trouble ai_Used ai_NoFit ai_Taken ai_NoName ai_Over ai_NotNow ai_Tired ai_TooLate ai_NoText ai_NoDeed ai_NoRow ai_NoChange ai_NoWriter ai_NoTag ai_NoCommit ai_NoTable ai_NoFile ai_NoColumn ai_Clash ai_Lost ai_Crash a__law_deck a__law_draw a__law_any a__law_placed a__law_named a__law_classes a__law_fields a__law_right a_law di_Used di_NoFit di_Taken di_NoName di_Over di_NotNow di_Tired di_TooLate di_NoText di_NoDeed di_NoRow di_NoChange di_NoWriter di_NoTag di_NoCommit di_NoTable di_NoFile di_NoColumn di_Clash di_Lost di_Crash d__law_deck d__law_draw d__law_any d__law_placed d__law_named d__law_classes d__law_fields d__law_right d_law ) : KBinds K di_NoTable ["self", "name"] [] (fun us _ => us) (fun vs _ => vs) := Fun.kpos T.Fi_NoTable fun _ _ _ _ _ _ us hl => match us, hl with | [_, _], _ => rfl
theorem init_NoFile (T : Facts w.params K mg c_StillError c_Missing c_Trouble ai_Used ai_NoFit ai_Taken ai_NoName ai_Over ai_NotNow ai_Tired ai_TooLate ai_NoText ai_NoDeed ai_NoRow ai_NoChange ai_NoWriter ai_NoTag ai_NoCommit ai_NoTable ai_NoFile ai_NoColumn ai_Clash ai_Lost ai_Crash a__law_deck a__law_draw a__law_any a__law_placed a__law_named a__law_classes a__law_fields a__law_right a_law di_Used di_NoFit di_Taken di_NoName di_Over di_NotNow di_Tired di_TooLate di_NoText di_NoDeed di_NoRow di_NoChange di_NoWriter di_NoTag di_NoCommit di_NoTable di_NoFile di_NoColumn di_Clash di_Lost di_Crash d__law_deck d__law_draw d__law_any d__law_placed d__law_named d__law_classes d__law_fields d__law_right d_law ) : FnOk P w K mg base CX0 1 ai_NoFile di_NoFile ["self", "file"] (DN.spI cC_NoFile "file") := DN.fn_init (k := 0) T.Fi_NoFile sci_NoFile (.inl (by decide +kernel)) (.inl (by decide +kernel)) (by decide +kernel) rfl (fun env => ⟨_, rfl⟩) nd_47 nc_47 nd_41 PySem.DNX.xb_KE (DN.oxB_ok T.o_NoFile) T.g_Missing ⟨T.r_Missing, T.ga_Missing, T.fc_Missing, by decide +kernel⟩ T.nf_NoFile_file
theorem kpI_NoFile (T : Facts w.params K mg c_StillError c_Missing c_Trouble ai_Used ai_NoFit ai_Taken ai_NoName ai_Over ai_NotNow ai_Tired ai_TooLate ai_NoText ai_NoDeed ai_NoRow ai_NoChange ai_NoWriter ai_NoTag ai_NoCommit ai_NoTable ai_NoFile ai_NoColumn ai_Clash ai_Lost ai_Crash a__law_deck a__law_draw a__law_any a__law_placed a__law_named a__law_classes a__law_fields a__law_right a_law di_Used di_NoFit di_Taken di_NoName di_Over di_NotNow di_Tired di_TooLate di_NoText di_NoDeed di_NoRow di_NoChange di_NoWriter di_NoTag di_NoCommit di_NoTable di_NoFile di_NoColumn di_Clash di_Lost di_Crash d__law_deck d__law_draw d__law_any d__law_placed d__law_named d__law_classes d__law_fields d__law_right d_law ) : KBinds K di_NoFile ["self", "file"] [] (fun us _ => us) (fun vs _ => vs) := Fun.kpos T.Fi_NoFile fun _ _ _ _ _ _ us hl => match us, hl with | [_, _], _ => rfl
theorem init_NoColumn (T : Facts w.params K mg c_StillError c_Missing c_Trouble ai_Used ai_NoFit ai_Taken ai_NoName ai_Over ai_NotNow ai_Tired ai_TooLate ai_NoText ai_NoDeed ai_NoRow ai_NoChange ai_NoWriter ai_NoTag ai_NoCommit ai_NoTable ai_NoFile ai_NoColumn ai_Clash ai_Lost ai_Crash a__law_deck a__law_draw a__law_any a__law_placed a__law_named a__law_classes a__law_fields a__law_right a_law di_Used di_NoFit di_Taken di_NoName di_Over di_NotNow di_Tired di_TooLate di_NoText di_NoDeed di_NoRow di_NoChange di_NoWriter di_NoTag di_NoCommit di_NoTable di_NoFile di_NoColumn di_Clash di_Lost di_Crash d__law_deck d__law_draw d__law_any d__law_placed d__law_named d__law_classes d__law_fields d__law_right d_law ) : FnOk P w K mg base CX0 1 ai_NoColumn di_NoColumn ["self", "name"] (DN.spI cC_NoColumn "name") := DN.fn_init (k := 0) T.Fi_NoColumn sci_NoColumn (.inl (by decide +kernel)) (.inl (by decide +kernel)) (by decide +kernel) rfl (fun env => ⟨_, rfl⟩) nd_12 nc_12 nd_41 PySem.DNX.xb_KE (DN.oxB_ok T.o_NoColumn) T.g_Missing ⟨T.r_Missing, T.ga_Missing, T.fc_Missing, by decide +kernel⟩ T.nf_NoColumn_name
theorem kpI_NoColumn (T : Facts w.params K mg c_StillError c_Missing c_Trouble ai_Used ai_NoFit ai_Taken ai_NoName ai_Over ai_NotNow ai_Tired ai_TooLate ai_NoText ai_NoDeed ai_NoRow ai_NoChange ai_NoWriter ai_NoTag ai_NoCommit ai_NoTable ai_NoFile ai_NoColumn ai_Clash ai_Lost ai_Crash a__law_deck a__law_draw a__law_any a__law_placed a__law_named a__law_classes a__law_fields a__law_right a_law di_Used di_NoFit di_Taken di_NoName di_Over di_NotNow di_Tired di_TooLate di_NoText di_NoDeed di_NoRow di_NoChange di_NoWriter di_NoTag di_NoCommit di_NoTable di_NoFile di_NoColumn di_Clash di_Lost di_Crash d__law_deck d__law_draw d__law_any d__law_placed d__law_named d__law_classes d__law_fields d__law_right d_law ) : KBinds K di_NoColumn ["self", "name"] [] (fun us _ => us) (fun vs _ => vs) := Fun.kpos T.Fi_NoColumn fun _ _ _ _ _ _ us hl => match us, hl with | [_, _], _ => rfl
theorem init_Clash (T : Facts w.params K mg c_StillError c_Missing c_Trouble ai_Used ai_NoFit ai_Taken ai_NoName ai_Over ai_NotNow ai_Tired ai_TooLate ai_NoText ai_NoDeed ai_NoRow ai_NoChange ai_NoWriter ai_NoTag ai_NoCommit ai_NoTable ai_NoFile ai_NoColumn ai_Clash ai_Lost ai_Crash a__law_deck a__law_draw a__law_any a__law_placed a__law_named a__law_classes a__law_fields a__law_right a_law di_Used di_NoFit di_Taken di_NoName di_Over di_NotNow di_Tired di_TooLate di_NoText di_NoDeed di_NoRow di_NoChange di_NoWriter di_NoTag di_NoCommit di_NoTable di_NoFile di_NoColumn di_Clash di_Lost di_Crash d__law_deck d__law_draw d__law_any d__law_placed d__law_named d__law_classes d__law_fields d__law_right d_law ) : FnOk P w K mg base CX0 1 ai_Clash di_Clash ["self", "number", "word", "file"] (DN.spV cC_Clash ["number", "word", "file"]) := DN.fn_init3 (k := 0) T.Fi_Clash sci_Clash (.inl (by decide +kernel)) (.inl (by decide +kernel)) (.inl (by decide +kernel)) (.inl (by decide +kernel)) (by decide +kernel) rfl (fun env => ⟨_, rfl⟩) nd_44 nc_44 nd_50 nc_50 nd_47 nc_47 nd_11 (DN.oxB_ok T.o_Clash) T.g_StillError ⟨T.r_StillError, T.ga_StillError, T.fc_StillError, by decide +kernel⟩ T.nf_Clash_number T.nf_Clash_word T.nf_Clash_file
theorem kpI_Clash (T : Facts w.params K mg c_StillError c_Missing c_Trouble ai_Used ai_NoFit ai_Taken ai_NoName ai_Over ai_NotNow ai_Tired ai_TooLate ai_NoText ai_NoDeed ai_NoRow ai_NoChange ai_NoWriter ai_NoTag ai_NoCommit ai_NoTable ai_NoFile ai_NoColumn ai_Clash ai_Lost ai_Crash a__law_deck a__law_draw a__law_any a__law_placed a__law_named a__law_classes a__law_fields a__law_right a_law di_Used di_NoFit di_Taken di_NoName di_Over di_NotNow di_Tired di_TooLate di_NoText di_NoDeed di_NoRow di_NoChange di_NoWriter di_NoTag di_NoCommit di_NoTable di_NoFile di_NoColumn di_Clash di_Lost di_Crash d__law_deck d__law_draw d__law_any d__law_placed d__law_named d__law_classes d__law_fields d__law_right d_law ) : KBinds K di_Clash ["self", "number", "word", "file"] [] (fun us _ => us) (fun vs _ => vs) := Fun.kpos T.Fi_Clash fun _ _ _ _ _ _ us hl => match us, hl with | [_, _, _, _], _ => rfl
theorem init_Lost (T : Facts w.params K mg c_StillError c_Missing c_Trouble ai_Used ai_NoFit ai_Taken ai_NoName ai_Over ai_NotNow ai_Tired ai_TooLate ai_NoText ai_NoDeed ai_NoRow ai_NoChange ai_NoWriter ai_NoTag ai_NoCommit ai_NoTable ai_NoFile ai_NoColumn ai_Clash ai_Lost ai_Crash a__law_deck a__law_draw a__law_any a__law_placed a__law_named a__law_classes a__law_fields a__law_right a_law di_Used di_NoFit di_Taken di_NoName di_Over di_NotNow di_Tired di_TooLate di_NoText di_NoDeed di_NoRow di_NoChange di_NoWriter di_NoTag di_NoCommit di_NoTable di_NoFile di_NoColumn di_Clash di_Lost di_Crash d__law_deck d__law_draw d__law_any d__law_placed d__law_named d__law_classes d__law_fields d__law_right d_law ) : FnOk P w K mg base CX0 1 ai_Lost di_Lost ["self", "step"] (DN.spI cC_Lost "step") := DN.fn_init (k := 0) T.Fi_Lost sci_Lost (.inl (by decide +kernel)) (.inl (by decide +kernel)) (by decide +kernel) rfl (fun env => ⟨_, rfl⟩) nd_55 nc_55 nd_54 PySem.DNX.xb_AE (DN.oxB_ok T.o_Lost) T.g_Trouble ⟨T.r_Trouble, T.ga_Trouble, T.fc_Trouble, by decide +kernel⟩ T.nf_Lost_step
theorem kpI_Lost (T : Facts w.params K mg c_StillError c_Missing c_Trouble ai_Used ai_NoFit ai_Taken ai_NoName ai_Over ai_NotNow ai_Tired ai_TooLate ai_NoText ai_NoDeed ai_NoRow ai_NoChange ai_NoWriter ai_NoTag ai_NoCommit ai_NoTable ai_NoFile ai_NoColumn ai_Clash ai_Lost ai_Crash a__law_deck a__law_draw a__law_any a__law_placed a__law_named a__law_classes a__law_fields a__law_right a_law di_Used di_NoFit di_Taken di_NoName di_Over di_NotNow di_Tired di_TooLate di_NoText di_NoDeed di_NoRow di_NoChange di_NoWriter di_NoTag di_NoCommit di_NoTable di_NoFile di_NoColumn di_Clash di_Lost di_Crash d__law_deck d__law_draw d__law_any d__law_placed d__law_named d__law_classes d__law_fields d__law_right d_law ) : KBinds K di_Lost ["self", "step"] [] (fun us _ => us) (fun vs _ => vs) := Fun.kpos T.Fi_Lost fun _ _ _ _ _ _ us hl => match us, hl with | [_, _], _ => rfl
theorem init_Crash (T : Facts w.params K mg c_StillError c_Missing c_Trouble ai_Used ai_NoFit ai_Taken ai_NoName ai_Over ai_NotNow ai_Tired ai_TooLate ai_NoText ai_NoDeed ai_NoRow ai_NoChange ai_NoWriter ai_NoTag ai_NoCommit ai_NoTable ai_NoFile ai_NoColumn ai_Clash ai_Lost ai_Crash a__law_deck a__law_draw a__law_any a__law_placed a__law_named a__law_classes a__law_fields a__law_right a_law di_Used di_NoFit di_Taken di_NoName di_Over di_NotNow di_Tired di_TooLate di_NoText di_NoDeed di_NoRow di_NoChange di_NoWriter di_NoTag di_NoCommit di_NoTable di_NoFile di_NoColumn di_Clash di_Lost di_Crash d__law_deck d__law_draw d__law_any d__law_placed d__law_named d__law_classes d__law_fields d__law_right d_law ) : FnOk P w K mg base CX0 1 ai_Crash di_Crash ["self", "step"] (DN.spI cC_Crash "step") := DN.fn_init (k := 0) T.Fi_Crash sci_Crash (.inl (by decide +kernel)) (.inl (by decide +kernel)) (by decide +kernel) rfl (fun env => ⟨_, rfl⟩) nd_55 nc_55 nd_54 PySem.DNX.xb_AE (DN.oxB_ok T.o_Crash) T.g_Trouble ⟨T.r_Trouble, T.ga_Trouble, T.fc_Trouble, by decide +kernel⟩ T.nf_Crash_step
theorem kpI_Crash (T : Facts w.params K mg c_StillError c_Missing c_Trouble ai_Used ai_NoFit ai_Taken ai_NoName ai_Over ai_NotNow ai_Tired ai_TooLate ai_NoText ai_NoDeed ai_NoRow ai_NoChange ai_NoWriter ai_NoTag ai_NoCommit ai_NoTable ai_NoFile ai_NoColumn ai_Clash ai_Lost ai_Crash a__law_deck a__law_draw a__law_any a__law_placed a__law_named a__law_classes a__law_fields a__law_right a_law di_Used di_NoFit di_Taken di_NoName di_Over di_NotNow di_Tired di_TooLate di_NoText di_NoDeed di_NoRow di_NoChange di_NoWriter di_NoTag di_NoCommit di_NoTable di_NoFile di_NoColumn di_Clash di_Lost di_Crash d__law_deck d__law_draw d__law_any d__law_placed d__law_named d__law_classes d__law_fields d__law_right d_law ) : KBinds K di_Crash ["self", "step"] [] (fun us _ => us) (fun vs _ => vs) := Fun.kpos T.Fi_Crash fun _ _ _ _ _ _ us hl => match us, hl with | [_, _], _ => rfl
theorem kmI_Taken_0 (T : Facts w.params K mg c_StillError c_Missing c_Trouble ai_Used ai_NoFit ai_Taken ai_NoName ai_Over ai_NotNow ai_Tired ai_TooLate ai_NoText ai_NoDeed ai_NoRow ai_NoChange ai_NoWriter ai_NoTag ai_NoCommit ai_NoTable ai_NoFile ai_NoColumn ai_Clash ai_Lost ai_Crash a__law_deck a__law_draw a__law_any a__law_placed a__law_named a__law_classes a__law_fields a__law_right a_law di_Used di_NoFit di_Taken di_NoName di_Over di_NotNow di_Tired di_TooLate di_NoText di_NoDeed di_NoRow di_NoChange di_NoWriter di_NoTag di_NoCommit di_NoTable di_NoFile di_NoColumn di_Clash di_Lost di_Crash d__law_deck d__law_draw d__law_any d__law_placed d__law_named d__law_classes d__law_fields d__law_right d_law ) : KBinds K di_Taken ["self", "name"] ["name"] (gKm [0]) (gKm [0]) := Fun.kkwM ["name"] [0] T.Fi_Taken (by decide) fun _ _ _ _ _ _ u ws hl => match u, ws, hl with | _, _ :: _, _ => rfl | _, [], h => absurd h (by simp [pick])
theorem kmI_NoName_0 (T : Facts w.params K mg c_StillError c_Missing c_Trouble ai_Used ai_NoFit ai_Taken ai_NoName ai_Over ai_NotNow ai_Tired ai_TooLate ai_NoText ai_NoDeed ai_NoRow ai_NoChange ai_NoWriter ai_NoTag ai_NoCommit ai_NoTable ai_NoFile ai_NoColumn ai_Clash ai_Lost ai_Crash a__law_deck a__law_draw a__law_any a__law_placed a__law_named a__law_classes a__law_fields a__law_right a_law di_Used di_NoFit di_Taken di_NoName di_Over di_NotNow di_Tired di_TooLate di_NoText di_NoDeed di_NoRow di_NoChange di_NoWriter di_NoTag di_NoCommit di_NoTable di_NoFile di_NoColumn di_Clash di_Lost di_Crash d__law_deck d__law_draw d__law_any d__law_placed d__law_named d__law_classes d__law_fields d__law_right d_law ) : KBinds K di_NoName ["self", "name"] ["name"] (gKm [0]) (gKm [0]) := Fun.kkwM ["name"] [0] T.Fi_NoName (by decide) fun _ _ _ _ _ _ u ws hl => match u, ws, hl with | _, _ :: _, _ => rfl | _, [], h => absurd h (by simp [pick])
theorem kmI_NoText_0 (T : Facts w.params K mg c_StillError c_Missing c_Trouble ai_Used ai_NoFit ai_Taken ai_NoName ai_Over ai_NotNow ai_Tired ai_TooLate ai_NoText ai_NoDeed ai_NoRow ai_NoChange ai_NoWriter ai_NoTag ai_NoCommit ai_NoTable ai_NoFile ai_NoColumn ai_Clash ai_Lost ai_Crash a__law_deck a__law_draw a__law_any a__law_placed a__law_named a__law_classes a__law_fields a__law_right a_law di_Used di_NoFit di_Taken di_NoName di_Over di_NotNow di_Tired di_TooLate di_NoText di_NoDeed di_NoRow di_NoChange di_NoWriter di_NoTag di_NoCommit di_NoTable di_NoFile di_NoColumn di_Clash di_Lost di_Crash d__law_deck d__law_draw d__law_any d__law_placed d__law_named d__law_classes d__law_fields d__law_right d_law ) : KBinds K di_NoText ["self", "row"] ["row"] (gKm [0]) (gKm [0]) := Fun.kkwM ["row"] [0] T.Fi_NoText (by decide) fun _ _ _ _ _ _ u ws hl => match u, ws, hl with | _, _ :: _, _ => rfl | _, [], h => absurd h (by simp [pick])
theorem kmI_NoDeed_0 (T : Facts w.params K mg c_StillError c_Missing c_Trouble ai_Used ai_NoFit ai_Taken ai_NoName ai_Over ai_NotNow ai_Tired ai_TooLate ai_NoText ai_NoDeed ai_NoRow ai_NoChange ai_NoWriter ai_NoTag ai_NoCommit ai_NoTable ai_NoFile ai_NoColumn ai_Clash ai_Lost ai_Crash a__law_deck a__law_draw a__law_any a__law_placed a__law_named a__law_classes a__law_fields a__law_right a_law di_Used di_NoFit di_Taken di_NoName di_Over di_NotNow di_Tired di_TooLate di_NoText di_NoDeed di_NoRow di_NoChange di_NoWriter di_NoTag di_NoCommit di_NoTable di_NoFile di_NoColumn di_Clash di_Lost di_Crash d__law_deck d__law_draw d__law_any d__law_placed d__law_named d__law_classes d__law_fields d__law_right d_law ) : KBinds K di_NoDeed ["self", "deed"] ["deed"] (gKm [0]) (gKm [0]) := Fun.kkwM ["deed"] [0] T.Fi_NoDeed (by decide) fun _ _ _ _ _ _ u ws hl => match u, ws, hl with | _, _ :: _, _ => rfl | _, [], h => absurd h (by simp [pick])
theorem kmI_NoRow_0 (T : Facts w.params K mg c_StillError c_Missing c_Trouble ai_Used ai_NoFit ai_Taken ai_NoName ai_Over ai_NotNow ai_Tired ai_TooLate ai_NoText ai_NoDeed ai_NoRow ai_NoChange ai_NoWriter ai_NoTag ai_NoCommit ai_NoTable ai_NoFile ai_NoColumn ai_Clash ai_Lost ai_Crash a__law_deck a__law_draw a__law_any a__law_placed a__law_named a__law_classes a__law_fields a__law_right a_law di_Used di_NoFit di_Taken di_NoName di_Over di_NotNow di_Tired di_TooLate di_NoText di_NoDeed di_NoRow di_NoChange di_NoWriter di_NoTag di_NoCommit di_NoTable di_NoFile di_NoColumn di_Clash di_Lost di_Crash d__law_deck d__law_draw d__law_any d__law_placed d__law_named d__law_classes d__law_fields d__law_right d_law ) : KBinds K di_NoRow ["self", "place"] ["place"] (gKm [0]) (gKm [0]) := Fun.kkwM ["place"] [0] T.Fi_NoRow (by decide) fun _ _ _ _ _ _ u ws hl => match u, ws, hl with | _, _ :: _, _ => rfl | _, [], h => absurd h (by simp [pick])
theorem kmI_NoChange_0 (T : Facts w.params K mg c_StillError c_Missing c_Trouble ai_Used ai_NoFit ai_Taken ai_NoName ai_Over ai_NotNow ai_Tired ai_TooLate ai_NoText ai_NoDeed ai_NoRow ai_NoChange ai_NoWriter ai_NoTag ai_NoCommit ai_NoTable ai_NoFile ai_NoColumn ai_Clash ai_Lost ai_Crash a__law_deck a__law_draw a__law_any a__law_placed a__law_named a__law_classes a__law_fields a__law_right a_law di_Used di_NoFit di_Taken di_NoName di_Over di_NotNow di_Tired di_TooLate di_NoText di_NoDeed di_NoRow di_NoChange di_NoWriter di_NoTag di_NoCommit di_NoTable di_NoFile di_NoColumn di_Clash di_Lost di_Crash d__law_deck d__law_draw d__law_any d__law_placed d__law_named d__law_classes d__law_fields d__law_right d_law ) : KBinds K di_NoChange ["self", "place"] ["place"] (gKm [0]) (gKm [0]) := Fun.kkwM ["place"] [0] T.Fi_NoChange (by decide) fun _ _ _ _ _ _ u ws hl => match u, ws, hl with | _, _ :: _, _ => rfl | _, [], h => absurd h (by simp [pick])
theorem kmI_Used_0 (T : Facts w.params K mg c_StillError c_Missing c_Trouble ai_Used ai_NoFit ai_Taken ai_NoName ai_Over ai_NotNow ai_Tired ai_TooLate ai_NoText ai_NoDeed ai_NoRow ai_NoChange ai_NoWriter ai_NoTag ai_NoCommit ai_NoTable ai_NoFile ai_NoColumn ai_Clash ai_Lost ai_Crash a__law_deck a__law_draw a__law_any a__law_placed a__law_named a__law_classes a__law_fields a__law_right a_law di_Used di_NoFit di_Taken di_NoName di_Over di_NotNow di_Tired di_TooLate di_NoText di_NoDeed di_NoRow di_NoChange di_NoWriter di_NoTag di_NoCommit di_NoTable di_NoFile di_NoColumn di_Clash di_Lost di_Crash d__law_deck d__law_draw d__law_any d__law_placed d__law_named d__law_classes d__law_fields d__law_right d_law ) : KBinds K di_Used ["self", "name"] ["name"] (gKm [0]) (gKm [0]) := Fun.kkwM ["name"] [0] T.Fi_Used (by decide) fun _ _ _ _ _ _ u ws hl => match u, ws, hl with | _, _ :: _, _ => rfl | _, [], h => absurd h (by simp [pick])
theorem kmI_NoFit_0 (T : Facts w.params K mg c_StillError c_Missing c_Trouble ai_Used ai_NoFit ai_Taken ai_NoName ai_Over ai_NotNow ai_Tired ai_TooLate ai_NoText ai_NoDeed ai_NoRow ai_NoChange ai_NoWriter ai_NoTag ai_NoCommit ai_NoTable ai_NoFile ai_NoColumn ai_Clash ai_Lost ai_Crash a__law_deck a__law_draw a__law_any a__law_placed a__law_named a__law_classes a__law_fields a__law_right a_law di_Used di_NoFit di_Taken di_NoName di_Over di_NotNow di_Tired di_TooLate di_NoText di_NoDeed di_NoRow di_NoChange di_NoWriter di_NoTag di_NoCommit di_NoTable di_NoFile di_NoColumn di_Clash di_Lost di_Crash d__law_deck d__law_draw d__law_any d__law_placed d__law_named d__law_classes d__law_fields d__law_right d_law ) : KBinds K di_NoFit ["self", "name"] ["name"] (gKm [0]) (gKm [0]) := Fun.kkwM ["name"] [0] T.Fi_NoFit (by decide) fun _ _ _ _ _ _ u ws hl => match u, ws, hl with | _, _ :: _, _ => rfl | _, [], h => absurd h (by simp [pick])
theorem kmI_Clash_1_2_0 (T : Facts w.params K mg c_StillError c_Missing c_Trouble ai_Used ai_NoFit ai_Taken ai_NoName ai_Over ai_NotNow ai_Tired ai_TooLate ai_NoText ai_NoDeed ai_NoRow ai_NoChange ai_NoWriter ai_NoTag ai_NoCommit ai_NoTable ai_NoFile ai_NoColumn ai_Clash ai_Lost ai_Crash a__law_deck a__law_draw a__law_any a__law_placed a__law_named a__law_classes a__law_fields a__law_right a_law di_Used di_NoFit di_Taken di_NoName di_Over di_NotNow di_Tired di_TooLate di_NoText di_NoDeed di_NoRow di_NoChange di_NoWriter di_NoTag di_NoCommit di_NoTable di_NoFile di_NoColumn di_Clash di_Lost di_Crash d__law_deck d__law_draw d__law_any d__law_placed d__law_named d__law_classes d__law_fields d__law_right d_law ) : KBinds K di_Clash ["self", "number", "word", "file"] ["file", "number", "word"] (gKm [1, 2, 0]) (gKm [1, 2, 0]) := Fun.kkwM ["file", "number", "word"] [1, 2, 0] T.Fi_Clash (by decide) fun _ _ _ _ _ _ u ws hl => match u, ws, hl with | _, _ :: _ :: _ :: _, _ => rfl | _, [], h => absurd h (by simp [pick]) | _, [_], h => absurd h (by simp [pick]) | _, [_, _], h => absurd h (by simp [pick])
theorem kmI_Over_0 (T : Facts w.params K mg c_StillError c_Missing c_Trouble ai_Used ai_NoFit ai_Taken ai_NoName ai_Over ai_NotNow ai_Tired ai_TooLate ai_NoText ai_NoDeed ai_NoRow ai_NoChange ai_NoWriter ai_NoTag ai_NoCommit ai_NoTable ai_NoFile ai_NoColumn ai_Clash ai_Lost ai_Crash a__law_deck a__law_draw a__law_any a__law_placed a__law_named a__law_classes a__law_fields a__law_right a_law di_Used di_NoFit di_Taken di_NoName di_Over di_NotNow di_Tired di_TooLate di_NoText di_NoDeed di_NoRow di_NoChange di_NoWriter di_NoTag di_NoCommit di_NoTable di_NoFile di_NoColumn di_Clash di_Lost di_Crash d__law_deck d__law_draw d__law_any d__law_placed d__law_named d__law_classes d__law_fields d__law_right d_law ) : KBinds K di_Over ["self", "until"] ["until"] (gKm [0]) (gKm [0]) := Fun.kkwM ["until"] [0] T.Fi_Over (by decide) fun _ _ _ _ _ _ u ws hl => match u, ws, hl with | _, _ :: _, _ => rfl | _, [], h => absurd h (by simp [pick])
theorem kmI_NotNow_0 (T : Facts w.params K mg c_StillError c_Missing c_Trouble ai_Used ai_NoFit ai_Taken ai_NoName ai_Over ai_NotNow ai_Tired ai_TooLate ai_NoText ai_NoDeed ai_NoRow ai_NoChange ai_NoWriter ai_NoTag ai_NoCommit ai_NoTable ai_NoFile ai_NoColumn ai_Clash ai_Lost ai_Crash a__law_deck a__law_draw a__law_any a__law_placed a__law_named a__law_classes a__law_fields a__law_right a_law di_Used di_NoFit di_Taken di_NoName di_Over di_NotNow di_Tired di_TooLate di_NoText di_NoDeed di_NoRow di_NoChange di_NoWriter di_NoTag di_NoCommit di_NoTable di_NoFile di_NoColumn di_Clash di_Lost di_Crash d__law_deck d__law_draw d__law_any d__law_placed d__law_named d__law_classes d__law_fields d__law_right d_law ) : KBinds K di_NotNow ["self", "state"] ["state"] (gKm [0]) (gKm [0]) := Fun.kkwM ["state"] [0] T.Fi_NotNow (by decide) fun _ _ _ _ _ _ u ws hl => match u, ws, hl with | _, _ :: _, _ => rfl | _, [], h => absurd h (by simp [pick])
theorem kmI_Tired_0 (T : Facts w.params K mg c_StillError c_Missing c_Trouble ai_Used ai_NoFit ai_Taken ai_NoName ai_Over ai_NotNow ai_Tired ai_TooLate ai_NoText ai_NoDeed ai_NoRow ai_NoChange ai_NoWriter ai_NoTag ai_NoCommit ai_NoTable ai_NoFile ai_NoColumn ai_Clash ai_Lost ai_Crash a__law_deck a__law_draw a__law_any a__law_placed a__law_named a__law_classes a__law_fields a__law_right a_law di_Used di_NoFit di_Taken di_NoName di_Over di_NotNow di_Tired di_TooLate di_NoText di_NoDeed di_NoRow di_NoChange di_NoWriter di_NoTag di_NoCommit di_NoTable di_NoFile di_NoColumn di_Clash di_Lost di_Crash d__law_deck d__law_draw d__law_any d__law_placed d__law_named d__law_classes d__law_fields d__law_right d_law ) : KBinds K di_Tired ["self", "tries"] ["tries"] (gKm [0]) (gKm [0]) := Fun.kkwM ["tries"] [0] T.Fi_Tired (by decide) fun _ _ _ _ _ _ u ws hl => match u, ws, hl with | _, _ :: _, _ => rfl | _, [], h => absurd h (by simp [pick])
theorem kmI_TooLate_0 (T : Facts w.params K mg c_StillError c_Missing c_Trouble ai_Used ai_NoFit ai_Taken ai_NoName ai_Over ai_NotNow ai_Tired ai_TooLate ai_NoText ai_NoDeed ai_NoRow ai_NoChange ai_NoWriter ai_NoTag ai_NoCommit ai_NoTable ai_NoFile ai_NoColumn ai_Clash ai_Lost ai_Crash a__law_deck a__law_draw a__law_any a__law_placed a__law_named a__law_classes a__law_fields a__law_right a_law di_Used di_NoFit di_Taken di_NoName di_Over di_NotNow di_Tired di_TooLate di_NoText di_NoDeed di_NoRow di_NoChange di_NoWriter di_NoTag di_NoCommit di_NoTable di_NoFile di_NoColumn di_Clash di_Lost di_Crash d__law_deck d__law_draw d__law_any d__law_placed d__law_named d__law_classes d__law_fields d__law_right d_law ) : KBinds K di_TooLate ["self", "base"] ["base"] (gKm [0]) (gKm [0]) := Fun.kkwM ["base"] [0] T.Fi_TooLate (by decide) fun _ _ _ _ _ _ u ws hl => match u, ws, hl with | _, _ :: _, _ => rfl | _, [], h => absurd h (by simp [pick])
theorem kmI_NoTag_0 (T : Facts w.params K mg c_StillError c_Missing c_Trouble ai_Used ai_NoFit ai_Taken ai_NoName ai_Over ai_NotNow ai_Tired ai_TooLate ai_NoText ai_NoDeed ai_NoRow ai_NoChange ai_NoWriter ai_NoTag ai_NoCommit ai_NoTable ai_NoFile ai_NoColumn ai_Clash ai_Lost ai_Crash a__law_deck a__law_draw a__law_any a__law_placed a__law_named a__law_classes a__law_fields a__law_right a_law di_Used di_NoFit di_Taken di_NoName di_Over di_NotNow di_Tired di_TooLate di_NoText di_NoDeed di_NoRow di_NoChange di_NoWriter di_NoTag di_NoCommit di_NoTable di_NoFile di_NoColumn di_Clash di_Lost di_Crash d__law_deck d__law_draw d__law_any d__law_placed d__law_named d__law_classes d__law_fields d__law_right d_law ) : KBinds K di_NoTag ["self", "name"] ["name"] (gKm [0]) (gKm [0]) := Fun.kkwM ["name"] [0] T.Fi_NoTag (by decide) fun _ _ _ _ _ _ u ws hl => match u, ws, hl with | _, _ :: _, _ => rfl | _, [], h => absurd h (by simp [pick])
theorem kmI_NoCommit_0 (T : Facts w.params K mg c_StillError c_Missing c_Trouble ai_Used ai_NoFit ai_Taken ai_NoName ai_Over ai_NotNow ai_Tired ai_TooLate ai_NoText ai_NoDeed ai_NoRow ai_NoChange ai_NoWriter ai_NoTag ai_NoCommit ai_NoTable ai_NoFile ai_NoColumn ai_Clash ai_Lost ai_Crash a__law_deck a__law_draw a__law_any a__law_placed a__law_named a__law_classes a__law_fields a__law_right a_law di_Used di_NoFit di_Taken di_NoName di_Over di_NotNow di_Tired di_TooLate di_NoText di_NoDeed di_NoRow di_NoChange di_NoWriter di_NoTag di_NoCommit di_NoTable di_NoFile di_NoColumn di_Clash di_Lost di_Crash d__law_deck d__law_draw d__law_any d__law_placed d__law_named d__law_classes d__law_fields d__law_right d_law ) : KBinds K di_NoCommit ["self", "number"] ["number"] (gKm [0]) (gKm [0]) := Fun.kkwM ["number"] [0] T.Fi_NoCommit (by decide) fun _ _ _ _ _ _ u ws hl => match u, ws, hl with | _, _ :: _, _ => rfl | _, [], h => absurd h (by simp [pick])
theorem kmI_NoTable_0 (T : Facts w.params K mg c_StillError c_Missing c_Trouble ai_Used ai_NoFit ai_Taken ai_NoName ai_Over ai_NotNow ai_Tired ai_TooLate ai_NoText ai_NoDeed ai_NoRow ai_NoChange ai_NoWriter ai_NoTag ai_NoCommit ai_NoTable ai_NoFile ai_NoColumn ai_Clash ai_Lost ai_Crash a__law_deck a__law_draw a__law_any a__law_placed a__law_named a__law_classes a__law_fields a__law_right a_law di_Used di_NoFit di_Taken di_NoName di_Over di_NotNow di_Tired di_TooLate di_NoText di_NoDeed di_NoRow di_NoChange di_NoWriter di_NoTag di_NoCommit di_NoTable di_NoFile di_NoColumn di_Clash di_Lost di_Crash d__law_deck d__law_draw d__law_any d__law_placed d__law_named d__law_classes d__law_fields d__law_right d_law ) : KBinds K di_NoTable ["self", "name"] ["name"] (gKm [0]) (gKm [0]) := Fun.kkwM ["name"] [0] T.Fi_NoTable (by decide) fun _ _ _ _ _ _ u ws hl => match u, ws, hl with | _, _ :: _, _ => rfl | _, [], h => absurd h (by simp [pick])
theorem kmI_NoFile_0 (T : Facts w.params K mg c_StillError c_Missing c_Trouble ai_Used ai_NoFit ai_Taken ai_NoName ai_Over ai_NotNow ai_Tired ai_TooLate ai_NoText ai_NoDeed ai_NoRow ai_NoChange ai_NoWriter ai_NoTag ai_NoCommit ai_NoTable ai_NoFile ai_NoColumn ai_Clash ai_Lost ai_Crash a__law_deck a__law_draw a__law_any a__law_placed a__law_named a__law_classes a__law_fields a__law_right a_law di_Used di_NoFit di_Taken di_NoName di_Over di_NotNow di_Tired di_TooLate di_NoText di_NoDeed di_NoRow di_NoChange di_NoWriter di_NoTag di_NoCommit di_NoTable di_NoFile di_NoColumn di_Clash di_Lost di_Crash d__law_deck d__law_draw d__law_any d__law_placed d__law_named d__law_classes d__law_fields d__law_right d_law ) : KBinds K di_NoFile ["self", "file"] ["file"] (gKm [0]) (gKm [0]) := Fun.kkwM ["file"] [0] T.Fi_NoFile (by decide) fun _ _ _ _ _ _ u ws hl => match u, ws, hl with | _, _ :: _, _ => rfl | _, [], h => absurd h (by simp [pick])
theorem kmI_NoColumn_0 (T : Facts w.params K mg c_StillError c_Missing c_Trouble ai_Used ai_NoFit ai_Taken ai_NoName ai_Over ai_NotNow ai_Tired ai_TooLate ai_NoText ai_NoDeed ai_NoRow ai_NoChange ai_NoWriter ai_NoTag ai_NoCommit ai_NoTable ai_NoFile ai_NoColumn ai_Clash ai_Lost ai_Crash a__law_deck a__law_draw a__law_any a__law_placed a__law_named a__law_classes a__law_fields a__law_right a_law di_Used di_NoFit di_Taken di_NoName di_Over di_NotNow di_Tired di_TooLate di_NoText di_NoDeed di_NoRow di_NoChange di_NoWriter di_NoTag di_NoCommit di_NoTable di_NoFile di_NoColumn di_Clash di_Lost di_Crash d__law_deck d__law_draw d__law_any d__law_placed d__law_named d__law_classes d__law_fields d__law_right d_law ) : KBinds K di_NoColumn ["self", "name"] ["name"] (gKm [0]) (gKm [0]) := Fun.kkwM ["name"] [0] T.Fi_NoColumn (by decide) fun _ _ _ _ _ _ u ws hl => match u, ws, hl with | _, _ :: _, _ => rfl | _, [], h => absurd h (by simp [pick])
theorem kmI_Lost_0 (T : Facts w.params K mg c_StillError c_Missing c_Trouble ai_Used ai_NoFit ai_Taken ai_NoName ai_Over ai_NotNow ai_Tired ai_TooLate ai_NoText ai_NoDeed ai_NoRow ai_NoChange ai_NoWriter ai_NoTag ai_NoCommit ai_NoTable ai_NoFile ai_NoColumn ai_Clash ai_Lost ai_Crash a__law_deck a__law_draw a__law_any a__law_placed a__law_named a__law_classes a__law_fields a__law_right a_law di_Used di_NoFit di_Taken di_NoName di_Over di_NotNow di_Tired di_TooLate di_NoText di_NoDeed di_NoRow di_NoChange di_NoWriter di_NoTag di_NoCommit di_NoTable di_NoFile di_NoColumn di_Clash di_Lost di_Crash d__law_deck d__law_draw d__law_any d__law_placed d__law_named d__law_classes d__law_fields d__law_right d_law ) : KBinds K di_Lost ["self", "step"] ["step"] (gKm [0]) (gKm [0]) := Fun.kkwM ["step"] [0] T.Fi_Lost (by decide) fun _ _ _ _ _ _ u ws hl => match u, ws, hl with | _, _ :: _, _ => rfl | _, [], h => absurd h (by simp [pick])
theorem kmI_Crash_0 (T : Facts w.params K mg c_StillError c_Missing c_Trouble ai_Used ai_NoFit ai_Taken ai_NoName ai_Over ai_NotNow ai_Tired ai_TooLate ai_NoText ai_NoDeed ai_NoRow ai_NoChange ai_NoWriter ai_NoTag ai_NoCommit ai_NoTable ai_NoFile ai_NoColumn ai_Clash ai_Lost ai_Crash a__law_deck a__law_draw a__law_any a__law_placed a__law_named a__law_classes a__law_fields a__law_right a_law di_Used di_NoFit di_Taken di_NoName di_Over di_NotNow di_Tired di_TooLate di_NoText di_NoDeed di_NoRow di_NoChange di_NoWriter di_NoTag di_NoCommit di_NoTable di_NoFile di_NoColumn di_Clash di_Lost di_Crash d__law_deck d__law_draw d__law_any d__law_placed d__law_named d__law_classes d__law_fields d__law_right d_law ) : KBinds K di_Crash ["self", "step"] ["step"] (gKm [0]) (gKm [0]) := Fun.kkwM ["step"] [0] T.Fi_Crash (by decide) fun _ _ _ _ _ _ u ws hl => match u, ws, hl with | _, _ :: _, _ => rfl | _, [], h => absurd h (by simp [pick])
theorem kmI_NoWriter_0 (T : Facts w.params K mg c_StillError c_Missing c_Trouble ai_Used ai_NoFit ai_Taken ai_NoName ai_Over ai_NotNow ai_Tired ai_TooLate ai_NoText ai_NoDeed ai_NoRow ai_NoChange ai_NoWriter ai_NoTag ai_NoCommit ai_NoTable ai_NoFile ai_NoColumn ai_Clash ai_Lost ai_Crash a__law_deck a__law_draw a__law_any a__law_placed a__law_named a__law_classes a__law_fields a__law_right a_law di_Used di_NoFit di_Taken di_NoName di_Over di_NotNow di_Tired di_TooLate di_NoText di_NoDeed di_NoRow di_NoChange di_NoWriter di_NoTag di_NoCommit di_NoTable di_NoFile di_NoColumn di_Clash di_Lost di_Crash d__law_deck d__law_draw d__law_any d__law_placed d__law_named d__law_classes d__law_fields d__law_right d_law ) : KBinds K di_NoWriter ["self", "name"] ["name"] (gKm [0]) (gKm [0]) := Fun.kkwM ["name"] [0] T.Fi_NoWriter (by decide) fun _ _ _ _ _ _ u ws hl => match u, ws, hl with | _, _ :: _, _ => rfl | _, [], h => absurd h (by simp [pick])
theorem vt_Full (T : Facts w.params K mg c_StillError c_Missing c_Trouble ai_Used ai_NoFit ai_Taken ai_NoName ai_Over ai_NotNow ai_Tired ai_TooLate ai_NoText ai_NoDeed ai_NoRow ai_NoChange ai_NoWriter ai_NoTag ai_NoCommit ai_NoTable ai_NoFile ai_NoColumn ai_Clash ai_Lost ai_Crash a__law_deck a__law_draw a__law_any a__law_placed a__law_named a__law_classes a__law_fields a__law_right a_law di_Used di_NoFit di_Taken di_NoName di_Over di_NotNow di_Tired di_TooLate di_NoText di_NoDeed di_NoRow di_NoChange di_NoWriter di_NoTag di_NoCommit di_NoTable di_NoFile di_NoColumn di_Clash di_Lost di_Crash d__law_deck d__law_draw d__law_any d__law_placed d__law_named d__law_classes d__law_fields d__law_right d_law ) : ∀ q ∈ tbV, XcC K q.2 ∧ PySem.W.kitOne K (.ref q.2) (.ref cC_Full) = some (vsub_Full q.1) := tb_ok T.vx T.vq_Full
theorem vt_NoRule (T : Facts w.params K mg c_StillError c_Missing c_Trouble ai_Used ai_NoFit ai_Taken ai_NoName ai_Over ai_NotNow ai_Tired ai_TooLate ai_NoText ai_NoDeed ai_NoRow ai_NoChange ai_NoWriter ai_NoTag ai_NoCommit ai_NoTable ai_NoFile ai_NoColumn ai_Clash ai_Lost ai_Crash a__law_deck a__law_draw a__law_any a__law_placed a__law_named a__law_classes a__law_fields a__law_right a_law di_Used di_NoFit di_Taken di_NoName di_Over di_NotNow di_Tired di_TooLate di_NoText di_NoDeed di_NoRow di_NoChange di_NoWriter di_NoTag di_NoCommit di_NoTable di_NoFile di_NoColumn di_Clash di_Lost di_Crash d__law_deck d__law_draw d__law_any d__law_placed d__law_named d__law_classes d__law_fields d__law_right d_law ) : ∀ q ∈ tbV, XcC K q.2 ∧ PySem.W.kitOne K (.ref q.2) (.ref cC_NoRule) = some (vsub_NoRule q.1) := tb_ok T.vx T.vq_NoRule
theorem vt_NoCond (T : Facts w.params K mg c_StillError c_Missing c_Trouble ai_Used ai_NoFit ai_Taken ai_NoName ai_Over ai_NotNow ai_Tired ai_TooLate ai_NoText ai_NoDeed ai_NoRow ai_NoChange ai_NoWriter ai_NoTag ai_NoCommit ai_NoTable ai_NoFile ai_NoColumn ai_Clash ai_Lost ai_Crash a__law_deck a__law_draw a__law_any a__law_placed a__law_named a__law_classes a__law_fields a__law_right a_law di_Used di_NoFit di_Taken di_NoName di_Over di_NotNow di_Tired di_TooLate di_NoText di_NoDeed di_NoRow di_NoChange di_NoWriter di_NoTag di_NoCommit di_NoTable di_NoFile di_NoColumn di_Clash di_Lost di_Crash d__law_deck d__law_draw d__law_any d__law_placed d__law_named d__law_classes d__law_fields d__law_right d_law ) : ∀ q ∈ tbV, XcC K q.2 ∧ PySem.W.kitOne K (.ref q.2) (.ref cC_NoCond) = some (vsub_NoCond q.1) := tb_ok T.vx T.vq_NoCond
theorem vt_NoShape (T : Facts w.params K mg c_StillError c_Missing c_Trouble ai_Used ai_NoFit ai_Taken ai_NoName ai_Over ai_NotNow ai_Tired ai_TooLate ai_NoText ai_NoDeed ai_NoRow ai_NoChange ai_NoWriter ai_NoTag ai_NoCommit ai_NoTable ai_NoFile ai_NoColumn ai_Clash ai_Lost ai_Crash a__law_deck a__law_draw a__law_any a__law_placed a__law_named a__law_classes a__law_fields a__law_right a_law di_Used di_NoFit di_Taken di_NoName di_Over di_NotNow di_Tired di_TooLate di_NoText di_NoDeed di_NoRow di_NoChange di_NoWriter di_NoTag di_NoCommit di_NoTable di_NoFile di_NoColumn di_Clash di_Lost di_Crash d__law_deck d__law_draw d__law_any d__law_placed d__law_named d__law_classes d__law_fields d__law_right d_law ) : ∀ q ∈ tbV, XcC K q.2 ∧ PySem.W.kitOne K (.ref q.2) (.ref cC_NoShape) = some (vsub_NoShape q.1) := tb_ok T.vx T.vq_NoShape
theorem vt_NoName (T : Facts w.params K mg c_StillError c_Missing c_Trouble ai_Used ai_NoFit ai_Taken ai_NoName ai_Over ai_NotNow ai_Tired ai_TooLate ai_NoText ai_NoDeed ai_NoRow ai_NoChange ai_NoWriter ai_NoTag ai_NoCommit ai_NoTable ai_NoFile ai_NoColumn ai_Clash ai_Lost ai_Crash a__law_deck a__law_draw a__law_any a__law_placed a__law_named a__law_classes a__law_fields a__law_right a_law di_Used di_NoFit di_Taken di_NoName di_Over di_NotNow di_Tired di_TooLate di_NoText di_NoDeed di_NoRow di_NoChange di_NoWriter di_NoTag di_NoCommit di_NoTable di_NoFile di_NoColumn di_Clash di_Lost di_Crash d__law_deck d__law_draw d__law_any d__law_placed d__law_named d__law_classes d__law_fields d__law_right d_law ) : ∀ q ∈ tbV, XcC K q.2 ∧ PySem.W.kitOne K (.ref q.2) (.ref cC_NoName) = some (vsub_NoName q.1) := tb_ok T.vx T.vq_NoName
theorem vt_NoLine (T : Facts w.params K mg c_StillError c_Missing c_Trouble ai_Used ai_NoFit ai_Taken ai_NoName ai_Over ai_NotNow ai_Tired ai_TooLate ai_NoText ai_NoDeed ai_NoRow ai_NoChange ai_NoWriter ai_NoTag ai_NoCommit ai_NoTable ai_NoFile ai_NoColumn ai_Clash ai_Lost ai_Crash a__law_deck a__law_draw a__law_any a__law_placed a__law_named a__law_classes a__law_fields a__law_right a_law di_Used di_NoFit di_Taken di_NoName di_Over di_NotNow di_Tired di_TooLate di_NoText di_NoDeed di_NoRow di_NoChange di_NoWriter di_NoTag di_NoCommit di_NoTable di_NoFile di_NoColumn di_Clash di_Lost di_Crash d__law_deck d__law_draw d__law_any d__law_placed d__law_named d__law_classes d__law_fields d__law_right d_law ) : ∀ q ∈ tbV, XcC K q.2 ∧ PySem.W.kitOne K (.ref q.2) (.ref cC_NoLine) = some (vsub_NoLine q.1) := tb_ok T.vx T.vq_NoLine
theorem vt_Busy (T : Facts w.params K mg c_StillError c_Missing c_Trouble ai_Used ai_NoFit ai_Taken ai_NoName ai_Over ai_NotNow ai_Tired ai_TooLate ai_NoText ai_NoDeed ai_NoRow ai_NoChange ai_NoWriter ai_NoTag ai_NoCommit ai_NoTable ai_NoFile ai_NoColumn ai_Clash ai_Lost ai_Crash a__law_deck a__law_draw a__law_any a__law_placed a__law_named a__law_classes a__law_fields a__law_right a_law di_Used di_NoFit di_Taken di_NoName di_Over di_NotNow di_Tired di_TooLate di_NoText di_NoDeed di_NoRow di_NoChange di_NoWriter di_NoTag di_NoCommit di_NoTable di_NoFile di_NoColumn di_Clash di_Lost di_Crash d__law_deck d__law_draw d__law_any d__law_placed d__law_named d__law_classes d__law_fields d__law_right d_law ) : ∀ q ∈ tbV, XcC K q.2 ∧ PySem.W.kitOne K (.ref q.2) (.ref cC_Busy) = some (vsub_Busy q.1) := tb_ok T.vx T.vq_Busy
theorem vt_Last (T : Facts w.params K mg c_StillError c_Missing c_Trouble ai_Used ai_NoFit ai_Taken ai_NoName ai_Over ai_NotNow ai_Tired ai_TooLate ai_NoText ai_NoDeed ai_NoRow ai_NoChange ai_NoWriter ai_NoTag ai_NoCommit ai_NoTable ai_NoFile ai_NoColumn ai_Clash ai_Lost ai_Crash a__law_deck a__law_draw a__law_any a__law_placed a__law_named a__law_classes a__law_fields a__law_right a_law di_Used di_NoFit di_Taken di_NoName di_Over di_NotNow di_Tired di_TooLate di_NoText di_NoDeed di_NoRow di_NoChange di_NoWriter di_NoTag di_NoCommit di_NoTable di_NoFile di_NoColumn di_Clash di_Lost di_Crash d__law_deck d__law_draw d__law_any d__law_placed d__law_named d__law_classes d__law_fields d__law_right d_law ) : ∀ q ∈ tbV, XcC K q.2 ∧ PySem.W.kitOne K (.ref q.2) (.ref cC_Last) = some (vsub_Last q.1) := tb_ok T.vx T.vq_Last
theorem vt_NoChange (T : Facts w.params K mg c_StillError c_Missing c_Trouble ai_Used ai_NoFit ai_Taken ai_NoName ai_Over ai_NotNow ai_Tired ai_TooLate ai_NoText ai_NoDeed ai_NoRow ai_NoChange ai_NoWriter ai_NoTag ai_NoCommit ai_NoTable ai_NoFile ai_NoColumn ai_Clash ai_Lost ai_Crash a__law_deck a__law_draw a__law_any a__law_placed a__law_named a__law_classes a__law_fields a__law_right a_law di_Used di_NoFit di_Taken di_NoName di_Over di_NotNow di_Tired di_TooLate di_NoText di_NoDeed di_NoRow di_NoChange di_NoWriter di_NoTag di_NoCommit di_NoTable di_NoFile di_NoColumn di_Clash di_Lost di_Crash d__law_deck d__law_draw d__law_any d__law_placed d__law_named d__law_classes d__law_fields d__law_right d_law ) : ∀ q ∈ tbV, XcC K q.2 ∧ PySem.W.kitOne K (.ref q.2) (.ref cC_NoChange) = some (vsub_NoChange q.1) := tb_ok T.vx T.vq_NoChange
theorem vt_Used (T : Facts w.params K mg c_StillError c_Missing c_Trouble ai_Used ai_NoFit ai_Taken ai_NoName ai_Over ai_NotNow ai_Tired ai_TooLate ai_NoText ai_NoDeed ai_NoRow ai_NoChange ai_NoWriter ai_NoTag ai_NoCommit ai_NoTable ai_NoFile ai_NoColumn ai_Clash ai_Lost ai_Crash a__law_deck a__law_draw a__law_any a__law_placed a__law_named a__law_classes a__law_fields a__law_right a_law di_Used di_NoFit di_Taken di_NoName di_Over di_NotNow di_Tired di_TooLate di_NoText di_NoDeed di_NoRow di_NoChange di_NoWriter di_NoTag di_NoCommit di_NoTable di_NoFile di_NoColumn di_Clash di_Lost di_Crash d__law_deck d__law_draw d__law_any d__law_placed d__law_named d__law_classes d__law_fields d__law_right d_law ) : ∀ q ∈ tbV, XcC K q.2 ∧ PySem.W.kitOne K (.ref q.2) (.ref cC_Used) = some (vsub_Used q.1) := tb_ok T.vx T.vq_Used
theorem vt_NoFit (T : Facts w.params K mg c_StillError c_Missing c_Trouble ai_Used ai_NoFit ai_Taken ai_NoName ai_Over ai_NotNow ai_Tired ai_TooLate ai_NoText ai_NoDeed ai_NoRow ai_NoChange ai_NoWriter ai_NoTag ai_NoCommit ai_NoTable ai_NoFile ai_NoColumn ai_Clash ai_Lost ai_Crash a__law_deck a__law_draw a__law_any a__law_placed a__law_named a__law_classes a__law_fields a__law_right a_law di_Used di_NoFit di_Taken di_NoName di_Over di_NotNow di_Tired di_TooLate di_NoText di_NoDeed di_NoRow di_NoChange di_NoWriter di_NoTag di_NoCommit di_NoTable di_NoFile di_NoColumn di_Clash di_Lost di_Crash d__law_deck d__law_draw d__law_any d__law_placed d__law_named d__law_classes d__law_fields d__law_right d_law ) : ∀ q ∈ tbV, XcC K q.2 ∧ PySem.W.kitOne K (.ref q.2) (.ref cC_NoFit) = some (vsub_NoFit q.1) := tb_ok T.vx T.vq_NoFit
theorem vt_Taken (T : Facts w.params K mg c_StillError c_Missing c_Trouble ai_Used ai_NoFit ai_Taken ai_NoName ai_Over ai_NotNow ai_Tired ai_TooLate ai_NoText ai_NoDeed ai_NoRow ai_NoChange ai_NoWriter ai_NoTag ai_NoCommit ai_NoTable ai_NoFile ai_NoColumn ai_Clash ai_Lost ai_Crash a__law_deck a__law_draw a__law_any a__law_placed a__law_named a__law_classes a__law_fields a__law_right a_law di_Used di_NoFit di_Taken di_NoName di_Over di_NotNow di_Tired di_TooLate di_NoText di_NoDeed di_NoRow di_NoChange di_NoWriter di_NoTag di_NoCommit di_NoTable di_NoFile di_NoColumn di_Clash di_Lost di_Crash d__law_deck d__law_draw d__law_any d__law_placed d__law_named d__law_classes d__law_fields d__law_right d_law ) : ∀ q ∈ tbV, XcC K q.2 ∧ PySem.W.kitOne K (.ref q.2) (.ref cC_Taken) = some (vsub_Taken q.1) := tb_ok T.vx T.vq_Taken
theorem vt_TooLate (T : Facts w.params K mg c_StillError c_Missing c_Trouble ai_Used ai_NoFit ai_Taken ai_NoName ai_Over ai_NotNow ai_Tired ai_TooLate ai_NoText ai_NoDeed ai_NoRow ai_NoChange ai_NoWriter ai_NoTag ai_NoCommit ai_NoTable ai_NoFile ai_NoColumn ai_Clash ai_Lost ai_Crash a__law_deck a__law_draw a__law_any a__law_placed a__law_named a__law_classes a__law_fields a__law_right a_law di_Used di_NoFit di_Taken di_NoName di_Over di_NotNow di_Tired di_TooLate di_NoText di_NoDeed di_NoRow di_NoChange di_NoWriter di_NoTag di_NoCommit di_NoTable di_NoFile di_NoColumn di_Clash di_Lost di_Crash d__law_deck d__law_draw d__law_any d__law_placed d__law_named d__law_classes d__law_fields d__law_right d_law ) : ∀ q ∈ tbV, XcC K q.2 ∧ PySem.W.kitOne K (.ref q.2) (.ref cC_TooLate) = some (vsub_TooLate q.1) := tb_ok T.vx T.vq_TooLate
theorem vt_NoText (T : Facts w.params K mg c_StillError c_Missing c_Trouble ai_Used ai_NoFit ai_Taken ai_NoName ai_Over ai_NotNow ai_Tired ai_TooLate ai_NoText ai_NoDeed ai_NoRow ai_NoChange ai_NoWriter ai_NoTag ai_NoCommit ai_NoTable ai_NoFile ai_NoColumn ai_Clash ai_Lost ai_Crash a__law_deck a__law_draw a__law_any a__law_placed a__law_named a__law_classes a__law_fields a__law_right a_law di_Used di_NoFit di_Taken di_NoName di_Over di_NotNow di_Tired di_TooLate di_NoText di_NoDeed di_NoRow di_NoChange di_NoWriter di_NoTag di_NoCommit di_NoTable di_NoFile di_NoColumn di_Clash di_Lost di_Crash d__law_deck d__law_draw d__law_any d__law_placed d__law_named d__law_classes d__law_fields d__law_right d_law ) : ∀ q ∈ tbV, XcC K q.2 ∧ PySem.W.kitOne K (.ref q.2) (.ref cC_NoText) = some (vsub_NoText q.1) := tb_ok T.vx T.vq_NoText
theorem vt_NoDeed (T : Facts w.params K mg c_StillError c_Missing c_Trouble ai_Used ai_NoFit ai_Taken ai_NoName ai_Over ai_NotNow ai_Tired ai_TooLate ai_NoText ai_NoDeed ai_NoRow ai_NoChange ai_NoWriter ai_NoTag ai_NoCommit ai_NoTable ai_NoFile ai_NoColumn ai_Clash ai_Lost ai_Crash a__law_deck a__law_draw a__law_any a__law_placed a__law_named a__law_classes a__law_fields a__law_right a_law di_Used di_NoFit di_Taken di_NoName di_Over di_NotNow di_Tired di_TooLate di_NoText di_NoDeed di_NoRow di_NoChange di_NoWriter di_NoTag di_NoCommit di_NoTable di_NoFile di_NoColumn di_Clash di_Lost di_Crash d__law_deck d__law_draw d__law_any d__law_placed d__law_named d__law_classes d__law_fields d__law_right d_law ) : ∀ q ∈ tbV, XcC K q.2 ∧ PySem.W.kitOne K (.ref q.2) (.ref cC_NoDeed) = some (vsub_NoDeed q.1) := tb_ok T.vx T.vq_NoDeed
theorem vt_NoRow (T : Facts w.params K mg c_StillError c_Missing c_Trouble ai_Used ai_NoFit ai_Taken ai_NoName ai_Over ai_NotNow ai_Tired ai_TooLate ai_NoText ai_NoDeed ai_NoRow ai_NoChange ai_NoWriter ai_NoTag ai_NoCommit ai_NoTable ai_NoFile ai_NoColumn ai_Clash ai_Lost ai_Crash a__law_deck a__law_draw a__law_any a__law_placed a__law_named a__law_classes a__law_fields a__law_right a_law di_Used di_NoFit di_Taken di_NoName di_Over di_NotNow di_Tired di_TooLate di_NoText di_NoDeed di_NoRow di_NoChange di_NoWriter di_NoTag di_NoCommit di_NoTable di_NoFile di_NoColumn di_Clash di_Lost di_Crash d__law_deck d__law_draw d__law_any d__law_placed d__law_named d__law_classes d__law_fields d__law_right d_law ) : ∀ q ∈ tbV, XcC K q.2 ∧ PySem.W.kitOne K (.ref q.2) (.ref cC_NoRow) = some (vsub_NoRow q.1) := tb_ok T.vx T.vq_NoRow
theorem vt_Clash (T : Facts w.params K mg c_StillError c_Missing c_Trouble ai_Used ai_NoFit ai_Taken ai_NoName ai_Over ai_NotNow ai_Tired ai_TooLate ai_NoText ai_NoDeed ai_NoRow ai_NoChange ai_NoWriter ai_NoTag ai_NoCommit ai_NoTable ai_NoFile ai_NoColumn ai_Clash ai_Lost ai_Crash a__law_deck a__law_draw a__law_any a__law_placed a__law_named a__law_classes a__law_fields a__law_right a_law di_Used di_NoFit di_Taken di_NoName di_Over di_NotNow di_Tired di_TooLate di_NoText di_NoDeed di_NoRow di_NoChange di_NoWriter di_NoTag di_NoCommit di_NoTable di_NoFile di_NoColumn di_Clash di_Lost di_Crash d__law_deck d__law_draw d__law_any d__law_placed d__law_named d__law_classes d__law_fields d__law_right d_law ) : ∀ q ∈ tbV, XcC K q.2 ∧ PySem.W.kitOne K (.ref q.2) (.ref cC_Clash) = some (vsub_Clash q.1) := tb_ok T.vx T.vq_Clash
theorem vt_Over (T : Facts w.params K mg c_StillError c_Missing c_Trouble ai_Used ai_NoFit ai_Taken ai_NoName ai_Over ai_NotNow ai_Tired ai_TooLate ai_NoText ai_NoDeed ai_NoRow ai_NoChange ai_NoWriter ai_NoTag ai_NoCommit ai_NoTable ai_NoFile ai_NoColumn ai_Clash ai_Lost ai_Crash a__law_deck a__law_draw a__law_any a__law_placed a__law_named a__law_classes a__law_fields a__law_right a_law di_Used di_NoFit di_Taken di_NoName di_Over di_NotNow di_Tired di_TooLate di_NoText di_NoDeed di_NoRow di_NoChange di_NoWriter di_NoTag di_NoCommit di_NoTable di_NoFile di_NoColumn di_Clash di_Lost di_Crash d__law_deck d__law_draw d__law_any d__law_placed d__law_named d__law_classes d__law_fields d__law_right d_law ) : ∀ q ∈ tbV, XcC K q.2 ∧ PySem.W.kitOne K (.ref q.2) (.ref cC_Over) = some (vsub_Over q.1) := tb_ok T.vx T.vq_Over
theorem vt_NotNow (T : Facts w.params K mg c_StillError c_Missing c_Trouble ai_Used ai_NoFit ai_Taken ai_NoName ai_Over ai_NotNow ai_Tired ai_TooLate ai_NoText ai_NoDeed ai_NoRow ai_NoChange ai_NoWriter ai_NoTag ai_NoCommit ai_NoTable ai_NoFile ai_NoColumn ai_Clash ai_Lost ai_Crash a__law_deck a__law_draw a__law_any a__law_placed a__law_named a__law_classes a__law_fields a__law_right a_law di_Used di_NoFit di_Taken di_NoName di_Over di_NotNow di_Tired di_TooLate di_NoText di_NoDeed di_NoRow di_NoChange di_NoWriter di_NoTag di_NoCommit di_NoTable di_NoFile di_NoColumn di_Clash di_Lost di_Crash d__law_deck d__law_draw d__law_any d__law_placed d__law_named d__law_classes d__law_fields d__law_right d_law ) : ∀ q ∈ tbV, XcC K q.2 ∧ PySem.W.kitOne K (.ref q.2) (.ref cC_NotNow) = some (vsub_NotNow q.1) := tb_ok T.vx T.vq_NotNow
theorem vt_Tired (T : Facts w.params K mg c_StillError c_Missing c_Trouble ai_Used ai_NoFit ai_Taken ai_NoName ai_Over ai_NotNow ai_Tired ai_TooLate ai_NoText ai_NoDeed ai_NoRow ai_NoChange ai_NoWriter ai_NoTag ai_NoCommit ai_NoTable ai_NoFile ai_NoColumn ai_Clash ai_Lost ai_Crash a__law_deck a__law_draw a__law_any a__law_placed a__law_named a__law_classes a__law_fields a__law_right a_law di_Used di_NoFit di_Taken di_NoName di_Over di_NotNow di_Tired di_TooLate di_NoText di_NoDeed di_NoRow di_NoChange di_NoWriter di_NoTag di_NoCommit di_NoTable di_NoFile di_NoColumn di_Clash di_Lost di_Crash d__law_deck d__law_draw d__law_any d__law_placed d__law_named d__law_classes d__law_fields d__law_right d_law ) : ∀ q ∈ tbV, XcC K q.2 ∧ PySem.W.kitOne K (.ref q.2) (.ref cC_Tired) = some (vsub_Tired q.1) := tb_ok T.vx T.vq_Tired
theorem vt_NoCommit (T : Facts w.params K mg c_StillError c_Missing c_Trouble ai_Used ai_NoFit ai_Taken ai_NoName ai_Over ai_NotNow ai_Tired ai_TooLate ai_NoText ai_NoDeed ai_NoRow ai_NoChange ai_NoWriter ai_NoTag ai_NoCommit ai_NoTable ai_NoFile ai_NoColumn ai_Clash ai_Lost ai_Crash a__law_deck a__law_draw a__law_any a__law_placed a__law_named a__law_classes a__law_fields a__law_right a_law di_Used di_NoFit di_Taken di_NoName di_Over di_NotNow di_Tired di_TooLate di_NoText di_NoDeed di_NoRow di_NoChange di_NoWriter di_NoTag di_NoCommit di_NoTable di_NoFile di_NoColumn di_Clash di_Lost di_Crash d__law_deck d__law_draw d__law_any d__law_placed d__law_named d__law_classes d__law_fields d__law_right d_law ) : ∀ q ∈ tbV, XcC K q.2 ∧ PySem.W.kitOne K (.ref q.2) (.ref cC_NoCommit) = some (vsub_NoCommit q.1) := tb_ok T.vx T.vq_NoCommit
theorem vt_NoTable (T : Facts w.params K mg c_StillError c_Missing c_Trouble ai_Used ai_NoFit ai_Taken ai_NoName ai_Over ai_NotNow ai_Tired ai_TooLate ai_NoText ai_NoDeed ai_NoRow ai_NoChange ai_NoWriter ai_NoTag ai_NoCommit ai_NoTable ai_NoFile ai_NoColumn ai_Clash ai_Lost ai_Crash a__law_deck a__law_draw a__law_any a__law_placed a__law_named a__law_classes a__law_fields a__law_right a_law di_Used di_NoFit di_Taken di_NoName di_Over di_NotNow di_Tired di_TooLate di_NoText di_NoDeed di_NoRow di_NoChange di_NoWriter di_NoTag di_NoCommit di_NoTable di_NoFile di_NoColumn di_Clash di_Lost di_Crash d__law_deck d__law_draw d__law_any d__law_placed d__law_named d__law_classes d__law_fields d__law_right d_law ) : ∀ q ∈ tbV, XcC K q.2 ∧ PySem.W.kitOne K (.ref q.2) (.ref cC_NoTable) = some (vsub_NoTable q.1) := tb_ok T.vx T.vq_NoTable
theorem vt_NoFile (T : Facts w.params K mg c_StillError c_Missing c_Trouble ai_Used ai_NoFit ai_Taken ai_NoName ai_Over ai_NotNow ai_Tired ai_TooLate ai_NoText ai_NoDeed ai_NoRow ai_NoChange ai_NoWriter ai_NoTag ai_NoCommit ai_NoTable ai_NoFile ai_NoColumn ai_Clash ai_Lost ai_Crash a__law_deck a__law_draw a__law_any a__law_placed a__law_named a__law_classes a__law_fields a__law_right a_law di_Used di_NoFit di_Taken di_NoName di_Over di_NotNow di_Tired di_TooLate di_NoText di_NoDeed di_NoRow di_NoChange di_NoWriter di_NoTag di_NoCommit di_NoTable di_NoFile di_NoColumn di_Clash di_Lost di_Crash d__law_deck d__law_draw d__law_any d__law_placed d__law_named d__law_classes d__law_fields d__law_right d_law ) : ∀ q ∈ tbV, XcC K q.2 ∧ PySem.W.kitOne K (.ref q.2) (.ref cC_NoFile) = some (vsub_NoFile q.1) := tb_ok T.vx T.vq_NoFile
theorem vt_NoColumn (T : Facts w.params K mg c_StillError c_Missing c_Trouble ai_Used ai_NoFit ai_Taken ai_NoName ai_Over ai_NotNow ai_Tired ai_TooLate ai_NoText ai_NoDeed ai_NoRow ai_NoChange ai_NoWriter ai_NoTag ai_NoCommit ai_NoTable ai_NoFile ai_NoColumn ai_Clash ai_Lost ai_Crash a__law_deck a__law_draw a__law_any a__law_placed a__law_named a__law_classes a__law_fields a__law_right a_law di_Used di_NoFit di_Taken di_NoName di_Over di_NotNow di_Tired di_TooLate di_NoText di_NoDeed di_NoRow di_NoChange di_NoWriter di_NoTag di_NoCommit di_NoTable di_NoFile di_NoColumn di_Clash di_Lost di_Crash d__law_deck d__law_draw d__law_any d__law_placed d__law_named d__law_classes d__law_fields d__law_right d_law ) : ∀ q ∈ tbV, XcC K q.2 ∧ PySem.W.kitOne K (.ref q.2) (.ref cC_NoColumn) = some (vsub_NoColumn q.1) := tb_ok T.vx T.vq_NoColumn
theorem vt_Lost (T : Facts w.params K mg c_StillError c_Missing c_Trouble ai_Used ai_NoFit ai_Taken ai_NoName ai_Over ai_NotNow ai_Tired ai_TooLate ai_NoText ai_NoDeed ai_NoRow ai_NoChange ai_NoWriter ai_NoTag ai_NoCommit ai_NoTable ai_NoFile ai_NoColumn ai_Clash ai_Lost ai_Crash a__law_deck a__law_draw a__law_any a__law_placed a__law_named a__law_classes a__law_fields a__law_right a_law di_Used di_NoFit di_Taken di_NoName di_Over di_NotNow di_Tired di_TooLate di_NoText di_NoDeed di_NoRow di_NoChange di_NoWriter di_NoTag di_NoCommit di_NoTable di_NoFile di_NoColumn di_Clash di_Lost di_Crash d__law_deck d__law_draw d__law_any d__law_placed d__law_named d__law_classes d__law_fields d__law_right d_law ) : ∀ q ∈ tbV, XcC K q.2 ∧ PySem.W.kitOne K (.ref q.2) (.ref cC_Lost) = some (vsub_Lost q.1) := tb_ok T.vx T.vq_Lost
theorem vt_Crash (T : Facts w.params K mg c_StillError c_Missing c_Trouble ai_Used ai_NoFit ai_Taken ai_NoName ai_Over ai_NotNow ai_Tired ai_TooLate ai_NoText ai_NoDeed ai_NoRow ai_NoChange ai_NoWriter ai_NoTag ai_NoCommit ai_NoTable ai_NoFile ai_NoColumn ai_Clash ai_Lost ai_Crash a__law_deck a__law_draw a__law_any a__law_placed a__law_named a__law_classes a__law_fields a__law_right a_law di_Used di_NoFit di_Taken di_NoName di_Over di_NotNow di_Tired di_TooLate di_NoText di_NoDeed di_NoRow di_NoChange di_NoWriter di_NoTag di_NoCommit di_NoTable di_NoFile di_NoColumn di_Clash di_Lost di_Crash d__law_deck d__law_draw d__law_any d__law_placed d__law_named d__law_classes d__law_fields d__law_right d_law ) : ∀ q ∈ tbV, XcC K q.2 ∧ PySem.W.kitOne K (.ref q.2) (.ref cC_Crash) = some (vsub_Crash q.1) := tb_ok T.vx T.vq_Crash
theorem vt_NoWriter (T : Facts w.params K mg c_StillError c_Missing c_Trouble ai_Used ai_NoFit ai_Taken ai_NoName ai_Over ai_NotNow ai_Tired ai_TooLate ai_NoText ai_NoDeed ai_NoRow ai_NoChange ai_NoWriter ai_NoTag ai_NoCommit ai_NoTable ai_NoFile ai_NoColumn ai_Clash ai_Lost ai_Crash a__law_deck a__law_draw a__law_any a__law_placed a__law_named a__law_classes a__law_fields a__law_right a_law di_Used di_NoFit di_Taken di_NoName di_Over di_NotNow di_Tired di_TooLate di_NoText di_NoDeed di_NoRow di_NoChange di_NoWriter di_NoTag di_NoCommit di_NoTable di_NoFile di_NoColumn di_Clash di_Lost di_Crash d__law_deck d__law_draw d__law_any d__law_placed d__law_named d__law_classes d__law_fields d__law_right d_law ) : ∀ q ∈ tbV, XcC K q.2 ∧ PySem.W.kitOne K (.ref q.2) (.ref cC_NoWriter) = some (vsub_NoWriter q.1) := tb_ok T.vx T.vq_NoWriter
theorem vt_NoTag (T : Facts w.params K mg c_StillError c_Missing c_Trouble ai_Used ai_NoFit ai_Taken ai_NoName ai_Over ai_NotNow ai_Tired ai_TooLate ai_NoText ai_NoDeed ai_NoRow ai_NoChange ai_NoWriter ai_NoTag ai_NoCommit ai_NoTable ai_NoFile ai_NoColumn ai_Clash ai_Lost ai_Crash a__law_deck a__law_draw a__law_any a__law_placed a__law_named a__law_classes a__law_fields a__law_right a_law di_Used di_NoFit di_Taken di_NoName di_Over di_NotNow di_Tired di_TooLate di_NoText di_NoDeed di_NoRow di_NoChange di_NoWriter di_NoTag di_NoCommit di_NoTable di_NoFile di_NoColumn di_Clash di_Lost di_Crash d__law_deck d__law_draw d__law_any d__law_placed d__law_named d__law_classes d__law_fields d__law_right d_law ) : ∀ q ∈ tbV, XcC K q.2 ∧ PySem.W.kitOne K (.ref q.2) (.ref cC_NoTag) = some (vsub_NoTag q.1) := tb_ok T.vx T.vq_NoTag
theorem vt_Trouble (T : Facts w.params K mg c_StillError c_Missing c_Trouble ai_Used ai_NoFit ai_Taken ai_NoName ai_Over ai_NotNow ai_Tired ai_TooLate ai_NoText ai_NoDeed ai_NoRow ai_NoChange ai_NoWriter ai_NoTag ai_NoCommit ai_NoTable ai_NoFile ai_NoColumn ai_Clash ai_Lost ai_Crash a__law_deck a__law_draw a__law_any a__law_placed a__law_named a__law_classes a__law_fields a__law_right a_law di_Used di_NoFit di_Taken di_NoName di_Over di_NotNow di_Tired di_TooLate di_NoText di_NoDeed di_NoRow di_NoChange di_NoWriter di_NoTag di_NoCommit di_NoTable di_NoFile di_NoColumn di_Clash di_Lost di_Crash d__law_deck d__law_draw d__law_any d__law_placed d__law_named d__law_classes d__law_fields d__law_right d_law ) : ∀ q ∈ tbV, XcC K q.2 ∧ PySem.W.kitOne K (.ref q.2) (.ref c_Trouble) = some (vsub_Trouble q.1) := tb_ok T.vx T.vq_Trouble
theorem vt_Missing (T : Facts w.params K mg c_StillError c_Missing c_Trouble ai_Used ai_NoFit ai_Taken ai_NoName ai_Over ai_NotNow ai_Tired ai_TooLate ai_NoText ai_NoDeed ai_NoRow ai_NoChange ai_NoWriter ai_NoTag ai_NoCommit ai_NoTable ai_NoFile ai_NoColumn ai_Clash ai_Lost ai_Crash a__law_deck a__law_draw a__law_any a__law_placed a__law_named a__law_classes a__law_fields a__law_right a_law di_Used di_NoFit di_Taken di_NoName di_Over di_NotNow di_Tired di_TooLate di_NoText di_NoDeed di_NoRow di_NoChange di_NoWriter di_NoTag di_NoCommit di_NoTable di_NoFile di_NoColumn di_Clash di_Lost di_Crash d__law_deck d__law_draw d__law_any d__law_placed d__law_named d__law_classes d__law_fields d__law_right d_law ) : ∀ q ∈ tbV, XcC K q.2 ∧ PySem.W.kitOne K (.ref q.2) (.ref c_Missing) = some (vsub_Missing q.1) := tb_ok T.vx T.vq_Missing
theorem vt_StillError (T : Facts w.params K mg c_StillError c_Missing c_Trouble ai_Used ai_NoFit ai_Taken ai_NoName ai_Over ai_NotNow ai_Tired ai_TooLate ai_NoText ai_NoDeed ai_NoRow ai_NoChange ai_NoWriter ai_NoTag ai_NoCommit ai_NoTable ai_NoFile ai_NoColumn ai_Clash ai_Lost ai_Crash a__law_deck a__law_draw a__law_any a__law_placed a__law_named a__law_classes a__law_fields a__law_right a_law di_Used di_NoFit di_Taken di_NoName di_Over di_NotNow di_Tired di_TooLate di_NoText di_NoDeed di_NoRow di_NoChange di_NoWriter di_NoTag di_NoCommit di_NoTable di_NoFile di_NoColumn di_Clash di_Lost di_Crash d__law_deck d__law_draw d__law_any d__law_placed d__law_named d__law_classes d__law_fields d__law_right d_law ) : ∀ q ∈ tbV, XcC K q.2 ∧ PySem.W.kitOne K (.ref q.2) (.ref c_StillError) = some (vsub_StillError q.1) := tb_ok T.vx T.vq_StillError
theorem vt_ArithmeticError (T : Facts w.params K mg c_StillError c_Missing c_Trouble ai_Used ai_NoFit ai_Taken ai_NoName ai_Over ai_NotNow ai_Tired ai_TooLate ai_NoText ai_NoDeed ai_NoRow ai_NoChange ai_NoWriter ai_NoTag ai_NoCommit ai_NoTable ai_NoFile ai_NoColumn ai_Clash ai_Lost ai_Crash a__law_deck a__law_draw a__law_any a__law_placed a__law_named a__law_classes a__law_fields a__law_right a_law di_Used di_NoFit di_Taken di_NoName di_Over di_NotNow di_Tired di_TooLate di_NoText di_NoDeed di_NoRow di_NoChange di_NoWriter di_NoTag di_NoCommit di_NoTable di_NoFile di_NoColumn di_Clash di_Lost di_Crash d__law_deck d__law_draw d__law_any d__law_placed d__law_named d__law_classes d__law_fields d__law_right d_law ) : ∀ q ∈ tbV, XcC K q.2 ∧ PySem.W.kitOne K (.ref q.2) (.type "ArithmeticError") = some (vsub_ArithmeticError q.1) := tb_ok T.vx T.vq_ArithmeticError
theorem vt_KeyError (T : Facts w.params K mg c_StillError c_Missing c_Trouble ai_Used ai_NoFit ai_Taken ai_NoName ai_Over ai_NotNow ai_Tired ai_TooLate ai_NoText ai_NoDeed ai_NoRow ai_NoChange ai_NoWriter ai_NoTag ai_NoCommit ai_NoTable ai_NoFile ai_NoColumn ai_Clash ai_Lost ai_Crash a__law_deck a__law_draw a__law_any a__law_placed a__law_named a__law_classes a__law_fields a__law_right a_law di_Used di_NoFit di_Taken di_NoName di_Over di_NotNow di_Tired di_TooLate di_NoText di_NoDeed di_NoRow di_NoChange di_NoWriter di_NoTag di_NoCommit di_NoTable di_NoFile di_NoColumn di_Clash di_Lost di_Crash d__law_deck d__law_draw d__law_any d__law_placed d__law_named d__law_classes d__law_fields d__law_right d_law ) : ∀ q ∈ tbV, XcC K q.2 ∧ PySem.W.kitOne K (.ref q.2) (.type "KeyError") = some (vsub_KeyError q.1) := tb_ok T.vx T.vq_KeyError
theorem vt_ValueError (T : Facts w.params K mg c_StillError c_Missing c_Trouble ai_Used ai_NoFit ai_Taken ai_NoName ai_Over ai_NotNow ai_Tired ai_TooLate ai_NoText ai_NoDeed ai_NoRow ai_NoChange ai_NoWriter ai_NoTag ai_NoCommit ai_NoTable ai_NoFile ai_NoColumn ai_Clash ai_Lost ai_Crash a__law_deck a__law_draw a__law_any a__law_placed a__law_named a__law_classes a__law_fields a__law_right a_law di_Used di_NoFit di_Taken di_NoName di_Over di_NotNow di_Tired di_TooLate di_NoText di_NoDeed di_NoRow di_NoChange di_NoWriter di_NoTag di_NoCommit di_NoTable di_NoFile di_NoColumn di_Clash di_Lost di_Crash d__law_deck d__law_draw d__law_any d__law_placed d__law_named d__law_classes d__law_fields d__law_right d_law ) : ∀ q ∈ tbV, XcC K q.2 ∧ PySem.W.kitOne K (.ref q.2) (.type "ValueError") = some (vsub_ValueError q.1) := tb_ok T.vx T.vq_ValueError
theorem vf_deed (T : Facts w.params K mg c_StillError c_Missing c_Trouble ai_Used ai_NoFit ai_Taken ai_NoName ai_Over ai_NotNow ai_Tired ai_TooLate ai_NoText ai_NoDeed ai_NoRow ai_NoChange ai_NoWriter ai_NoTag ai_NoCommit ai_NoTable ai_NoFile ai_NoColumn ai_Clash ai_Lost ai_Crash a__law_deck a__law_draw a__law_any a__law_placed a__law_named a__law_classes a__law_fields a__law_right a_law di_Used di_NoFit di_Taken di_NoName di_Over di_NotNow di_Tired di_TooLate di_NoText di_NoDeed di_NoRow di_NoChange di_NoWriter di_NoTag di_NoCommit di_NoTable di_NoFile di_NoColumn di_Clash di_Lost di_Crash d__law_deck d__law_draw d__law_any d__law_placed d__law_named d__law_classes d__law_fields d__law_right d_law ) : ∀ q ∈ tbF_deed, XcC K q.2 ∧ PySem.W.findIn K (.ref q.2) "deed" = some none := tf_ok T.vf_deed
theorem vf_place (T : Facts w.params K mg c_StillError c_Missing c_Trouble ai_Used ai_NoFit ai_Taken ai_NoName ai_Over ai_NotNow ai_Tired ai_TooLate ai_NoText ai_NoDeed ai_NoRow ai_NoChange ai_NoWriter ai_NoTag ai_NoCommit ai_NoTable ai_NoFile ai_NoColumn ai_Clash ai_Lost ai_Crash a__law_deck a__law_draw a__law_any a__law_placed a__law_named a__law_classes a__law_fields a__law_right a_law di_Used di_NoFit di_Taken di_NoName di_Over di_NotNow di_Tired di_TooLate di_NoText di_NoDeed di_NoRow di_NoChange di_NoWriter di_NoTag di_NoCommit di_NoTable di_NoFile di_NoColumn di_Clash di_Lost di_Crash d__law_deck d__law_draw d__law_any d__law_placed d__law_named d__law_classes d__law_fields d__law_right d_law ) : ∀ q ∈ tbF_place, XcC K q.2 ∧ PySem.W.findIn K (.ref q.2) "place" = some none := tf_ok T.vf_place
theorem vf_name (T : Facts w.params K mg c_StillError c_Missing c_Trouble ai_Used ai_NoFit ai_Taken ai_NoName ai_Over ai_NotNow ai_Tired ai_TooLate ai_NoText ai_NoDeed ai_NoRow ai_NoChange ai_NoWriter ai_NoTag ai_NoCommit ai_NoTable ai_NoFile ai_NoColumn ai_Clash ai_Lost ai_Crash a__law_deck a__law_draw a__law_any a__law_placed a__law_named a__law_classes a__law_fields a__law_right a_law di_Used di_NoFit di_Taken di_NoName di_Over di_NotNow di_Tired di_TooLate di_NoText di_NoDeed di_NoRow di_NoChange di_NoWriter di_NoTag di_NoCommit di_NoTable di_NoFile di_NoColumn di_Clash di_Lost di_Crash d__law_deck d__law_draw d__law_any d__law_placed d__law_named d__law_classes d__law_fields d__law_right d_law ) : ∀ q ∈ tbF_name, XcC K q.2 ∧ PySem.W.findIn K (.ref q.2) "name" = some none := tf_ok T.vf_name
theorem vf_until (T : Facts w.params K mg c_StillError c_Missing c_Trouble ai_Used ai_NoFit ai_Taken ai_NoName ai_Over ai_NotNow ai_Tired ai_TooLate ai_NoText ai_NoDeed ai_NoRow ai_NoChange ai_NoWriter ai_NoTag ai_NoCommit ai_NoTable ai_NoFile ai_NoColumn ai_Clash ai_Lost ai_Crash a__law_deck a__law_draw a__law_any a__law_placed a__law_named a__law_classes a__law_fields a__law_right a_law di_Used di_NoFit di_Taken di_NoName di_Over di_NotNow di_Tired di_TooLate di_NoText di_NoDeed di_NoRow di_NoChange di_NoWriter di_NoTag di_NoCommit di_NoTable di_NoFile di_NoColumn di_Clash di_Lost di_Crash d__law_deck d__law_draw d__law_any d__law_placed d__law_named d__law_classes d__law_fields d__law_right d_law ) : ∀ q ∈ tbF_until, XcC K q.2 ∧ PySem.W.findIn K (.ref q.2) "until" = some none := tf_ok T.vf_until
theorem vf_state (T : Facts w.params K mg c_StillError c_Missing c_Trouble ai_Used ai_NoFit ai_Taken ai_NoName ai_Over ai_NotNow ai_Tired ai_TooLate ai_NoText ai_NoDeed ai_NoRow ai_NoChange ai_NoWriter ai_NoTag ai_NoCommit ai_NoTable ai_NoFile ai_NoColumn ai_Clash ai_Lost ai_Crash a__law_deck a__law_draw a__law_any a__law_placed a__law_named a__law_classes a__law_fields a__law_right a_law di_Used di_NoFit di_Taken di_NoName di_Over di_NotNow di_Tired di_TooLate di_NoText di_NoDeed di_NoRow di_NoChange di_NoWriter di_NoTag di_NoCommit di_NoTable di_NoFile di_NoColumn di_Clash di_Lost di_Crash d__law_deck d__law_draw d__law_any d__law_placed d__law_named d__law_classes d__law_fields d__law_right d_law ) : ∀ q ∈ tbF_state, XcC K q.2 ∧ PySem.W.findIn K (.ref q.2) "state" = some none := tf_ok T.vf_state
theorem vf_tries (T : Facts w.params K mg c_StillError c_Missing c_Trouble ai_Used ai_NoFit ai_Taken ai_NoName ai_Over ai_NotNow ai_Tired ai_TooLate ai_NoText ai_NoDeed ai_NoRow ai_NoChange ai_NoWriter ai_NoTag ai_NoCommit ai_NoTable ai_NoFile ai_NoColumn ai_Clash ai_Lost ai_Crash a__law_deck a__law_draw a__law_any a__law_placed a__law_named a__law_classes a__law_fields a__law_right a_law di_Used di_NoFit di_Taken di_NoName di_Over di_NotNow di_Tired di_TooLate di_NoText di_NoDeed di_NoRow di_NoChange di_NoWriter di_NoTag di_NoCommit di_NoTable di_NoFile di_NoColumn di_Clash di_Lost di_Crash d__law_deck d__law_draw d__law_any d__law_placed d__law_named d__law_classes d__law_fields d__law_right d_law ) : ∀ q ∈ tbF_tries, XcC K q.2 ∧ PySem.W.findIn K (.ref q.2) "tries" = some none := tf_ok T.vf_tries
theorem vf_base (T : Facts w.params K mg c_StillError c_Missing c_Trouble ai_Used ai_NoFit ai_Taken ai_NoName ai_Over ai_NotNow ai_Tired ai_TooLate ai_NoText ai_NoDeed ai_NoRow ai_NoChange ai_NoWriter ai_NoTag ai_NoCommit ai_NoTable ai_NoFile ai_NoColumn ai_Clash ai_Lost ai_Crash a__law_deck a__law_draw a__law_any a__law_placed a__law_named a__law_classes a__law_fields a__law_right a_law di_Used di_NoFit di_Taken di_NoName di_Over di_NotNow di_Tired di_TooLate di_NoText di_NoDeed di_NoRow di_NoChange di_NoWriter di_NoTag di_NoCommit di_NoTable di_NoFile di_NoColumn di_Clash di_Lost di_Crash d__law_deck d__law_draw d__law_any d__law_placed d__law_named d__law_classes d__law_fields d__law_right d_law ) : ∀ q ∈ tbF_base, XcC K q.2 ∧ PySem.W.findIn K (.ref q.2) "base" = some none := tf_ok T.vf_base
theorem vf_row (T : Facts w.params K mg c_StillError c_Missing c_Trouble ai_Used ai_NoFit ai_Taken ai_NoName ai_Over ai_NotNow ai_Tired ai_TooLate ai_NoText ai_NoDeed ai_NoRow ai_NoChange ai_NoWriter ai_NoTag ai_NoCommit ai_NoTable ai_NoFile ai_NoColumn ai_Clash ai_Lost ai_Crash a__law_deck a__law_draw a__law_any a__law_placed a__law_named a__law_classes a__law_fields a__law_right a_law di_Used di_NoFit di_Taken di_NoName di_Over di_NotNow di_Tired di_TooLate di_NoText di_NoDeed di_NoRow di_NoChange di_NoWriter di_NoTag di_NoCommit di_NoTable di_NoFile di_NoColumn di_Clash di_Lost di_Crash d__law_deck d__law_draw d__law_any d__law_placed d__law_named d__law_classes d__law_fields d__law_right d_law ) : ∀ q ∈ tbF_row, XcC K q.2 ∧ PySem.W.findIn K (.ref q.2) "row" = some none := tf_ok T.vf_row
theorem vf_file (T : Facts w.params K mg c_StillError c_Missing c_Trouble ai_Used ai_NoFit ai_Taken ai_NoName ai_Over ai_NotNow ai_Tired ai_TooLate ai_NoText ai_NoDeed ai_NoRow ai_NoChange ai_NoWriter ai_NoTag ai_NoCommit ai_NoTable ai_NoFile ai_NoColumn ai_Clash ai_Lost ai_Crash a__law_deck a__law_draw a__law_any a__law_placed a__law_named a__law_classes a__law_fields a__law_right a_law di_Used di_NoFit di_Taken di_NoName di_Over di_NotNow di_Tired di_TooLate di_NoText di_NoDeed di_NoRow di_NoChange di_NoWriter di_NoTag di_NoCommit di_NoTable di_NoFile di_NoColumn di_Clash di_Lost di_Crash d__law_deck d__law_draw d__law_any d__law_placed d__law_named d__law_classes d__law_fields d__law_right d_law ) : ∀ q ∈ tbF_file, XcC K q.2 ∧ PySem.W.findIn K (.ref q.2) "file" = some none := tf_ok T.vf_file
theorem vf_word (T : Facts w.params K mg c_StillError c_Missing c_Trouble ai_Used ai_NoFit ai_Taken ai_NoName ai_Over ai_NotNow ai_Tired ai_TooLate ai_NoText ai_NoDeed ai_NoRow ai_NoChange ai_NoWriter ai_NoTag ai_NoCommit ai_NoTable ai_NoFile ai_NoColumn ai_Clash ai_Lost ai_Crash a__law_deck a__law_draw a__law_any a__law_placed a__law_named a__law_classes a__law_fields a__law_right a_law di_Used di_NoFit di_Taken di_NoName di_Over di_NotNow di_Tired di_TooLate di_NoText di_NoDeed di_NoRow di_NoChange di_NoWriter di_NoTag di_NoCommit di_NoTable di_NoFile di_NoColumn di_Clash di_Lost di_Crash d__law_deck d__law_draw d__law_any d__law_placed d__law_named d__law_classes d__law_fields d__law_right d_law ) : ∀ q ∈ tbF_word, XcC K q.2 ∧ PySem.W.findIn K (.ref q.2) "word" = some none := tf_ok T.vf_word
theorem vf_number (T : Facts w.params K mg c_StillError c_Missing c_Trouble ai_Used ai_NoFit ai_Taken ai_NoName ai_Over ai_NotNow ai_Tired ai_TooLate ai_NoText ai_NoDeed ai_NoRow ai_NoChange ai_NoWriter ai_NoTag ai_NoCommit ai_NoTable ai_NoFile ai_NoColumn ai_Clash ai_Lost ai_Crash a__law_deck a__law_draw a__law_any a__law_placed a__law_named a__law_classes a__law_fields a__law_right a_law di_Used di_NoFit di_Taken di_NoName di_Over di_NotNow di_Tired di_TooLate di_NoText di_NoDeed di_NoRow di_NoChange di_NoWriter di_NoTag di_NoCommit di_NoTable di_NoFile di_NoColumn di_Clash di_Lost di_Crash d__law_deck d__law_draw d__law_any d__law_placed d__law_named d__law_classes d__law_fields d__law_right d_law ) : ∀ q ∈ tbF_number, XcC K q.2 ∧ PySem.W.findIn K (.ref q.2) "number" = some none := tf_ok T.vf_number
theorem vf_step (T : Facts w.params K mg c_StillError c_Missing c_Trouble ai_Used ai_NoFit ai_Taken ai_NoName ai_Over ai_NotNow ai_Tired ai_TooLate ai_NoText ai_NoDeed ai_NoRow ai_NoChange ai_NoWriter ai_NoTag ai_NoCommit ai_NoTable ai_NoFile ai_NoColumn ai_Clash ai_Lost ai_Crash a__law_deck a__law_draw a__law_any a__law_placed a__law_named a__law_classes a__law_fields a__law_right a_law di_Used di_NoFit di_Taken di_NoName di_Over di_NotNow di_Tired di_TooLate di_NoText di_NoDeed di_NoRow di_NoChange di_NoWriter di_NoTag di_NoCommit di_NoTable di_NoFile di_NoColumn di_Clash di_Lost di_Crash d__law_deck d__law_draw d__law_any d__law_placed d__law_named d__law_classes d__law_fields d__law_right d_law ) : ∀ q ∈ tbF_step, XcC K q.2 ∧ PySem.W.findIn K (.ref q.2) "step" = some none := tf_ok T.vf_step
theorem kp__law_deck (T : Facts w.params K mg c_StillError c_Missing c_Trouble ai_Used ai_NoFit ai_Taken ai_NoName ai_Over ai_NotNow ai_Tired ai_TooLate ai_NoText ai_NoDeed ai_NoRow ai_NoChange ai_NoWriter ai_NoTag ai_NoCommit ai_NoTable ai_NoFile ai_NoColumn ai_Clash ai_Lost ai_Crash a__law_deck a__law_draw a__law_any a__law_placed a__law_named a__law_classes a__law_fields a__law_right a_law di_Used di_NoFit di_Taken di_NoName di_Over di_NotNow di_Tired di_TooLate di_NoText di_NoDeed di_NoRow di_NoChange di_NoWriter di_NoTag di_NoCommit di_NoTable di_NoFile di_NoColumn di_Clash di_Lost di_Crash d__law_deck d__law_draw d__law_any d__law_placed d__law_named d__law_classes d__law_fields d__law_right d_law ) : KBinds K d__law_deck ["_law_script"] [] (fun us _ => us) (fun vs _ => vs) := Fun.kpos T.F__law_deck fun _ _ _ _ _ _ us hl => match us, hl with | [_], _ => rfl
theorem ok__law_deck (T : Facts w.params K mg c_StillError c_Missing c_Trouble ai_Used ai_NoFit ai_Taken ai_NoName ai_Over ai_NotNow ai_Tired ai_TooLate ai_NoText ai_NoDeed ai_NoRow ai_NoChange ai_NoWriter ai_NoTag ai_NoCommit ai_NoTable ai_NoFile ai_NoColumn ai_Clash ai_Lost ai_Crash a__law_deck a__law_draw a__law_any a__law_placed a__law_named a__law_classes a__law_fields a__law_right a_law di_Used di_NoFit di_Taken di_NoName di_Over di_NotNow di_Tired di_TooLate di_NoText di_NoDeed di_NoRow di_NoChange di_NoWriter di_NoTag di_NoCommit di_NoTable di_NoFile di_NoColumn di_Clash di_Lost di_Crash d__law_deck d__law_draw d__law_any d__law_placed d__law_named d__law_classes d__law_fields d__law_right d_law ) : FnG P w K mg base CX0 1 a__law_deck d__law_deck ["_law_script"] (spD K 1 m__law_deck) :=
  fnd_of (N := NN__law_deck) (ps := ["_law_script"]) (m := b__law_deck) T.F__law_deck sc__law_deck fun cdv A outer s H E hg hr =>
    (dss_one (ds_ret (de_disM (dp_cons de_str (de_callTy call_list_of cd_listM (by rfl) T.n_list bt_list (by decide) (by decide) (da_cons (de_slice (de_var (i := 0) rfl vi__law_deck_0 nd_0 nc_0) do_none (do_some de_int)) da_nil (by rfl)) (by rfl) (by rfl)) (dp_cons de_str de_int (dp_cons de_str (de_op op_mod opd_mod (de_op op_addA opd_add (de_callB (cr_sum rfl) cd_sum (by rfl) T.n_sum bt_sum (by decide) (by decide) (da_cons (de_slice (de_var (i := 0) rfl vi__law_deck_0 nd_0 nc_0) do_none (do_some de_int)) da_nil (by rfl)) (by rfl) (by rfl)) (de_op op_mulA opd_mulA de_int (de_callB call_len cd_len (by rfl) T.n_len bt_len (by decide) (by decide) (da_cons (de_slice (de_var (i := 0) rfl vi__law_deck_0 nd_0 nc_0) do_none (do_some de_int)) da_nil (by rfl)) (by rfl) (by rfl)))) de_int) dp_nil))) (by rfl) (by rfl) (by simp) (by decide))))
theorem kp__law_draw (T : Facts w.params K mg c_StillError c_Missing c_Trouble ai_Used ai_NoFit ai_Taken ai_NoName ai_Over ai_NotNow ai_Tired ai_TooLate ai_NoText ai_NoDeed ai_NoRow ai_NoChange ai_NoWriter ai_NoTag ai_NoCommit ai_NoTable ai_NoFile ai_NoColumn ai_Clash ai_Lost ai_Crash a__law_deck a__law_draw a__law_any a__law_placed a__law_named a__law_classes a__law_fields a__law_right a_law di_Used di_NoFit di_Taken di_NoName di_Over di_NotNow di_Tired di_TooLate di_NoText di_NoDeed di_NoRow di_NoChange di_NoWriter di_NoTag di_NoCommit di_NoTable di_NoFile di_NoColumn di_Clash di_Lost di_Crash d__law_deck d__law_draw d__law_any d__law_placed d__law_named d__law_classes d__law_fields d__law_right d_law ) : KBinds K d__law_draw ["_law_deck_here", "_law_most"] [] (fun us _ => us) (fun vs _ => vs) := Fun.kpos T.F__law_draw fun _ _ _ _ _ _ us hl => match us, hl with | [_, _], _ => rfl
theorem ok__law_draw (T : Facts w.params K mg c_StillError c_Missing c_Trouble ai_Used ai_NoFit ai_Taken ai_NoName ai_Over ai_NotNow ai_Tired ai_TooLate ai_NoText ai_NoDeed ai_NoRow ai_NoChange ai_NoWriter ai_NoTag ai_NoCommit ai_NoTable ai_NoFile ai_NoColumn ai_Clash ai_Lost ai_Crash a__law_deck a__law_draw a__law_any a__law_placed a__law_named a__law_classes a__law_fields a__law_right a_law di_Used di_NoFit di_Taken di_NoName di_Over di_NotNow di_Tired di_TooLate di_NoText di_NoDeed di_NoRow di_NoChange di_NoWriter di_NoTag di_NoCommit di_NoTable di_NoFile di_NoColumn di_Clash di_Lost di_Crash d__law_deck d__law_draw d__law_any d__law_placed d__law_named d__law_classes d__law_fields d__law_right d_law ) : FnG P w K mg base CX0 1 a__law_draw d__law_draw ["_law_deck_here", "_law_most"] (spD K 2 m__law_draw) :=
  fnd_of (N := NN__law_draw) (ps := ["_law_deck_here", "_law_most"]) (m := b__law_draw) T.F__law_draw sc__law_draw fun cdv A outer s H E hg hr =>
    (dss_cons (ds_asg (de_op op_addA opd_add (de_dget (hu1 hr) (de_var (i := 0) rfl vi__law_draw_0 nd_1 nc_1) de_str (fun _ _ => rfl)) de_int) (dg_dix (hu1 hr) (de_var (i := 0) rfl vi__law_draw_0 nd_1 nc_1) de_str (by intro _; rfl)) (by rfl) (by rfl) (by rfl))
    (dss_cons (ds_set (i := 2) sc__law_draw.nd rfl lo__law_draw_2 (.inl rfl) (de_dget (hu1 hr) (de_var (i := 0) rfl vi__law_draw_0 nd_1 nc_1) de_str (fun _ _ => rfl)) (by rfl))
    (dss_cons (ds_if (dt_cmp (op_neA hr.units) opd_ne (de_dget (hu1 hr) (de_var (i := 0) rfl vi__law_draw_0 nd_1 nc_1) de_str (fun _ _ => rfl)) (de_lst da_nil) (nomark _)) (dss_cons (ds_set (i := 2) sc__law_draw.nd rfl lo__law_draw_2 (.inl rfl) (de_bm PySem.F.plainAttrs_list PySem.F.slot_list_pop PySem.F.type_list_pop mt_popAt md_popAt (de_dget (hu1 hr) (de_var (i := 0) rfl vi__law_draw_0 nd_1 nc_1) de_str (fun _ _ => rfl)) (da_cons de_int da_nil (by rfl)) (by rfl) (by rfl) (by rfl) (by rfl) (by rfl)) (by rfl))
    (dss_one (ds_if (dt_cmp op_geA opd_cmp (de_var (i := 2) rfl vi__law_draw_2 nd_2 nc_2) (de_op op_pow opd_pow de_int de_int) (nomark _)) (dss_cons (ds_expr (de_bm PySem.F.plainAttrs_list PySem.F.slot_list_insert PySem.F.type_list_insert mt_insert md_insert (de_dget (hu1 hr) (de_var (i := 0) rfl vi__law_draw_0 nd_1 nc_1) de_str (fun _ _ => rfl)) (da_cons de_int (da_cons (de_op op_fdivW opd_div (de_var (i := 2) rfl vi__law_draw_2 nd_2 nc_2) (de_var (i := 1) rfl vi__law_draw_1 nd_3 nc_3)) da_nil (by rfl)) (by rfl)) (by rfl) (by rfl) (by rfl) (by rfl) (by rfl)) (by rfl))
    (dss_one (ds_ret (de_op op_mod opd_mod (de_var (i := 2) rfl vi__law_draw_2 nd_2 nc_2) (de_var (i := 1) rfl vi__law_draw_1 nd_3 nc_3))))) dss_nil))) dss_nil)
    (dss_cons (ds_set (i := 3) sc__law_draw.nd rfl lo__law_draw_3 (.inl rfl) (de_op op_mod opd_mod (de_op op_mulA opd_mulA (de_op op_addA opd_add (de_op op_addA opd_add (de_op op_mod opd_mod (de_var (i := 2) rfl vi__law_draw_2 nd_2 nc_2) de_int) (de_op op_mulA opd_mulA de_int (de_dget (hu1 hr) (de_var (i := 0) rfl vi__law_draw_0 nd_1 nc_1) de_str (fun _ _ => rfl)))) de_int) de_int) de_int) (by rfl))
    (dss_cons (ds_asg (de_op op_mod opd_mod (de_op op_addA opd_add (de_op op_mulA opd_mulA (de_dget (hu1 hr) (de_var (i := 0) rfl vi__law_draw_0 nd_1 nc_1) de_str (fun _ _ => rfl)) de_int) (de_var (i := 3) rfl vi__law_draw_3 nd_4 nc_4)) de_int) (dg_dix (hu1 hr) (de_var (i := 0) rfl vi__law_draw_0 nd_1 nc_1) de_str (by intro _; rfl)) (by rfl) (by rfl) (by rfl))
    (dss_cons (ds_set (i := 3) sc__law_draw.nd rfl lo__law_draw_3 (.inl rfl) (de_op op_mod opd_mod (de_op op_mulA opd_mulA (de_var (i := 3) rfl vi__law_draw_3 nd_4 nc_4) (de_op op_addA opd_add (de_var (i := 3) rfl vi__law_draw_3 nd_4 nc_4) de_int)) de_int) (by rfl))
    (dss_one (ds_ret (de_op op_mod opd_mod (de_op op_addA opd_add (de_op op_fdivW opd_div (de_var (i := 3) rfl vi__law_draw_3 nd_4 nc_4) de_int) (de_op op_fdivW opd_div (de_op op_mod opd_mod (de_op op_mulA opd_mulA (de_var (i := 3) rfl vi__law_draw_3 nd_4 nc_4) de_int) de_int) de_int)) (de_var (i := 1) rfl vi__law_draw_1 nd_3 nc_3))))))))))
theorem kp__law_any (T : Facts w.params K mg c_StillError c_Missing c_Trouble ai_Used ai_NoFit ai_Taken ai_NoName ai_Over ai_NotNow ai_Tired ai_TooLate ai_NoText ai_NoDeed ai_NoRow ai_NoChange ai_NoWriter ai_NoTag ai_NoCommit ai_NoTable ai_NoFile ai_NoColumn ai_Clash ai_Lost ai_Crash a__law_deck a__law_draw a__law_any a__law_placed a__law_named a__law_classes a__law_fields a__law_right a_law di_Used di_NoFit di_Taken di_NoName di_Over di_NotNow di_Tired di_TooLate di_NoText di_NoDeed di_NoRow di_NoChange di_NoWriter di_NoTag di_NoCommit di_NoTable di_NoFile di_NoColumn di_Clash di_Lost di_Crash d__law_deck d__law_draw d__law_any d__law_placed d__law_named d__law_classes d__law_fields d__law_right d_law ) : KBinds K d__law_any ["_law_deck_here", "_law_deep"] [] (fun us _ => us) (fun vs _ => vs) := Fun.kpos T.F__law_any fun _ _ _ _ _ _ us hl => match us, hl with | [_, _], _ => rfl
theorem okr__law_any (T : Facts w.params K mg c_StillError c_Missing c_Trouble ai_Used ai_NoFit ai_Taken ai_NoName ai_Over ai_NotNow ai_Tired ai_TooLate ai_NoText ai_NoDeed ai_NoRow ai_NoChange ai_NoWriter ai_NoTag ai_NoCommit ai_NoTable ai_NoFile ai_NoColumn ai_Clash ai_Lost ai_Crash a__law_deck a__law_draw a__law_any a__law_placed a__law_named a__law_classes a__law_fields a__law_right a_law di_Used di_NoFit di_Taken di_NoName di_Over di_NotNow di_Tired di_TooLate di_NoText di_NoDeed di_NoRow di_NoChange di_NoWriter di_NoTag di_NoCommit di_NoTable di_NoFile di_NoColumn di_Clash di_Lost di_Crash d__law_deck d__law_draw d__law_any d__law_placed d__law_named d__law_classes d__law_fields d__law_right d_law ) : ∀ j : Nat, FnG P w K mg base CX0 (1 + j) a__law_any d__law_any ["_law_deck_here", "_law_deep"] (spD K 2 (mm__law_any j))
  | 0 => fng_bad
  | j + 1 => fnd_of (N := NN__law_any) (ps := ["_law_deck_here", "_law_deep"]) (m := b__law_any (mm__law_any j)) T.F__law_any sc__law_any fun cdv A outer s H E hg hr =>
    (dss_cons (ds_set (i := 2) sc__law_any.nd rfl lo__law_any_2 (.inl rfl) (de_call (ok__law_draw T) hg (hr.mono (by exact Nat.le_trans (m := 1) (by decide) (Nat.le_add_right _ j))) (by rfl) T.g__law_draw T.F__law_draw.kp (kp__law_draw T) nd_5 (da_cons (de_var (i := 0) rfl vi__law_any_0 nd_1 nc_1) (da_cons (de_ix ix_seq opd_ix (de_lst (da_cons de_int (da_cons de_int da_nil (by rfl)) (by rfl))) (de_callTy call_intA cd_intA (by rfl) T.n_int bt_int (by decide) (by decide) (da_cons (de_cmp op_gtA opd_cmp (de_var (i := 1) rfl vi__law_any_1 nd_6 nc_6) de_int (nomark _)) da_nil (by rfl)) (by rfl) (by rfl)) (fun _ _ => rfl)) da_nil (by rfl)) (by rfl)) (by rfl) (by rfl)) (by rfl))
    (dss_cons (ds_if (dt_cmp op_ltA opd_cmp (de_var (i := 2) rfl vi__law_any_2 nd_7 nc_7) de_int (nomark _)) (dss_one (ds_ret (de_ix ix_seq opd_ix (de_lst (da_cons de_non (da_cons de_bl (da_cons de_bl (da_cons (de_op op_sub opd_sub de_int de_int) (da_cons (de_op op_pow opd_pow de_int de_int) (da_cons de_str (da_cons de_str (da_cons (de_op op_addA opd_add de_int (de_call (ok__law_draw T) hg (hr.mono (by exact Nat.le_trans (m := 1) (by decide) (Nat.le_add_right _ j))) (by rfl) T.g__law_draw T.F__law_draw.kp (kp__law_draw T) nd_5 (da_cons (de_var (i := 0) rfl vi__law_any_0 nd_1 nc_1) (da_cons de_int da_nil (by rfl)) (by rfl)) (by rfl) (by rfl))) da_nil (by rfl)) (by rfl)) (by rfl)) (by rfl)) (by rfl)) (by rfl)) (by rfl)) (by rfl))) (de_var (i := 2) rfl vi__law_any_2 nd_7 nc_7) (fun _ _ => rfl)))) dss_nil)
    (dss_cons (ds_setLc (i := 3) (ts := [4]) (own := [("_law_k", 4)]) rfl sc__law_any.nd rfl (ll__law_any_3) (sw_true rfl ll__law_any_3 rfl (by decide +kernel)) (di_range1 (by rfl) T.n_range (da_cons (de_call (ok__law_draw T) hg (hr.mono (by exact Nat.le_trans (m := 1) (by decide) (Nat.le_add_right _ j))) (by rfl) T.g__law_draw T.F__law_draw.kp (kp__law_draw T) nd_5 (da_cons (de_var (i := 0) rfl vi__law_any_0 nd_1 nc_1) (da_cons de_int da_nil (by rfl)) (by rfl)) (by rfl) (by rfl)) da_nil (by rfl)) (by rfl)) (blkOk_by (own := [("_law_k", 4)]) (N := NN__law_any) (sc := defScope s__law_any) (by decide +kernel)) (by decide) (fun _ _ _ _ _ => (dg_name (i := 4) sc__law_any.nd rfl (.inl rfl) (.inr rfl))) (fun _ _ _ _ _ => dts_nil) (fun _ _ _ _ _ => (de_call (okr__law_any T j) hg hr (by rfl) T.g__law_any T.F__law_any.kp (kp__law_any T) nd_8 (da_cons (de_varB (i := 0) rfl (.inr (by decide +kernel)) nd_1 nc_1) (da_cons (de_op op_sub opd_sub (de_varB (i := 1) rfl (.inr (by decide +kernel)) nd_6 nc_6) de_int) da_nil (by rfl)) (by rfl)) (by rfl) (by rfl))) (by intro _; rfl))
    (dss_one (ds_ret (de_ix ix_seq opd_ix (de_lst (da_cons (de_callTy call_tuple_of cd_tuple (by rfl) T.n_tuple bt_tuple (by decide) (by decide) (da_cons (de_var (i := 3) rfl vi__law_any_3 nd_9 nc_9) da_nil (by rfl)) (by rfl) (by rfl)) (da_cons (de_var (i := 3) rfl vi__law_any_3 nd_9 nc_9) (da_cons (de_callTy (call_dictP rfl) cd_dict (by rfl) T.n_dict bt_dict (by decide) (by decide) (da_cons (de_lzip rfl (de_var (i := 3) rfl vi__law_any_3 nd_9 nc_9) (by rfl) T.n_list (by rfl) T.n_zip (by rfl) (by rfl) (by rfl) (by rfl)) da_nil (by rfl)) (by rfl) (by rfl)) (da_cons (de_tup (da_cons (de_var (i := 3) rfl vi__law_any_3 nd_9 nc_9) (da_cons (de_tup da_nil) da_nil (by rfl)) (by rfl))) da_nil (by rfl)) (by rfl)) (by rfl)) (by rfl))) (de_op op_sub opd_sub (de_var (i := 2) rfl vi__law_any_2 nd_7 nc_7) de_int) (fun _ _ => rfl)))))))
theorem ok__law_any (T : Facts w.params K mg c_StillError c_Missing c_Trouble ai_Used ai_NoFit ai_Taken ai_NoName ai_Over ai_NotNow ai_Tired ai_TooLate ai_NoText ai_NoDeed ai_NoRow ai_NoChange ai_NoWriter ai_NoTag ai_NoCommit ai_NoTable ai_NoFile ai_NoColumn ai_Clash ai_Lost ai_Crash a__law_deck a__law_draw a__law_any a__law_placed a__law_named a__law_classes a__law_fields a__law_right a_law di_Used di_NoFit di_Taken di_NoName di_Over di_NotNow di_Tired di_TooLate di_NoText di_NoDeed di_NoRow di_NoChange di_NoWriter di_NoTag di_NoCommit di_NoTable di_NoFile di_NoColumn di_Clash di_Lost di_Crash d__law_deck d__law_draw d__law_any d__law_placed d__law_named d__law_classes d__law_fields d__law_right d_law ) : FnG P w K mg base CX0 4 a__law_any d__law_any ["_law_deck_here", "_law_deep"] (spD K 2 m__law_any) := okr__law_any T 3
theorem kp__law_placed (T : Facts w.params K mg c_StillError c_Missing c_Trouble ai_Used ai_NoFit ai_Taken ai_NoName ai_Over ai_NotNow ai_Tired ai_TooLate ai_NoText ai_NoDeed ai_NoRow ai_NoChange ai_NoWriter ai_NoTag ai_NoCommit ai_NoTable ai_NoFile ai_NoColumn ai_Clash ai_Lost ai_Crash a__law_deck a__law_draw a__law_any a__law_placed a__law_named a__law_classes a__law_fields a__law_right a_law di_Used di_NoFit di_Taken di_NoName di_Over di_NotNow di_Tired di_TooLate di_NoText di_NoDeed di_NoRow di_NoChange di_NoWriter di_NoTag di_NoCommit di_NoTable di_NoFile di_NoColumn di_Clash di_Lost di_Crash d__law_deck d__law_draw d__law_any d__law_placed d__law_named d__law_classes d__law_fields d__law_right d_law ) : KBinds K d__law_placed ["_law_a", "_law_b", "_law_c"] [] (fun us _ => us) (fun vs _ => vs) := Fun.kpos T.F__law_placed fun _ _ _ _ _ _ us hl => match us, hl with | [_, _, _], _ => rfl
theorem ok__law_placed (T : Facts w.params K mg c_StillError c_Missing c_Trouble ai_Used ai_NoFit ai_Taken ai_NoName ai_Over ai_NotNow ai_Tired ai_TooLate ai_NoText ai_NoDeed ai_NoRow ai_NoChange ai_NoWriter ai_NoTag ai_NoCommit ai_NoTable ai_NoFile ai_NoColumn ai_Clash ai_Lost ai_Crash a__law_deck a__law_draw a__law_any a__law_placed a__law_named a__law_classes a__law_fields a__law_right a_law di_Used di_NoFit di_Taken di_NoName di_Over di_NotNow di_Tired di_TooLate di_NoText di_NoDeed di_NoRow di_NoChange di_NoWriter di_NoTag di_NoCommit di_NoTable di_NoFile di_NoColumn di_Clash di_Lost di_Crash d__law_deck d__law_draw d__law_any d__law_placed d__law_named d__law_classes d__law_fields d__law_right d_law ) : FnG P w K mg base CX0 3 a__law_placed d__law_placed ["_law_a", "_law_b", "_law_c"] (spD K 3 m__law_placed) :=
  fnd_of (N := NN__law_placed) (ps := ["_law_a", "_law_b", "_law_c"]) (m := b__law_placed) T.F__law_placed sc__law_placed fun cdv A outer s H E hg hr =>
    (dss_cons (ds_set (i := 3) sc__law_placed.nd rfl lo__law_placed_3 (.inl rfl) (de_lst (da_cons (de_mkV0 (n := (PySem.Str.ofString "NoShape")) PySem.F.excBase_ValueError T.x_NoShape T.g_NoShape T.k_NoShape (by rfl) nd_23) (da_cons (de_mkV0 (n := (PySem.Str.ofString "NoCond")) PySem.F.excBase_ValueError T.x_NoCond T.g_NoCond T.k_NoCond (by rfl) nd_22) (da_cons (de_mkV0 (n := (PySem.Str.ofString "NoRule")) PySem.F.excBase_ValueError T.x_NoRule T.g_NoRule T.k_NoRule (by rfl) nd_21) (da_cons (de_mkV0 (n := (PySem.Str.ofString "Full")) PySem.F.excBase_ValueError T.x_Full T.g_Full T.k_Full (by rfl) nd_20) (da_cons (de_mkV0 (n := (PySem.Str.ofString "Last")) PySem.F.excBase_ValueError T.x_Last T.g_Last T.k_Last (by rfl) nd_19) (da_cons (de_mkV0 (n := (PySem.Str.ofString "Busy")) PySem.F.excBase_ValueError T.x_Busy T.g_Busy T.k_Busy (by rfl) nd_18) (da_cons (de_mkV0 (n := (PySem.Str.ofString "NoLine")) PySem.F.excBase_ValueError T.x_NoLine T.g_NoLine T.k_NoLine (by rfl) nd_17) (da_cons (de_mkV (n := (PySem.Str.ofString "NoName")) PySem.DNX.xb_VE (DN.oxB_ok T.o_NoName) T.i_NoName T.ti_NoName (DN.fn_of1 (init_NoName T)) (hr.mono (by decide)) (by rfl) T.g_NoName (kpI_NoName T) (da_cons (de_var (i := 0) rfl vi__law_placed_0 nd_13 nc_13) da_nil (by rfl)) nd_16 (by rfl) (by rfl)) (da_cons (de_mkV (n := (PySem.Str.ofString "Taken")) PySem.DNX.xb_VE (DN.oxB_ok T.o_Taken) T.i_Taken T.ti_Taken (DN.fn_of1 (init_Taken T)) (hr.mono (by decide)) (by rfl) T.g_Taken (kpI_Taken T) (da_cons (de_var (i := 0) rfl vi__law_placed_0 nd_13 nc_13) da_nil (by rfl)) nd_15 (by rfl) (by rfl)) (da_cons (de_mkV (n := (PySem.Str.ofString "NoFit")) PySem.DNX.xb_VE (DN.oxB_ok T.o_NoFit) T.i_NoFit T.ti_NoFit (DN.fn_of1 (init_NoFit T)) (hr.mono (by decide)) (by rfl) T.g_NoFit (kpI_NoFit T) (da_cons (de_var (i := 0) rfl vi__law_placed_0 nd_13 nc_13) da_nil (by rfl)) nd_14 (by rfl) (by rfl)) (da_cons (de_mkV (n := (PySem.Str.ofString "Used")) PySem.DNX.xb_VE (DN.oxB_ok T.o_Used) T.i_Used T.ti_Used (DN.fn_of1 (init_Used T)) (hr.mono (by decide)) (by rfl) T.g_Used (kpI_Used T) (da_cons (de_var (i := 0) rfl vi__law_placed_0 nd_13 nc_13) da_nil (by rfl)) nd_10 (by rfl) (by rfl)) da_nil (by rfl)) (by rfl)) (by rfl)) (by rfl)) (by rfl)) (by rfl)) (by rfl)) (by rfl)) (by rfl)) (by rfl)) (by rfl))) (by rfl))
    (dss_cons (ds_set (i := 3) sc__law_placed.nd rfl lo__law_placed_3 (.inl rfl) (de_op op_addA opd_add (de_var (i := 3) rfl vi__law_placed_3 nd_24 nc_24) (de_lst (da_cons (de_mkV (n := (PySem.Str.ofString "NoChange")) PySem.DNX.xb_VE (DN.oxB_ok T.o_NoChange) T.i_NoChange T.ti_NoChange (DN.fn_of1 (init_NoChange T)) (hr.mono (by decide)) (by rfl) T.g_NoChange (kpI_NoChange T) (da_cons (de_var (i := 0) rfl vi__law_placed_0 nd_13 nc_13) da_nil (by rfl)) nd_39 (by rfl) (by rfl)) (da_cons (de_mkV (n := (PySem.Str.ofString "NoRow")) PySem.DNX.xb_VE (DN.oxB_ok T.o_NoRow) T.i_NoRow T.ti_NoRow (DN.fn_of1 (init_NoRow T)) (hr.mono (by decide)) (by rfl) T.g_NoRow (kpI_NoRow T) (da_cons (de_var (i := 0) rfl vi__law_placed_0 nd_13 nc_13) da_nil (by rfl)) nd_37 (by rfl) (by rfl)) (da_cons (de_mkV (n := (PySem.Str.ofString "NoDeed")) PySem.DNX.xb_VE (DN.oxB_ok T.o_NoDeed) T.i_NoDeed T.ti_NoDeed (DN.fn_of1 (init_NoDeed T)) (hr.mono (by decide)) (by rfl) T.g_NoDeed (kpI_NoDeed T) (da_cons (de_var (i := 0) rfl vi__law_placed_0 nd_13 nc_13) da_nil (by rfl)) nd_35 (by rfl) (by rfl)) (da_cons (de_mkV (n := (PySem.Str.ofString "NoText")) PySem.DNX.xb_VE (DN.oxB_ok T.o_NoText) T.i_NoText T.ti_NoText (DN.fn_of1 (init_NoText T)) (hr.mono (by decide)) (by rfl) T.g_NoText (kpI_NoText T) (da_cons (de_var (i := 0) rfl vi__law_placed_0 nd_13 nc_13) da_nil (by rfl)) nd_33 (by rfl) (by rfl)) (da_cons (de_mkV (n := (PySem.Str.ofString "TooLate")) PySem.DNX.xb_VE (DN.oxB_ok T.o_TooLate) T.i_TooLate T.ti_TooLate (DN.fn_of1 (init_TooLate T)) (hr.mono (by decide)) (by rfl) T.g_TooLate (kpI_TooLate T) (da_cons (de_var (i := 0) rfl vi__law_placed_0 nd_13 nc_13) da_nil (by rfl)) nd_31 (by rfl) (by rfl)) (da_cons (de_mkV (n := (PySem.Str.ofString "Tired")) PySem.DNX.xb_VE (DN.oxB_ok T.o_Tired) T.i_Tired T.ti_Tired (DN.fn_of1 (init_Tired T)) (hr.mono (by decide)) (by rfl) T.g_Tired (kpI_Tired T) (da_cons (de_var (i := 0) rfl vi__law_placed_0 nd_13 nc_13) da_nil (by rfl)) nd_29 (by rfl) (by rfl)) (da_cons (de_mkV (n := (PySem.Str.ofString "NotNow")) PySem.DNX.xb_VE (DN.oxB_ok T.o_NotNow) T.i_NotNow T.ti_NotNow (DN.fn_of1 (init_NotNow T)) (hr.mono (by decide)) (by rfl) T.g_NotNow (kpI_NotNow T) (da_cons (de_var (i := 0) rfl vi__law_placed_0 nd_13 nc_13) da_nil (by rfl)) nd_27 (by rfl) (by rfl)) (da_cons (de_mkV (n := (PySem.Str.ofString "Over")) PySem.DNX.xb_VE (DN.oxB_ok T.o_Over) T.i_Over T.ti_Over (DN.fn_of1 (init_Over T)) (hr.mono (by decide)) (by rfl) T.g_Over (kpI_Over T) (da_cons (de_var (i := 0) rfl vi__law_placed_0 nd_13 nc_13) da_nil (by rfl)) nd_25 (by rfl) (by rfl)) da_nil (by rfl)) (by rfl)) (by rfl)) (by rfl)) (by rfl)) (by rfl)) (by rfl)) (by rfl)))) (by rfl))
    (dss_cons (ds_set (i := 3) sc__law_placed.nd rfl lo__law_placed_3 (.inl rfl) (de_op op_addA opd_add (de_var (i := 3) rfl vi__law_placed_3 nd_24 nc_24) (de_lst (da_cons (de_mkV (n := (PySem.Str.ofString "Clash")) PySem.DNX.xb_VE (DN.oxB_ok T.o_Clash) T.i_Clash T.ti_Clash (init_Clash T) (hr.mono (by decide)) (by rfl) T.g_Clash (kpI_Clash T) (da_cons (de_var (i := 0) rfl vi__law_placed_0 nd_13 nc_13) (da_cons (de_var (i := 1) rfl vi__law_placed_1 nd_52 nc_52) (da_cons (de_var (i := 2) rfl vi__law_placed_2 nd_51 nc_51) da_nil (by rfl)) (by rfl)) (by rfl)) nd_49 (by rfl) (by rfl)) (da_cons (de_mkV (n := (PySem.Str.ofString "NoColumn")) PySem.DNX.xb_KE (DN.oxB_ok T.o_NoColumn) T.i_NoColumn T.ti_NoColumn (DN.fn_of1 (init_NoColumn T)) (hr.mono (by decide)) (by rfl) T.g_NoColumn (kpI_NoColumn T) (da_cons (de_var (i := 0) rfl vi__law_placed_0 nd_13 nc_13) da_nil (by rfl)) nd_48 (by rfl) (by rfl)) (da_cons (de_mkV (n := (PySem.Str.ofString "NoFile")) PySem.DNX.xb_KE (DN.oxB_ok T.o_NoFile) T.i_NoFile T.ti_NoFile (DN.fn_of1 (init_NoFile T)) (hr.mono (by decide)) (by rfl) T.g_NoFile (kpI_NoFile T) (da_cons (de_var (i := 0) rfl vi__law_placed_0 nd_13 nc_13) da_nil (by rfl)) nd_46 (by rfl) (by rfl)) (da_cons (de_mkV (n := (PySem.Str.ofString "NoTable")) PySem.DNX.xb_KE (DN.oxB_ok T.o_NoTable) T.i_NoTable T.ti_NoTable (DN.fn_of1 (init_NoTable T)) (hr.mono (by decide)) (by rfl) T.g_NoTable (kpI_NoTable T) (da_cons (de_var (i := 0) rfl vi__law_placed_0 nd_13 nc_13) da_nil (by rfl)) nd_45 (by rfl) (by rfl)) (da_cons (de_mkV (n := (PySem.Str.ofString "NoCommit")) PySem.DNX.xb_KE (DN.oxB_ok T.o_NoCommit) T.i_NoCommit T.ti_NoCommit (DN.fn_of1 (init_NoCommit T)) (hr.mono (by decide)) (by rfl) T.g_NoCommit (kpI_NoCommit T) (da_cons (de_var (i := 0) rfl vi__law_placed_0 nd_13 nc_13) da_nil (by rfl)) nd_43 (by rfl) (by rfl)) (da_cons (de_mkV (n := (PySem.Str.ofString "NoTag")) PySem.DNX.xb_KE (DN.oxB_ok T.o_NoTag) T.i_NoTag T.ti_NoTag (DN.fn_of1 (init_NoTag T)) (hr.mono (by decide)) (by rfl) T.g_NoTag (kpI_NoTag T) (da_cons (de_var (i := 0) rfl vi__law_placed_0 nd_13 nc_13) da_nil (by rfl)) nd_42 (by rfl) (by rfl)) (da_cons (de_mkV (n := (PySem.Str.ofString "NoWriter")) PySem.DNX.xb_KE (DN.oxB_ok T.o_NoWriter) T.i_NoWriter T.ti_NoWriter (DN.fn_of1 (init_NoWriter T)) (hr.mono (by decide)) (by rfl) T.g_NoWriter (kpI_NoWriter T) (da_cons (de_var (i := 0) rfl vi__law_placed_0 nd_13 nc_13) da_nil (by rfl)) nd_40 (by rfl) (by rfl)) da_nil (by rfl)) (by rfl)) (by rfl)) (by rfl)) (by rfl)) (by rfl)) (by rfl)))) (by rfl))
    (dss_one (ds_ret (de_op op_addA opd_add (de_var (i := 3) rfl vi__law_placed_3 nd_24 nc_24) (de_lst (da_cons (de_mkV (n := (PySem.Str.ofString "Crash")) PySem.DNX.xb_AE (DN.oxB_ok T.o_Crash) T.i_Crash T.ti_Crash (DN.fn_of1 (init_Crash T)) (hr.mono (by decide)) (by rfl) T.g_Crash (kpI_Crash T) (da_cons (de_var (i := 0) rfl vi__law_placed_0 nd_13 nc_13) da_nil (by rfl)) nd_56 (by rfl) (by rfl)) (da_cons (de_mkV (n := (PySem.Str.ofString "Lost")) PySem.DNX.xb_AE (DN.oxB_ok T.o_Lost) T.i_Lost T.ti_Lost (DN.fn_of1 (init_Lost T)) (hr.mono (by decide)) (by rfl) T.g_Lost (kpI_Lost T) (da_cons (de_var (i := 0) rfl vi__law_placed_0 nd_13 nc_13) da_nil (by rfl)) nd_53 (by rfl) (by rfl)) da_nil (by rfl)) (by rfl)))))))))
theorem kp__law_named (T : Facts w.params K mg c_StillError c_Missing c_Trouble ai_Used ai_NoFit ai_Taken ai_NoName ai_Over ai_NotNow ai_Tired ai_TooLate ai_NoText ai_NoDeed ai_NoRow ai_NoChange ai_NoWriter ai_NoTag ai_NoCommit ai_NoTable ai_NoFile ai_NoColumn ai_Clash ai_Lost ai_Crash a__law_deck a__law_draw a__law_any a__law_placed a__law_named a__law_classes a__law_fields a__law_right a_law di_Used di_NoFit di_Taken di_NoName di_Over di_NotNow di_Tired di_TooLate di_NoText di_NoDeed di_NoRow di_NoChange di_NoWriter di_NoTag di_NoCommit di_NoTable di_NoFile di_NoColumn di_Clash di_Lost di_Crash d__law_deck d__law_draw d__law_any d__law_placed d__law_named d__law_classes d__law_fields d__law_right d_law ) : KBinds K d__law_named ["_law_a", "_law_b", "_law_c"] [] (fun us _ => us) (fun vs _ => vs) := Fun.kpos T.F__law_named fun _ _ _ _ _ _ us hl => match us, hl with | [_, _, _], _ => rfl
theorem ok__law_named (T : Facts w.params K mg c_StillError c_Missing c_Trouble ai_Used ai_NoFit ai_Taken ai_NoName ai_Over ai_NotNow ai_Tired ai_TooLate ai_NoText ai_NoDeed ai_NoRow ai_NoChange ai_NoWriter ai_NoTag ai_NoCommit ai_NoTable ai_NoFile ai_NoColumn ai_Clash ai_Lost ai_Crash a__law_deck a__law_draw a__law_any a__law_placed a__law_named a__law_classes a__law_fields a__law_right a_law di_Used di_NoFit di_Taken di_NoName di_Over di_NotNow di_Tired di_TooLate di_NoText di_NoDeed di_NoRow di_NoChange di_NoWriter di_NoTag di_NoCommit di_NoTable di_NoFile di_NoColumn di_Clash di_Lost di_Crash d__law_deck d__law_draw d__law_any d__law_placed d__law_named d__law_classes d__law_fields d__law_right d_law ) : FnG P w K mg base CX0 3 a__law_named d__law_named ["_law_a", "_law_b", "_law_c"] (spD K 3 m__law_named) :=
  fnd_of (N := NN__law_named) (ps := ["_law_a", "_law_b", "_law_c"]) (m := b__law_named) T.F__law_named sc__law_named fun cdv A outer s H E hg hr =>
    (dss_cons (ds_set (i := 3) sc__law_named.nd rfl lo__law_named_3 (.inl rfl) (de_lst (da_cons (de_mkV0 (n := (PySem.Str.ofString "NoShape")) PySem.F.excBase_ValueError T.x_NoShape T.g_NoShape T.k_NoShape (by rfl) nd_23) (da_cons (de_mkV0 (n := (PySem.Str.ofString "NoCond")) PySem.F.excBase_ValueError T.x_NoCond T.g_NoCond T.k_NoCond (by rfl) nd_22) (da_cons (de_mkV0 (n := (PySem.Str.ofString "NoRule")) PySem.F.excBase_ValueError T.x_NoRule T.g_NoRule T.k_NoRule (by rfl) nd_21) (da_cons (de_mkV0 (n := (PySem.Str.ofString "Full")) PySem.F.excBase_ValueError T.x_Full T.g_Full T.k_Full (by rfl) nd_20) (da_cons (de_mkV0 (n := (PySem.Str.ofString "Last")) PySem.F.excBase_ValueError T.x_Last T.g_Last T.k_Last (by rfl) nd_19) (da_cons (de_mkV0 (n := (PySem.Str.ofString "Busy")) PySem.F.excBase_ValueError T.x_Busy T.g_Busy T.k_Busy (by rfl) nd_18) (da_cons (de_mkV0 (n := (PySem.Str.ofString "NoLine")) PySem.F.excBase_ValueError T.x_NoLine T.g_NoLine T.k_NoLine (by rfl) nd_17) (da_cons (de_mkVK (is := [0]) (n := (PySem.Str.ofString "NoName")) PySem.DNX.xb_VE (DN.oxB_ok T.o_NoName) T.i_NoName T.ti_NoName (DN.fn_of1 (init_NoName T)) (hr.mono (by decide)) (by rfl) T.g_NoName (kmI_NoName_0 T) (dk_cons (de_var (i := 0) rfl vi__law_named_0 nd_13 nc_13) dk_nil) nd_16 (by rfl) (by rfl) (by rfl)) (da_cons (de_mkVK (is := [0]) (n := (PySem.Str.ofString "Taken")) PySem.DNX.xb_VE (DN.oxB_ok T.o_Taken) T.i_Taken T.ti_Taken (DN.fn_of1 (init_Taken T)) (hr.mono (by decide)) (by rfl) T.g_Taken (kmI_Taken_0 T) (dk_cons (de_var (i := 0) rfl vi__law_named_0 nd_13 nc_13) dk_nil) nd_15 (by rfl) (by rfl) (by rfl)) da_nil (by rfl)) (by rfl)) (by rfl)) (by rfl)) (by rfl)) (by rfl)) (by rfl)) (by rfl)) (by rfl))) (by rfl))
    (dss_cons (ds_set (i := 3) sc__law_named.nd rfl lo__law_named_3 (.inl rfl) (de_op op_addA opd_add (de_var (i := 3) rfl vi__law_named_3 nd_24 nc_24) (de_lst (da_cons (de_mkVK (is := [0]) (n := (PySem.Str.ofString "NoFit")) PySem.DNX.xb_VE (DN.oxB_ok T.o_NoFit) T.i_NoFit T.ti_NoFit (DN.fn_of1 (init_NoFit T)) (hr.mono (by decide)) (by rfl) T.g_NoFit (kmI_NoFit_0 T) (dk_cons (de_var (i := 0) rfl vi__law_named_0 nd_13 nc_13) dk_nil) nd_14 (by rfl) (by rfl) (by rfl)) (da_cons (de_mkVK (is := [0]) (n := (PySem.Str.ofString "Used")) PySem.DNX.xb_VE (DN.oxB_ok T.o_Used) T.i_Used T.ti_Used (DN.fn_of1 (init_Used T)) (hr.mono (by decide)) (by rfl) T.g_Used (kmI_Used_0 T) (dk_cons (de_var (i := 0) rfl vi__law_named_0 nd_13 nc_13) dk_nil) nd_10 (by rfl) (by rfl) (by rfl)) (da_cons (de_mkVK (is := [0]) (n := (PySem.Str.ofString "NoChange")) PySem.DNX.xb_VE (DN.oxB_ok T.o_NoChange) T.i_NoChange T.ti_NoChange (DN.fn_of1 (init_NoChange T)) (hr.mono (by decide)) (by rfl) T.g_NoChange (kmI_NoChange_0 T) (dk_cons (de_var (i := 0) rfl vi__law_named_0 nd_13 nc_13) dk_nil) nd_39 (by rfl) (by rfl) (by rfl)) (da_cons (de_mkVK (is := [0]) (n := (PySem.Str.ofString "NoRow")) PySem.DNX.xb_VE (DN.oxB_ok T.o_NoRow) T.i_NoRow T.ti_NoRow (DN.fn_of1 (init_NoRow T)) (hr.mono (by decide)) (by rfl) T.g_NoRow (kmI_NoRow_0 T) (dk_cons (de_var (i := 0) rfl vi__law_named_0 nd_13 nc_13) dk_nil) nd_37 (by rfl) (by rfl) (by rfl)) (da_cons (de_mkVK (is := [0]) (n := (PySem.Str.ofString "NoDeed")) PySem.DNX.xb_VE (DN.oxB_ok T.o_NoDeed) T.i_NoDeed T.ti_NoDeed (DN.fn_of1 (init_NoDeed T)) (hr.mono (by decide)) (by rfl) T.g_NoDeed (kmI_NoDeed_0 T) (dk_cons (de_var (i := 0) rfl vi__law_named_0 nd_13 nc_13) dk_nil) nd_35 (by rfl) (by rfl) (by rfl)) (da_cons (de_mkVK (is := [0]) (n := (PySem.Str.ofString "NoText")) PySem.DNX.xb_VE (DN.oxB_ok T.o_NoText) T.i_NoText T.ti_NoText (DN.fn_of1 (init_NoText T)) (hr.mono (by decide)) (by rfl) T.g_NoText (kmI_NoText_0 T) (dk_cons (de_var (i := 0) rfl vi__law_named_0 nd_13 nc_13) dk_nil) nd_33 (by rfl) (by rfl) (by rfl)) da_nil (by rfl)) (by rfl)) (by rfl)) (by rfl)) (by rfl)) (by rfl)))) (by rfl))
    (dss_cons (ds_set (i := 3) sc__law_named.nd rfl lo__law_named_3 (.inl rfl) (de_op op_addA opd_add (de_var (i := 3) rfl vi__law_named_3 nd_24 nc_24) (de_lst (da_cons (de_mkVK (is := [0]) (n := (PySem.Str.ofString "TooLate")) PySem.DNX.xb_VE (DN.oxB_ok T.o_TooLate) T.i_TooLate T.ti_TooLate (DN.fn_of1 (init_TooLate T)) (hr.mono (by decide)) (by rfl) T.g_TooLate (kmI_TooLate_0 T) (dk_cons (de_var (i := 0) rfl vi__law_named_0 nd_13 nc_13) dk_nil) nd_31 (by rfl) (by rfl) (by rfl)) (da_cons (de_mkVK (is := [0]) (n := (PySem.Str.ofString "Tired")) PySem.DNX.xb_VE (DN.oxB_ok T.o_Tired) T.i_Tired T.ti_Tired (DN.fn_of1 (init_Tired T)) (hr.mono (by decide)) (by rfl) T.g_Tired (kmI_Tired_0 T) (dk_cons (de_var (i := 0) rfl vi__law_named_0 nd_13 nc_13) dk_nil) nd_29 (by rfl) (by rfl) (by rfl)) (da_cons (de_mkVK (is := [0]) (n := (PySem.Str.ofString "NotNow")) PySem.DNX.xb_VE (DN.oxB_ok T.o_NotNow) T.i_NotNow T.ti_NotNow (DN.fn_of1 (init_NotNow T)) (hr.mono (by decide)) (by rfl) T.g_NotNow (kmI_NotNow_0 T) (dk_cons (de_var (i := 0) rfl vi__law_named_0 nd_13 nc_13) dk_nil) nd_27 (by rfl) (by rfl) (by rfl)) (da_cons (de_mkVK (is := [0]) (n := (PySem.Str.ofString "Over")) PySem.DNX.xb_VE (DN.oxB_ok T.o_Over) T.i_Over T.ti_Over (DN.fn_of1 (init_Over T)) (hr.mono (by decide)) (by rfl) T.g_Over (kmI_Over_0 T) (dk_cons (de_var (i := 0) rfl vi__law_named_0 nd_13 nc_13) dk_nil) nd_25 (by rfl) (by rfl) (by rfl)) (da_cons (de_mkVK (is := [1, 2, 0]) (n := (PySem.Str.ofString "Clash")) PySem.DNX.xb_VE (DN.oxB_ok T.o_Clash) T.i_Clash T.ti_Clash (init_Clash T) (hr.mono (by decide)) (by rfl) T.g_Clash (kmI_Clash_1_2_0 T) (dk_cons (de_var (i := 2) rfl vi__law_named_2 nd_51 nc_51) (dk_cons (de_var (i := 0) rfl vi__law_named_0 nd_13 nc_13) (dk_cons (de_var (i := 1) rfl vi__law_named_1 nd_52 nc_52) dk_nil))) nd_49 (by rfl) (by rfl) (by rfl)) da_nil (by rfl)) (by rfl)) (by rfl)) (by rfl)) (by rfl)))) (by rfl))
    (dss_cons (ds_set (i := 3) sc__law_named.nd rfl lo__law_named_3 (.inl rfl) (de_op op_addA opd_add (de_var (i := 3) rfl vi__law_named_3 nd_24 nc_24) (de_lst (da_cons (de_mkVK (is := [0]) (n := (PySem.Str.ofString "NoColumn")) PySem.DNX.xb_KE (DN.oxB_ok T.o_NoColumn) T.i_NoColumn T.ti_NoColumn (DN.fn_of1 (init_NoColumn T)) (hr.mono (by decide)) (by rfl) T.g_NoColumn (kmI_NoColumn_0 T) (dk_cons (de_var (i := 0) rfl vi__law_named_0 nd_13 nc_13) dk_nil) nd_48 (by rfl) (by rfl) (by rfl)) (da_cons (de_mkVK (is := [0]) (n := (PySem.Str.ofString "NoFile")) PySem.DNX.xb_KE (DN.oxB_ok T.o_NoFile) T.i_NoFile T.ti_NoFile (DN.fn_of1 (init_NoFile T)) (hr.mono (by decide)) (by rfl) T.g_NoFile (kmI_NoFile_0 T) (dk_cons (de_var (i := 0) rfl vi__law_named_0 nd_13 nc_13) dk_nil) nd_46 (by rfl) (by rfl) (by rfl)) (da_cons (de_mkVK (is := [0]) (n := (PySem.Str.ofString "NoTable")) PySem.DNX.xb_KE (DN.oxB_ok T.o_NoTable) T.i_NoTable T.ti_NoTable (DN.fn_of1 (init_NoTable T)) (hr.mono (by decide)) (by rfl) T.g_NoTable (kmI_NoTable_0 T) (dk_cons (de_var (i := 0) rfl vi__law_named_0 nd_13 nc_13) dk_nil) nd_45 (by rfl) (by rfl) (by rfl)) (da_cons (de_mkVK (is := [0]) (n := (PySem.Str.ofString "NoCommit")) PySem.DNX.xb_KE (DN.oxB_ok T.o_NoCommit) T.i_NoCommit T.ti_NoCommit (DN.fn_of1 (init_NoCommit T)) (hr.mono (by decide)) (by rfl) T.g_NoCommit (kmI_NoCommit_0 T) (dk_cons (de_var (i := 0) rfl vi__law_named_0 nd_13 nc_13) dk_nil) nd_43 (by rfl) (by rfl) (by rfl)) (da_cons (de_mkVK (is := [0]) (n := (PySem.Str.ofString "NoTag")) PySem.DNX.xb_KE (DN.oxB_ok T.o_NoTag) T.i_NoTag T.ti_NoTag (DN.fn_of1 (init_NoTag T)) (hr.mono (by decide)) (by rfl) T.g_NoTag (kmI_NoTag_0 T) (dk_cons (de_var (i := 0) rfl vi__law_named_0 nd_13 nc_13) dk_nil) nd_42 (by rfl) (by rfl) (by rfl)) da_nil (by rfl)) (by rfl)) (by rfl)) (by rfl)) (by rfl)))) (by rfl))
    (dss_one (ds_ret (de_op op_addA opd_add (de_var (i := 3) rfl vi__law_named_3 nd_24 nc_24) (de_lst (da_cons (de_mkVK (is := [0]) (n := (PySem.Str.ofString "NoWriter")) PySem.DNX.xb_KE (DN.oxB_ok T.o_NoWriter) T.i_NoWriter T.ti_NoWriter (DN.fn_of1 (init_NoWriter T)) (hr.mono (by decide)) (by rfl) T.g_NoWriter (kmI_NoWriter_0 T) (dk_cons (de_var (i := 0) rfl vi__law_named_0 nd_13 nc_13) dk_nil) nd_40 (by rfl) (by rfl) (by rfl)) (da_cons (de_mkVK (is := [0]) (n := (PySem.Str.ofString "Crash")) PySem.DNX.xb_AE (DN.oxB_ok T.o_Crash) T.i_Crash T.ti_Crash (DN.fn_of1 (init_Crash T)) (hr.mono (by decide)) (by rfl) T.g_Crash (kmI_Crash_0 T) (dk_cons (de_var (i := 0) rfl vi__law_named_0 nd_13 nc_13) dk_nil) nd_56 (by rfl) (by rfl) (by rfl)) (da_cons (de_mkVK (is := [0]) (n := (PySem.Str.ofString "Lost")) PySem.DNX.xb_AE (DN.oxB_ok T.o_Lost) T.i_Lost T.ti_Lost (DN.fn_of1 (init_Lost T)) (hr.mono (by decide)) (by rfl) T.g_Lost (kmI_Lost_0 T) (dk_cons (de_var (i := 0) rfl vi__law_named_0 nd_13 nc_13) dk_nil) nd_53 (by rfl) (by rfl) (by rfl)) da_nil (by rfl)) (by rfl)) (by rfl))))))))))
theorem kp__law_classes (T : Facts w.params K mg c_StillError c_Missing c_Trouble ai_Used ai_NoFit ai_Taken ai_NoName ai_Over ai_NotNow ai_Tired ai_TooLate ai_NoText ai_NoDeed ai_NoRow ai_NoChange ai_NoWriter ai_NoTag ai_NoCommit ai_NoTable ai_NoFile ai_NoColumn ai_Clash ai_Lost ai_Crash a__law_deck a__law_draw a__law_any a__law_placed a__law_named a__law_classes a__law_fields a__law_right a_law di_Used di_NoFit di_Taken di_NoName di_Over di_NotNow di_Tired di_TooLate di_NoText di_NoDeed di_NoRow di_NoChange di_NoWriter di_NoTag di_NoCommit di_NoTable di_NoFile di_NoColumn di_Clash di_Lost di_Crash d__law_deck d__law_draw d__law_any d__law_placed d__law_named d__law_classes d__law_fields d__law_right d_law ) : KBinds K d__law_classes ["_law_e"] [] (fun us _ => us) (fun vs _ => vs) := Fun.kpos T.F__law_classes fun _ _ _ _ _ _ us hl => match us, hl with | [_], _ => rfl
theorem ok__law_classes (T : Facts w.params K mg c_StillError c_Missing c_Trouble ai_Used ai_NoFit ai_Taken ai_NoName ai_Over ai_NotNow ai_Tired ai_TooLate ai_NoText ai_NoDeed ai_NoRow ai_NoChange ai_NoWriter ai_NoTag ai_NoCommit ai_NoTable ai_NoFile ai_NoColumn ai_Clash ai_Lost ai_Crash a__law_deck a__law_draw a__law_any a__law_placed a__law_named a__law_classes a__law_fields a__law_right a_law di_Used di_NoFit di_Taken di_NoName di_Over di_NotNow di_Tired di_TooLate di_NoText di_NoDeed di_NoRow di_NoChange di_NoWriter di_NoTag di_NoCommit di_NoTable di_NoFile di_NoColumn di_Clash di_Lost di_Crash d__law_deck d__law_draw d__law_any d__law_placed d__law_named d__law_classes d__law_fields d__law_right d_law ) : FnG P w K mg base CX0 1 a__law_classes d__law_classes ["_law_e"] (spD K 1 m__law_classes) :=
  fnd_of (N := NN__law_classes) (ps := ["_law_e"]) (m := b__law_classes) T.F__law_classes sc__law_classes fun cdv A outer s H E hg hr =>
    (dss_cons (ds_set (i := 1) sc__law_classes.nd rfl lo__law_classes_1 (.inl rfl) (de_lst (da_cons (de_isV (vt_NoShape T) (de_var (i := 0) rfl vi__law_classes_0 nd_57 nc_57) (by rfl) T.n_isinstance (by rfl) T.g_NoShape nd_23 (by rfl)) (da_cons (de_isV (vt_NoCond T) (de_var (i := 0) rfl vi__law_classes_0 nd_57 nc_57) (by rfl) T.n_isinstance (by rfl) T.g_NoCond nd_22 (by rfl)) (da_cons (de_isV (vt_NoRule T) (de_var (i := 0) rfl vi__law_classes_0 nd_57 nc_57) (by rfl) T.n_isinstance (by rfl) T.g_NoRule nd_21 (by rfl)) (da_cons (de_isV (vt_Full T) (de_var (i := 0) rfl vi__law_classes_0 nd_57 nc_57) (by rfl) T.n_isinstance (by rfl) T.g_Full nd_20 (by rfl)) da_nil (by rfl)) (by rfl)) (by rfl)) (by rfl))) (by rfl))
    (dss_cons (ds_set (i := 1) sc__law_classes.nd rfl lo__law_classes_1 (.inl rfl) (de_op op_addA opd_add (de_var (i := 1) rfl vi__law_classes_1 nd_24 nc_24) (de_lst (da_cons (de_isV (vt_Last T) (de_var (i := 0) rfl vi__law_classes_0 nd_57 nc_57) (by rfl) T.n_isinstance (by rfl) T.g_Last nd_19 (by rfl)) (da_cons (de_isV (vt_Busy T) (de_var (i := 0) rfl vi__law_classes_0 nd_57 nc_57) (by rfl) T.n_isinstance (by rfl) T.g_Busy nd_18 (by rfl)) (da_cons (de_isV (vt_NoLine T) (de_var (i := 0) rfl vi__law_classes_0 nd_57 nc_57) (by rfl) T.n_isinstance (by rfl) T.g_NoLine nd_17 (by rfl)) (da_cons (de_isV (vt_NoName T) (de_var (i := 0) rfl vi__law_classes_0 nd_57 nc_57) (by rfl) T.n_isinstance (by rfl) T.g_NoName nd_16 (by rfl)) da_nil (by rfl)) (by rfl)) (by rfl)) (by rfl)))) (by rfl))
    (dss_cons (ds_set (i := 1) sc__law_classes.nd rfl lo__law_classes_1 (.inl rfl) (de_op op_addA opd_add (de_var (i := 1) rfl vi__law_classes_1 nd_24 nc_24) (de_lst (da_cons (de_isV (vt_Taken T) (de_var (i := 0) rfl vi__law_classes_0 nd_57 nc_57) (by rfl) T.n_isinstance (by rfl) T.g_Taken nd_15 (by rfl)) (da_cons (de_isV (vt_NoFit T) (de_var (i := 0) rfl vi__law_classes_0 nd_57 nc_57) (by rfl) T.n_isinstance (by rfl) T.g_NoFit nd_14 (by rfl)) (da_cons (de_isV (vt_Used T) (de_var (i := 0) rfl vi__law_classes_0 nd_57 nc_57) (by rfl) T.n_isinstance (by rfl) T.g_Used nd_10 (by rfl)) (da_cons (de_isV (vt_NoChange T) (de_var (i := 0) rfl vi__law_classes_0 nd_57 nc_57) (by rfl) T.n_isinstance (by rfl) T.g_NoChange nd_39 (by rfl)) da_nil (by rfl)) (by rfl)) (by rfl)) (by rfl)))) (by rfl))
    (dss_cons (ds_set (i := 1) sc__law_classes.nd rfl lo__law_classes_1 (.inl rfl) (de_op op_addA opd_add (de_var (i := 1) rfl vi__law_classes_1 nd_24 nc_24) (de_lst (da_cons (de_isV (vt_NoRow T) (de_var (i := 0) rfl vi__law_classes_0 nd_57 nc_57) (by rfl) T.n_isinstance (by rfl) T.g_NoRow nd_37 (by rfl)) (da_cons (de_isV (vt_NoDeed T) (de_var (i := 0) rfl vi__law_classes_0 nd_57 nc_57) (by rfl) T.n_isinstance (by rfl) T.g_NoDeed nd_35 (by rfl)) (da_cons (de_isV (vt_NoText T) (de_var (i := 0) rfl vi__law_classes_0 nd_57 nc_57) (by rfl) T.n_isinstance (by rfl) T.g_NoText nd_33 (by rfl)) (da_cons (de_isV (vt_TooLate T) (de_var (i := 0) rfl vi__law_classes_0 nd_57 nc_57) (by rfl) T.n_isinstance (by rfl) T.g_TooLate nd_31 (by rfl)) da_nil (by rfl)) (by rfl)) (by rfl)) (by rfl)))) (by rfl))
    (dss_cons (ds_set (i := 1) sc__law_classes.nd rfl lo__law_classes_1 (.inl rfl) (de_op op_addA opd_add (de_var (i := 1) rfl vi__law_classes_1 nd_24 nc_24) (de_lst (da_cons (de_isV (vt_Tired T) (de_var (i := 0) rfl vi__law_classes_0 nd_57 nc_57) (by rfl) T.n_isinstance (by rfl) T.g_Tired nd_29 (by rfl)) (da_cons (de_isV (vt_NotNow T) (de_var (i := 0) rfl vi__law_classes_0 nd_57 nc_57) (by rfl) T.n_isinstance (by rfl) T.g_NotNow nd_27 (by rfl)) (da_cons (de_isV (vt_Over T) (de_var (i := 0) rfl vi__law_classes_0 nd_57 nc_57) (by rfl) T.n_isinstance (by rfl) T.g_Over nd_25 (by rfl)) (da_cons (de_isV (vt_Clash T) (de_var (i := 0) rfl vi__law_classes_0 nd_57 nc_57) (by rfl) T.n_isinstance (by rfl) T.g_Clash nd_49 (by rfl)) da_nil (by rfl)) (by rfl)) (by rfl)) (by rfl)))) (by rfl))
    (dss_cons (ds_set (i := 1) sc__law_classes.nd rfl lo__law_classes_1 (.inl rfl) (de_op op_addA opd_add (de_var (i := 1) rfl vi__law_classes_1 nd_24 nc_24) (de_lst (da_cons (de_isV (vt_NoColumn T) (de_var (i := 0) rfl vi__law_classes_0 nd_57 nc_57) (by rfl) T.n_isinstance (by rfl) T.g_NoColumn nd_48 (by rfl)) (da_cons (de_isV (vt_NoFile T) (de_var (i := 0) rfl vi__law_classes_0 nd_57 nc_57) (by rfl) T.n_isinstance (by rfl) T.g_NoFile nd_46 (by rfl)) (da_cons (de_isV (vt_NoTable T) (de_var (i := 0) rfl vi__law_classes_0 nd_57 nc_57) (by rfl) T.n_isinstance (by rfl) T.g_NoTable nd_45 (by rfl)) (da_cons (de_isV (vt_NoCommit T) (de_var (i := 0) rfl vi__law_classes_0 nd_57 nc_57) (by rfl) T.n_isinstance (by rfl) T.g_NoCommit nd_43 (by rfl)) da_nil (by rfl)) (by rfl)) (by rfl)) (by rfl)))) (by rfl))
    (dss_cons (ds_set (i := 1) sc__law_classes.nd rfl lo__law_classes_1 (.inl rfl) (de_op op_addA opd_add (de_var (i := 1) rfl vi__law_classes_1 nd_24 nc_24) (de_lst (da_cons (de_isV (vt_NoTag T) (de_var (i := 0) rfl vi__law_classes_0 nd_57 nc_57) (by rfl) T.n_isinstance (by rfl) T.g_NoTag nd_42 (by rfl)) (da_cons (de_isV (vt_NoWriter T) (de_var (i := 0) rfl vi__law_classes_0 nd_57 nc_57) (by rfl) T.n_isinstance (by rfl) T.g_NoWriter nd_40 (by rfl)) (da_cons (de_isV (vt_Crash T) (de_var (i := 0) rfl vi__law_classes_0 nd_57 nc_57) (by rfl) T.n_isinstance (by rfl) T.g_Crash nd_56 (by rfl)) (da_cons (de_isV (vt_Lost T) (de_var (i := 0) rfl vi__law_classes_0 nd_57 nc_57) (by rfl) T.n_isinstance (by rfl) T.g_Lost nd_53 (by rfl)) da_nil (by rfl)) (by rfl)) (by rfl)) (by rfl)))) (by rfl))
    (dss_cons (ds_set (i := 1) sc__law_classes.nd rfl lo__law_classes_1 (.inl rfl) (de_op op_addA opd_add (de_var (i := 1) rfl vi__law_classes_1 nd_24 nc_24) (de_lst (da_cons (de_isV (vt_StillError T) (de_var (i := 0) rfl vi__law_classes_0 nd_57 nc_57) (by rfl) T.n_isinstance (by rfl) T.g_StillError nd_11 (by rfl)) (da_cons (de_isV (vt_Missing T) (de_var (i := 0) rfl vi__law_classes_0 nd_57 nc_57) (by rfl) T.n_isinstance (by rfl) T.g_Missing nd_41 (by rfl)) (da_cons (de_isV (vt_Trouble T) (de_var (i := 0) rfl vi__law_classes_0 nd_57 nc_57) (by rfl) T.n_isinstance (by rfl) T.g_Trouble nd_54 (by rfl)) da_nil (by rfl)) (by rfl)) (by rfl)))) (by rfl))
    (dss_one (ds_ret (de_op op_addA opd_add (de_var (i := 1) rfl vi__law_classes_1 nd_24 nc_24) (de_lst (da_cons (de_isVB (vt_ValueError T) (de_var (i := 0) rfl vi__law_classes_0 nd_57 nc_57) (by rfl) T.n_isinstance (by rfl) T.n_ValueError bt_ValueError (by decide) nd_60 (by rfl)) (da_cons (de_isVB (vt_KeyError T) (de_var (i := 0) rfl vi__law_classes_0 nd_57 nc_57) (by rfl) T.n_isinstance (by rfl) T.n_KeyError bt_KeyError (by decide) nd_59 (by rfl)) (da_cons (de_isVB (vt_ArithmeticError T) (de_var (i := 0) rfl vi__law_classes_0 nd_57 nc_57) (by rfl) T.n_isinstance (by rfl) T.n_ArithmeticError bt_ArithmeticError (by decide) nd_58 (by rfl)) da_nil (by rfl)) (by rfl)) (by rfl))))))))))))))
theorem kp__law_fields (T : Facts w.params K mg c_StillError c_Missing c_Trouble ai_Used ai_NoFit ai_Taken ai_NoName ai_Over ai_NotNow ai_Tired ai_TooLate ai_NoText ai_NoDeed ai_NoRow ai_NoChange ai_NoWriter ai_NoTag ai_NoCommit ai_NoTable ai_NoFile ai_NoColumn ai_Clash ai_Lost ai_Crash a__law_deck a__law_draw a__law_any a__law_placed a__law_named a__law_classes a__law_fields a__law_right a_law di_Used di_NoFit di_Taken di_NoName di_Over di_NotNow di_Tired di_TooLate di_NoText di_NoDeed di_NoRow di_NoChange di_NoWriter di_NoTag di_NoCommit di_NoTable di_NoFile di_NoColumn di_Clash di_Lost di_Crash d__law_deck d__law_draw d__law_any d__law_placed d__law_named d__law_classes d__law_fields d__law_right d_law ) : KBinds K d__law_fields ["_law_made"] [] (fun us _ => us) (fun vs _ => vs) := Fun.kpos T.F__law_fields fun _ _ _ _ _ _ us hl => match us, hl with | [_], _ => rfl
theorem ok__law_fields (T : Facts w.params K mg c_StillError c_Missing c_Trouble ai_Used ai_NoFit ai_Taken ai_NoName ai_Over ai_NotNow ai_Tired ai_TooLate ai_NoText ai_NoDeed ai_NoRow ai_NoChange ai_NoWriter ai_NoTag ai_NoCommit ai_NoTable ai_NoFile ai_NoColumn ai_Clash ai_Lost ai_Crash a__law_deck a__law_draw a__law_any a__law_placed a__law_named a__law_classes a__law_fields a__law_right a_law di_Used di_NoFit di_Taken di_NoName di_Over di_NotNow di_Tired di_TooLate di_NoText di_NoDeed di_NoRow di_NoChange di_NoWriter di_NoTag di_NoCommit di_NoTable di_NoFile di_NoColumn di_Clash di_Lost di_Crash d__law_deck d__law_draw d__law_any d__law_placed d__law_named d__law_classes d__law_fields d__law_right d_law ) : FnG P w K mg base CX0 1 a__law_fields d__law_fields ["_law_made"] (spD K 1 m__law_fields) :=
  fnd_of (N := NN__law_fields) (ps := ["_law_made"]) (m := b__law_fields) T.F__law_fields sc__law_fields fun cdv A outer s H E hg hr =>
    (dss_cons (ds_set (i := 1) sc__law_fields.nd rfl lo__law_fields_1 (.inl rfl) (de_lst (da_cons (de_fldV (vf_name T) (de_ix ix_seq opd_ix (de_var (i := 0) rfl vi__law_fields_0 nd_61 nc_61) de_int (fun _ _ => rfl)) (by rfl)) (da_cons (de_fldV (vf_name T) (de_ix ix_seq opd_ix (de_var (i := 0) rfl vi__law_fields_0 nd_61 nc_61) de_int (fun _ _ => rfl)) (by rfl)) (da_cons (de_fldV (vf_name T) (de_ix ix_seq opd_ix (de_var (i := 0) rfl vi__law_fields_0 nd_61 nc_61) de_int (fun _ _ => rfl)) (by rfl)) (da_cons (de_fldV (vf_name T) (de_ix ix_seq opd_ix (de_var (i := 0) rfl vi__law_fields_0 nd_61 nc_61) de_int (fun _ _ => rfl)) (by rfl)) (da_cons (de_fldV (vf_place T) (de_ix ix_seq opd_ix (de_var (i := 0) rfl vi__law_fields_0 nd_61 nc_61) de_int (fun _ _ => rfl)) (by rfl)) (da_cons (de_fldV (vf_place T) (de_ix ix_seq opd_ix (de_var (i := 0) rfl vi__law_fields_0 nd_61 nc_61) de_int (fun _ _ => rfl)) (by rfl)) (da_cons (de_fldV (vf_deed T) (de_ix ix_seq opd_ix (de_var (i := 0) rfl vi__law_fields_0 nd_61 nc_61) de_int (fun _ _ => rfl)) (by rfl)) da_nil (by rfl)) (by rfl)) (by rfl)) (by rfl)) (by rfl)) (by rfl)) (by rfl))) (by rfl))
    (dss_cons (ds_set (i := 1) sc__law_fields.nd rfl lo__law_fields_1 (.inl rfl) (de_op op_addA opd_add (de_var (i := 1) rfl vi__law_fields_1 nd_24 nc_24) (de_lst (da_cons (de_fldV (vf_row T) (de_ix ix_seq opd_ix (de_var (i := 0) rfl vi__law_fields_0 nd_61 nc_61) de_int (fun _ _ => rfl)) (by rfl)) (da_cons (de_fldV (vf_base T) (de_ix ix_seq opd_ix (de_var (i := 0) rfl vi__law_fields_0 nd_61 nc_61) de_int (fun _ _ => rfl)) (by rfl)) (da_cons (de_fldV (vf_tries T) (de_ix ix_seq opd_ix (de_var (i := 0) rfl vi__law_fields_0 nd_61 nc_61) de_int (fun _ _ => rfl)) (by rfl)) (da_cons (de_fldV (vf_state T) (de_ix ix_seq opd_ix (de_var (i := 0) rfl vi__law_fields_0 nd_61 nc_61) de_int (fun _ _ => rfl)) (by rfl)) (da_cons (de_fldV (vf_until T) (de_ix ix_seq opd_ix (de_var (i := 0) rfl vi__law_fields_0 nd_61 nc_61) de_int (fun _ _ => rfl)) (by rfl)) da_nil (by rfl)) (by rfl)) (by rfl)) (by rfl)) (by rfl)))) (by rfl))
    (dss_cons (ds_set (i := 1) sc__law_fields.nd rfl lo__law_fields_1 (.inl rfl) (de_op op_addA opd_add (de_var (i := 1) rfl vi__law_fields_1 nd_24 nc_24) (de_lst (da_cons (de_fldV (vf_number T) (de_ix ix_seq opd_ix (de_var (i := 0) rfl vi__law_fields_0 nd_61 nc_61) de_int (fun _ _ => rfl)) (by rfl)) (da_cons (de_fldV (vf_word T) (de_ix ix_seq opd_ix (de_var (i := 0) rfl vi__law_fields_0 nd_61 nc_61) de_int (fun _ _ => rfl)) (by rfl)) (da_cons (de_fldV (vf_file T) (de_ix ix_seq opd_ix (de_var (i := 0) rfl vi__law_fields_0 nd_61 nc_61) de_int (fun _ _ => rfl)) (by rfl)) (da_cons (de_fldV (vf_name T) (de_ix ix_seq opd_ix (de_var (i := 0) rfl vi__law_fields_0 nd_61 nc_61) de_int (fun _ _ => rfl)) (by rfl)) (da_cons (de_fldV (vf_file T) (de_ix ix_seq opd_ix (de_var (i := 0) rfl vi__law_fields_0 nd_61 nc_61) de_int (fun _ _ => rfl)) (by rfl)) (da_cons (de_fldV (vf_name T) (de_ix ix_seq opd_ix (de_var (i := 0) rfl vi__law_fields_0 nd_61 nc_61) de_int (fun _ _ => rfl)) (by rfl)) da_nil (by rfl)) (by rfl)) (by rfl)) (by rfl)) (by rfl)) (by rfl)))) (by rfl))
    (dss_one (ds_ret (de_op op_addA opd_add (de_var (i := 1) rfl vi__law_fields_1 nd_24 nc_24) (de_lst (da_cons (de_fldV (vf_number T) (de_ix ix_seq opd_ix (de_var (i := 0) rfl vi__law_fields_0 nd_61 nc_61) de_int (fun _ _ => rfl)) (by rfl)) (da_cons (de_fldV (vf_name T) (de_ix ix_seq opd_ix (de_var (i := 0) rfl vi__law_fields_0 nd_61 nc_61) de_int (fun _ _ => rfl)) (by rfl)) (da_cons (de_fldV (vf_name T) (de_ix ix_seq opd_ix (de_var (i := 0) rfl vi__law_fields_0 nd_61 nc_61) de_int (fun _ _ => rfl)) (by rfl)) (da_cons (de_fldV (vf_step T) (de_ix ix_seq opd_ix (de_var (i := 0) rfl vi__law_fields_0 nd_61 nc_61) de_int (fun _ _ => rfl)) (by rfl)) (da_cons (de_fldV (vf_step T) (de_ix ix_seq opd_ix (de_var (i := 0) rfl vi__law_fields_0 nd_61 nc_61) de_int (fun _ _ => rfl)) (by rfl)) da_nil (by rfl)) (by rfl)) (by rfl)) (by rfl)) (by rfl)))))))))
theorem kp__law_right (T : Facts w.params K mg c_StillError c_Missing c_Trouble ai_Used ai_NoFit ai_Taken ai_NoName ai_Over ai_NotNow ai_Tired ai_TooLate ai_NoText ai_NoDeed ai_NoRow ai_NoChange ai_NoWriter ai_NoTag ai_NoCommit ai_NoTable ai_NoFile ai_NoColumn ai_Clash ai_Lost ai_Crash a__law_deck a__law_draw a__law_any a__law_placed a__law_named a__law_classes a__law_fields a__law_right a_law di_Used di_NoFit di_Taken di_NoName di_Over di_NotNow di_Tired di_TooLate di_NoText di_NoDeed di_NoRow di_NoChange di_NoWriter di_NoTag di_NoCommit di_NoTable di_NoFile di_NoColumn di_Clash di_Lost di_Crash d__law_deck d__law_draw d__law_any d__law_placed d__law_named d__law_classes d__law_fields d__law_right d_law ) : KBinds K d__law_right ["_law_made", "_law_a", "_law_b", "_law_c"] [] (fun us _ => us) (fun vs _ => vs) := Fun.kpos T.F__law_right fun _ _ _ _ _ _ us hl => match us, hl with | [_, _, _, _], _ => rfl
theorem ok__law_right (T : Facts w.params K mg c_StillError c_Missing c_Trouble ai_Used ai_NoFit ai_Taken ai_NoName ai_Over ai_NotNow ai_Tired ai_TooLate ai_NoText ai_NoDeed ai_NoRow ai_NoChange ai_NoWriter ai_NoTag ai_NoCommit ai_NoTable ai_NoFile ai_NoColumn ai_Clash ai_Lost ai_Crash a__law_deck a__law_draw a__law_any a__law_placed a__law_named a__law_classes a__law_fields a__law_right a_law di_Used di_NoFit di_Taken di_NoName di_Over di_NotNow di_Tired di_TooLate di_NoText di_NoDeed di_NoRow di_NoChange di_NoWriter di_NoTag di_NoCommit di_NoTable di_NoFile di_NoColumn di_Clash di_Lost di_Crash d__law_deck d__law_draw d__law_any d__law_placed d__law_named d__law_classes d__law_fields d__law_right d_law ) : FnG P w K mg base CX0 2 a__law_right d__law_right ["_law_made", "_law_a", "_law_b", "_law_c"] (spD K 4 m__law_right) :=
  fnd_of (N := NN__law_right) (ps := ["_law_made", "_law_a", "_law_b", "_law_c"]) (m := b__law_right) T.F__law_right sc__law_right fun cdv A outer s H E hg hr =>
    (dss_cons (ds_for PassesOwn.never rfl (di_range1 (by rfl) T.n_range (da_cons de_int da_nil (by rfl)) (by rfl)) (dg_name (i := 4) sc__law_right.nd rfl lo__law_right_4 (.inl rfl)) (dss_cons (ds_set (i := 5) sc__law_right.nd rfl lo__law_right_5 (.inl rfl) (de_lst (da_cons (de_cmp op_ltA opd_cmp (de_var (i := 4) rfl vi__law_right_4 nd_62 nc_62) de_int (nomark _)) (da_cons (de_chain op_leA opd_cmp op_ltA opd_cmp de_int (de_var (i := 4) rfl vi__law_right_4 nd_62 nc_62) de_int (by with_unfolding_all rfl)) (da_cons (de_cmp op_gtA opd_cmp (de_var (i := 4) rfl vi__law_right_4 nd_62 nc_62) de_int (nomark _)) da_nil (by rfl)) (by rfl)) (by rfl))) (by rfl))
    (dss_one (ds_if (dt_cmp (op_neA hr.units) opd_ne (de_callB (DL.CallR.or (call_reprX hg hr.units) (DL.CallR.or (call_repr hg hr.units) (call_reprD hg hr.units))) cd_reprX (by rfl) T.n_repr bt_repr (by decide) (by decide) (da_cons (de_call (ok__law_classes T) hg (hr.mono (by decide)) (by rfl) T.g__law_classes T.F__law_classes.kp (kp__law_classes T) nd_63 (da_cons (de_ix ix_seq opd_ix (de_var (i := 0) rfl vi__law_right_0 nd_61 nc_61) (de_var (i := 4) rfl vi__law_right_4 nd_62 nc_62) (fun _ _ => rfl)) da_nil (by rfl)) (by rfl) (by rfl)) da_nil (by rfl)) (by rfl) (by rfl)) (de_callB (DL.CallR.or (call_reprX hg hr.units) (DL.CallR.or (call_repr hg hr.units) (call_reprD hg hr.units))) cd_reprX (by rfl) T.n_repr bt_repr (by decide) (by decide) (da_cons (de_op op_addA opd_add (de_op op_addA opd_add (de_lc (ts := [6]) (own := [("_law_j", 6)]) rfl sc__law_right.nd (di_range1 (by rfl) T.n_range (da_cons de_int da_nil (by rfl)) (by rfl)) (blkOk_by (own := [("_law_j", 6)]) (N := NN__law_right) (sc := defScope s__law_right) (by decide +kernel)) (by decide) (fun _ _ _ _ _ => (dg_name (i := 6) sc__law_right.nd rfl (.inl rfl) (.inr rfl))) (fun _ _ _ _ _ => dts_nil) (fun _ _ _ _ _ => (de_cmp (op_eqA hr.units) opd_eq (de_varB (i := 6) rfl (.inl (by decide +kernel)) nd_64 nc_64) (de_varB (i := 4) rfl (.inr (by decide +kernel)) nd_62 nc_62) (nomark _))) (by intro _; rfl)) (de_var (i := 5) rfl vi__law_right_5 nd_65 nc_65)) (de_var (i := 5) rfl vi__law_right_5 nd_65 nc_65)) da_nil (by rfl)) (by rfl) (by rfl)) (nomark _)) (dss_one (ds_ret de_bl)) dss_nil))) (by intro _; rfl))
    (dss_one (ds_ret (de_and (de_cmp (op_eqA hr.units) opd_eq (de_callB call_len cd_len (by rfl) T.n_len bt_len (by decide) (by decide) (da_cons (de_var (i := 0) rfl vi__law_right_0 nd_61 nc_61) da_nil (by rfl)) (by rfl) (by rfl)) de_int (nomark _)) (de_one (de_cmp (op_eqA hr.units) opd_eq (de_callB (DL.CallR.or (call_reprX hg hr.units) (DL.CallR.or (call_repr hg hr.units) (call_reprD hg hr.units))) cd_reprX (by rfl) T.n_repr bt_repr (by decide) (by decide) (da_cons (de_call (ok__law_fields T) hg (hr.mono (by decide)) (by rfl) T.g__law_fields T.F__law_fields.kp (kp__law_fields T) nd_66 (da_cons (de_var (i := 0) rfl vi__law_right_0 nd_61 nc_61) da_nil (by rfl)) (by rfl) (by rfl)) da_nil (by rfl)) (by rfl) (by rfl)) (de_callB (DL.CallR.or (call_reprX hg hr.units) (DL.CallR.or (call_repr hg hr.units) (call_reprD hg hr.units))) cd_reprX (by rfl) T.n_repr bt_repr (by decide) (by decide) (da_cons (de_op op_addA opd_add (de_op op_addA opd_add (de_op op_mulA opd_mulA (de_lst (da_cons (de_var (i := 1) rfl vi__law_right_1 nd_13 nc_13) da_nil (by rfl))) de_int) (de_lst (da_cons (de_var (i := 2) rfl vi__law_right_2 nd_52 nc_52) (da_cons (de_var (i := 3) rfl vi__law_right_3 nd_51 nc_51) da_nil (by rfl)) (by rfl)))) (de_op op_mulA opd_mulA (de_lst (da_cons (de_var (i := 1) rfl vi__law_right_1 nd_13 nc_13) da_nil (by rfl))) de_int)) da_nil (by rfl)) (by rfl) (by rfl)) (nomark _)))))))
theorem ok_law (T : Facts w.params K mg c_StillError c_Missing c_Trouble ai_Used ai_NoFit ai_Taken ai_NoName ai_Over ai_NotNow ai_Tired ai_TooLate ai_NoText ai_NoDeed ai_NoRow ai_NoChange ai_NoWriter ai_NoTag ai_NoCommit ai_NoTable ai_NoFile ai_NoColumn ai_Clash ai_Lost ai_Crash a__law_deck a__law_draw a__law_any a__law_placed a__law_named a__law_classes a__law_fields a__law_right a_law di_Used di_NoFit di_Taken di_NoName di_Over di_NotNow di_Tired di_TooLate di_NoText di_NoDeed di_NoRow di_NoChange di_NoWriter di_NoTag di_NoCommit di_NoTable di_NoFile di_NoColumn di_Clash di_Lost di_Crash d__law_deck d__law_draw d__law_any d__law_placed d__law_named d__law_classes d__law_fields d__law_right d_law ) : FnG P w K mg base CX0 5 a_law d_law ["_law_script"] (spD K 1 m_law) :=
  fnd_of (N := NN_law) (ps := ["_law_script"]) (m := b_law) T.F_law sc_law fun cdv A outer s H E hg hr =>
    (dss_cons (ds_set (i := 1) sc_law.nd rfl lo_law_1 (.inl rfl) (de_call (ok__law_deck T) hg (hr.mono (by decide)) (by rfl) T.g__law_deck T.F__law_deck.kp (kp__law_deck T) nd_67 (da_cons (de_var (i := 0) rfl vi_law_0 nd_0 nc_0) da_nil (by rfl)) (by rfl) (by rfl)) (by rfl))
    (dss_cons (ds_set (i := 2) sc_law.nd rfl lo_law_2 (.inl rfl) (de_lst da_nil) (by rfl))
    (dss_cons (ds_for PassesOwn.never rfl (di_range1 (by rfl) T.n_range (da_cons de_int da_nil (by rfl)) (by rfl)) (dg_name (i := 3) sc_law.nd rfl lo_law_3 (.inl rfl)) (dss_cons (ds_asg (de_lc (ts := [7]) (own := [("_law_k", 7)]) rfl sc_law.nd (di_range1 (by rfl) T.n_range (da_cons de_int da_nil (by rfl)) (by rfl)) (blkOk_by (own := [("_law_k", 7)]) (N := NN_law) (sc := defScope s_law) (by decide +kernel)) (by decide) (fun _ _ _ _ _ => (dg_name (i := 7) sc_law.nd rfl (.inl rfl) (.inr rfl))) (fun _ _ _ _ _ => dts_nil) (fun _ _ _ _ _ => (de_call (ok__law_any T) hg (hr.mono (by decide)) (by rfl) T.g__law_any T.F__law_any.kp (kp__law_any T) nd_8 (da_cons (de_varB (i := 1) rfl (.inr (by decide +kernel)) nd_1 nc_1) (da_cons de_int da_nil (by rfl)) (by rfl)) (by rfl) (by rfl))) (by intro _; rfl)) (dg_unl (ts := [4, 5, 6]) rfl (dgs_cons (ts := [4]) (us := [5, 6]) (dg_name (i := 4) sc_law.nd rfl lo_law_4 (.inl rfl)) (dgs_cons (ts := [5]) (us := [6]) (dg_name (i := 5) sc_law.nd rfl lo_law_5 (.inl rfl)) (dgs_cons (ts := [6]) (us := []) (dg_name (i := 6) sc_law.nd rfl lo_law_6 (.inl rfl)) dgs_nil (by rfl)) (by rfl)) (by rfl)) (by rfl) (by rfl)) (by rfl) (by rfl) (by rfl))
    (dss_one (ds_set (i := 2) sc_law.nd rfl lo_law_2 (.inl rfl) (de_op op_addA opd_add (de_var (i := 2) rfl vi_law_2 nd_68 nc_68) (de_lst (da_cons (de_tup (da_cons (de_call (ok__law_placed T) hg (hr.mono (by decide)) (by rfl) T.g__law_placed T.F__law_placed.kp (kp__law_placed T) nd_70 (da_cons (de_var (i := 4) rfl vi_law_4 nd_13 nc_13) (da_cons (de_var (i := 5) rfl vi_law_5 nd_52 nc_52) (da_cons (de_var (i := 6) rfl vi_law_6 nd_51 nc_51) da_nil (by rfl)) (by rfl)) (by rfl)) (by rfl) (by rfl)) (da_cons (de_var (i := 4) rfl vi_law_4 nd_13 nc_13) (da_cons (de_var (i := 5) rfl vi_law_5 nd_52 nc_52) (da_cons (de_var (i := 6) rfl vi_law_6 nd_51 nc_51) da_nil (by rfl)) (by rfl)) (by rfl)) (by rfl))) (da_cons (de_tup (da_cons (de_call (ok__law_named T) hg (hr.mono (by decide)) (by rfl) T.g__law_named T.F__law_named.kp (kp__law_named T) nd_69 (da_cons (de_var (i := 4) rfl vi_law_4 nd_13 nc_13) (da_cons (de_var (i := 5) rfl vi_law_5 nd_52 nc_52) (da_cons (de_var (i := 6) rfl vi_law_6 nd_51 nc_51) da_nil (by rfl)) (by rfl)) (by rfl)) (by rfl) (by rfl)) (da_cons (de_var (i := 4) rfl vi_law_4 nd_13 nc_13) (da_cons (de_var (i := 5) rfl vi_law_5 nd_52 nc_52) (da_cons (de_var (i := 6) rfl vi_law_6 nd_51 nc_51) da_nil (by rfl)) (by rfl)) (by rfl)) (by rfl))) da_nil (by rfl)) (by rfl)))) (by rfl)))) (by intro _; rfl))
    (dss_one (ds_ret (de_cmp (op_eqL hr.units) opd_eqL (de_lc (ts := [8, 4, 5, 6]) (own := [("_law_made", 8), ("_law_a", 4), ("_law_b", 5), ("_law_c", 6)]) rfl sc_law.nd (di_seq (de_var (i := 2) rfl vi_law_2 nd_68 nc_68)) (blkOk_by (own := [("_law_made", 8), ("_law_a", 4), ("_law_b", 5), ("_law_c", 6)]) (N := NN_law) (sc := defScope s_law) (by decide +kernel)) (by decide) (fun _ _ _ _ _ => (dg_tup (ts := [8, 4, 5, 6]) rfl (dgs_cons (ts := [8]) (us := [4, 5, 6]) (dg_name (i := 8) sc_law.nd rfl (.inl rfl) (.inr rfl)) (dgs_cons (ts := [4]) (us := [5, 6]) (dg_name (i := 4) sc_law.nd rfl (.inl rfl) (.inr rfl)) (dgs_cons (ts := [5]) (us := [6]) (dg_name (i := 5) sc_law.nd rfl (.inl rfl) (.inr rfl)) (dgs_cons (ts := [6]) (us := []) (dg_name (i := 6) sc_law.nd rfl (.inl rfl) (.inr rfl)) dgs_nil (by rfl)) (by rfl)) (by rfl)) (by rfl)) (by rfl) (by rfl))) (fun _ _ _ _ _ => (dts_one (dt_not (dt_truth (de_call (ok__law_right T) hg (hr.mono (by decide)) (by rfl) T.g__law_right T.F__law_right.kp (kp__law_right T) nd_71 (da_cons (de_varB (i := 8) rfl (.inl (by decide +kernel)) nd_61 nc_61) (da_cons (de_varB (i := 4) rfl (.inl (by decide +kernel)) nd_13 nc_13) (da_cons (de_varB (i := 5) rfl (.inl (by decide +kernel)) nd_52 nc_52) (da_cons (de_varB (i := 6) rfl (.inl (by decide +kernel)) nd_51 nc_51) da_nil (by rfl)) (by rfl)) (by rfl)) (by rfl)) (by rfl) (by rfl)) (by intro _; rfl))))) (fun _ _ _ _ _ => de_int) (by intro _; rfl)) (de_lst da_nil) (nomark _)))))))
end
/-! ### what the top has written: printed by gen.py -/
omit [CA]
def mAll : List D → W D := fun ds μ Q E => ∀ ca : CA, @m_law ca ds μ Q E
theorem all_mk {l : PySem.W.OpenLaw} {w : World} {K : PySem.W.Frag} {h : Heap} {mg : Str → Option Value} {fa c_StillError c_Missing c_Trouble ai_Used ai_NoFit ai_Taken ai_NoName ai_Over ai_NotNow ai_Tired ai_TooLate ai_NoText ai_NoDeed ai_NoRow ai_NoChange ai_NoWriter ai_NoTag ai_NoCommit ai_NoTable ai_NoFile ai_NoColumn ai_Clash ai_Lost ai_Crash a__law_deck a__law_draw a__law_any a__law_placed a__law_named a__law_classes a__law_fields a__law_right a_law c_Used c_NoFit c_Taken c_NoName c_NoLine c_Busy c_Last c_Full c_NoRule c_NoCond c_NoShape c_Over c_NotNow c_Tired c_TooLate c_NoText c_NoDeed c_NoRow c_NoChange c_NoWriter c_NoTag c_NoCommit c_NoTable c_NoFile c_NoColumn c_Clash c_Lost c_Crash : Addr} (X : K.In h) (G : h.Ns mainGlobals mg) (hfa : mg "law" = some (.ref fa))
    (u0 : PySem.W.nsIn K mainGlobals "StillError" = some (some (.ref c_StillError)))
    (u1 : PySem.W.nsIn K mainGlobals "Missing" = some (some (.ref c_Missing)))
    (u2 : PySem.W.nsIn K mainGlobals "Trouble" = some (some (.ref c_Trouble)))
    (u3 : PySem.W.nsIn K mainGlobals "Used" = some (some (.ref c_Used)))
    (u4 : PySem.W.nsIn K mainGlobals "NoFit" = some (some (.ref c_NoFit)))
    (u5 : PySem.W.nsIn K mainGlobals "Taken" = some (some (.ref c_Taken)))
    (u6 : PySem.W.nsIn K mainGlobals "NoName" = some (some (.ref c_NoName)))
    (u7 : PySem.W.nsIn K mainGlobals "NoLine" = some (some (.ref c_NoLine)))
    (u8 : PySem.W.nsIn K mainGlobals "Busy" = some (some (.ref c_Busy)))
    (u9 : PySem.W.nsIn K mainGlobals "Last" = some (some (.ref c_Last)))
    (u10 : PySem.W.nsIn K mainGlobals "Full" = some (some (.ref c_Full)))
    (u11 : PySem.W.nsIn K mainGlobals "NoRule" = some (some (.ref c_NoRule)))
    (u12 : PySem.W.nsIn K mainGlobals "NoCond" = some (some (.ref c_NoCond)))
    (u13 : PySem.W.nsIn K mainGlobals "NoShape" = some (some (.ref c_NoShape)))
    (u14 : PySem.W.nsIn K mainGlobals "Over" = some (some (.ref c_Over)))
    (u15 : PySem.W.nsIn K mainGlobals "NotNow" = some (some (.ref c_NotNow)))
    (u16 : PySem.W.nsIn K mainGlobals "Tired" = some (some (.ref c_Tired)))
    (u17 : PySem.W.nsIn K mainGlobals "TooLate" = some (some (.ref c_TooLate)))
    (u18 : PySem.W.nsIn K mainGlobals "NoText" = some (some (.ref c_NoText)))
    (u19 : PySem.W.nsIn K mainGlobals "NoDeed" = some (some (.ref c_NoDeed)))
    (u20 : PySem.W.nsIn K mainGlobals "NoRow" = some (some (.ref c_NoRow)))
    (u21 : PySem.W.nsIn K mainGlobals "NoChange" = some (some (.ref c_NoChange)))
    (u22 : PySem.W.nsIn K mainGlobals "NoWriter" = some (some (.ref c_NoWriter)))
    (u23 : PySem.W.nsIn K mainGlobals "NoTag" = some (some (.ref c_NoTag)))
    (u24 : PySem.W.nsIn K mainGlobals "NoCommit" = some (some (.ref c_NoCommit)))
    (u25 : PySem.W.nsIn K mainGlobals "NoTable" = some (some (.ref c_NoTable)))
    (u26 : PySem.W.nsIn K mainGlobals "NoFile" = some (some (.ref c_NoFile)))
    (u27 : PySem.W.nsIn K mainGlobals "NoColumn" = some (some (.ref c_NoColumn)))
    (u28 : PySem.W.nsIn K mainGlobals "Clash" = some (some (.ref c_Clash)))
    (u29 : PySem.W.nsIn K mainGlobals "Lost" = some (some (.ref c_Lost)))
    (u30 : PySem.W.nsIn K mainGlobals "Crash" = some (some (.ref c_Crash)))
    (hr_StillError : PySem.W.readsIn K c_StillError (.type "type") = true)
    (hga_StillError : PySem.W.specialIn K (.ref c_StillError) "__getattribute__" = some (some (.builtin "type.__getattribute__")))
    (hfc_StillError : PySem.W.findCls K (.ref c_StillError) (.type "type") "__init__" = some (.val (.builtin "ValueError.__init__")))
    (hr_Missing : PySem.W.readsIn K c_Missing (.type "type") = true)
    (hga_Missing : PySem.W.specialIn K (.ref c_Missing) "__getattribute__" = some (some (.builtin "type.__getattribute__")))
    (hfc_Missing : PySem.W.findCls K (.ref c_Missing) (.type "type") "__init__" = some (.val (.builtin "KeyError.__init__")))
    (hr_Trouble : PySem.W.readsIn K c_Trouble (.type "type") = true)
    (hga_Trouble : PySem.W.specialIn K (.ref c_Trouble) "__getattribute__" = some (some (.builtin "type.__getattribute__")))
    (hfc_Trouble : PySem.W.findCls K (.ref c_Trouble) (.type "type") "__init__" = some (.val (.builtin "ArithmeticError.__init__")))
    (hnf_Used_name : PySem.W.findIn K (.ref c_Used) "name" = some none)
    (hnf_NoFit_name : PySem.W.findIn K (.ref c_NoFit) "name" = some none)
    (hnf_Taken_name : PySem.W.findIn K (.ref c_Taken) "name" = some none)
    (hnf_NoName_name : PySem.W.findIn K (.ref c_NoName) "name" = some none)
    (hnf_Over_until : PySem.W.findIn K (.ref c_Over) "until" = some none)
    (hnf_NotNow_state : PySem.W.findIn K (.ref c_NotNow) "state" = some none)
    (hnf_Tired_tries : PySem.W.findIn K (.ref c_Tired) "tries" = some none)
    (hnf_TooLate_base : PySem.W.findIn K (.ref c_TooLate) "base" = some none)
    (hnf_NoText_row : PySem.W.findIn K (.ref c_NoText) "row" = some none)
    (hnf_NoDeed_deed : PySem.W.findIn K (.ref c_NoDeed) "deed" = some none)
    (hnf_NoRow_place : PySem.W.findIn K (.ref c_NoRow) "place" = some none)
    (hnf_NoChange_place : PySem.W.findIn K (.ref c_NoChange) "place" = some none)
    (hnf_NoWriter_name : PySem.W.findIn K (.ref c_NoWriter) "name" = some none)
    (hnf_NoTag_name : PySem.W.findIn K (.ref c_NoTag) "name" = some none)
    (hnf_NoCommit_number : PySem.W.findIn K (.ref c_NoCommit) "number" = some none)
    (hnf_NoTable_name : PySem.W.findIn K (.ref c_NoTable) "name" = some none)
    (hnf_NoFile_file : PySem.W.findIn K (.ref c_NoFile) "file" = some none)
    (hnf_NoColumn_name : PySem.W.findIn K (.ref c_NoColumn) "name" = some none)
    (hnf_Clash_number : PySem.W.findIn K (.ref c_Clash) "number" = some none)
    (hnf_Clash_word : PySem.W.findIn K (.ref c_Clash) "word" = some none)
    (hnf_Clash_file : PySem.W.findIn K (.ref c_Clash) "file" = some none)
    (hnf_Lost_step : PySem.W.findIn K (.ref c_Lost) "step" = some none)
    (hnf_Crash_step : PySem.W.findIn K (.ref c_Crash) "step" = some none)
    (hx_NoLine : PySem.W.excIn K c_NoLine PySem.DNX.veTl "ValueError.__new__" = true)
    (hk_NoLine : PySem.W.keepIn K (.ref c_NoLine) = true)
    (hx_Busy : PySem.W.excIn K c_Busy PySem.DNX.veTl "ValueError.__new__" = true)
    (hk_Busy : PySem.W.keepIn K (.ref c_Busy) = true)
    (hx_Last : PySem.W.excIn K c_Last PySem.DNX.veTl "ValueError.__new__" = true)
    (hk_Last : PySem.W.keepIn K (.ref c_Last) = true)
    (hx_Full : PySem.W.excIn K c_Full PySem.DNX.veTl "ValueError.__new__" = true)
    (hk_Full : PySem.W.keepIn K (.ref c_Full) = true)
    (hx_NoRule : PySem.W.excIn K c_NoRule PySem.DNX.veTl "ValueError.__new__" = true)
    (hk_NoRule : PySem.W.keepIn K (.ref c_NoRule) = true)
    (hx_NoCond : PySem.W.excIn K c_NoCond PySem.DNX.veTl "ValueError.__new__" = true)
    (hk_NoCond : PySem.W.keepIn K (.ref c_NoCond) = true)
    (hx_NoShape : PySem.W.excIn K c_NoShape PySem.DNX.veTl "ValueError.__new__" = true)
    (hk_NoShape : PySem.W.keepIn K (.ref c_NoShape) = true)
    (hi_Used : PySem.W.findIn K (.ref c_Used) "__init__" = some (some (.ref ai_Used)))
    (ho_Used : DN.oxB K c_Used "ValueError.__new__" PySem.DNX.veTl = true)
    (hti_Used : PySem.W.typeIn K (.ref ai_Used) = some (.type "function"))
    (hi_NoFit : PySem.W.findIn K (.ref c_NoFit) "__init__" = some (some (.ref ai_NoFit)))
    (ho_NoFit : DN.oxB K c_NoFit "ValueError.__new__" PySem.DNX.veTl = true)
    (hti_NoFit : PySem.W.typeIn K (.ref ai_NoFit) = some (.type "function"))
    (hi_Taken : PySem.W.findIn K (.ref c_Taken) "__init__" = some (some (.ref ai_Taken)))
    (ho_Taken : DN.oxB K c_Taken "ValueError.__new__" PySem.DNX.veTl = true)
    (hti_Taken : PySem.W.typeIn K (.ref ai_Taken) = some (.type "function"))
    (hi_NoName : PySem.W.findIn K (.ref c_NoName) "__init__" = some (some (.ref ai_NoName)))
    (ho_NoName : DN.oxB K c_NoName "ValueError.__new__" PySem.DNX.veTl = true)
    (hti_NoName : PySem.W.typeIn K (.ref ai_NoName) = some (.type "function"))
    (hi_Over : PySem.W.findIn K (.ref c_Over) "__init__" = some (some (.ref ai_Over)))
    (ho_Over : DN.oxB K c_Over "ValueError.__new__" PySem.DNX.veTl = true)
    (hti_Over : PySem.W.typeIn K (.ref ai_Over) = some (.type "function"))
    (hi_NotNow : PySem.W.findIn K (.ref c_NotNow) "__init__" = some (some (.ref ai_NotNow)))
    (ho_NotNow : DN.oxB K c_NotNow "ValueError.__new__" PySem.DNX.veTl = true)
    (hti_NotNow : PySem.W.typeIn K (.ref ai_NotNow) = some (.type "function"))
    (hi_Tired : PySem.W.findIn K (.ref c_Tired) "__init__" = some (some (.ref ai_Tired)))
    (ho_Tired : DN.oxB K c_Tired "ValueError.__new__" PySem.DNX.veTl = true)
    (hti_Tired : PySem.W.typeIn K (.ref ai_Tired) = some (.type "function"))
    (hi_TooLate : PySem.W.findIn K (.ref c_TooLate) "__init__" = some (some (.ref ai_TooLate)))
    (ho_TooLate : DN.oxB K c_TooLate "ValueError.__new__" PySem.DNX.veTl = true)
    (hti_TooLate : PySem.W.typeIn K (.ref ai_TooLate) = some (.type "function"))
    (hi_NoText : PySem.W.findIn K (.ref c_NoText) "__init__" = some (some (.ref ai_NoText)))
    (ho_NoText : DN.oxB K c_NoText "ValueError.__new__" PySem.DNX.veTl = true)
    (hti_NoText : PySem.W.typeIn K (.ref ai_NoText) = some (.type "function"))
    (hi_NoDeed : PySem.W.findIn K (.ref c_NoDeed) "__init__" = some (some (.ref ai_NoDeed)))
    (ho_NoDeed : DN.oxB K c_NoDeed "ValueError.__new__" PySem.DNX.veTl = true)
    (hti_NoDeed : PySem.W.typeIn K (.ref ai_NoDeed) = some (.type "function"))
    (hi_NoRow : PySem.W.findIn K (.ref c_NoRow) "__init__" = some (some (.ref ai_NoRow)))
    (ho_NoRow : DN.oxB K c_NoRow "ValueError.__new__" PySem.DNX.veTl = true)
    (hti_NoRow : PySem.W.typeIn K (.ref ai_NoRow) = some (.type "function"))
    (hi_NoChange : PySem.W.findIn K (.ref c_NoChange) "__init__" = some (some (.ref ai_NoChange)))
    (ho_NoChange : DN.oxB K c_NoChange "ValueError.__new__" PySem.DNX.veTl = true)
    (hti_NoChange : PySem.W.typeIn K (.ref ai_NoChange) = some (.type "function"))
    (hi_NoWriter : PySem.W.findIn K (.ref c_NoWriter) "__init__" = some (some (.ref ai_NoWriter)))
    (ho_NoWriter : DN.oxB K c_NoWriter "LookupError.__new__" PySem.DNX.keTl = true)
    (hti_NoWriter : PySem.W.typeIn K (.ref ai_NoWriter) = some (.type "function"))
    (hi_NoTag : PySem.W.findIn K (.ref c_NoTag) "__init__" = some (some (.ref ai_NoTag)))
    (ho_NoTag : DN.oxB K c_NoTag "LookupError.__new__" PySem.DNX.keTl = true)
    (hti_NoTag : PySem.W.typeIn K (.ref ai_NoTag) = some (.type "function"))
    (hi_NoCommit : PySem.W.findIn K (.ref c_NoCommit) "__init__" = some (some (.ref ai_NoCommit)))
    (ho_NoCommit : DN.oxB K c_NoCommit "LookupError.__new__" PySem.DNX.keTl = true)
    (hti_NoCommit : PySem.W.typeIn K (.ref ai_NoCommit) = some (.type "function"))
    (hi_NoTable : PySem.W.findIn K (.ref c_NoTable) "__init__" = some (some (.ref ai_NoTable)))
    (ho_NoTable : DN.oxB K c_NoTable "LookupError.__new__" PySem.DNX.keTl = true)
    (hti_NoTable : PySem.W.typeIn K (.ref ai_NoTable) = some (.type "function"))
    (hi_NoFile : PySem.W.findIn K (.ref c_NoFile) "__init__" = some (some (.ref ai_NoFile)))
    (ho_NoFile : DN.oxB K c_NoFile "LookupError.__new__" PySem.DNX.keTl = true)
    (hti_NoFile : PySem.W.typeIn K (.ref ai_NoFile) = some (.type "function"))
    (hi_NoColumn : PySem.W.findIn K (.ref c_NoColumn) "__init__" = some (some (.ref ai_NoColumn)))
    (ho_NoColumn : DN.oxB K c_NoColumn "LookupError.__new__" PySem.DNX.keTl = true)
    (hti_NoColumn : PySem.W.typeIn K (.ref ai_NoColumn) = some (.type "function"))
    (hi_Clash : PySem.W.findIn K (.ref c_Clash) "__init__" = some (some (.ref ai_Clash)))
    (ho_Clash : DN.oxB K c_Clash "ValueError.__new__" PySem.DNX.veTl = true)
    (hti_Clash : PySem.W.typeIn K (.ref ai_Clash) = some (.type "function"))
    (hi_Lost : PySem.W.findIn K (.ref c_Lost) "__init__" = some (some (.ref ai_Lost)))
    (ho_Lost : DN.oxB K c_Lost "ArithmeticError.__new__" PySem.DNX.aeTl = true)
    (hti_Lost : PySem.W.typeIn K (.ref ai_Lost) = some (.type "function"))
    (hi_Crash : PySem.W.findIn K (.ref c_Crash) "__init__" = some (some (.ref ai_Crash)))
    (ho_Crash : DN.oxB K c_Crash "ArithmeticError.__new__" PySem.DNX.aeTl = true)
    (hti_Crash : PySem.W.typeIn K (.ref ai_Crash) = some (.type "function"))
    (hvx : ([(PySem.Str.ofString "Used", c_Used), (PySem.Str.ofString "NoFit", c_NoFit), (PySem.Str.ofString "Taken", c_Taken), (PySem.Str.ofString "NoName", c_NoName), (PySem.Str.ofString "NoLine", c_NoLine), (PySem.Str.ofString "Busy", c_Busy), (PySem.Str.ofString "Last", c_Last), (PySem.Str.ofString "Full", c_Full), (PySem.Str.ofString "NoRule", c_NoRule), (PySem.Str.ofString "NoCond", c_NoCond), (PySem.Str.ofString "NoShape", c_NoShape), (PySem.Str.ofString "Over", c_Over), (PySem.Str.ofString "NotNow", c_NotNow), (PySem.Str.ofString "Tired", c_Tired), (PySem.Str.ofString "TooLate", c_TooLate), (PySem.Str.ofString "NoText", c_NoText), (PySem.Str.ofString "NoDeed", c_NoDeed), (PySem.Str.ofString "NoRow", c_NoRow), (PySem.Str.ofString "NoChange", c_NoChange), (PySem.Str.ofString "NoWriter", c_NoWriter), (PySem.Str.ofString "NoTag", c_NoTag), (PySem.Str.ofString "NoCommit", c_NoCommit), (PySem.Str.ofString "NoTable", c_NoTable), (PySem.Str.ofString "NoFile", c_NoFile), (PySem.Str.ofString "NoColumn", c_NoColumn), (PySem.Str.ofString "Clash", c_Clash), (PySem.Str.ofString "Lost", c_Lost), (PySem.Str.ofString "Crash", c_Crash)] : List (Str × Addr)).all (fun q => xcB K q.2) = true)
    (hvq_Full : ([(PySem.Str.ofString "Used", c_Used), (PySem.Str.ofString "NoFit", c_NoFit), (PySem.Str.ofString "Taken", c_Taken), (PySem.Str.ofString "NoName", c_NoName), (PySem.Str.ofString "NoLine", c_NoLine), (PySem.Str.ofString "Busy", c_Busy), (PySem.Str.ofString "Last", c_Last), (PySem.Str.ofString "Full", c_Full), (PySem.Str.ofString "NoRule", c_NoRule), (PySem.Str.ofString "NoCond", c_NoCond), (PySem.Str.ofString "NoShape", c_NoShape), (PySem.Str.ofString "Over", c_Over), (PySem.Str.ofString "NotNow", c_NotNow), (PySem.Str.ofString "Tired", c_Tired), (PySem.Str.ofString "TooLate", c_TooLate), (PySem.Str.ofString "NoText", c_NoText), (PySem.Str.ofString "NoDeed", c_NoDeed), (PySem.Str.ofString "NoRow", c_NoRow), (PySem.Str.ofString "NoChange", c_NoChange), (PySem.Str.ofString "NoWriter", c_NoWriter), (PySem.Str.ofString "NoTag", c_NoTag), (PySem.Str.ofString "NoCommit", c_NoCommit), (PySem.Str.ofString "NoTable", c_NoTable), (PySem.Str.ofString "NoFile", c_NoFile), (PySem.Str.ofString "NoColumn", c_NoColumn), (PySem.Str.ofString "Clash", c_Clash), (PySem.Str.ofString "Lost", c_Lost), (PySem.Str.ofString "Crash", c_Crash)] : List (Str × Addr)).all (fun q => decide (PySem.W.kitOne K (.ref q.2) (.ref c_Full) = some (vsub_Full q.1))) = true)
    (hvq_NoRule : ([(PySem.Str.ofString "Used", c_Used), (PySem.Str.ofString "NoFit", c_NoFit), (PySem.Str.ofString "Taken", c_Taken), (PySem.Str.ofString "NoName", c_NoName), (PySem.Str.ofString "NoLine", c_NoLine), (PySem.Str.ofString "Busy", c_Busy), (PySem.Str.ofString "Last", c_Last), (PySem.Str.ofString "Full", c_Full), (PySem.Str.ofString "NoRule", c_NoRule), (PySem.Str.ofString "NoCond", c_NoCond), (PySem.Str.ofString "NoShape", c_NoShape), (PySem.Str.ofString "Over", c_Over), (PySem.Str.ofString "NotNow", c_NotNow), (PySem.Str.ofString "Tired", c_Tired), (PySem.Str.ofString "TooLate", c_TooLate), (PySem.Str.ofString "NoText", c_NoText), (PySem.Str.ofString "NoDeed", c_NoDeed), (PySem.Str.ofString "NoRow", c_NoRow), (PySem.Str.ofString "NoChange", c_NoChange), (PySem.Str.ofString "NoWriter", c_NoWriter), (PySem.Str.ofString "NoTag", c_NoTag), (PySem.Str.ofString "NoCommit", c_NoCommit), (PySem.Str.ofString "NoTable", c_NoTable), (PySem.Str.ofString "NoFile", c_NoFile), (PySem.Str.ofString "NoColumn", c_NoColumn), (PySem.Str.ofString "Clash", c_Clash), (PySem.Str.ofString "Lost", c_Lost), (PySem.Str.ofString "Crash", c_Crash)] : List (Str × Addr)).all (fun q => decide (PySem.W.kitOne K (.ref q.2) (.ref c_NoRule) = some (vsub_NoRule q.1))) = true)
    (hvq_NoCond : ([(PySem.Str.ofString "Used", c_Used), (PySem.Str.ofString "NoFit", c_NoFit), (PySem.Str.ofString "Taken", c_Taken), (PySem.Str.ofString "NoName", c_NoName), (PySem.Str.ofString "NoLine", c_NoLine), (PySem.Str.ofString "Busy", c_Busy), (PySem.Str.ofString "Last", c_Last), (PySem.Str.ofString "Full", c_Full), (PySem.Str.ofString "NoRule", c_NoRule), (PySem.Str.ofString "NoCond", c_NoCond), (PySem.Str.ofString "NoShape", c_NoShape), (PySem.Str.ofString "Over", c_Over), (PySem.Str.ofString "NotNow", c_NotNow), (PySem.Str.ofString "Tired", c_Tired), (PySem.Str.ofString "TooLate", c_TooLate), (PySem.Str.ofString "NoText", c_NoText), (PySem.Str.ofString "NoDeed", c_NoDeed), (PySem.Str.ofString "NoRow", c_NoRow), (PySem.Str.ofString "NoChange", c_NoChange), (PySem.Str.ofString "NoWriter", c_NoWriter), (PySem.Str.ofString "NoTag", c_NoTag), (PySem.Str.ofString "NoCommit", c_NoCommit), (PySem.Str.ofString "NoTable", c_NoTable), (PySem.Str.ofString "NoFile", c_NoFile), (PySem.Str.ofString "NoColumn", c_NoColumn), (PySem.Str.ofString "Clash", c_Clash), (PySem.Str.ofString "Lost", c_Lost), (PySem.Str.ofString "Crash", c_Crash)] : List (Str × Addr)).all (fun q => decide (PySem.W.kitOne K (.ref q.2) (.ref c_NoCond) = some (vsub_NoCond q.1))) = true)
    (hvq_NoShape : ([(PySem.Str.ofString "Used", c_Used), (PySem.Str.ofString "NoFit", c_NoFit), (PySem.Str.ofString "Taken", c_Taken), (PySem.Str.ofString "NoName", c_NoName), (PySem.Str.ofString "NoLine", c_NoLine), (PySem.Str.ofString "Busy", c_Busy), (PySem.Str.ofString "Last", c_Last), (PySem.Str.ofString "Full", c_Full), (PySem.Str.ofString "NoRule", c_NoRule), (PySem.Str.ofString "NoCond", c_NoCond), (PySem.Str.ofString "NoShape", c_NoShape), (PySem.Str.ofString "Over", c_Over), (PySem.Str.ofString "NotNow", c_NotNow), (PySem.Str.ofString "Tired", c_Tired), (PySem.Str.ofString "TooLate", c_TooLate), (PySem.Str.ofString "NoText", c_NoText), (PySem.Str.ofString "NoDeed", c_NoDeed), (PySem.Str.ofString "NoRow", c_NoRow), (PySem.Str.ofString "NoChange", c_NoChange), (PySem.Str.ofString "NoWriter", c_NoWriter), (PySem.Str.ofString "NoTag", c_NoTag), (PySem.Str.ofString "NoCommit", c_NoCommit), (PySem.Str.ofString "NoTable", c_NoTable), (PySem.Str.ofString "NoFile", c_NoFile), (PySem.Str.ofString "NoColumn", c_NoColumn), (PySem.Str.ofString "Clash", c_Clash), (PySem.Str.ofString "Lost", c_Lost), (PySem.Str.ofString "Crash", c_Crash)] : List (Str × Addr)).all (fun q => decide (PySem.W.kitOne K (.ref q.2) (.ref c_NoShape) = some (vsub_NoShape q.1))) = true)
    (hvq_NoName : ([(PySem.Str.ofString "Used", c_Used), (PySem.Str.ofString "NoFit", c_NoFit), (PySem.Str.ofString "Taken", c_Taken), (PySem.Str.ofString "NoName", c_NoName), (PySem.Str.ofString "NoLine", c_NoLine), (PySem.Str.ofString "Busy", c_Busy), (PySem.Str.ofString "Last", c_Last), (PySem.Str.ofString "Full", c_Full), (PySem.Str.ofString "NoRule", c_NoRule), (PySem.Str.ofString "NoCond", c_NoCond), (PySem.Str.ofString "NoShape", c_NoShape), (PySem.Str.ofString "Over", c_Over), (PySem.Str.ofString "NotNow", c_NotNow), (PySem.Str.ofString "Tired", c_Tired), (PySem.Str.ofString "TooLate", c_TooLate), (PySem.Str.ofString "NoText", c_NoText), (PySem.Str.ofString "NoDeed", c_NoDeed), (PySem.Str.ofString "NoRow", c_NoRow), (PySem.Str.ofString "NoChange", c_NoChange), (PySem.Str.ofString "NoWriter", c_NoWriter), (PySem.Str.ofString "NoTag", c_NoTag), (PySem.Str.ofString "NoCommit", c_NoCommit), (PySem.Str.ofString "NoTable", c_NoTable), (PySem.Str.ofString "NoFile", c_NoFile), (PySem.Str.ofString "NoColumn", c_NoColumn), (PySem.Str.ofString "Clash", c_Clash), (PySem.Str.ofString "Lost", c_Lost), (PySem.Str.ofString "Crash", c_Crash)] : List (Str × Addr)).all (fun q => decide (PySem.W.kitOne K (.ref q.2) (.ref c_NoName) = some (vsub_NoName q.1))) = true)
    (hvq_NoLine : ([(PySem.Str.ofString "Used", c_Used), (PySem.Str.ofString "NoFit", c_NoFit), (PySem.Str.ofString "Taken", c_Taken), (PySem.Str.ofString "NoName", c_NoName), (PySem.Str.ofString "NoLine", c_NoLine), (PySem.Str.ofString "Busy", c_Busy), (PySem.Str.ofString "Last", c_Last), (PySem.Str.ofString "Full", c_Full), (PySem.Str.ofString "NoRule", c_NoRule), (PySem.Str.ofString "NoCond", c_NoCond), (PySem.Str.ofString "NoShape", c_NoShape), (PySem.Str.ofString "Over", c_Over), (PySem.Str.ofString "NotNow", c_NotNow), (PySem.Str.ofString "Tired", c_Tired), (PySem.Str.ofString "TooLate", c_TooLate), (PySem.Str.ofString "NoText", c_NoText), (PySem.Str.ofString "NoDeed", c_NoDeed), (PySem.Str.ofString "NoRow", c_NoRow), (PySem.Str.ofString "NoChange", c_NoChange), (PySem.Str.ofString "NoWriter", c_NoWriter), (PySem.Str.ofString "NoTag", c_NoTag), (PySem.Str.ofString "NoCommit", c_NoCommit), (PySem.Str.ofString "NoTable", c_NoTable), (PySem.Str.ofString "NoFile", c_NoFile), (PySem.Str.ofString "NoColumn", c_NoColumn), (PySem.Str.ofString "Clash", c_Clash), (PySem.Str.ofString "Lost", c_Lost), (PySem.Str.ofString "Crash", c_Crash)] : List (Str × Addr)).all (fun q => decide (PySem.W.kitOne K (.ref q.2) (.ref c_NoLine) = some (vsub_NoLine q.1))) = true)
    (hvq_Busy : ([(PySem.Str.ofString "Used", c_Used), (PySem.Str.ofString "NoFit", c_NoFit), (PySem.Str.ofString "Taken", c_Taken), (PySem.Str.ofString "NoName", c_NoName), (PySem.Str.ofString "NoLine", c_NoLine), (PySem.Str.ofString "Busy", c_Busy), (PySem.Str.ofString "Last", c_Last), (PySem.Str.ofString "Full", c_Full), (PySem.Str.ofString "NoRule", c_NoRule), (PySem.Str.ofString "NoCond", c_NoCond), (PySem.Str.ofString "NoShape", c_NoShape), (PySem.Str.ofString "Over", c_Over), (PySem.Str.ofString "NotNow", c_NotNow), (PySem.Str.ofString "Tired", c_Tired), (PySem.Str.ofString "TooLate", c_TooLate), (PySem.Str.ofString "NoText", c_NoText), (PySem.Str.ofString "NoDeed", c_NoDeed), (PySem.Str.ofString "NoRow", c_NoRow), (PySem.Str.ofString "NoChange", c_NoChange), (PySem.Str.ofString "NoWriter", c_NoWriter), (PySem.Str.ofString "NoTag", c_NoTag), (PySem.Str.ofString "NoCommit", c_NoCommit), (PySem.Str.ofString "NoTable", c_NoTable), (PySem.Str.ofString "NoFile", c_NoFile), (PySem.Str.ofString "NoColumn", c_NoColumn), (PySem.Str.ofString "Clash", c_Clash), (PySem.Str.ofString "Lost", c_Lost), (PySem.Str.ofString "Crash", c_Crash)] : List (Str × Addr)).all (fun q => decide (PySem.W.kitOne K (.ref q.2) (.ref c_Busy) = some (vsub_Busy q.1))) = true)
    (hvq_Last : ([(PySem.Str.ofString "Used", c_Used), (PySem.Str.ofString "NoFit", c_NoFit), (PySem.Str.ofString "Taken", c_Taken), (PySem.Str.ofString "NoName", c_NoName), (PySem.Str.ofString "NoLine", c_NoLine), (PySem.Str.ofString "Busy", c_Busy), (PySem.Str.ofString "Last", c_Last), (PySem.Str.ofString "Full", c_Full), (PySem.Str.ofString "NoRule", c_NoRule), (PySem.Str.ofString "NoCond", c_NoCond), (PySem.Str.ofString "NoShape", c_NoShape), (PySem.Str.ofString "Over", c_Over), (PySem.Str.ofString "NotNow", c_NotNow), (PySem.Str.ofString "Tired", c_Tired), (PySem.Str.ofString "TooLate", c_TooLate), (PySem.Str.ofString "NoText", c_NoText), (PySem.Str.ofString "NoDeed", c_NoDeed), (PySem.Str.ofString "NoRow", c_NoRow), (PySem.Str.ofString "NoChange", c_NoChange), (PySem.Str.ofString "NoWriter", c_NoWriter), (PySem.Str.ofString "NoTag", c_NoTag), (PySem.Str.ofString "NoCommit", c_NoCommit), (PySem.Str.ofString "NoTable", c_NoTable), (PySem.Str.ofString "NoFile", c_NoFile), (PySem.Str.ofString "NoColumn", c_NoColumn), (PySem.Str.ofString "Clash", c_Clash), (PySem.Str.ofString "Lost", c_Lost), (PySem.Str.ofString "Crash", c_Crash)] : List (Str × Addr)).all (fun q => decide (PySem.W.kitOne K (.ref q.2) (.ref c_Last) = some (vsub_Last q.1))) = true)
    (hvq_NoChange : ([(PySem.Str.ofString "Used", c_Used), (PySem.Str.ofString "NoFit", c_NoFit), (PySem.Str.ofString "Taken", c_Taken), (PySem.Str.ofString "NoName", c_NoName), (PySem.Str.ofString "NoLine", c_NoLine), (PySem.Str.ofString "Busy", c_Busy), (PySem.Str.ofString "Last", c_Last), (PySem.Str.ofString "Full", c_Full), (PySem.Str.ofString "NoRule", c_NoRule), (PySem.Str.ofString "NoCond", c_NoCond), (PySem.Str.ofString "NoShape", c_NoShape), (PySem.Str.ofString "Over", c_Over), (PySem.Str.ofString "NotNow", c_NotNow), (PySem.Str.ofString "Tired", c_Tired), (PySem.Str.ofString "TooLate", c_TooLate), (PySem.Str.ofString "NoText", c_NoText), (PySem.Str.ofString "NoDeed", c_NoDeed), (PySem.Str.ofString "NoRow", c_NoRow), (PySem.Str.ofString "NoChange", c_NoChange), (PySem.Str.ofString "NoWriter", c_NoWriter), (PySem.Str.ofString "NoTag", c_NoTag), (PySem.Str.ofString "NoCommit", c_NoCommit), (PySem.Str.ofString "NoTable", c_NoTable), (PySem.Str.ofString "NoFile", c_NoFile), (PySem.Str.ofString "NoColumn", c_NoColumn), (PySem.Str.ofString "Clash", c_Clash), (PySem.Str.ofString "Lost", c_Lost), (PySem.Str.ofString "Crash", c_Crash)] : List (Str × Addr)).all (fun q => decide (PySem.W.kitOne K (.ref q.2) (.ref c_NoChange) = some (vsub_NoChange q.1))) = true)
    (hvq_Used : ([(PySem.Str.ofString "Used", c_Used), (PySem.Str.ofString "NoFit", c_NoFit), (PySem.Str.ofString "Taken", c_Taken), (PySem.Str.ofString "NoName", c_NoName), (PySem.Str.ofString "NoLine", c_NoLine), (PySem.Str.ofString "Busy", c_Busy), (PySem.Str.ofString "Last", c_Last), (PySem.Str.ofString "Full", c_Full), (PySem.Str.ofString "NoRule", c_NoRule), (PySem.Str.ofString "NoCond", c_NoCond), (PySem.Str.ofString "NoShape", c_NoShape), (PySem.Str.ofString "Over", c_Over), (PySem.Str.ofString "NotNow", c_NotNow), (PySem.Str.ofString "Tired", c_Tired), (PySem.Str.ofString "TooLate", c_TooLate), (PySem.Str.ofString "NoText", c_NoText), (PySem.Str.ofString "NoDeed", c_NoDeed), (PySem.Str.ofString "NoRow", c_NoRow), (PySem.Str.ofString "NoChange", c_NoChange), (PySem.Str.ofString "NoWriter", c_NoWriter), (PySem.Str.ofString "NoTag", c_NoTag), (PySem.Str.ofString "NoCommit", c_NoCommit), (PySem.Str.ofString "NoTable", c_NoTable), (PySem.Str.ofString "NoFile", c_NoFile), (PySem.Str.ofString "NoColumn", c_NoColumn), (PySem.Str.ofString "Clash", c_Clash), (PySem.Str.ofString "Lost", c_Lost), (PySem.Str.ofString "Crash", c_Crash)] : List (Str × Addr)).all (fun q => decide (PySem.W.kitOne K (.ref q.2) (.ref c_Used) = some (vsub_Used q.1))) = true)
    (hvq_NoFit : ([(PySem.Str.ofString "Used", c_Used), (PySem.Str.ofString "NoFit", c_NoFit), (PySem.Str.ofString "Taken", c_Taken), (PySem.Str.ofString "NoName", c_NoName), (PySem.Str.ofString "NoLine", c_NoLine), (PySem.Str.ofString "Busy", c_Busy), (PySem.Str.ofString "Last", c_Last), (PySem.Str.ofString "Full", c_Full), (PySem.Str.ofString "NoRule", c_NoRule), (PySem.Str.ofString "NoCond", c_NoCond), (PySem.Str.ofString "NoShape", c_NoShape), (PySem.Str.ofString "Over", c_Over), (PySem.Str.ofString "NotNow", c_NotNow), (PySem.Str.ofString "Tired", c_Tired), (PySem.Str.ofString "TooLate", c_TooLate), (PySem.Str.ofString "NoText", c_NoText), (PySem.Str.ofString "NoDeed", c_NoDeed), (PySem.Str.ofString "NoRow", c_NoRow), (PySem.Str.ofString "NoChange", c_NoChange), (PySem.Str.ofString "NoWriter", c_NoWriter), (PySem.Str.ofString "NoTag", c_NoTag), (PySem.Str.ofString "NoCommit", c_NoCommit), (PySem.Str.ofString "NoTable", c_NoTable), (PySem.Str.ofString "NoFile", c_NoFile), (PySem.Str.ofString "NoColumn", c_NoColumn), (PySem.Str.ofString "Clash", c_Clash), (PySem.Str.ofString "Lost", c_Lost), (PySem.Str.ofString "Crash", c_Crash)] : List (Str × Addr)).all (fun q => decide (PySem.W.kitOne K (.ref q.2) (.ref c_NoFit) = some (vsub_NoFit q.1))) = true)
    (hvq_Taken : ([(PySem.Str.ofString "Used", c_Used), (PySem.Str.ofString "NoFit", c_NoFit), (PySem.Str.ofString "Taken", c_Taken), (PySem.Str.ofString "NoName", c_NoName), (PySem.Str.ofString "NoLine", c_NoLine), (PySem.Str.ofString "Busy", c_Busy), (PySem.Str.ofString "Last", c_Last), (PySem.Str.ofString "Full", c_Full), (PySem.Str.ofString "NoRule", c_NoRule), (PySem.Str.ofString "NoCond", c_NoCond), (PySem.Str.ofString "NoShape", c_NoShape), (PySem.Str.ofString "Over", c_Over), (PySem.Str.ofString "NotNow", c_NotNow), (PySem.Str.ofString "Tired", c_Tired), (PySem.Str.ofString "TooLate", c_TooLate), (PySem.Str.ofString "NoText", c_NoText), (PySem.Str.ofString "NoDeed", c_NoDeed), (PySem.Str.ofString "NoRow", c_NoRow), (PySem.Str.ofString "NoChange", c_NoChange), (PySem.Str.ofString "NoWriter", c_NoWriter), (PySem.Str.ofString "NoTag", c_NoTag), (PySem.Str.ofString "NoCommit", c_NoCommit), (PySem.Str.ofString "NoTable", c_NoTable), (PySem.Str.ofString "NoFile", c_NoFile), (PySem.Str.ofString "NoColumn", c_NoColumn), (PySem.Str.ofString "Clash", c_Clash), (PySem.Str.ofString "Lost", c_Lost), (PySem.Str.ofString "Crash", c_Crash)] : List (Str × Addr)).all (fun q => decide (PySem.W.kitOne K (.ref q.2) (.ref c_Taken) = some (vsub_Taken q.1))) = true)
    (hvq_TooLate : ([(PySem.Str.ofString "Used", c_Used), (PySem.Str.ofString "NoFit", c_NoFit), (PySem.Str.ofString "Taken", c_Taken), (PySem.Str.ofString "NoName", c_NoName), (PySem.Str.ofString "NoLine", c_NoLine), (PySem.Str.ofString "Busy", c_Busy), (PySem.Str.ofString "Last", c_Last), (PySem.Str.ofString "Full", c_Full), (PySem.Str.ofString "NoRule", c_NoRule), (PySem.Str.ofString "NoCond", c_NoCond), (PySem.Str.ofString "NoShape", c_NoShape), (PySem.Str.ofString "Over", c_Over), (PySem.Str.ofString "NotNow", c_NotNow), (PySem.Str.ofString "Tired", c_Tired), (PySem.Str.ofString "TooLate", c_TooLate), (PySem.Str.ofString "NoText", c_NoText), (PySem.Str.ofString "NoDeed", c_NoDeed), (PySem.Str.ofString "NoRow", c_NoRow), (PySem.Str.ofString "NoChange", c_NoChange), (PySem.Str.ofString "NoWriter", c_NoWriter), (PySem.Str.ofString "NoTag", c_NoTag), (PySem.Str.ofString "NoCommit", c_NoCommit), (PySem.Str.ofString "NoTable", c_NoTable), (PySem.Str.ofString "NoFile", c_NoFile), (PySem.Str.ofString "NoColumn", c_NoColumn), (PySem.Str.ofString "Clash", c_Clash), (PySem.Str.ofString "Lost", c_Lost), (PySem.Str.ofString "Crash", c_Crash)] : List (Str × Addr)).all (fun q => decide (PySem.W.kitOne K (.ref q.2) (.ref c_TooLate) = some (vsub_TooLate q.1))) = true)
    (hvq_NoText : ([(PySem.Str.ofString "Used", c_Used), (PySem.Str.ofString "NoFit", c_NoFit), (PySem.Str.ofString "Taken", c_Taken), (PySem.Str.ofString "NoName", c_NoName), (PySem.Str.ofString "NoLine", c_NoLine), (PySem.Str.ofString "Busy", c_Busy), (PySem.Str.ofString "Last", c_Last), (PySem.Str.ofString "Full", c_Full), (PySem.Str.ofString "NoRule", c_NoRule), (PySem.Str.ofString "NoCond", c_NoCond), (PySem.Str.ofString "NoShape", c_NoShape), (PySem.Str.ofString "Over", c_Over), (PySem.Str.ofString "NotNow", c_NotNow), (PySem.Str.ofString "Tired", c_Tired), (PySem.Str.ofString "TooLate", c_TooLate), (PySem.Str.ofString "NoText", c_NoText), (PySem.Str.ofString "NoDeed", c_NoDeed), (PySem.Str.ofString "NoRow", c_NoRow), (PySem.Str.ofString "NoChange", c_NoChange), (PySem.Str.ofString "NoWriter", c_NoWriter), (PySem.Str.ofString "NoTag", c_NoTag), (PySem.Str.ofString "NoCommit", c_NoCommit), (PySem.Str.ofString "NoTable", c_NoTable), (PySem.Str.ofString "NoFile", c_NoFile), (PySem.Str.ofString "NoColumn", c_NoColumn), (PySem.Str.ofString "Clash", c_Clash), (PySem.Str.ofString "Lost", c_Lost), (PySem.Str.ofString "Crash", c_Crash)] : List (Str × Addr)).all (fun q => decide (PySem.W.kitOne K (.ref q.2) (.ref c_NoText) = some (vsub_NoText q.1))) = true)
    (hvq_NoDeed : ([(PySem.Str.ofString "Used", c_Used), (PySem.Str.ofString "NoFit", c_NoFit), (PySem.Str.ofString "Taken", c_Taken), (PySem.Str.ofString "NoName", c_NoName), (PySem.Str.ofString "NoLine", c_NoLine), (PySem.Str.ofString "Busy", c_Busy), (PySem.Str.ofString "Last", c_Last), (PySem.Str.ofString "Full", c_Full), (PySem.Str.ofString "NoRule", c_NoRule), (PySem.Str.ofString "NoCond", c_NoCond), (PySem.Str.ofString "NoShape", c_NoShape), (PySem.Str.ofString "Over", c_Over), (PySem.Str.ofString "NotNow", c_NotNow), (PySem.Str.ofString "Tired", c_Tired), (PySem.Str.ofString "TooLate", c_TooLate), (PySem.Str.ofString "NoText", c_NoText), (PySem.Str.ofString "NoDeed", c_NoDeed), (PySem.Str.ofString "NoRow", c_NoRow), (PySem.Str.ofString "NoChange", c_NoChange), (PySem.Str.ofString "NoWriter", c_NoWriter), (PySem.Str.ofString "NoTag", c_NoTag), (PySem.Str.ofString "NoCommit", c_NoCommit), (PySem.Str.ofString "NoTable", c_NoTable), (PySem.Str.ofString "NoFile", c_NoFile), (PySem.Str.ofString "NoColumn", c_NoColumn), (PySem.Str.ofString "Clash", c_Clash), (PySem.Str.ofString "Lost", c_Lost), (PySem.Str.ofString "Crash", c_Crash)] : List (Str × Addr)).all (fun q => decide (PySem.W.kitOne K (.ref q.2) (.ref c_NoDeed) = some (vsub_NoDeed q.1))) = true)
    (hvq_NoRow : ([(PySem.Str.ofString "Used", c_Used), (PySem.Str.ofString "NoFit", c_NoFit), (PySem.Str.ofString "Taken", c_Taken), (PySem.Str.ofString "NoName", c_NoName), (PySem.Str.ofString "NoLine", c_NoLine), (PySem.Str.ofString "Busy", c_Busy), (PySem.Str.ofString "Last", c_Last), (PySem.Str.ofString "Full", c_Full), (PySem.Str.ofString "NoRule", c_NoRule), (PySem.Str.ofString "NoCond", c_NoCond), (PySem.Str.ofString "NoShape", c_NoShape), (PySem.Str.ofString "Over", c_Over), (PySem.Str.ofString "NotNow", c_NotNow), (PySem.Str.ofString "Tired", c_Tired), (PySem.Str.ofString "TooLate", c_TooLate), (PySem.Str.ofString "NoText", c_NoText), (PySem.Str.ofString "NoDeed", c_NoDeed), (PySem.Str.ofString "NoRow", c_NoRow), (PySem.Str.ofString "NoChange", c_NoChange), (PySem.Str.ofString "NoWriter", c_NoWriter), (PySem.Str.ofString "NoTag", c_NoTag), (PySem.Str.ofString "NoCommit", c_NoCommit), (PySem.Str.ofString "NoTable", c_NoTable), (PySem.Str.ofString "NoFile", c_NoFile), (PySem.Str.ofString "NoColumn", c_NoColumn), (PySem.Str.ofString "Clash", c_Clash), (PySem.Str.ofString "Lost", c_Lost), (PySem.Str.ofString "Crash", c_Crash)] : List (Str × Addr)).all (fun q => decide (PySem.W.kitOne K (.ref q.2) (.ref c_NoRow) = some (vsub_NoRow q.1))) = true)
    (hvq_Clash : ([(PySem.Str.ofString "Used", c_Used), (PySem.Str.ofString "NoFit", c_NoFit), (PySem.Str.ofString "Taken", c_Taken), (PySem.Str.ofString "NoName", c_NoName), (PySem.Str.ofString "NoLine", c_NoLine), (PySem.Str.ofString "Busy", c_Busy), (PySem.Str.ofString "Last", c_Last), (PySem.Str.ofString "Full", c_Full), (PySem.Str.ofString "NoRule", c_NoRule), (PySem.Str.ofString "NoCond", c_NoCond), (PySem.Str.ofString "NoShape", c_NoShape), (PySem.Str.ofString "Over", c_Over), (PySem.Str.ofString "NotNow", c_NotNow), (PySem.Str.ofString "Tired", c_Tired), (PySem.Str.ofString "TooLate", c_TooLate), (PySem.Str.ofString "NoText", c_NoText), (PySem.Str.ofString "NoDeed", c_NoDeed), (PySem.Str.ofString "NoRow", c_NoRow), (PySem.Str.ofString "NoChange", c_NoChange), (PySem.Str.ofString "NoWriter", c_NoWriter), (PySem.Str.ofString "NoTag", c_NoTag), (PySem.Str.ofString "NoCommit", c_NoCommit), (PySem.Str.ofString "NoTable", c_NoTable), (PySem.Str.ofString "NoFile", c_NoFile), (PySem.Str.ofString "NoColumn", c_NoColumn), (PySem.Str.ofString "Clash", c_Clash), (PySem.Str.ofString "Lost", c_Lost), (PySem.Str.ofString "Crash", c_Crash)] : List (Str × Addr)).all (fun q => decide (PySem.W.kitOne K (.ref q.2) (.ref c_Clash) = some (vsub_Clash q.1))) = true)
    (hvq_Over : ([(PySem.Str.ofString "Used", c_Used), (PySem.Str.ofString "NoFit", c_NoFit), (PySem.Str.ofString "Taken", c_Taken), (PySem.Str.ofString "NoName", c_NoName), (PySem.Str.ofString "NoLine", c_NoLine), (PySem.Str.ofString "Busy", c_Busy), (PySem.Str.ofString "Last", c_Last), (PySem.Str.ofString "Full", c_Full), (PySem.Str.ofString "NoRule", c_NoRule), (PySem.Str.ofString "NoCond", c_NoCond), (PySem.Str.ofString "NoShape", c_NoShape), (PySem.Str.ofString "Over", c_Over), (PySem.Str.ofString "NotNow", c_NotNow), (PySem.Str.ofString "Tired", c_Tired), (PySem.Str.ofString "TooLate", c_TooLate), (PySem.Str.ofString "NoText", c_NoText), (PySem.Str.ofString "NoDeed", c_NoDeed), (PySem.Str.ofString "NoRow", c_NoRow), (PySem.Str.ofString "NoChange", c_NoChange), (PySem.Str.ofString "NoWriter", c_NoWriter), (PySem.Str.ofString "NoTag", c_NoTag), (PySem.Str.ofString "NoCommit", c_NoCommit), (PySem.Str.ofString "NoTable", c_NoTable), (PySem.Str.ofString "NoFile", c_NoFile), (PySem.Str.ofString "NoColumn", c_NoColumn), (PySem.Str.ofString "Clash", c_Clash), (PySem.Str.ofString "Lost", c_Lost), (PySem.Str.ofString "Crash", c_Crash)] : List (Str × Addr)).all (fun q => decide (PySem.W.kitOne K (.ref q.2) (.ref c_Over) = some (vsub_Over q.1))) = true)
    (hvq_NotNow : ([(PySem.Str.ofString "Used", c_Used), (PySem.Str.ofString "NoFit", c_NoFit), (PySem.Str.ofString "Taken", c_Taken), (PySem.Str.ofString "NoName", c_NoName), (PySem.Str.ofString "NoLine", c_NoLine), (PySem.Str.ofString "Busy", c_Busy), (PySem.Str.ofString "Last", c_Last), (PySem.Str.ofString "Full", c_Full), (PySem.Str.ofString "NoRule", c_NoRule), (PySem.Str.ofString "NoCond", c_NoCond), (PySem.Str.ofString "NoShape", c_NoShape), (PySem.Str.ofString "Over", c_Over), (PySem.Str.ofString "NotNow", c_NotNow), (PySem.Str.ofString "Tired", c_Tired), (PySem.Str.ofString "TooLate", c_TooLate), (PySem.Str.ofString "NoText", c_NoText), (PySem.Str.ofString "NoDeed", c_NoDeed), (PySem.Str.ofString "NoRow", c_NoRow), (PySem.Str.ofString "NoChange", c_NoChange), (PySem.Str.ofString "NoWriter", c_NoWriter), (PySem.Str.ofString "NoTag", c_NoTag), (PySem.Str.ofString "NoCommit", c_NoCommit), (PySem.Str.ofString "NoTable", c_NoTable), (PySem.Str.ofString "NoFile", c_NoFile), (PySem.Str.ofString "NoColumn", c_NoColumn), (PySem.Str.ofString "Clash", c_Clash), (PySem.Str.ofString "Lost", c_Lost), (PySem.Str.ofString "Crash", c_Crash)] : List (Str × Addr)).all (fun q => decide (PySem.W.kitOne K (.ref q.2) (.ref c_NotNow) = some (vsub_NotNow q.1))) = true)
    (hvq_Tired : ([(PySem.Str.ofString "Used", c_Used), (PySem.Str.ofString "NoFit", c_NoFit), (PySem.Str.ofString "Taken", c_Taken), (PySem.Str.ofString "NoName", c_NoName), (PySem.Str.ofString "NoLine", c_NoLine), (PySem.Str.ofString "Busy", c_Busy), (PySem.Str.ofString "Last", c_Last), (PySem.Str.ofString "Full", c_Full), (PySem.Str.ofString "NoRule", c_NoRule), (PySem.Str.ofString "NoCond", c_NoCond), (PySem.Str.ofString "NoShape", c_NoShape), (PySem.Str.ofString "Over", c_Over), (PySem.Str.ofString "NotNow", c_NotNow), (PySem.Str.ofString "Tired", c_Tired), (PySem.Str.ofString "TooLate", c_TooLate), (PySem.Str.ofString "NoText", c_NoText), (PySem.Str.ofString "NoDeed", c_NoDeed), (PySem.Str.ofString "NoRow", c_NoRow), (PySem.Str.ofString "NoChange", c_NoChange), (PySem.Str.ofString "NoWriter", c_NoWriter), (PySem.Str.ofString "NoTag", c_NoTag), (PySem.Str.ofString "NoCommit", c_NoCommit), (PySem.Str.ofString "NoTable", c_NoTable), (PySem.Str.ofString "NoFile", c_NoFile), (PySem.Str.ofString "NoColumn", c_NoColumn), (PySem.Str.ofString "Clash", c_Clash), (PySem.Str.ofString "Lost", c_Lost), (PySem.Str.ofString "Crash", c_Crash)] : List (Str × Addr)).all (fun q => decide (PySem.W.kitOne K (.ref q.2) (.ref c_Tired) = some (vsub_Tired q.1))) = true)
    (hvq_NoCommit : ([(PySem.Str.ofString "Used", c_Used), (PySem.Str.ofString "NoFit", c_NoFit), (PySem.Str.ofString "Taken", c_Taken), (PySem.Str.ofString "NoName", c_NoName), (PySem.Str.ofString "NoLine", c_NoLine), (PySem.Str.ofString "Busy", c_Busy), (PySem.Str.ofString "Last", c_Last), (PySem.Str.ofString "Full", c_Full), (PySem.Str.ofString "NoRule", c_NoRule), (PySem.Str.ofString "NoCond", c_NoCond), (PySem.Str.ofString "NoShape", c_NoShape), (PySem.Str.ofString "Over", c_Over), (PySem.Str.ofString "NotNow", c_NotNow), (PySem.Str.ofString "Tired", c_Tired), (PySem.Str.ofString "TooLate", c_TooLate), (PySem.Str.ofString "NoText", c_NoText), (PySem.Str.ofString "NoDeed", c_NoDeed), (PySem.Str.ofString "NoRow", c_NoRow), (PySem.Str.ofString "NoChange", c_NoChange), (PySem.Str.ofString "NoWriter", c_NoWriter), (PySem.Str.ofString "NoTag", c_NoTag), (PySem.Str.ofString "NoCommit", c_NoCommit), (PySem.Str.ofString "NoTable", c_NoTable), (PySem.Str.ofString "NoFile", c_NoFile), (PySem.Str.ofString "NoColumn", c_NoColumn), (PySem.Str.ofString "Clash", c_Clash), (PySem.Str.ofString "Lost", c_Lost), (PySem.Str.ofString "Crash", c_Crash)] : List (Str × Addr)).all (fun q => decide (PySem.W.kitOne K (.ref q.2) (.ref c_NoCommit) = some (vsub_NoCommit q.1))) = true)
    (hvq_NoTable : ([(PySem.Str.ofString "Used", c_Used), (PySem.Str.ofString "NoFit", c_NoFit), (PySem.Str.ofString "Taken", c_Taken), (PySem.Str.ofString "NoName", c_NoName), (PySem.Str.ofString "NoLine", c_NoLine), (PySem.Str.ofString "Busy", c_Busy), (PySem.Str.ofString "Last", c_Last), (PySem.Str.ofString "Full", c_Full), (PySem.Str.ofString "NoRule", c_NoRule), (PySem.Str.ofString "NoCond", c_NoCond), (PySem.Str.ofString "NoShape", c_NoShape), (PySem.Str.ofString "Over", c_Over), (PySem.Str.ofString "NotNow", c_NotNow), (PySem.Str.ofString "Tired", c_Tired), (PySem.Str.ofString "TooLate", c_TooLate), (PySem.Str.ofString "NoText", c_NoText), (PySem.Str.ofString "NoDeed", c_NoDeed), (PySem.Str.ofString "NoRow", c_NoRow), (PySem.Str.ofString "NoChange", c_NoChange), (PySem.Str.ofString "NoWriter", c_NoWriter), (PySem.Str.ofString "NoTag", c_NoTag), (PySem.Str.ofString "NoCommit", c_NoCommit), (PySem.Str.ofString "NoTable", c_NoTable), (PySem.Str.ofString "NoFile", c_NoFile), (PySem.Str.ofString "NoColumn", c_NoColumn), (PySem.Str.ofString "Clash", c_Clash), (PySem.Str.ofString "Lost", c_Lost), (PySem.Str.ofString "Crash", c_Crash)] : List (Str × Addr)).all (fun q => decide (PySem.W.kitOne K (.ref q.2) (.ref c_NoTable) = some (vsub_NoTable q.1))) = true)
    (hvq_NoFile : ([(PySem.Str.ofString "Used", c_Used), (PySem.Str.ofString "NoFit", c_NoFit), (PySem.Str.ofString "Taken", c_Taken), (PySem.Str.ofString "NoName", c_NoName), (PySem.Str.ofString "NoLine", c_NoLine), (PySem.Str.ofString "Busy", c_Busy), (PySem.Str.ofString "Last", c_Last), (PySem.Str.ofString "Full", c_Full), (PySem.Str.ofString "NoRule", c_NoRule), (PySem.Str.ofString "NoCond", c_NoCond), (PySem.Str.ofString "NoShape", c_NoShape), (PySem.Str.ofString "Over", c_Over), (PySem.Str.ofString "NotNow", c_NotNow), (PySem.Str.ofString "Tired", c_Tired), (PySem.Str.ofString "TooLate", c_TooLate), (PySem.Str.ofString "NoText", c_NoText), (PySem.Str.ofString "NoDeed", c_NoDeed), (PySem.Str.ofString "NoRow", c_NoRow), (PySem.Str.ofString "NoChange", c_NoChange), (PySem.Str.ofString "NoWriter", c_NoWriter), (PySem.Str.ofString "NoTag", c_NoTag), (PySem.Str.ofString "NoCommit", c_NoCommit), (PySem.Str.ofString "NoTable", c_NoTable), (PySem.Str.ofString "NoFile", c_NoFile), (PySem.Str.ofString "NoColumn", c_NoColumn), (PySem.Str.ofString "Clash", c_Clash), (PySem.Str.ofString "Lost", c_Lost), (PySem.Str.ofString "Crash", c_Crash)] : List (Str × Addr)).all (fun q => decide (PySem.W.kitOne K (.ref q.2) (.ref c_NoFile) = some (vsub_NoFile q.1))) = true)
    (hvq_NoColumn : ([(PySem.Str.ofString "Used", c_Used), (PySem.Str.ofString "NoFit", c_NoFit), (PySem.Str.ofString "Taken", c_Taken), (PySem.Str.ofString "NoName", c_NoName), (PySem.Str.ofString "NoLine", c_NoLine), (PySem.Str.ofString "Busy", c_Busy), (PySem.Str.ofString "Last", c_Last), (PySem.Str.ofString "Full", c_Full), (PySem.Str.ofString "NoRule", c_NoRule), (PySem.Str.ofString "NoCond", c_NoCond), (PySem.Str.ofString "NoShape", c_NoShape), (PySem.Str.ofString "Over", c_Over), (PySem.Str.ofString "NotNow", c_NotNow), (PySem.Str.ofString "Tired", c_Tired), (PySem.Str.ofString "TooLate", c_TooLate), (PySem.Str.ofString "NoText", c_NoText), (PySem.Str.ofString "NoDeed", c_NoDeed), (PySem.Str.ofString "NoRow", c_NoRow), (PySem.Str.ofString "NoChange", c_NoChange), (PySem.Str.ofString "NoWriter", c_NoWriter), (PySem.Str.ofString "NoTag", c_NoTag), (PySem.Str.ofString "NoCommit", c_NoCommit), (PySem.Str.ofString "NoTable", c_NoTable), (PySem.Str.ofString "NoFile", c_NoFile), (PySem.Str.ofString "NoColumn", c_NoColumn), (PySem.Str.ofString "Clash", c_Clash), (PySem.Str.ofString "Lost", c_Lost), (PySem.Str.ofString "Crash", c_Crash)] : List (Str × Addr)).all (fun q => decide (PySem.W.kitOne K (.ref q.2) (.ref c_NoColumn) = some (vsub_NoColumn q.1))) = true)
    (hvq_Lost : ([(PySem.Str.ofString "Used", c_Used), (PySem.Str.ofString "NoFit", c_NoFit), (PySem.Str.ofString "Taken", c_Taken), (PySem.Str.ofString "NoName", c_NoName), (PySem.Str.ofString "NoLine", c_NoLine), (PySem.Str.ofString "Busy", c_Busy), (PySem.Str.ofString "Last", c_Last), (PySem.Str.ofString "Full", c_Full), (PySem.Str.ofString "NoRule", c_NoRule), (PySem.Str.ofString "NoCond", c_NoCond), (PySem.Str.ofString "NoShape", c_NoShape), (PySem.Str.ofString "Over", c_Over), (PySem.Str.ofString "NotNow", c_NotNow), (PySem.Str.ofString "Tired", c_Tired), (PySem.Str.ofString "TooLate", c_TooLate), (PySem.Str.ofString "NoText", c_NoText), (PySem.Str.ofString "NoDeed", c_NoDeed), (PySem.Str.ofString "NoRow", c_NoRow), (PySem.Str.ofString "NoChange", c_NoChange), (PySem.Str.ofString "NoWriter", c_NoWriter), (PySem.Str.ofString "NoTag", c_NoTag), (PySem.Str.ofString "NoCommit", c_NoCommit), (PySem.Str.ofString "NoTable", c_NoTable), (PySem.Str.ofString "NoFile", c_NoFile), (PySem.Str.ofString "NoColumn", c_NoColumn), (PySem.Str.ofString "Clash", c_Clash), (PySem.Str.ofString "Lost", c_Lost), (PySem.Str.ofString "Crash", c_Crash)] : List (Str × Addr)).all (fun q => decide (PySem.W.kitOne K (.ref q.2) (.ref c_Lost) = some (vsub_Lost q.1))) = true)
    (hvq_Crash : ([(PySem.Str.ofString "Used", c_Used), (PySem.Str.ofString "NoFit", c_NoFit), (PySem.Str.ofString "Taken", c_Taken), (PySem.Str.ofString "NoName", c_NoName), (PySem.Str.ofString "NoLine", c_NoLine), (PySem.Str.ofString "Busy", c_Busy), (PySem.Str.ofString "Last", c_Last), (PySem.Str.ofString "Full", c_Full), (PySem.Str.ofString "NoRule", c_NoRule), (PySem.Str.ofString "NoCond", c_NoCond), (PySem.Str.ofString "NoShape", c_NoShape), (PySem.Str.ofString "Over", c_Over), (PySem.Str.ofString "NotNow", c_NotNow), (PySem.Str.ofString "Tired", c_Tired), (PySem.Str.ofString "TooLate", c_TooLate), (PySem.Str.ofString "NoText", c_NoText), (PySem.Str.ofString "NoDeed", c_NoDeed), (PySem.Str.ofString "NoRow", c_NoRow), (PySem.Str.ofString "NoChange", c_NoChange), (PySem.Str.ofString "NoWriter", c_NoWriter), (PySem.Str.ofString "NoTag", c_NoTag), (PySem.Str.ofString "NoCommit", c_NoCommit), (PySem.Str.ofString "NoTable", c_NoTable), (PySem.Str.ofString "NoFile", c_NoFile), (PySem.Str.ofString "NoColumn", c_NoColumn), (PySem.Str.ofString "Clash", c_Clash), (PySem.Str.ofString "Lost", c_Lost), (PySem.Str.ofString "Crash", c_Crash)] : List (Str × Addr)).all (fun q => decide (PySem.W.kitOne K (.ref q.2) (.ref c_Crash) = some (vsub_Crash q.1))) = true)
    (hvq_NoWriter : ([(PySem.Str.ofString "Used", c_Used), (PySem.Str.ofString "NoFit", c_NoFit), (PySem.Str.ofString "Taken", c_Taken), (PySem.Str.ofString "NoName", c_NoName), (PySem.Str.ofString "NoLine", c_NoLine), (PySem.Str.ofString "Busy", c_Busy), (PySem.Str.ofString "Last", c_Last), (PySem.Str.ofString "Full", c_Full), (PySem.Str.ofString "NoRule", c_NoRule), (PySem.Str.ofString "NoCond", c_NoCond), (PySem.Str.ofString "NoShape", c_NoShape), (PySem.Str.ofString "Over", c_Over), (PySem.Str.ofString "NotNow", c_NotNow), (PySem.Str.ofString "Tired", c_Tired), (PySem.Str.ofString "TooLate", c_TooLate), (PySem.Str.ofString "NoText", c_NoText), (PySem.Str.ofString "NoDeed", c_NoDeed), (PySem.Str.ofString "NoRow", c_NoRow), (PySem.Str.ofString "NoChange", c_NoChange), (PySem.Str.ofString "NoWriter", c_NoWriter), (PySem.Str.ofString "NoTag", c_NoTag), (PySem.Str.ofString "NoCommit", c_NoCommit), (PySem.Str.ofString "NoTable", c_NoTable), (PySem.Str.ofString "NoFile", c_NoFile), (PySem.Str.ofString "NoColumn", c_NoColumn), (PySem.Str.ofString "Clash", c_Clash), (PySem.Str.ofString "Lost", c_Lost), (PySem.Str.ofString "Crash", c_Crash)] : List (Str × Addr)).all (fun q => decide (PySem.W.kitOne K (.ref q.2) (.ref c_NoWriter) = some (vsub_NoWriter q.1))) = true)
    (hvq_NoTag : ([(PySem.Str.ofString "Used", c_Used), (PySem.Str.ofString "NoFit", c_NoFit), (PySem.Str.ofString "Taken", c_Taken), (PySem.Str.ofString "NoName", c_NoName), (PySem.Str.ofString "NoLine", c_NoLine), (PySem.Str.ofString "Busy", c_Busy), (PySem.Str.ofString "Last", c_Last), (PySem.Str.ofString "Full", c_Full), (PySem.Str.ofString "NoRule", c_NoRule), (PySem.Str.ofString "NoCond", c_NoCond), (PySem.Str.ofString "NoShape", c_NoShape), (PySem.Str.ofString "Over", c_Over), (PySem.Str.ofString "NotNow", c_NotNow), (PySem.Str.ofString "Tired", c_Tired), (PySem.Str.ofString "TooLate", c_TooLate), (PySem.Str.ofString "NoText", c_NoText), (PySem.Str.ofString "NoDeed", c_NoDeed), (PySem.Str.ofString "NoRow", c_NoRow), (PySem.Str.ofString "NoChange", c_NoChange), (PySem.Str.ofString "NoWriter", c_NoWriter), (PySem.Str.ofString "NoTag", c_NoTag), (PySem.Str.ofString "NoCommit", c_NoCommit), (PySem.Str.ofString "NoTable", c_NoTable), (PySem.Str.ofString "NoFile", c_NoFile), (PySem.Str.ofString "NoColumn", c_NoColumn), (PySem.Str.ofString "Clash", c_Clash), (PySem.Str.ofString "Lost", c_Lost), (PySem.Str.ofString "Crash", c_Crash)] : List (Str × Addr)).all (fun q => decide (PySem.W.kitOne K (.ref q.2) (.ref c_NoTag) = some (vsub_NoTag q.1))) = true)
    (hvq_Trouble : ([(PySem.Str.ofString "Used", c_Used), (PySem.Str.ofString "NoFit", c_NoFit), (PySem.Str.ofString "Taken", c_Taken), (PySem.Str.ofString "NoName", c_NoName), (PySem.Str.ofString "NoLine", c_NoLine), (PySem.Str.ofString "Busy", c_Busy), (PySem.Str.ofString "Last", c_Last), (PySem.Str.ofString "Full", c_Full), (PySem.Str.ofString "NoRule", c_NoRule), (PySem.Str.ofString "NoCond", c_NoCond), (PySem.Str.ofString "NoShape", c_NoShape), (PySem.Str.ofString "Over", c_Over), (PySem.Str.ofString "NotNow", c_NotNow), (PySem.Str.ofString "Tired", c_Tired), (PySem.Str.ofString "TooLate", c_TooLate), (PySem.Str.ofString "NoText", c_NoText), (PySem.Str.ofString "NoDeed", c_NoDeed), (PySem.Str.ofString "NoRow", c_NoRow), (PySem.Str.ofString "NoChange", c_NoChange), (PySem.Str.ofString "NoWriter", c_NoWriter), (PySem.Str.ofString "NoTag", c_NoTag), (PySem.Str.ofString "NoCommit", c_NoCommit), (PySem.Str.ofString "NoTable", c_NoTable), (PySem.Str.ofString "NoFile", c_NoFile), (PySem.Str.ofString "NoColumn", c_NoColumn), (PySem.Str.ofString "Clash", c_Clash), (PySem.Str.ofString "Lost", c_Lost), (PySem.Str.ofString "Crash", c_Crash)] : List (Str × Addr)).all (fun q => decide (PySem.W.kitOne K (.ref q.2) (.ref c_Trouble) = some (vsub_Trouble q.1))) = true)
    (hvq_Missing : ([(PySem.Str.ofString "Used", c_Used), (PySem.Str.ofString "NoFit", c_NoFit), (PySem.Str.ofString "Taken", c_Taken), (PySem.Str.ofString "NoName", c_NoName), (PySem.Str.ofString "NoLine", c_NoLine), (PySem.Str.ofString "Busy", c_Busy), (PySem.Str.ofString "Last", c_Last), (PySem.Str.ofString "Full", c_Full), (PySem.Str.ofString "NoRule", c_NoRule), (PySem.Str.ofString "NoCond", c_NoCond), (PySem.Str.ofString "NoShape", c_NoShape), (PySem.Str.ofString "Over", c_Over), (PySem.Str.ofString "NotNow", c_NotNow), (PySem.Str.ofString "Tired", c_Tired), (PySem.Str.ofString "TooLate", c_TooLate), (PySem.Str.ofString "NoText", c_NoText), (PySem.Str.ofString "NoDeed", c_NoDeed), (PySem.Str.ofString "NoRow", c_NoRow), (PySem.Str.ofString "NoChange", c_NoChange), (PySem.Str.ofString "NoWriter", c_NoWriter), (PySem.Str.ofString "NoTag", c_NoTag), (PySem.Str.ofString "NoCommit", c_NoCommit), (PySem.Str.ofString "NoTable", c_NoTable), (PySem.Str.ofString "NoFile", c_NoFile), (PySem.Str.ofString "NoColumn", c_NoColumn), (PySem.Str.ofString "Clash", c_Clash), (PySem.Str.ofString "Lost", c_Lost), (PySem.Str.ofString "Crash", c_Crash)] : List (Str × Addr)).all (fun q => decide (PySem.W.kitOne K (.ref q.2) (.ref c_Missing) = some (vsub_Missing q.1))) = true)
    (hvq_StillError : ([(PySem.Str.ofString "Used", c_Used), (PySem.Str.ofString "NoFit", c_NoFit), (PySem.Str.ofString "Taken", c_Taken), (PySem.Str.ofString "NoName", c_NoName), (PySem.Str.ofString "NoLine", c_NoLine), (PySem.Str.ofString "Busy", c_Busy), (PySem.Str.ofString "Last", c_Last), (PySem.Str.ofString "Full", c_Full), (PySem.Str.ofString "NoRule", c_NoRule), (PySem.Str.ofString "NoCond", c_NoCond), (PySem.Str.ofString "NoShape", c_NoShape), (PySem.Str.ofString "Over", c_Over), (PySem.Str.ofString "NotNow", c_NotNow), (PySem.Str.ofString "Tired", c_Tired), (PySem.Str.ofString "TooLate", c_TooLate), (PySem.Str.ofString "NoText", c_NoText), (PySem.Str.ofString "NoDeed", c_NoDeed), (PySem.Str.ofString "NoRow", c_NoRow), (PySem.Str.ofString "NoChange", c_NoChange), (PySem.Str.ofString "NoWriter", c_NoWriter), (PySem.Str.ofString "NoTag", c_NoTag), (PySem.Str.ofString "NoCommit", c_NoCommit), (PySem.Str.ofString "NoTable", c_NoTable), (PySem.Str.ofString "NoFile", c_NoFile), (PySem.Str.ofString "NoColumn", c_NoColumn), (PySem.Str.ofString "Clash", c_Clash), (PySem.Str.ofString "Lost", c_Lost), (PySem.Str.ofString "Crash", c_Crash)] : List (Str × Addr)).all (fun q => decide (PySem.W.kitOne K (.ref q.2) (.ref c_StillError) = some (vsub_StillError q.1))) = true)
    (hvq_ArithmeticError : ([(PySem.Str.ofString "Used", c_Used), (PySem.Str.ofString "NoFit", c_NoFit), (PySem.Str.ofString "Taken", c_Taken), (PySem.Str.ofString "NoName", c_NoName), (PySem.Str.ofString "NoLine", c_NoLine), (PySem.Str.ofString "Busy", c_Busy), (PySem.Str.ofString "Last", c_Last), (PySem.Str.ofString "Full", c_Full), (PySem.Str.ofString "NoRule", c_NoRule), (PySem.Str.ofString "NoCond", c_NoCond), (PySem.Str.ofString "NoShape", c_NoShape), (PySem.Str.ofString "Over", c_Over), (PySem.Str.ofString "NotNow", c_NotNow), (PySem.Str.ofString "Tired", c_Tired), (PySem.Str.ofString "TooLate", c_TooLate), (PySem.Str.ofString "NoText", c_NoText), (PySem.Str.ofString "NoDeed", c_NoDeed), (PySem.Str.ofString "NoRow", c_NoRow), (PySem.Str.ofString "NoChange", c_NoChange), (PySem.Str.ofString "NoWriter", c_NoWriter), (PySem.Str.ofString "NoTag", c_NoTag), (PySem.Str.ofString "NoCommit", c_NoCommit), (PySem.Str.ofString "NoTable", c_NoTable), (PySem.Str.ofString "NoFile", c_NoFile), (PySem.Str.ofString "NoColumn", c_NoColumn), (PySem.Str.ofString "Clash", c_Clash), (PySem.Str.ofString "Lost", c_Lost), (PySem.Str.ofString "Crash", c_Crash)] : List (Str × Addr)).all (fun q => decide (PySem.W.kitOne K (.ref q.2) (.type "ArithmeticError") = some (vsub_ArithmeticError q.1))) = true)
    (hvq_KeyError : ([(PySem.Str.ofString "Used", c_Used), (PySem.Str.ofString "NoFit", c_NoFit), (PySem.Str.ofString "Taken", c_Taken), (PySem.Str.ofString "NoName", c_NoName), (PySem.Str.ofString "NoLine", c_NoLine), (PySem.Str.ofString "Busy", c_Busy), (PySem.Str.ofString "Last", c_Last), (PySem.Str.ofString "Full", c_Full), (PySem.Str.ofString "NoRule", c_NoRule), (PySem.Str.ofString "NoCond", c_NoCond), (PySem.Str.ofString "NoShape", c_NoShape), (PySem.Str.ofString "Over", c_Over), (PySem.Str.ofString "NotNow", c_NotNow), (PySem.Str.ofString "Tired", c_Tired), (PySem.Str.ofString "TooLate", c_TooLate), (PySem.Str.ofString "NoText", c_NoText), (PySem.Str.ofString "NoDeed", c_NoDeed), (PySem.Str.ofString "NoRow", c_NoRow), (PySem.Str.ofString "NoChange", c_NoChange), (PySem.Str.ofString "NoWriter", c_NoWriter), (PySem.Str.ofString "NoTag", c_NoTag), (PySem.Str.ofString "NoCommit", c_NoCommit), (PySem.Str.ofString "NoTable", c_NoTable), (PySem.Str.ofString "NoFile", c_NoFile), (PySem.Str.ofString "NoColumn", c_NoColumn), (PySem.Str.ofString "Clash", c_Clash), (PySem.Str.ofString "Lost", c_Lost), (PySem.Str.ofString "Crash", c_Crash)] : List (Str × Addr)).all (fun q => decide (PySem.W.kitOne K (.ref q.2) (.type "KeyError") = some (vsub_KeyError q.1))) = true)
    (hvq_ValueError : ([(PySem.Str.ofString "Used", c_Used), (PySem.Str.ofString "NoFit", c_NoFit), (PySem.Str.ofString "Taken", c_Taken), (PySem.Str.ofString "NoName", c_NoName), (PySem.Str.ofString "NoLine", c_NoLine), (PySem.Str.ofString "Busy", c_Busy), (PySem.Str.ofString "Last", c_Last), (PySem.Str.ofString "Full", c_Full), (PySem.Str.ofString "NoRule", c_NoRule), (PySem.Str.ofString "NoCond", c_NoCond), (PySem.Str.ofString "NoShape", c_NoShape), (PySem.Str.ofString "Over", c_Over), (PySem.Str.ofString "NotNow", c_NotNow), (PySem.Str.ofString "Tired", c_Tired), (PySem.Str.ofString "TooLate", c_TooLate), (PySem.Str.ofString "NoText", c_NoText), (PySem.Str.ofString "NoDeed", c_NoDeed), (PySem.Str.ofString "NoRow", c_NoRow), (PySem.Str.ofString "NoChange", c_NoChange), (PySem.Str.ofString "NoWriter", c_NoWriter), (PySem.Str.ofString "NoTag", c_NoTag), (PySem.Str.ofString "NoCommit", c_NoCommit), (PySem.Str.ofString "NoTable", c_NoTable), (PySem.Str.ofString "NoFile", c_NoFile), (PySem.Str.ofString "NoColumn", c_NoColumn), (PySem.Str.ofString "Clash", c_Clash), (PySem.Str.ofString "Lost", c_Lost), (PySem.Str.ofString "Crash", c_Crash)] : List (Str × Addr)).all (fun q => decide (PySem.W.kitOne K (.ref q.2) (.type "ValueError") = some (vsub_ValueError q.1))) = true)
    (hvf_deed : ([(PySem.Str.ofString "NoDeed", c_NoDeed)] : List (Str × Addr)).all (fun q => xcB K q.2 && decide (PySem.W.findIn K (.ref q.2) "deed" = some none)) = true)
    (hvf_place : ([(PySem.Str.ofString "NoRow", c_NoRow), (PySem.Str.ofString "NoChange", c_NoChange)] : List (Str × Addr)).all (fun q => xcB K q.2 && decide (PySem.W.findIn K (.ref q.2) "place" = some none)) = true)
    (hvf_name : ([(PySem.Str.ofString "Used", c_Used), (PySem.Str.ofString "NoFit", c_NoFit), (PySem.Str.ofString "Taken", c_Taken), (PySem.Str.ofString "NoName", c_NoName), (PySem.Str.ofString "NoWriter", c_NoWriter), (PySem.Str.ofString "NoTag", c_NoTag), (PySem.Str.ofString "NoTable", c_NoTable), (PySem.Str.ofString "NoColumn", c_NoColumn)] : List (Str × Addr)).all (fun q => xcB K q.2 && decide (PySem.W.findIn K (.ref q.2) "name" = some none)) = true)
    (hvf_until : ([(PySem.Str.ofString "Over", c_Over)] : List (Str × Addr)).all (fun q => xcB K q.2 && decide (PySem.W.findIn K (.ref q.2) "until" = some none)) = true)
    (hvf_state : ([(PySem.Str.ofString "NotNow", c_NotNow)] : List (Str × Addr)).all (fun q => xcB K q.2 && decide (PySem.W.findIn K (.ref q.2) "state" = some none)) = true)
    (hvf_tries : ([(PySem.Str.ofString "Tired", c_Tired)] : List (Str × Addr)).all (fun q => xcB K q.2 && decide (PySem.W.findIn K (.ref q.2) "tries" = some none)) = true)
    (hvf_base : ([(PySem.Str.ofString "TooLate", c_TooLate)] : List (Str × Addr)).all (fun q => xcB K q.2 && decide (PySem.W.findIn K (.ref q.2) "base" = some none)) = true)
    (hvf_row : ([(PySem.Str.ofString "NoText", c_NoText)] : List (Str × Addr)).all (fun q => xcB K q.2 && decide (PySem.W.findIn K (.ref q.2) "row" = some none)) = true)
    (hvf_file : ([(PySem.Str.ofString "NoFile", c_NoFile), (PySem.Str.ofString "Clash", c_Clash)] : List (Str × Addr)).all (fun q => xcB K q.2 && decide (PySem.W.findIn K (.ref q.2) "file" = some none)) = true)
    (hvf_word : ([(PySem.Str.ofString "Clash", c_Clash)] : List (Str × Addr)).all (fun q => xcB K q.2 && decide (PySem.W.findIn K (.ref q.2) "word" = some none)) = true)
    (hvf_number : ([(PySem.Str.ofString "NoCommit", c_NoCommit), (PySem.Str.ofString "Clash", c_Clash)] : List (Str × Addr)).all (fun q => xcB K q.2 && decide (PySem.W.findIn K (.ref q.2) "number" = some none)) = true)
    (hvf_step : ([(PySem.Str.ofString "Lost", c_Lost), (PySem.Str.ofString "Crash", c_Crash)] : List (Str × Addr)).all (fun q => xcB K q.2 && decide (PySem.W.findIn K (.ref q.2) "step" = some none)) = true)
    {od9 an9 : Option Addr} {sl9 : Array (Option Value)} {oc9 kV9 dc9 pm9 cd9 ct9 : Value}
    (l9 : K.lookup ai_Used = some ⟨oc9, od9, .func (PySem.W.fnOf "__init__" "Used.__init__" (defArgs si_Used) (defBody si_Used) (defScope si_Used) .none kV9 dc9 pm9 an9 cd9 ct9), sl9⟩) (c9 : PySem.W.codeIn K cd9 "Used.__init__" = true) (k9 : PySem.W.keepIn K (.ref ai_Used) = true)
    {od10 an10 : Option Addr} {sl10 : Array (Option Value)} {oc10 kV10 dc10 pm10 cd10 ct10 : Value}
    (l10 : K.lookup ai_NoFit = some ⟨oc10, od10, .func (PySem.W.fnOf "__init__" "NoFit.__init__" (defArgs si_NoFit) (defBody si_NoFit) (defScope si_NoFit) .none kV10 dc10 pm10 an10 cd10 ct10), sl10⟩) (c10 : PySem.W.codeIn K cd10 "NoFit.__init__" = true) (k10 : PySem.W.keepIn K (.ref ai_NoFit) = true)
    {od11 an11 : Option Addr} {sl11 : Array (Option Value)} {oc11 kV11 dc11 pm11 cd11 ct11 : Value}
    (l11 : K.lookup ai_Taken = some ⟨oc11, od11, .func (PySem.W.fnOf "__init__" "Taken.__init__" (defArgs si_Taken) (defBody si_Taken) (defScope si_Taken) .none kV11 dc11 pm11 an11 cd11 ct11), sl11⟩) (c11 : PySem.W.codeIn K cd11 "Taken.__init__" = true) (k11 : PySem.W.keepIn K (.ref ai_Taken) = true)
    {od12 an12 : Option Addr} {sl12 : Array (Option Value)} {oc12 kV12 dc12 pm12 cd12 ct12 : Value}
    (l12 : K.lookup ai_NoName = some ⟨oc12, od12, .func (PySem.W.fnOf "__init__" "NoName.__init__" (defArgs si_NoName) (defBody si_NoName) (defScope si_NoName) .none kV12 dc12 pm12 an12 cd12 ct12), sl12⟩) (c12 : PySem.W.codeIn K cd12 "NoName.__init__" = true) (k12 : PySem.W.keepIn K (.ref ai_NoName) = true)
    {od13 an13 : Option Addr} {sl13 : Array (Option Value)} {oc13 kV13 dc13 pm13 cd13 ct13 : Value}
    (l13 : K.lookup ai_Over = some ⟨oc13, od13, .func (PySem.W.fnOf "__init__" "Over.__init__" (defArgs si_Over) (defBody si_Over) (defScope si_Over) .none kV13 dc13 pm13 an13 cd13 ct13), sl13⟩) (c13 : PySem.W.codeIn K cd13 "Over.__init__" = true) (k13 : PySem.W.keepIn K (.ref ai_Over) = true)
    {od14 an14 : Option Addr} {sl14 : Array (Option Value)} {oc14 kV14 dc14 pm14 cd14 ct14 : Value}
    (l14 : K.lookup ai_NotNow = some ⟨oc14, od14, .func (PySem.W.fnOf "__init__" "NotNow.__init__" (defArgs si_NotNow) (defBody si_NotNow) (defScope si_NotNow) .none kV14 dc14 pm14 an14 cd14 ct14), sl14⟩) (c14 : PySem.W.codeIn K cd14 "NotNow.__init__" = true) (k14 : PySem.W.keepIn K (.ref ai_NotNow) = true)
    {od15 an15 : Option Addr} {sl15 : Array (Option Value)} {oc15 kV15 dc15 pm15 cd15 ct15 : Value}
    (l15 : K.lookup ai_Tired = some ⟨oc15, od15, .func (PySem.W.fnOf "__init__" "Tired.__init__" (defArgs si_Tired) (defBody si_Tired) (defScope si_Tired) .none kV15 dc15 pm15 an15 cd15 ct15), sl15⟩) (c15 : PySem.W.codeIn K cd15 "Tired.__init__" = true) (k15 : PySem.W.keepIn K (.ref ai_Tired) = true)
    {od16 an16 : Option Addr} {sl16 : Array (Option Value)} {oc16 kV16 dc16 pm16 cd16 ct16 : Value}
    (l16 : K.lookup ai_TooLate = some ⟨oc16, od16, .func (PySem.W.fnOf "__init__" "TooLate.__init__" (defArgs si_TooLate) (defBody si_TooLate) (defScope si_TooLate) .none kV16 dc16 pm16 an16 cd16 ct16), sl16⟩) (c16 : PySem.W.codeIn K cd16 "TooLate.__init__" = true) (k16 : PySem.W.keepIn K (.ref ai_TooLate) = true)
    {od17 an17 : Option Addr} {sl17 : Array (Option Value)} {oc17 kV17 dc17 pm17 cd17 ct17 : Value}
    (l17 : K.lookup ai_NoText = some ⟨oc17, od17, .func (PySem.W.fnOf "__init__" "NoText.__init__" (defArgs si_NoText) (defBody si_NoText) (defScope si_NoText) .none kV17 dc17 pm17 an17 cd17 ct17), sl17⟩) (c17 : PySem.W.codeIn K cd17 "NoText.__init__" = true) (k17 : PySem.W.keepIn K (.ref ai_NoText) = true)
    {od18 an18 : Option Addr} {sl18 : Array (Option Value)} {oc18 kV18 dc18 pm18 cd18 ct18 : Value}
    (l18 : K.lookup ai_NoDeed = some ⟨oc18, od18, .func (PySem.W.fnOf "__init__" "NoDeed.__init__" (defArgs si_NoDeed) (defBody si_NoDeed) (defScope si_NoDeed) .none kV18 dc18 pm18 an18 cd18 ct18), sl18⟩) (c18 : PySem.W.codeIn K cd18 "NoDeed.__init__" = true) (k18 : PySem.W.keepIn K (.ref ai_NoDeed) = true)
    {od19 an19 : Option Addr} {sl19 : Array (Option Value)} {oc19 kV19 dc19 pm19 cd19 ct19 : Value}
    (l19 : K.lookup ai_NoRow = some ⟨oc19, od19, .func (PySem.W.fnOf "__init__" "NoRow.__init__" (defArgs si_NoRow) (defBody si_NoRow) (defScope si_NoRow) .none kV19 dc19 pm19 an19 cd19 ct19), sl19⟩) (c19 : PySem.W.codeIn K cd19 "NoRow.__init__" = true) (k19 : PySem.W.keepIn K (.ref ai_NoRow) = true)
    {od20 an20 : Option Addr} {sl20 : Array (Option Value)} {oc20 kV20 dc20 pm20 cd20 ct20 : Value}
    (l20 : K.lookup ai_NoChange = some ⟨oc20, od20, .func (PySem.W.fnOf "__init__" "NoChange.__init__" (defArgs si_NoChange) (defBody si_NoChange) (defScope si_NoChange) .none kV20 dc20 pm20 an20 cd20 ct20), sl20⟩) (c20 : PySem.W.codeIn K cd20 "NoChange.__init__" = true) (k20 : PySem.W.keepIn K (.ref ai_NoChange) = true)
    {od21 an21 : Option Addr} {sl21 : Array (Option Value)} {oc21 kV21 dc21 pm21 cd21 ct21 : Value}
    (l21 : K.lookup ai_NoWriter = some ⟨oc21, od21, .func (PySem.W.fnOf "__init__" "NoWriter.__init__" (defArgs si_NoWriter) (defBody si_NoWriter) (defScope si_NoWriter) .none kV21 dc21 pm21 an21 cd21 ct21), sl21⟩) (c21 : PySem.W.codeIn K cd21 "NoWriter.__init__" = true) (k21 : PySem.W.keepIn K (.ref ai_NoWriter) = true)
    {od22 an22 : Option Addr} {sl22 : Array (Option Value)} {oc22 kV22 dc22 pm22 cd22 ct22 : Value}
    (l22 : K.lookup ai_NoTag = some ⟨oc22, od22, .func (PySem.W.fnOf "__init__" "NoTag.__init__" (defArgs si_NoTag) (defBody si_NoTag) (defScope si_NoTag) .none kV22 dc22 pm22 an22 cd22 ct22), sl22⟩) (c22 : PySem.W.codeIn K cd22 "NoTag.__init__" = true) (k22 : PySem.W.keepIn K (.ref ai_NoTag) = true)
    {od23 an23 : Option Addr} {sl23 : Array (Option Value)} {oc23 kV23 dc23 pm23 cd23 ct23 : Value}
    (l23 : K.lookup ai_NoCommit = some ⟨oc23, od23, .func (PySem.W.fnOf "__init__" "NoCommit.__init__" (defArgs si_NoCommit) (defBody si_NoCommit) (defScope si_NoCommit) .none kV23 dc23 pm23 an23 cd23 ct23), sl23⟩) (c23 : PySem.W.codeIn K cd23 "NoCommit.__init__" = true) (k23 : PySem.W.keepIn K (.ref ai_NoCommit) = true)
    {od24 an24 : Option Addr} {sl24 : Array (Option Value)} {oc24 kV24 dc24 pm24 cd24 ct24 : Value}
    (l24 : K.lookup ai_NoTable = some ⟨oc24, od24, .func (PySem.W.fnOf "__init__" "NoTable.__init__" (defArgs si_NoTable) (defBody si_NoTable) (defScope si_NoTable) .none kV24 dc24 pm24 an24 cd24 ct24), sl24⟩) (c24 : PySem.W.codeIn K cd24 "NoTable.__init__" = true) (k24 : PySem.W.keepIn K (.ref ai_NoTable) = true)
    {od25 an25 : Option Addr} {sl25 : Array (Option Value)} {oc25 kV25 dc25 pm25 cd25 ct25 : Value}
    (l25 : K.lookup ai_NoFile = some ⟨oc25, od25, .func (PySem.W.fnOf "__init__" "NoFile.__init__" (defArgs si_NoFile) (defBody si_NoFile) (defScope si_NoFile) .none kV25 dc25 pm25 an25 cd25 ct25), sl25⟩) (c25 : PySem.W.codeIn K cd25 "NoFile.__init__" = true) (k25 : PySem.W.keepIn K (.ref ai_NoFile) = true)
    {od26 an26 : Option Addr} {sl26 : Array (Option Value)} {oc26 kV26 dc26 pm26 cd26 ct26 : Value}
    (l26 : K.lookup ai_NoColumn = some ⟨oc26, od26, .func (PySem.W.fnOf "__init__" "NoColumn.__init__" (defArgs si_NoColumn) (defBody si_NoColumn) (defScope si_NoColumn) .none kV26 dc26 pm26 an26 cd26 ct26), sl26⟩) (c26 : PySem.W.codeIn K cd26 "NoColumn.__init__" = true) (k26 : PySem.W.keepIn K (.ref ai_NoColumn) = true)
    {od27 an27 : Option Addr} {sl27 : Array (Option Value)} {oc27 kV27 dc27 pm27 cd27 ct27 : Value}
    (l27 : K.lookup ai_Clash = some ⟨oc27, od27, .func (PySem.W.fnOf "__init__" "Clash.__init__" (defArgs si_Clash) (defBody si_Clash) (defScope si_Clash) .none kV27 dc27 pm27 an27 cd27 ct27), sl27⟩) (c27 : PySem.W.codeIn K cd27 "Clash.__init__" = true) (k27 : PySem.W.keepIn K (.ref ai_Clash) = true)
    {od28 an28 : Option Addr} {sl28 : Array (Option Value)} {oc28 kV28 dc28 pm28 cd28 ct28 : Value}
    (l28 : K.lookup ai_Lost = some ⟨oc28, od28, .func (PySem.W.fnOf "__init__" "Lost.__init__" (defArgs si_Lost) (defBody si_Lost) (defScope si_Lost) .none kV28 dc28 pm28 an28 cd28 ct28), sl28⟩) (c28 : PySem.W.codeIn K cd28 "Lost.__init__" = true) (k28 : PySem.W.keepIn K (.ref ai_Lost) = true)
    {od29 an29 : Option Addr} {sl29 : Array (Option Value)} {oc29 kV29 dc29 pm29 cd29 ct29 : Value}
    (l29 : K.lookup ai_Crash = some ⟨oc29, od29, .func (PySem.W.fnOf "__init__" "Crash.__init__" (defArgs si_Crash) (defBody si_Crash) (defScope si_Crash) .none kV29 dc29 pm29 an29 cd29 ct29), sl29⟩) (c29 : PySem.W.codeIn K cd29 "Crash.__init__" = true) (k29 : PySem.W.keepIn K (.ref ai_Crash) = true)
    {od0 an0 : Option Addr} {sl0 : Array (Option Value)} {oc0 kV0 dc0 pm0 cd0 ct0 : Value}
    {od1 an1 : Option Addr} {sl1 : Array (Option Value)} {oc1 kV1 dc1 pm1 cd1 ct1 : Value}
    {od2 an2 : Option Addr} {sl2 : Array (Option Value)} {oc2 kV2 dc2 pm2 cd2 ct2 : Value}
    {od3 an3 : Option Addr} {sl3 : Array (Option Value)} {oc3 kV3 dc3 pm3 cd3 ct3 : Value}
    {od4 an4 : Option Addr} {sl4 : Array (Option Value)} {oc4 kV4 dc4 pm4 cd4 ct4 : Value}
    {od5 an5 : Option Addr} {sl5 : Array (Option Value)} {oc5 kV5 dc5 pm5 cd5 ct5 : Value}
    {od6 an6 : Option Addr} {sl6 : Array (Option Value)} {oc6 kV6 dc6 pm6 cd6 ct6 : Value}
    {od7 an7 : Option Addr} {sl7 : Array (Option Value)} {oc7 kV7 dc7 pm7 cd7 ct7 : Value}
    {od8 an8 : Option Addr} {sl8 : Array (Option Value)} {oc8 kV8 dc8 pm8 cd8 ct8 : Value}
    (a0 : PySem.W.nsIn K mainGlobals "_law_deck" = some (some (.ref a__law_deck)))    (l0 : K.lookup a__law_deck = some ⟨oc0, od0, .func (PySem.W.fnOf "_law_deck" "_law_deck" (defArgs s__law_deck) (defBody s__law_deck) (defScope s__law_deck) .none kV0 dc0 pm0 an0 cd0 ct0), sl0⟩) (c0 : PySem.W.codeIn K cd0 "_law_deck" = true) (k0 : PySem.W.keepIn K (.ref a__law_deck) = true)
    (a1 : PySem.W.nsIn K mainGlobals "_law_draw" = some (some (.ref a__law_draw)))    (l1 : K.lookup a__law_draw = some ⟨oc1, od1, .func (PySem.W.fnOf "_law_draw" "_law_draw" (defArgs s__law_draw) (defBody s__law_draw) (defScope s__law_draw) .none kV1 dc1 pm1 an1 cd1 ct1), sl1⟩) (c1 : PySem.W.codeIn K cd1 "_law_draw" = true) (k1 : PySem.W.keepIn K (.ref a__law_draw) = true)
    (a2 : PySem.W.nsIn K mainGlobals "_law_any" = some (some (.ref a__law_any)))    (l2 : K.lookup a__law_any = some ⟨oc2, od2, .func (PySem.W.fnOf "_law_any" "_law_any" (defArgs s__law_any) (defBody s__law_any) (defScope s__law_any) .none kV2 dc2 pm2 an2 cd2 ct2), sl2⟩) (c2 : PySem.W.codeIn K cd2 "_law_any" = true) (k2 : PySem.W.keepIn K (.ref a__law_any) = true)
    (a3 : PySem.W.nsIn K mainGlobals "_law_placed" = some (some (.ref a__law_placed)))    (l3 : K.lookup a__law_placed = some ⟨oc3, od3, .func (PySem.W.fnOf "_law_placed" "_law_placed" (defArgs s__law_placed) (defBody s__law_placed) (defScope s__law_placed) .none kV3 dc3 pm3 an3 cd3 ct3), sl3⟩) (c3 : PySem.W.codeIn K cd3 "_law_placed" = true) (k3 : PySem.W.keepIn K (.ref a__law_placed) = true)
    (a4 : PySem.W.nsIn K mainGlobals "_law_named" = some (some (.ref a__law_named)))    (l4 : K.lookup a__law_named = some ⟨oc4, od4, .func (PySem.W.fnOf "_law_named" "_law_named" (defArgs s__law_named) (defBody s__law_named) (defScope s__law_named) .none kV4 dc4 pm4 an4 cd4 ct4), sl4⟩) (c4 : PySem.W.codeIn K cd4 "_law_named" = true) (k4 : PySem.W.keepIn K (.ref a__law_named) = true)
    (a5 : PySem.W.nsIn K mainGlobals "_law_classes" = some (some (.ref a__law_classes)))    (l5 : K.lookup a__law_classes = some ⟨oc5, od5, .func (PySem.W.fnOf "_law_classes" "_law_classes" (defArgs s__law_classes) (defBody s__law_classes) (defScope s__law_classes) .none kV5 dc5 pm5 an5 cd5 ct5), sl5⟩) (c5 : PySem.W.codeIn K cd5 "_law_classes" = true) (k5 : PySem.W.keepIn K (.ref a__law_classes) = true)
    (a6 : PySem.W.nsIn K mainGlobals "_law_fields" = some (some (.ref a__law_fields)))    (l6 : K.lookup a__law_fields = some ⟨oc6, od6, .func (PySem.W.fnOf "_law_fields" "_law_fields" (defArgs s__law_fields) (defBody s__law_fields) (defScope s__law_fields) .none kV6 dc6 pm6 an6 cd6 ct6), sl6⟩) (c6 : PySem.W.codeIn K cd6 "_law_fields" = true) (k6 : PySem.W.keepIn K (.ref a__law_fields) = true)
    (a7 : PySem.W.nsIn K mainGlobals "_law_right" = some (some (.ref a__law_right)))    (l7 : K.lookup a__law_right = some ⟨oc7, od7, .func (PySem.W.fnOf "_law_right" "_law_right" (defArgs s__law_right) (defBody s__law_right) (defScope s__law_right) .none kV7 dc7 pm7 an7 cd7 ct7), sl7⟩) (c7 : PySem.W.codeIn K cd7 "_law_right" = true) (k7 : PySem.W.keepIn K (.ref a__law_right) = true)
    (a8 : PySem.W.nsIn K mainGlobals "law" = some (some (.ref a_law)))    (l8 : K.lookup a_law = some ⟨oc8, od8, .func (PySem.W.fnOf "law" "law" (defArgs s_law) (defBody s_law) (defScope s_law) .none kV8 dc8 pm8 an8 cd8 ct8), sl8⟩) (c8 : PySem.W.codeIn K cd8 "law" = true) (k8 : PySem.W.keepIn K (.ref a_law) = true)
    (z0 : PySem.W.nsIn K mainGlobals "ArithmeticError" = some none)
    (z1 : PySem.W.nsIn K mainGlobals "KeyError" = some none)
    (z2 : PySem.W.nsIn K mainGlobals "ValueError" = some none)
    (z3 : PySem.W.nsIn K mainGlobals "dict" = some none)
    (z4 : PySem.W.nsIn K mainGlobals "int" = some none)
    (z5 : PySem.W.nsIn K mainGlobals "isinstance" = some none)
    (z6 : PySem.W.nsIn K mainGlobals "len" = some none)
    (z7 : PySem.W.nsIn K mainGlobals "list" = some none)
    (z8 : PySem.W.nsIn K mainGlobals "range" = some none)
    (z9 : PySem.W.nsIn K mainGlobals "repr" = some none)
    (z10 : PySem.W.nsIn K mainGlobals "sum" = some none)
    (z11 : PySem.W.nsIn K mainGlobals "tuple" = some none)
    (z12 : PySem.W.nsIn K mainGlobals "zip" = some none)
    : ∃ fd : FuncData, (∀ (s : Shared) (v : Value), BindsTo s fd ⟨[v], []⟩ [("_law_script", v)]) ∧ ∀ base : Heap, K.In base → base.Ns mainGlobals mg → FnG l.prog w K mg base CX0 5 fa fd ["_law_script"] (spD K 1 mAll) := by
  have e := hfa.symm.trans (PySem.W.mg_of X G a8)
  cases e
  letI ca : CA := ⟨fun n => match n with | 0 => c_Used | 1 => c_NoFit | 2 => c_Taken | 3 => c_NoName | 4 => c_NoLine | 5 => c_Busy | 6 => c_Last | 7 => c_Full | 8 => c_NoRule | 9 => c_NoCond | 10 => c_NoShape | 11 => c_Over | 12 => c_NotNow | 13 => c_Tired | 14 => c_TooLate | 15 => c_NoText | 16 => c_NoDeed | 17 => c_NoRow | 18 => c_NoChange | 19 => c_NoWriter | 20 => c_NoTag | 21 => c_NoCommit | 22 => c_NoTable | 23 => c_NoFile | 24 => c_NoColumn | 25 => c_Clash | 26 => c_Lost | 27 => c_Crash | _ => 0⟩
  have T : Facts w.params K mg c_StillError c_Missing c_Trouble ai_Used ai_NoFit ai_Taken ai_NoName ai_Over ai_NotNow ai_Tired ai_TooLate ai_NoText ai_NoDeed ai_NoRow ai_NoChange ai_NoWriter ai_NoTag ai_NoCommit ai_NoTable ai_NoFile ai_NoColumn ai_Clash ai_Lost ai_Crash a__law_deck a__law_draw a__law_any a__law_placed a__law_named a__law_classes a__law_fields a__law_right fa (PySem.W.fnOf "__init__" "Used.__init__" (defArgs si_Used) (defBody si_Used) (defScope si_Used) .none kV9 dc9 pm9 an9 cd9 ct9) (PySem.W.fnOf "__init__" "NoFit.__init__" (defArgs si_NoFit) (defBody si_NoFit) (defScope si_NoFit) .none kV10 dc10 pm10 an10 cd10 ct10) (PySem.W.fnOf "__init__" "Taken.__init__" (defArgs si_Taken) (defBody si_Taken) (defScope si_Taken) .none kV11 dc11 pm11 an11 cd11 ct11) (PySem.W.fnOf "__init__" "NoName.__init__" (defArgs si_NoName) (defBody si_NoName) (defScope si_NoName) .none kV12 dc12 pm12 an12 cd12 ct12) (PySem.W.fnOf "__init__" "Over.__init__" (defArgs si_Over) (defBody si_Over) (defScope si_Over) .none kV13 dc13 pm13 an13 cd13 ct13) (PySem.W.fnOf "__init__" "NotNow.__init__" (defArgs si_NotNow) (defBody si_NotNow) (defScope si_NotNow) .none kV14 dc14 pm14 an14 cd14 ct14) (PySem.W.fnOf "__init__" "Tired.__init__" (defArgs si_Tired) (defBody si_Tired) (defScope si_Tired) .none kV15 dc15 pm15 an15 cd15 ct15) (PySem.W.fnOf "__init__" "TooLate.__init__" (defArgs si_TooLate) (defBody si_TooLate) (defScope si_TooLate) .none kV16 dc16 pm16 an16 cd16 ct16) (PySem.W.fnOf "__init__" "NoText.__init__" (defArgs si_NoText) (defBody si_NoText) (defScope si_NoText) .none kV17 dc17 pm17 an17 cd17 ct17) (PySem.W.fnOf "__init__" "NoDeed.__init__" (defArgs si_NoDeed) (defBody si_NoDeed) (defScope si_NoDeed) .none kV18 dc18 pm18 an18 cd18 ct18) (PySem.W.fnOf "__init__" "NoRow.__init__" (defArgs si_NoRow) (defBody si_NoRow) (defScope si_NoRow) .none kV19 dc19 pm19 an19 cd19 ct19) (PySem.W.fnOf "__init__" "NoChange.__init__" (defArgs si_NoChange) (defBody si_NoChange) (defScope si_NoChange) .none kV20 dc20 pm20 an20 cd20 ct20) (PySem.W.fnOf "__init__" "NoWriter.__init__" (defArgs si_NoWriter) (defBody si_NoWriter) (defScope si_NoWriter) .none kV21 dc21 pm21 an21 cd21 ct21) (PySem.W.fnOf "__init__" "NoTag.__init__" (defArgs si_NoTag) (defBody si_NoTag) (defScope si_NoTag) .none kV22 dc22 pm22 an22 cd22 ct22) (PySem.W.fnOf "__init__" "NoCommit.__init__" (defArgs si_NoCommit) (defBody si_NoCommit) (defScope si_NoCommit) .none kV23 dc23 pm23 an23 cd23 ct23) (PySem.W.fnOf "__init__" "NoTable.__init__" (defArgs si_NoTable) (defBody si_NoTable) (defScope si_NoTable) .none kV24 dc24 pm24 an24 cd24 ct24) (PySem.W.fnOf "__init__" "NoFile.__init__" (defArgs si_NoFile) (defBody si_NoFile) (defScope si_NoFile) .none kV25 dc25 pm25 an25 cd25 ct25) (PySem.W.fnOf "__init__" "NoColumn.__init__" (defArgs si_NoColumn) (defBody si_NoColumn) (defScope si_NoColumn) .none kV26 dc26 pm26 an26 cd26 ct26) (PySem.W.fnOf "__init__" "Clash.__init__" (defArgs si_Clash) (defBody si_Clash) (defScope si_Clash) .none kV27 dc27 pm27 an27 cd27 ct27) (PySem.W.fnOf "__init__" "Lost.__init__" (defArgs si_Lost) (defBody si_Lost) (defScope si_Lost) .none kV28 dc28 pm28 an28 cd28 ct28) (PySem.W.fnOf "__init__" "Crash.__init__" (defArgs si_Crash) (defBody si_Crash) (defScope si_Crash) .none kV29 dc29 pm29 an29 cd29 ct29) (PySem.W.fnOf "_law_deck" "_law_deck" (defArgs s__law_deck) (defBody s__law_deck) (defScope s__law_deck) .none kV0 dc0 pm0 an0 cd0 ct0) (PySem.W.fnOf "_law_draw" "_law_draw" (defArgs s__law_draw) (defBody s__law_draw) (defScope s__law_draw) .none kV1 dc1 pm1 an1 cd1 ct1) (PySem.W.fnOf "_law_any" "_law_any" (defArgs s__law_any) (defBody s__law_any) (defScope s__law_any) .none kV2 dc2 pm2 an2 cd2 ct2) (PySem.W.fnOf "_law_placed" "_law_placed" (defArgs s__law_placed) (defBody s__law_placed) (defScope s__law_placed) .none kV3 dc3 pm3 an3 cd3 ct3) (PySem.W.fnOf "_law_named" "_law_named" (defArgs s__law_named) (defBody s__law_named) (defScope s__law_named) .none kV4 dc4 pm4 an4 cd4 ct4) (PySem.W.fnOf "_law_classes" "_law_classes" (defArgs s__law_classes) (defBody s__law_classes) (defScope s__law_classes) .none kV5 dc5 pm5 an5 cd5 ct5) (PySem.W.fnOf "_law_fields" "_law_fields" (defArgs s__law_fields) (defBody s__law_fields) (defScope s__law_fields) .none kV6 dc6 pm6 an6 cd6 ct6) (PySem.W.fnOf "_law_right" "_law_right" (defArgs s__law_right) (defBody s__law_right) (defScope s__law_right) .none kV7 dc7 pm7 an7 cd7 ct7) (PySem.W.fnOf "law" "law" (defArgs s_law) (defBody s_law) (defScope s_law) .none kV8 dc8 pm8 an8 cd8 ct8)  := ⟨PySem.W.mg_of X G u0, PySem.W.mg_of X G u1, PySem.W.mg_of X G u2, PySem.W.mg_of X G u3, PySem.W.mg_of X G u4, PySem.W.mg_of X G u5, PySem.W.mg_of X G u6, PySem.W.mg_of X G u7, PySem.W.mg_of X G u8, PySem.W.mg_of X G u9, PySem.W.mg_of X G u10, PySem.W.mg_of X G u11, PySem.W.mg_of X G u12, PySem.W.mg_of X G u13, PySem.W.mg_of X G u14, PySem.W.mg_of X G u15, PySem.W.mg_of X G u16, PySem.W.mg_of X G u17, PySem.W.mg_of X G u18, PySem.W.mg_of X G u19, PySem.W.mg_of X G u20, PySem.W.mg_of X G u21, PySem.W.mg_of X G u22, PySem.W.mg_of X G u23, PySem.W.mg_of X G u24, PySem.W.mg_of X G u25, PySem.W.mg_of X G u26, PySem.W.mg_of X G u27, PySem.W.mg_of X G u28, PySem.W.mg_of X G u29, PySem.W.mg_of X G u30, hr_StillError, hga_StillError, hfc_StillError, hr_Missing, hga_Missing, hfc_Missing, hr_Trouble, hga_Trouble, hfc_Trouble, hnf_Used_name, hnf_NoFit_name, hnf_Taken_name, hnf_NoName_name, hnf_Over_until, hnf_NotNow_state, hnf_Tired_tries, hnf_TooLate_base, hnf_NoText_row, hnf_NoDeed_deed, hnf_NoRow_place, hnf_NoChange_place, hnf_NoWriter_name, hnf_NoTag_name, hnf_NoCommit_number, hnf_NoTable_name, hnf_NoFile_file, hnf_NoColumn_name, hnf_Clash_number, hnf_Clash_word, hnf_Clash_file, hnf_Lost_step, hnf_Crash_step, hx_NoLine, hk_NoLine, hx_Busy, hk_Busy, hx_Last, hk_Last, hx_Full, hk_Full, hx_NoRule, hk_NoRule, hx_NoCond, hk_NoCond, hx_NoShape, hk_NoShape, hi_Used, ho_Used, hti_Used, hi_NoFit, ho_NoFit, hti_NoFit, hi_Taken, ho_Taken, hti_Taken, hi_NoName, ho_NoName, hti_NoName, hi_Over, ho_Over, hti_Over, hi_NotNow, ho_NotNow, hti_NotNow, hi_Tired, ho_Tired, hti_Tired, hi_TooLate, ho_TooLate, hti_TooLate, hi_NoText, ho_NoText, hti_NoText, hi_NoDeed, ho_NoDeed, hti_NoDeed, hi_NoRow, ho_NoRow, hti_NoRow, hi_NoChange, ho_NoChange, hti_NoChange, hi_NoWriter, ho_NoWriter, hti_NoWriter, hi_NoTag, ho_NoTag, hti_NoTag, hi_NoCommit, ho_NoCommit, hti_NoCommit, hi_NoTable, ho_NoTable, hti_NoTable, hi_NoFile, ho_NoFile, hti_NoFile, hi_NoColumn, ho_NoColumn, hti_NoColumn, hi_Clash, ho_Clash, hti_Clash, hi_Lost, ho_Lost, hti_Lost, hi_Crash, ho_Crash, hti_Crash, hvx, hvq_Full, hvq_NoRule, hvq_NoCond, hvq_NoShape, hvq_NoName, hvq_NoLine, hvq_Busy, hvq_Last, hvq_NoChange, hvq_Used, hvq_NoFit, hvq_Taken, hvq_TooLate, hvq_NoText, hvq_NoDeed, hvq_NoRow, hvq_Clash, hvq_Over, hvq_NotNow, hvq_Tired, hvq_NoCommit, hvq_NoTable, hvq_NoFile, hvq_NoColumn, hvq_Lost, hvq_Crash, hvq_NoWriter, hvq_NoTag, hvq_Trouble, hvq_Missing, hvq_StillError, hvq_ArithmeticError, hvq_KeyError, hvq_ValueError, hvf_deed, hvf_place, hvf_name, hvf_until, hvf_state, hvf_tries, hvf_base, hvf_row, hvf_file, hvf_word, hvf_number, hvf_step, fun_mk (st := si_Used) l9 c9 k9, fun_mk (st := si_NoFit) l10 c10 k10, fun_mk (st := si_Taken) l11 c11 k11, fun_mk (st := si_NoName) l12 c12 k12, fun_mk (st := si_Over) l13 c13 k13, fun_mk (st := si_NotNow) l14 c14 k14, fun_mk (st := si_Tired) l15 c15 k15, fun_mk (st := si_TooLate) l16 c16 k16, fun_mk (st := si_NoText) l17 c17 k17, fun_mk (st := si_NoDeed) l18 c18 k18, fun_mk (st := si_NoRow) l19 c19 k19, fun_mk (st := si_NoChange) l20 c20 k20, fun_mk (st := si_NoWriter) l21 c21 k21, fun_mk (st := si_NoTag) l22 c22 k22, fun_mk (st := si_NoCommit) l23 c23 k23, fun_mk (st := si_NoTable) l24 c24 k24, fun_mk (st := si_NoFile) l25 c25 k25, fun_mk (st := si_NoColumn) l26 c26 k26, fun_mk (st := si_Clash) l27 c27 k27, fun_mk (st := si_Lost) l28 c28 k28, fun_mk (st := si_Crash) l29 c29 k29, fun_mk (st := s__law_deck) l0 c0 k0, PySem.W.mg_of X G a0, fun_mk (st := s__law_draw) l1 c1 k1, PySem.W.mg_of X G a1, fun_mk (st := s__law_any) l2 c2 k2, PySem.W.mg_of X G a2, fun_mk (st := s__law_placed) l3 c3 k3, PySem.W.mg_of X G a3, fun_mk (st := s__law_named) l4 c4 k4, PySem.W.mg_of X G a4, fun_mk (st := s__law_classes) l5 c5 k5, PySem.W.mg_of X G a5, fun_mk (st := s__law_fields) l6 c6 k6, PySem.W.mg_of X G a6, fun_mk (st := s__law_right) l7 c7 k7, PySem.W.mg_of X G a7, fun_mk (st := s_law) l8 c8 k8, PySem.W.mg_of X G a8, PySem.W.mg_none_of X G z0, PySem.W.mg_none_of X G z1, PySem.W.mg_none_of X G z2, PySem.W.mg_none_of X G z3, PySem.W.mg_none_of X G z4, PySem.W.mg_none_of X G z5, PySem.W.mg_none_of X G z6, PySem.W.mg_none_of X G z7, PySem.W.mg_none_of X G z8, PySem.W.mg_none_of X G z9, PySem.W.mg_none_of X G z10, PySem.W.mg_none_of X G z11, PySem.W.mg_none_of X G z12⟩
  exact ⟨_, fun s v => .of_eq rfl, fun base _ _ => (ok_law T).less fun ds μ Q E h => h ca⟩
end Lk01

local macro_rules | `(tactic| walk_at "ws") => `(tactic| simp only [DL.x_bnd, DL.x_ret, DL.x_req, DL.x_get, DL.x_opt, DL.x_seq, DL.x_on, DL.x_or, DL.x_ob, DL.x_oc, DL.x_nil, DL.x_rt, DL.x_rtN, DL.x_drop, DL.x_break, DL.x_cont, DL.x_if, DL.x_ift, DL.x_iff, DL.x_set, DL.x_asg, DL.x_par2, DL.x_par3, DL.x_for, DL.x_v0, DL.x_vS, DL.x_c, DL.x_bin, DL.x_un, DL.x_tbin, DL.x_tru, DL.x_trb, DL.x_not, DL.x_tand, DL.x_tor, DL.x_and, DL.x_orE, DL.x_notE, DL.x_ifE, DL.x_tup, DL.x_lst, DL.x_lstM, DL.x_anil, DL.x_acons, DL.x_call, DL.x_callD, DL.x_callK, DL.x_meth, DL.x_sl, DL.x_oN, DL.x_oS, DL.x_gn, DL.x_gt, DL.x_gc, DL.x_g0, DL.x_gi, DL.x_body, DL.x_yes, DL.x_add, DL.x_addS, DL.x_addT, DL.x_addL, DL.x_sub, DL.x_mul, DL.x_div, DL.x_mod, DL.x_pow, DL.x_neg, DL.x_cmp, DL.x_cmpS, DL.x_isN, DL.x_mmL, DL.x_mm2, DL.x_eqS, DL.x_eqI, DL.x_intb, DL.onB_bl, DL.onI_int, DL.onO_nx, DL.onO_rt, DL.onL_ml, DL.addD_ol, DL.isNon_non, DL.isNon_int, DL.isNon_str, DL.isNon_tup, DL.ix_tup, DL.ix_lst, DL.ix_str, DL.ix_obj, DL.atI_0, DL.atI_1, DL.atI_2, DL.atI_3, DL.len_tup, DL.len_lst, DL.len_str, DL.len_obj, DL.ty_obj, DL.ty_str, DL.ty_lst, DL.append_obj, DL.pop_obj, DL.set_obj, DL.ixN_3_2, DL.tuple_obj, DL.tuple_lst, DL.list_tup, DL.list_lst, DL.sl_str, DL.sl_tup, DL.sl_lst, DL.rev_tup, DL.revM_lst, DL.sum_lst, DL.put_same, DL.startD, DL.pick, List.map_cons, List.map_nil, List.replicate, List.cons_append, List.nil_append, List.append_nil, List.length_cons, List.length_nil, List.getElem?_cons_zero, List.getElem?_cons_succ, List.set_cons_zero, List.set_cons_succ, List.filterMap_cons, List.filterMap_nil, Nat.zero_add, Nat.add_zero, Nat.reduceAdd, Nat.reduceSub, true_and, and_true, id_eq, if_true, if_false, Bool.false_eq_true, Bool.not_true, Bool.not_false, DL.x_idx, DL.rev_obj, DL.wipeD, DL.x_addM, DL.x_addMl, DL.x_isi, DL.ty_nonM, DL.ty_blM, DL.ty_intM, DL.ty_strM, DL.ty_tupM, DL.ty_lstM, DL.ty_dctM, DL.kb_non_str, DL.kb_non_int, DL.kb_non_bool, DL.kb_non_tuple, DL.kb_non_list, DL.kb_non_dict, DL.kb_bl_str, DL.kb_bl_int, DL.kb_bl_bool, DL.kb_bl_tuple, DL.kb_bl_list, DL.kb_bl_dict, DL.kb_int_str, DL.kb_int_int, DL.kb_int_bool, DL.kb_int_tuple, DL.kb_int_list, DL.kb_int_dict, DL.kb_str_str, DL.kb_str_int, DL.kb_str_bool, DL.kb_str_tuple, DL.kb_str_list, DL.kb_str_dict, DL.kb_tup_str, DL.kb_tup_int, DL.kb_tup_bool, DL.kb_tup_tuple, DL.kb_tup_list, DL.kb_tup_dict, DL.kb_lst_str, DL.kb_lst_int, DL.kb_lst_bool, DL.kb_lst_tuple, DL.kb_lst_list, DL.kb_lst_dict, DL.kb_dct_str, DL.kb_dct_int, DL.kb_dct_bool, DL.kb_dct_tuple, DL.kb_dct_list, DL.kb_dct_dict, DL.isNon_bl, DL.isNon_lst, DL.isNon_dct, DL.x_tOf, DL.x_tOfE, DL.x_chain, DL.x_kix, DL.x_kin, DL.x_kgt, DL.x_allL, DL.x_anyL, DL.x_istr, DL.x_dgetO, DL.x_dgetS, DL.x_dgetI, DL.x_gdix, DL.x_dset, DL.x_popAt, DL.x_insert, DL.ty_dct, DL.x_getS1, DL.x_getI1, DL.x_getS2, DL.x_getI2, DL.x_pnil, DL.x_pcons, DL.x_disM, DL.x_dis0M, DL.x_listM, DL.x_listMT, DL.x_gst, DL.x_mulS, DL.x_mulL, DL.x_dict, DL.onM_md, DL.onS_str, DL.kfind_nil, DL.kfind_cons, DL.lit_beq, DL.x_iseq, DL.onIt_lst, DL.onIt_tup, DL.sl_obj, DL.x_rg1, DL.valD_nil, DL.valD_cons, DL.key_rr, DL.key_ll, DL.key_lr, DL.key_rl, String.reduceBEq, Option.isSome_some, Option.isSome_none, Option.getD_some, Option.getD_none, Bool.true_and, Bool.and_true, Bool.false_and, Bool.and_false, Bool.or_false, Bool.false_or, Bool.or_true, Bool.true_or, beq_self_eq_true, DL.x_addBb, DL.x_addBib, DL.x_addBi, DL.x_addBs, DL.x_addBt, DL.x_addBl, DL.x_subBb, DL.x_subBib, DL.x_subBi, DL.x_mulBb, DL.x_mulBi, DL.x_strI, DL.x_strS, DL.x_strB, DL.x_up, DL.x_eqT, DL.x_eqL, DL.x_inDS, DL.x_inDI, DL.dec_cons, DL.x_nox, DL.x_raise0, DL.x_raise1, DL.x_try, DL.x_isX, DL.x_xf, DL.onMi_mi, DL.onSm_some, DL.lk_cons, DL.lk_nil, DL.put_nil, DL.put_cons, DL.x_fld, DL.x_fldO, DL.x_sfld, DL.x_stO, DL.x_aug, DL.x_augO, DL.x_methC, DL.x_methO, DL.x_make, DL.x_del, DL.x_delO, DL.x_isB, DL.x_idxT, DL.x_gtL, DL.x_sortS, DL.x_extO, DL.x_gstM, DL.x_gstA, DL.x_gstT, DL.x_frz, DL.x_frzO, DL.del_put, DL.x_lenO, DL.x_lenOD, DL.x_methN, DL.x_methK, DL.x_gFld, DL.x_asg3, DL.x_intS, DL.x_intAb, DL.x_intAi, DL.x_getO1, DL.x_sortA, DL.x_sortB, DL.x_sortBT, DL.x_listVals, DL.x_callM, DL.x_callL, DL.x_lam, DL.gSel, DL.capsOf, DL.onCp_some, DL.x_kval, DL.isStrD, DL.strIs, Option.map_some, List.all_cons, List.all_nil, List.any_cons, List.any_nil, DL.x_sortTD, DL.x_makeM, DL.x_methL, DL.gKm, DL.x_ifT, DL.x_lenSet, DL.lenB_d, DL.x_extT, DL.x_sortSet, DL.x_updD, DL.x_tupIt, DL.x_tupItO, DL.x_mkV, DL.x_isV, DL.x_isVe, DL.x_fldV, DL.x_fldVe, DL.x_lzip])
local macro_rules | `(tactic| walk_at "wn") => `(tactic| simp only [DL.x_bnd, DL.x_ret, DL.x_req, DL.x_get, DL.x_opt, DL.x_seq, DL.x_or, DL.x_ob, DL.x_oc, DL.x_nil, DL.x_rt, DL.x_rtN, DL.x_drop, DL.x_break, DL.x_cont, DL.x_if, DL.x_ift, DL.x_iff, DL.x_set, DL.x_asg, DL.x_par2, DL.x_par3, DL.x_for, DL.x_v0, DL.x_vS, DL.x_c, DL.x_bin, DL.x_un, DL.x_tbin, DL.x_tru, DL.x_trb, DL.x_not, DL.x_tand, DL.x_tor, DL.x_and, DL.x_orE, DL.x_notE, DL.x_ifE, DL.x_tup, DL.x_lst, DL.x_lstM, DL.x_anil, DL.x_acons, DL.x_call, DL.x_callD, DL.x_callK, DL.x_meth, DL.x_sl, DL.x_oN, DL.x_oS, DL.x_gn, DL.x_gt, DL.x_gc, DL.x_g0, DL.x_gi, DL.x_body, DL.x_yes, DL.x_add, DL.x_addS, DL.x_addT, DL.x_addL, DL.x_sub, DL.x_mul, DL.x_div, DL.x_mod, DL.x_pow, DL.x_neg, DL.x_cmp, DL.x_cmpS, DL.x_isN, DL.x_mmL, DL.x_mm2, DL.x_eqS, DL.x_eqI, DL.x_intb, DL.onB_bl, DL.onI_int, DL.onO_nx, DL.onO_rt, DL.onL_ml, DL.addD_ol, DL.isNon_non, DL.isNon_int, DL.isNon_str, DL.isNon_tup, DL.ix_tup, DL.ix_lst, DL.ix_str, DL.ix_obj, DL.atI_0, DL.atI_1, DL.atI_2, DL.atI_3, DL.len_tup, DL.len_lst, DL.len_str, DL.len_obj, DL.ty_obj, DL.ty_str, DL.ty_lst, DL.append_obj, DL.pop_obj, DL.set_obj, DL.ixN_3_2, DL.tuple_obj, DL.tuple_lst, DL.list_tup, DL.list_lst, DL.sl_str, DL.sl_tup, DL.sl_lst, DL.rev_tup, DL.revM_lst, DL.sum_lst, DL.put_same, DL.startD, DL.pick, List.map_cons, List.map_nil, List.replicate, List.cons_append, List.nil_append, List.append_nil, List.length_cons, List.length_nil, List.getElem?_cons_zero, List.getElem?_cons_succ, List.set_cons_zero, List.set_cons_succ, List.filterMap_cons, List.filterMap_nil, Nat.zero_add, Nat.add_zero, Nat.reduceAdd, Nat.reduceSub, true_and, and_true, id_eq, if_true, if_false, Bool.false_eq_true, Bool.not_true, Bool.not_false, DL.x_idx, DL.rev_obj, DL.wipeD, DL.x_addM, DL.x_addMl, DL.x_isi, DL.ty_nonM, DL.ty_blM, DL.ty_intM, DL.ty_strM, DL.ty_tupM, DL.ty_lstM, DL.ty_dctM, DL.kb_non_str, DL.kb_non_int, DL.kb_non_bool, DL.kb_non_tuple, DL.kb_non_list, DL.kb_non_dict, DL.kb_bl_str, DL.kb_bl_int, DL.kb_bl_bool, DL.kb_bl_tuple, DL.kb_bl_list, DL.kb_bl_dict, DL.kb_int_str, DL.kb_int_int, DL.kb_int_bool, DL.kb_int_tuple, DL.kb_int_list, DL.kb_int_dict, DL.kb_str_str, DL.kb_str_int, DL.kb_str_bool, DL.kb_str_tuple, DL.kb_str_list, DL.kb_str_dict, DL.kb_tup_str, DL.kb_tup_int, DL.kb_tup_bool, DL.kb_tup_tuple, DL.kb_tup_list, DL.kb_tup_dict, DL.kb_lst_str, DL.kb_lst_int, DL.kb_lst_bool, DL.kb_lst_tuple, DL.kb_lst_list, DL.kb_lst_dict, DL.kb_dct_str, DL.kb_dct_int, DL.kb_dct_bool, DL.kb_dct_tuple, DL.kb_dct_list, DL.kb_dct_dict, DL.isNon_bl, DL.isNon_lst, DL.isNon_dct, DL.x_tOf, DL.x_tOfE, DL.x_chain, DL.x_kix, DL.x_kin, DL.x_kgt, DL.x_allL, DL.x_anyL, DL.x_istr, DL.x_dgetO, DL.x_dgetS, DL.x_dgetI, DL.x_gdix, DL.x_dset, DL.x_popAt, DL.x_insert, DL.ty_dct, DL.x_getS1, DL.x_getI1, DL.x_getS2, DL.x_getI2, DL.x_pnil, DL.x_pcons, DL.x_disM, DL.x_dis0M, DL.x_listM, DL.x_listMT, DL.x_gst, DL.x_mulS, DL.x_mulL, DL.x_dict, DL.onM_md, DL.onS_str, DL.kfind_nil, DL.kfind_cons, DL.lit_beq, DL.x_iseq, DL.onIt_lst, DL.onIt_tup, DL.sl_obj, DL.x_rg1, DL.valD_nil, DL.valD_cons, DL.key_rr, DL.key_ll, DL.key_lr, DL.key_rl, String.reduceBEq, Option.isSome_some, Option.isSome_none, Option.getD_some, Option.getD_none, Bool.true_and, Bool.and_true, Bool.false_and, Bool.and_false, Bool.or_false, Bool.false_or, Bool.or_true, Bool.true_or, beq_self_eq_true, DL.x_addBb, DL.x_addBib, DL.x_addBi, DL.x_addBs, DL.x_addBt, DL.x_addBl, DL.x_subBb, DL.x_subBib, DL.x_subBi, DL.x_mulBb, DL.x_mulBi, DL.x_strI, DL.x_strS, DL.x_strB, DL.x_up, DL.x_eqT, DL.x_eqL, DL.x_inDS, DL.x_inDI, DL.dec_cons, DL.x_nox, DL.x_raise0, DL.x_raise1, DL.x_try, DL.x_isX, DL.x_xf, DL.onMi_mi, DL.onSm_some, DL.lk_cons, DL.lk_nil, DL.put_nil, DL.put_cons, DL.x_fld, DL.x_fldO, DL.x_sfld, DL.x_stO, DL.x_aug, DL.x_augO, DL.x_methC, DL.x_methO, DL.x_make, DL.x_del, DL.x_delO, DL.x_isB, DL.x_idxT, DL.x_gtL, DL.x_sortS, DL.x_extO, DL.x_gstM, DL.x_gstA, DL.x_gstT, DL.x_frz, DL.x_frzO, DL.del_put, DL.x_lenO, DL.x_lenOD, DL.x_methN, DL.x_methK, DL.x_gFld, DL.x_asg3, DL.x_intS, DL.x_intAb, DL.x_intAi, DL.x_getO1, DL.x_sortA, DL.x_sortB, DL.x_sortBT, DL.x_listVals, DL.x_callM, DL.x_callL, DL.x_lam, DL.gSel, DL.capsOf, DL.onCp_some, DL.x_kval, DL.isStrD, DL.strIs, Option.map_some, List.all_cons, List.all_nil, List.any_cons, List.any_nil, DL.x_sortTD, DL.x_makeM, DL.x_methL, DL.gKm, DL.x_ifT, DL.x_lenSet, DL.lenB_d, DL.x_extT, DL.x_sortSet, DL.x_updD, DL.x_tupIt, DL.x_tupItO, DL.x_mkV, DL.x_isV, DL.x_isVe, DL.x_fldV, DL.x_fldVe, DL.x_lzip])
local macro_rules | `(tactic| walk_at "side") => `(tactic| first | exact True.intro | decide | omega | (simp only [DL.sz_eq, List.length_map, List.length_append, List.length_range, List.length_cons, List.length_nil, List.length_replicate, List.length_reverse, List.length_set, DL.rangeL_len, Nat.add_zero, Nat.zero_add]; omega) | exact DL.cmul_l (by omega) (by omega) | exact DL.cmul_r (by omega) (by omega) | exact DL.cdiv_w (by omega) (by omega) | exact DL.cpow_w (by decide) (by decide) (by decide) | assumption | (simp; done))
local macro_rules | `(tactic| walk_at "go") => `(tactic| repeat (first | ((with_reducible refine And.intro ?sd ?_); (case sd => walk_at "side")) | walk_at "ws"))
local macro_rules | `(tactic| walk_at "gn") => `(tactic| repeat (first | ((with_reducible refine And.intro ?sd ?_); (case sd => walk_at "side")) | walk_at "wn"))
namespace Lk01
open PySem PySem.Spec PyProof.Rows L2 DL
variable [CA]

abbrev kC : Key := .inr (PySem.Str.ofString "cells")
abbrev kT : Key := .inr (PySem.Str.ofString "turns")
abbrev kS : Key := .inr (PySem.Str.ofString "seed")
/-- {"cells": .., "turns": .., "seed": ..} -/
def shD : Addr → Int → Int → MO := fun c seed turns => .md [(kC, .obj c), (kT, .int turns), (kS, .int seed)]
theorem put_T (x y z v : D) : putD [(kC, x), (kT, y), (kS, z)] kT v = [(kC, x), (kT, v), (kS, z)] := by
  have h1 : kC ≠ kT := by decide +kernel
  have h2 : kS ≠ kT := by decide +kernel
  simp [putD, h1, h2]
theorem put_S (x y z v : D) : putD [(kC, x), (kT, y), (kS, z)] kS v = [(kC, x), (kT, y), (kS, v)] := by
  have h1 : kC ≠ kS := by decide +kernel
  have h2 : kT ≠ kS := by decide +kernel
  simp [putD, h1, h2]
theorem pop_0 {k : Nat} : seqIndex? 0 (k + 1) = some 0 := by
  unfold seqIndex?
  simp
theorem draw_g {a c : Addr} {w : Int} (w0 : 0 < w) (w1 : w ≤ 2000000000000) : Gen shD a c 1 (m__law_draw [.obj a, .int w]) (fun d => ∃ k : Int, d = .int k ∧ 0 ≤ k ∧ k < w) := by
  intro μ0 μ t Q E h ht q
  obtain ⟨⟨ne, ⟨seed, u, ha, hu0, hu1, s0, s1⟩, ns, hc, hl⟩, fr⟩ := h
  have hac : a ≠ c := Ne.symm ne
  unfold shD at ha
  have dx : ∀ (x m : Int), 0 < m → 0 ≤ x % m ∧ x % m < m := fun x m hm => ⟨Int.emod_nonneg _ (by omega), Int.emod_lt_of_pos _ hm⟩
  have fin : ∀ (k sd : Int) (ms : List Int) (μ' : Mem), μ' a = some (shD c sd (u + 1)) → 0 ≤ k → k < w → 0 ≤ sd → sd < 4611686018427387904 → ms.length ≤ 63 → μ' c = some (.ml (ms.map .int)) → (∀ b, b ≠ a → b ≠ c → μ' b = μ b) → Q (.int k) μ' := fun k sd ms μ' e1 k0 k1 d0 d1 hm e2 e3 =>
    q _ _ ⟨k, rfl, k0, k1⟩ ⟨⟨ne, ⟨sd, u + 1, e1, by omega, by omega, d0, d1⟩, ms, e2, hm⟩, fun b mo b1 b2 e => by rw [e3 b b1 b2]; exact fr b mo b1 b2 e⟩
  simp only [m__law_draw, b__law_draw, DL.x_bnd, DL.x_ret, DL.x_req, DL.x_get, DL.x_opt, DL.x_seq, DL.x_on, DL.x_or, DL.x_ob, DL.x_oc, DL.x_nil, DL.x_rt, DL.x_rtN, DL.x_drop, DL.x_break, DL.x_cont, DL.x_if, DL.x_ift, DL.x_iff, DL.x_set, DL.x_asg, DL.x_par2, DL.x_par3, DL.x_for, DL.x_v0, DL.x_vS, DL.x_c, DL.x_bin, DL.x_un, DL.x_tbin, DL.x_tru, DL.x_trb, DL.x_not, DL.x_tand, DL.x_tor, DL.x_and, DL.x_orE, DL.x_notE, DL.x_ifE, DL.x_tup, DL.x_lst, DL.x_lstM, DL.x_anil, DL.x_acons, DL.x_call, DL.x_callD, DL.x_callK, DL.x_meth, DL.x_sl, DL.x_oN, DL.x_oS, DL.x_gn, DL.x_gt, DL.x_gc, DL.x_g0, DL.x_gi, DL.x_body, DL.x_yes, DL.x_add, DL.x_addS, DL.x_addT, DL.x_addL, DL.x_sub, DL.x_mul, DL.x_div, DL.x_mod, DL.x_pow, DL.x_neg, DL.x_cmp, DL.x_cmpS, DL.x_isN, DL.x_mmL, DL.x_mm2, DL.x_eqS, DL.x_eqI, DL.x_intb, DL.onB_bl, DL.onI_int, DL.onO_nx, DL.onO_rt, DL.onL_ml, DL.addD_ol, DL.isNon_non, DL.isNon_int, DL.isNon_str, DL.isNon_tup, DL.ix_tup, DL.ix_lst, DL.ix_str, DL.ix_obj, DL.atI_0, DL.atI_1, DL.atI_2, DL.atI_3, DL.len_tup, DL.len_lst, DL.len_str, DL.len_obj, DL.ty_obj, DL.ty_str, DL.ty_lst, DL.append_obj, DL.pop_obj, DL.set_obj, DL.ixN_3_2, DL.tuple_obj, DL.tuple_lst, DL.list_tup, DL.list_lst, DL.sl_str, DL.sl_tup, DL.sl_lst, DL.rev_tup, DL.revM_lst, DL.sum_lst, DL.put_same, DL.startD, DL.pick, List.map_cons, List.map_nil, List.replicate, List.cons_append, List.nil_append, List.append_nil, List.length_cons, List.length_nil, List.getElem?_cons_zero, List.getElem?_cons_succ, List.set_cons_zero, List.set_cons_succ, List.filterMap_cons, List.filterMap_nil, Nat.zero_add, Nat.add_zero, Nat.reduceAdd, Nat.reduceSub, true_and, and_true, id_eq, if_true, if_false, Bool.false_eq_true, Bool.not_true, Bool.not_false, DL.x_idx, DL.rev_obj, DL.wipeD, DL.x_addM, DL.x_addMl, DL.x_isi, DL.ty_nonM, DL.ty_blM, DL.ty_intM, DL.ty_strM, DL.ty_tupM, DL.ty_lstM, DL.ty_dctM, DL.kb_non_str, DL.kb_non_int, DL.kb_non_bool, DL.kb_non_tuple, DL.kb_non_list, DL.kb_non_dict, DL.kb_bl_str, DL.kb_bl_int, DL.kb_bl_bool, DL.kb_bl_tuple, DL.kb_bl_list, DL.kb_bl_dict, DL.kb_int_str, DL.kb_int_int, DL.kb_int_bool, DL.kb_int_tuple, DL.kb_int_list, DL.kb_int_dict, DL.kb_str_str, DL.kb_str_int, DL.kb_str_bool, DL.kb_str_tuple, DL.kb_str_list, DL.kb_str_dict, DL.kb_tup_str, DL.kb_tup_int, DL.kb_tup_bool, DL.kb_tup_tuple, DL.kb_tup_list, DL.kb_tup_dict, DL.kb_lst_str, DL.kb_lst_int, DL.kb_lst_bool, DL.kb_lst_tuple, DL.kb_lst_list, DL.kb_lst_dict, DL.kb_dct_str, DL.kb_dct_int, DL.kb_dct_bool, DL.kb_dct_tuple, DL.kb_dct_list, DL.kb_dct_dict, DL.isNon_bl, DL.isNon_lst, DL.isNon_dct, DL.x_tOf, DL.x_tOfE, DL.x_chain, DL.x_kix, DL.x_kin, DL.x_kgt, DL.x_allL, DL.x_anyL, DL.x_istr, DL.x_dgetO, DL.x_dgetS, DL.x_dgetI, DL.x_gdix, DL.x_dset, DL.x_popAt, DL.x_insert, DL.ty_dct, DL.x_getS1, DL.x_getI1, DL.x_getS2, DL.x_getI2, DL.x_pnil, DL.x_pcons, DL.x_disM, DL.x_dis0M, DL.x_listM, DL.x_listMT, DL.x_gst, DL.x_mulS, DL.x_mulL, DL.x_dict, DL.onM_md, DL.onS_str, DL.kfind_nil, DL.kfind_cons, DL.lit_beq, DL.x_iseq, DL.onIt_lst, DL.onIt_tup, DL.sl_obj, DL.x_rg1, DL.valD_nil, DL.valD_cons, DL.key_rr, DL.key_ll, DL.key_lr, DL.key_rl, String.reduceBEq, Option.isSome_some, Option.isSome_none, Option.getD_some, Option.getD_none, Bool.true_and, Bool.and_true, Bool.false_and, Bool.and_false, Bool.or_false, Bool.false_or, Bool.or_true, Bool.true_or, beq_self_eq_true, DL.x_addBb, DL.x_addBib, DL.x_addBi, DL.x_addBs, DL.x_addBt, DL.x_addBl, DL.x_subBb, DL.x_subBib, DL.x_subBi, DL.x_mulBb, DL.x_mulBi, DL.x_strI, DL.x_strS, DL.x_strB, DL.x_up, DL.x_eqT, DL.x_eqL, DL.x_inDS, DL.x_inDI, DL.dec_cons, DL.x_nox, DL.x_raise0, DL.x_raise1, DL.x_try, DL.x_isX, DL.x_xf, DL.onMi_mi, DL.onSm_some, DL.lk_cons, DL.lk_nil, DL.put_nil, DL.put_cons, DL.x_fld, DL.x_fldO, DL.x_sfld, DL.x_stO, DL.x_aug, DL.x_augO, DL.x_methC, DL.x_methO, DL.x_make, DL.x_del, DL.x_delO, DL.x_isB, DL.x_idxT, DL.x_gtL, DL.x_sortS, DL.x_extO, DL.x_gstM, DL.x_gstA, DL.x_gstT, DL.x_frz, DL.x_frzO, DL.del_put, DL.x_lenO, DL.x_lenOD, DL.x_methN, DL.x_methK, DL.x_gFld, DL.x_asg3, DL.x_intS, DL.x_intAb, DL.x_intAi, DL.x_getO1, DL.x_sortA, DL.x_sortB, DL.x_sortBT, DL.x_listVals, DL.x_callM, DL.x_callL, DL.x_lam, DL.gSel, DL.capsOf, DL.onCp_some, DL.x_kval, DL.isStrD, DL.strIs, Option.map_some, List.all_cons, List.all_nil, List.any_cons, List.any_nil, DL.x_sortTD, DL.x_makeM, DL.x_methL, DL.gKm, DL.x_ifT, DL.x_lenSet, DL.lenB_d, DL.x_extT, DL.x_sortSet, DL.x_updD, DL.x_tupIt, DL.x_tupItO, DL.x_mkV, DL.x_isV, DL.x_isVe, DL.x_fldV, DL.x_fldVe, DL.x_lzip, ha, put_T, put_ne ne, put_ne hac, hc]
  refine ⟨by decide, by decide, ne_nil_w (ns := ns) (by rw [put_ne ne]; exact hc) ?_⟩
  cases ns with
  | nil =>
    simp only [decide_true, DL.x_bnd, DL.x_ret, DL.x_req, DL.x_get, DL.x_opt, DL.x_seq, DL.x_on, DL.x_or, DL.x_ob, DL.x_oc, DL.x_nil, DL.x_rt, DL.x_rtN, DL.x_drop, DL.x_break, DL.x_cont, DL.x_if, DL.x_ift, DL.x_iff, DL.x_set, DL.x_asg, DL.x_par2, DL.x_par3, DL.x_for, DL.x_v0, DL.x_vS, DL.x_c, DL.x_bin, DL.x_un, DL.x_tbin, DL.x_tru, DL.x_trb, DL.x_not, DL.x_tand, DL.x_tor, DL.x_and, DL.x_orE, DL.x_notE, DL.x_ifE, DL.x_tup, DL.x_lst, DL.x_lstM, DL.x_anil, DL.x_acons, DL.x_call, DL.x_callD, DL.x_callK, DL.x_meth, DL.x_sl, DL.x_oN, DL.x_oS, DL.x_gn, DL.x_gt, DL.x_gc, DL.x_g0, DL.x_gi, DL.x_body, DL.x_yes, DL.x_add, DL.x_addS, DL.x_addT, DL.x_addL, DL.x_sub, DL.x_mul, DL.x_div, DL.x_mod, DL.x_pow, DL.x_neg, DL.x_cmp, DL.x_cmpS, DL.x_isN, DL.x_mmL, DL.x_mm2, DL.x_eqS, DL.x_eqI, DL.x_intb, DL.onB_bl, DL.onI_int, DL.onO_nx, DL.onO_rt, DL.onL_ml, DL.addD_ol, DL.isNon_non, DL.isNon_int, DL.isNon_str, DL.isNon_tup, DL.ix_tup, DL.ix_lst, DL.ix_str, DL.ix_obj, DL.atI_0, DL.atI_1, DL.atI_2, DL.atI_3, DL.len_tup, DL.len_lst, DL.len_str, DL.len_obj, DL.ty_obj, DL.ty_str, DL.ty_lst, DL.append_obj, DL.pop_obj, DL.set_obj, DL.ixN_3_2, DL.tuple_obj, DL.tuple_lst, DL.list_tup, DL.list_lst, DL.sl_str, DL.sl_tup, DL.sl_lst, DL.rev_tup, DL.revM_lst, DL.sum_lst, DL.put_same, DL.startD, DL.pick, List.map_cons, List.map_nil, List.replicate, List.cons_append, List.nil_append, List.append_nil, List.length_cons, List.length_nil, List.getElem?_cons_zero, List.getElem?_cons_succ, List.set_cons_zero, List.set_cons_succ, List.filterMap_cons, List.filterMap_nil, Nat.zero_add, Nat.add_zero, Nat.reduceAdd, Nat.reduceSub, true_and, and_true, id_eq, if_true, if_false, Bool.false_eq_true, Bool.not_true, Bool.not_false, DL.x_idx, DL.rev_obj, DL.wipeD, DL.x_addM, DL.x_addMl, DL.x_isi, DL.ty_nonM, DL.ty_blM, DL.ty_intM, DL.ty_strM, DL.ty_tupM, DL.ty_lstM, DL.ty_dctM, DL.kb_non_str, DL.kb_non_int, DL.kb_non_bool, DL.kb_non_tuple, DL.kb_non_list, DL.kb_non_dict, DL.kb_bl_str, DL.kb_bl_int, DL.kb_bl_bool, DL.kb_bl_tuple, DL.kb_bl_list, DL.kb_bl_dict, DL.kb_int_str, DL.kb_int_int, DL.kb_int_bool, DL.kb_int_tuple, DL.kb_int_list, DL.kb_int_dict, DL.kb_str_str, DL.kb_str_int, DL.kb_str_bool, DL.kb_str_tuple, DL.kb_str_list, DL.kb_str_dict, DL.kb_tup_str, DL.kb_tup_int, DL.kb_tup_bool, DL.kb_tup_tuple, DL.kb_tup_list, DL.kb_tup_dict, DL.kb_lst_str, DL.kb_lst_int, DL.kb_lst_bool, DL.kb_lst_tuple, DL.kb_lst_list, DL.kb_lst_dict, DL.kb_dct_str, DL.kb_dct_int, DL.kb_dct_bool, DL.kb_dct_tuple, DL.kb_dct_list, DL.kb_dct_dict, DL.isNon_bl, DL.isNon_lst, DL.isNon_dct, DL.x_tOf, DL.x_tOfE, DL.x_chain, DL.x_kix, DL.x_kin, DL.x_kgt, DL.x_allL, DL.x_anyL, DL.x_istr, DL.x_dgetO, DL.x_dgetS, DL.x_dgetI, DL.x_gdix, DL.x_dset, DL.x_popAt, DL.x_insert, DL.ty_dct, DL.x_getS1, DL.x_getI1, DL.x_getS2, DL.x_getI2, DL.x_pnil, DL.x_pcons, DL.x_disM, DL.x_dis0M, DL.x_listM, DL.x_listMT, DL.x_gst, DL.x_mulS, DL.x_mulL, DL.x_dict, DL.onM_md, DL.onS_str, DL.kfind_nil, DL.kfind_cons, DL.lit_beq, DL.x_iseq, DL.onIt_lst, DL.onIt_tup, DL.sl_obj, DL.x_rg1, DL.valD_nil, DL.valD_cons, DL.key_rr, DL.key_ll, DL.key_lr, DL.key_rl, String.reduceBEq, Option.isSome_some, Option.isSome_none, Option.getD_some, Option.getD_none, Bool.true_and, Bool.and_true, Bool.false_and, Bool.and_false, Bool.or_false, Bool.false_or, Bool.or_true, Bool.true_or, beq_self_eq_true, DL.x_addBb, DL.x_addBib, DL.x_addBi, DL.x_addBs, DL.x_addBt, DL.x_addBl, DL.x_subBb, DL.x_subBib, DL.x_subBi, DL.x_mulBb, DL.x_mulBi, DL.x_strI, DL.x_strS, DL.x_strB, DL.x_up, DL.x_eqT, DL.x_eqL, DL.x_inDS, DL.x_inDI, DL.dec_cons, DL.x_nox, DL.x_raise0, DL.x_raise1, DL.x_try, DL.x_isX, DL.x_xf, DL.onMi_mi, DL.onSm_some, DL.lk_cons, DL.lk_nil, DL.put_nil, DL.put_cons, DL.x_fld, DL.x_fldO, DL.x_sfld, DL.x_stO, DL.x_aug, DL.x_augO, DL.x_methC, DL.x_methO, DL.x_make, DL.x_del, DL.x_delO, DL.x_isB, DL.x_idxT, DL.x_gtL, DL.x_sortS, DL.x_extO, DL.x_gstM, DL.x_gstA, DL.x_gstT, DL.x_frz, DL.x_frzO, DL.del_put, DL.x_lenO, DL.x_lenOD, DL.x_methN, DL.x_methK, DL.x_gFld, DL.x_asg3, DL.x_intS, DL.x_intAb, DL.x_intAi, DL.x_getO1, DL.x_sortA, DL.x_sortB, DL.x_sortBT, DL.x_listVals, DL.x_callM, DL.x_callL, DL.x_lam, DL.gSel, DL.capsOf, DL.onCp_some, DL.x_kval, DL.isStrD, DL.strIs, Option.map_some, List.all_cons, List.all_nil, List.any_cons, List.any_nil, DL.x_sortTD, DL.x_makeM, DL.x_methL, DL.gKm, DL.x_ifT, DL.x_lenSet, DL.lenB_d, DL.x_extT, DL.x_sortSet, DL.x_updD, DL.x_tupIt, DL.x_tupItO, DL.x_mkV, DL.x_isV, DL.x_isVe, DL.x_fldV, DL.x_fldVe, DL.x_lzip, put_S]
    repeat (refine ⟨(by walk_at "side"), ?_⟩)
    exact fin _ _ [] _ (by rw [put_put, put_same]; rfl) (dx _ _ w0).1 (dx _ _ w0).2 (by omega) (by omega) (Nat.zero_le _) (by rw [put_put, put_ne ne]; exact hc) (fun b b1 b2 => by rw [put_put, put_ne b1])
  | cons n r =>
    have hl' : r.length ≤ 62 := by simpa using hl
    simp only [reduceCtorEq, decide_false, DL.x_bnd, DL.x_ret, DL.x_req, DL.x_get, DL.x_opt, DL.x_seq, DL.x_on, DL.x_or, DL.x_ob, DL.x_oc, DL.x_nil, DL.x_rt, DL.x_rtN, DL.x_drop, DL.x_break, DL.x_cont, DL.x_if, DL.x_ift, DL.x_iff, DL.x_set, DL.x_asg, DL.x_par2, DL.x_par3, DL.x_for, DL.x_v0, DL.x_vS, DL.x_c, DL.x_bin, DL.x_un, DL.x_tbin, DL.x_tru, DL.x_trb, DL.x_not, DL.x_tand, DL.x_tor, DL.x_and, DL.x_orE, DL.x_notE, DL.x_ifE, DL.x_tup, DL.x_lst, DL.x_lstM, DL.x_anil, DL.x_acons, DL.x_call, DL.x_callD, DL.x_callK, DL.x_meth, DL.x_sl, DL.x_oN, DL.x_oS, DL.x_gn, DL.x_gt, DL.x_gc, DL.x_g0, DL.x_gi, DL.x_body, DL.x_yes, DL.x_add, DL.x_addS, DL.x_addT, DL.x_addL, DL.x_sub, DL.x_mul, DL.x_div, DL.x_mod, DL.x_pow, DL.x_neg, DL.x_cmp, DL.x_cmpS, DL.x_isN, DL.x_mmL, DL.x_mm2, DL.x_eqS, DL.x_eqI, DL.x_intb, DL.onB_bl, DL.onI_int, DL.onO_nx, DL.onO_rt, DL.onL_ml, DL.addD_ol, DL.isNon_non, DL.isNon_int, DL.isNon_str, DL.isNon_tup, DL.ix_tup, DL.ix_lst, DL.ix_str, DL.ix_obj, DL.atI_0, DL.atI_1, DL.atI_2, DL.atI_3, DL.len_tup, DL.len_lst, DL.len_str, DL.len_obj, DL.ty_obj, DL.ty_str, DL.ty_lst, DL.append_obj, DL.pop_obj, DL.set_obj, DL.ixN_3_2, DL.tuple_obj, DL.tuple_lst, DL.list_tup, DL.list_lst, DL.sl_str, DL.sl_tup, DL.sl_lst, DL.rev_tup, DL.revM_lst, DL.sum_lst, DL.put_same, DL.startD, DL.pick, List.map_cons, List.map_nil, List.replicate, List.cons_append, List.nil_append, List.append_nil, List.length_cons, List.length_nil, List.getElem?_cons_zero, List.getElem?_cons_succ, List.set_cons_zero, List.set_cons_succ, List.filterMap_cons, List.filterMap_nil, Nat.zero_add, Nat.add_zero, Nat.reduceAdd, Nat.reduceSub, true_and, and_true, id_eq, if_true, if_false, Bool.false_eq_true, Bool.not_true, Bool.not_false, DL.x_idx, DL.rev_obj, DL.wipeD, DL.x_addM, DL.x_addMl, DL.x_isi, DL.ty_nonM, DL.ty_blM, DL.ty_intM, DL.ty_strM, DL.ty_tupM, DL.ty_lstM, DL.ty_dctM, DL.kb_non_str, DL.kb_non_int, DL.kb_non_bool, DL.kb_non_tuple, DL.kb_non_list, DL.kb_non_dict, DL.kb_bl_str, DL.kb_bl_int, DL.kb_bl_bool, DL.kb_bl_tuple, DL.kb_bl_list, DL.kb_bl_dict, DL.kb_int_str, DL.kb_int_int, DL.kb_int_bool, DL.kb_int_tuple, DL.kb_int_list, DL.kb_int_dict, DL.kb_str_str, DL.kb_str_int, DL.kb_str_bool, DL.kb_str_tuple, DL.kb_str_list, DL.kb_str_dict, DL.kb_tup_str, DL.kb_tup_int, DL.kb_tup_bool, DL.kb_tup_tuple, DL.kb_tup_list, DL.kb_tup_dict, DL.kb_lst_str, DL.kb_lst_int, DL.kb_lst_bool, DL.kb_lst_tuple, DL.kb_lst_list, DL.kb_lst_dict, DL.kb_dct_str, DL.kb_dct_int, DL.kb_dct_bool, DL.kb_dct_tuple, DL.kb_dct_list, DL.kb_dct_dict, DL.isNon_bl, DL.isNon_lst, DL.isNon_dct, DL.x_tOf, DL.x_tOfE, DL.x_chain, DL.x_kix, DL.x_kin, DL.x_kgt, DL.x_allL, DL.x_anyL, DL.x_istr, DL.x_dgetO, DL.x_dgetS, DL.x_dgetI, DL.x_gdix, DL.x_dset, DL.x_popAt, DL.x_insert, DL.ty_dct, DL.x_getS1, DL.x_getI1, DL.x_getS2, DL.x_getI2, DL.x_pnil, DL.x_pcons, DL.x_disM, DL.x_dis0M, DL.x_listM, DL.x_listMT, DL.x_gst, DL.x_mulS, DL.x_mulL, DL.x_dict, DL.onM_md, DL.onS_str, DL.kfind_nil, DL.kfind_cons, DL.lit_beq, DL.x_iseq, DL.onIt_lst, DL.onIt_tup, DL.sl_obj, DL.x_rg1, DL.valD_nil, DL.valD_cons, DL.key_rr, DL.key_ll, DL.key_lr, DL.key_rl, String.reduceBEq, Option.isSome_some, Option.isSome_none, Option.getD_some, Option.getD_none, Bool.true_and, Bool.and_true, Bool.false_and, Bool.and_false, Bool.or_false, Bool.false_or, Bool.or_true, Bool.true_or, beq_self_eq_true, DL.x_addBb, DL.x_addBib, DL.x_addBi, DL.x_addBs, DL.x_addBt, DL.x_addBl, DL.x_subBb, DL.x_subBib, DL.x_subBi, DL.x_mulBb, DL.x_mulBi, DL.x_strI, DL.x_strS, DL.x_strB, DL.x_up, DL.x_eqT, DL.x_eqL, DL.x_inDS, DL.x_inDI, DL.dec_cons, DL.x_nox, DL.x_raise0, DL.x_raise1, DL.x_try, DL.x_isX, DL.x_xf, DL.onMi_mi, DL.onSm_some, DL.lk_cons, DL.lk_nil, DL.put_nil, DL.put_cons, DL.x_fld, DL.x_fldO, DL.x_sfld, DL.x_stO, DL.x_aug, DL.x_augO, DL.x_methC, DL.x_methO, DL.x_make, DL.x_del, DL.x_delO, DL.x_isB, DL.x_idxT, DL.x_gtL, DL.x_sortS, DL.x_extO, DL.x_gstM, DL.x_gstA, DL.x_gstT, DL.x_frz, DL.x_frzO, DL.del_put, DL.x_lenO, DL.x_lenOD, DL.x_methN, DL.x_methK, DL.x_gFld, DL.x_asg3, DL.x_intS, DL.x_intAb, DL.x_intAi, DL.x_getO1, DL.x_sortA, DL.x_sortB, DL.x_sortBT, DL.x_listVals, DL.x_callM, DL.x_callL, DL.x_lam, DL.gSel, DL.capsOf, DL.onCp_some, DL.x_kval, DL.isStrD, DL.strIs, Option.map_some, List.all_cons, List.all_nil, List.any_cons, List.any_nil, DL.x_sortTD, DL.x_makeM, DL.x_methL, DL.gKm, DL.x_ifT, DL.x_lenSet, DL.lenB_d, DL.x_extT, DL.x_sortSet, DL.x_updD, DL.x_tupIt, DL.x_tupItO, DL.x_mkV, DL.x_isV, DL.x_isVe, DL.x_fldV, DL.x_fldVe, DL.x_lzip, put_ne ne, hc, pop_0, List.eraseIdx_cons_zero]
    repeat (refine ⟨(by walk_at "side"), ?_⟩)
    by_cases hb : (10 : Int) ^ Int.toNat 18 ≤ n
    · simp only [hb, decide_true, DL.x_bnd, DL.x_ret, DL.x_req, DL.x_get, DL.x_opt, DL.x_seq, DL.x_on, DL.x_or, DL.x_ob, DL.x_oc, DL.x_nil, DL.x_rt, DL.x_rtN, DL.x_drop, DL.x_break, DL.x_cont, DL.x_if, DL.x_ift, DL.x_iff, DL.x_set, DL.x_asg, DL.x_par2, DL.x_par3, DL.x_for, DL.x_v0, DL.x_vS, DL.x_c, DL.x_bin, DL.x_un, DL.x_tbin, DL.x_tru, DL.x_trb, DL.x_not, DL.x_tand, DL.x_tor, DL.x_and, DL.x_orE, DL.x_notE, DL.x_ifE, DL.x_tup, DL.x_lst, DL.x_lstM, DL.x_anil, DL.x_acons, DL.x_call, DL.x_callD, DL.x_callK, DL.x_meth, DL.x_sl, DL.x_oN, DL.x_oS, DL.x_gn, DL.x_gt, DL.x_gc, DL.x_g0, DL.x_gi, DL.x_body, DL.x_yes, DL.x_add, DL.x_addS, DL.x_addT, DL.x_addL, DL.x_sub, DL.x_mul, DL.x_div, DL.x_mod, DL.x_pow, DL.x_neg, DL.x_cmp, DL.x_cmpS, DL.x_isN, DL.x_mmL, DL.x_mm2, DL.x_eqS, DL.x_eqI, DL.x_intb, DL.onB_bl, DL.onI_int, DL.onO_nx, DL.onO_rt, DL.onL_ml, DL.addD_ol, DL.isNon_non, DL.isNon_int, DL.isNon_str, DL.isNon_tup, DL.ix_tup, DL.ix_lst, DL.ix_str, DL.ix_obj, DL.atI_0, DL.atI_1, DL.atI_2, DL.atI_3, DL.len_tup, DL.len_lst, DL.len_str, DL.len_obj, DL.ty_obj, DL.ty_str, DL.ty_lst, DL.append_obj, DL.pop_obj, DL.set_obj, DL.ixN_3_2, DL.tuple_obj, DL.tuple_lst, DL.list_tup, DL.list_lst, DL.sl_str, DL.sl_tup, DL.sl_lst, DL.rev_tup, DL.revM_lst, DL.sum_lst, DL.put_same, DL.startD, DL.pick, List.map_cons, List.map_nil, List.replicate, List.cons_append, List.nil_append, List.append_nil, List.length_cons, List.length_nil, List.getElem?_cons_zero, List.getElem?_cons_succ, List.set_cons_zero, List.set_cons_succ, List.filterMap_cons, List.filterMap_nil, Nat.zero_add, Nat.add_zero, Nat.reduceAdd, Nat.reduceSub, true_and, and_true, id_eq, if_true, if_false, Bool.false_eq_true, Bool.not_true, Bool.not_false, DL.x_idx, DL.rev_obj, DL.wipeD, DL.x_addM, DL.x_addMl, DL.x_isi, DL.ty_nonM, DL.ty_blM, DL.ty_intM, DL.ty_strM, DL.ty_tupM, DL.ty_lstM, DL.ty_dctM, DL.kb_non_str, DL.kb_non_int, DL.kb_non_bool, DL.kb_non_tuple, DL.kb_non_list, DL.kb_non_dict, DL.kb_bl_str, DL.kb_bl_int, DL.kb_bl_bool, DL.kb_bl_tuple, DL.kb_bl_list, DL.kb_bl_dict, DL.kb_int_str, DL.kb_int_int, DL.kb_int_bool, DL.kb_int_tuple, DL.kb_int_list, DL.kb_int_dict, DL.kb_str_str, DL.kb_str_int, DL.kb_str_bool, DL.kb_str_tuple, DL.kb_str_list, DL.kb_str_dict, DL.kb_tup_str, DL.kb_tup_int, DL.kb_tup_bool, DL.kb_tup_tuple, DL.kb_tup_list, DL.kb_tup_dict, DL.kb_lst_str, DL.kb_lst_int, DL.kb_lst_bool, DL.kb_lst_tuple, DL.kb_lst_list, DL.kb_lst_dict, DL.kb_dct_str, DL.kb_dct_int, DL.kb_dct_bool, DL.kb_dct_tuple, DL.kb_dct_list, DL.kb_dct_dict, DL.isNon_bl, DL.isNon_lst, DL.isNon_dct, DL.x_tOf, DL.x_tOfE, DL.x_chain, DL.x_kix, DL.x_kin, DL.x_kgt, DL.x_allL, DL.x_anyL, DL.x_istr, DL.x_dgetO, DL.x_dgetS, DL.x_dgetI, DL.x_gdix, DL.x_dset, DL.x_popAt, DL.x_insert, DL.ty_dct, DL.x_getS1, DL.x_getI1, DL.x_getS2, DL.x_getI2, DL.x_pnil, DL.x_pcons, DL.x_disM, DL.x_dis0M, DL.x_listM, DL.x_listMT, DL.x_gst, DL.x_mulS, DL.x_mulL, DL.x_dict, DL.onM_md, DL.onS_str, DL.kfind_nil, DL.kfind_cons, DL.lit_beq, DL.x_iseq, DL.onIt_lst, DL.onIt_tup, DL.sl_obj, DL.x_rg1, DL.valD_nil, DL.valD_cons, DL.key_rr, DL.key_ll, DL.key_lr, DL.key_rl, String.reduceBEq, Option.isSome_some, Option.isSome_none, Option.getD_some, Option.getD_none, Bool.true_and, Bool.and_true, Bool.false_and, Bool.and_false, Bool.or_false, Bool.false_or, Bool.or_true, Bool.true_or, beq_self_eq_true, DL.x_addBb, DL.x_addBib, DL.x_addBi, DL.x_addBs, DL.x_addBt, DL.x_addBl, DL.x_subBb, DL.x_subBib, DL.x_subBi, DL.x_mulBb, DL.x_mulBi, DL.x_strI, DL.x_strS, DL.x_strB, DL.x_up, DL.x_eqT, DL.x_eqL, DL.x_inDS, DL.x_inDI, DL.dec_cons, DL.x_nox, DL.x_raise0, DL.x_raise1, DL.x_try, DL.x_isX, DL.x_xf, DL.onMi_mi, DL.onSm_some, DL.lk_cons, DL.lk_nil, DL.put_nil, DL.put_cons, DL.x_fld, DL.x_fldO, DL.x_sfld, DL.x_stO, DL.x_aug, DL.x_augO, DL.x_methC, DL.x_methO, DL.x_make, DL.x_del, DL.x_delO, DL.x_isB, DL.x_idxT, DL.x_gtL, DL.x_sortS, DL.x_extO, DL.x_gstM, DL.x_gstA, DL.x_gstT, DL.x_frz, DL.x_frzO, DL.del_put, DL.x_lenO, DL.x_lenOD, DL.x_methN, DL.x_methK, DL.x_gFld, DL.x_asg3, DL.x_intS, DL.x_intAb, DL.x_intAi, DL.x_getO1, DL.x_sortA, DL.x_sortB, DL.x_sortBT, DL.x_listVals, DL.x_callM, DL.x_callL, DL.x_lam, DL.gSel, DL.capsOf, DL.onCp_some, DL.x_kval, DL.isStrD, DL.strIs, Option.map_some, List.all_cons, List.all_nil, List.any_cons, List.any_nil, DL.x_sortTD, DL.x_makeM, DL.x_methL, DL.gKm, DL.x_ifT, DL.x_lenSet, DL.lenB_d, DL.x_extT, DL.x_sortSet, DL.x_updD, DL.x_tupIt, DL.x_tupItO, DL.x_mkV, DL.x_isV, DL.x_isVe, DL.x_fldV, DL.x_fldVe, DL.x_lzip, put_ne hac]
      repeat (refine ⟨(by walk_at "side"), ?_⟩)
      exact fin _ seed ((n / w) :: r) _ (by rw [put_ne hac, put_ne hac, put_same]; rfl) (dx _ _ w0).1 (dx _ _ w0).2 s0 s1 (by simpa using hl) (by rw [put_same]; simp) (fun b b1 b2 => by rw [put_ne b2, put_ne b2, put_ne b1])
    · simp only [hb, decide_false, DL.x_bnd, DL.x_ret, DL.x_req, DL.x_get, DL.x_opt, DL.x_seq, DL.x_on, DL.x_or, DL.x_ob, DL.x_oc, DL.x_nil, DL.x_rt, DL.x_rtN, DL.x_drop, DL.x_break, DL.x_cont, DL.x_if, DL.x_ift, DL.x_iff, DL.x_set, DL.x_asg, DL.x_par2, DL.x_par3, DL.x_for, DL.x_v0, DL.x_vS, DL.x_c, DL.x_bin, DL.x_un, DL.x_tbin, DL.x_tru, DL.x_trb, DL.x_not, DL.x_tand, DL.x_tor, DL.x_and, DL.x_orE, DL.x_notE, DL.x_ifE, DL.x_tup, DL.x_lst, DL.x_lstM, DL.x_anil, DL.x_acons, DL.x_call, DL.x_callD, DL.x_callK, DL.x_meth, DL.x_sl, DL.x_oN, DL.x_oS, DL.x_gn, DL.x_gt, DL.x_gc, DL.x_g0, DL.x_gi, DL.x_body, DL.x_yes, DL.x_add, DL.x_addS, DL.x_addT, DL.x_addL, DL.x_sub, DL.x_mul, DL.x_div, DL.x_mod, DL.x_pow, DL.x_neg, DL.x_cmp, DL.x_cmpS, DL.x_isN, DL.x_mmL, DL.x_mm2, DL.x_eqS, DL.x_eqI, DL.x_intb, DL.onB_bl, DL.onI_int, DL.onO_nx, DL.onO_rt, DL.onL_ml, DL.addD_ol, DL.isNon_non, DL.isNon_int, DL.isNon_str, DL.isNon_tup, DL.ix_tup, DL.ix_lst, DL.ix_str, DL.ix_obj, DL.atI_0, DL.atI_1, DL.atI_2, DL.atI_3, DL.len_tup, DL.len_lst, DL.len_str, DL.len_obj, DL.ty_obj, DL.ty_str, DL.ty_lst, DL.append_obj, DL.pop_obj, DL.set_obj, DL.ixN_3_2, DL.tuple_obj, DL.tuple_lst, DL.list_tup, DL.list_lst, DL.sl_str, DL.sl_tup, DL.sl_lst, DL.rev_tup, DL.revM_lst, DL.sum_lst, DL.put_same, DL.startD, DL.pick, List.map_cons, List.map_nil, List.replicate, List.cons_append, List.nil_append, List.append_nil, List.length_cons, List.length_nil, List.getElem?_cons_zero, List.getElem?_cons_succ, List.set_cons_zero, List.set_cons_succ, List.filterMap_cons, List.filterMap_nil, Nat.zero_add, Nat.add_zero, Nat.reduceAdd, Nat.reduceSub, true_and, and_true, id_eq, if_true, if_false, Bool.false_eq_true, Bool.not_true, Bool.not_false, DL.x_idx, DL.rev_obj, DL.wipeD, DL.x_addM, DL.x_addMl, DL.x_isi, DL.ty_nonM, DL.ty_blM, DL.ty_intM, DL.ty_strM, DL.ty_tupM, DL.ty_lstM, DL.ty_dctM, DL.kb_non_str, DL.kb_non_int, DL.kb_non_bool, DL.kb_non_tuple, DL.kb_non_list, DL.kb_non_dict, DL.kb_bl_str, DL.kb_bl_int, DL.kb_bl_bool, DL.kb_bl_tuple, DL.kb_bl_list, DL.kb_bl_dict, DL.kb_int_str, DL.kb_int_int, DL.kb_int_bool, DL.kb_int_tuple, DL.kb_int_list, DL.kb_int_dict, DL.kb_str_str, DL.kb_str_int, DL.kb_str_bool, DL.kb_str_tuple, DL.kb_str_list, DL.kb_str_dict, DL.kb_tup_str, DL.kb_tup_int, DL.kb_tup_bool, DL.kb_tup_tuple, DL.kb_tup_list, DL.kb_tup_dict, DL.kb_lst_str, DL.kb_lst_int, DL.kb_lst_bool, DL.kb_lst_tuple, DL.kb_lst_list, DL.kb_lst_dict, DL.kb_dct_str, DL.kb_dct_int, DL.kb_dct_bool, DL.kb_dct_tuple, DL.kb_dct_list, DL.kb_dct_dict, DL.isNon_bl, DL.isNon_lst, DL.isNon_dct, DL.x_tOf, DL.x_tOfE, DL.x_chain, DL.x_kix, DL.x_kin, DL.x_kgt, DL.x_allL, DL.x_anyL, DL.x_istr, DL.x_dgetO, DL.x_dgetS, DL.x_dgetI, DL.x_gdix, DL.x_dset, DL.x_popAt, DL.x_insert, DL.ty_dct, DL.x_getS1, DL.x_getI1, DL.x_getS2, DL.x_getI2, DL.x_pnil, DL.x_pcons, DL.x_disM, DL.x_dis0M, DL.x_listM, DL.x_listMT, DL.x_gst, DL.x_mulS, DL.x_mulL, DL.x_dict, DL.onM_md, DL.onS_str, DL.kfind_nil, DL.kfind_cons, DL.lit_beq, DL.x_iseq, DL.onIt_lst, DL.onIt_tup, DL.sl_obj, DL.x_rg1, DL.valD_nil, DL.valD_cons, DL.key_rr, DL.key_ll, DL.key_lr, DL.key_rl, String.reduceBEq, Option.isSome_some, Option.isSome_none, Option.getD_some, Option.getD_none, Bool.true_and, Bool.and_true, Bool.false_and, Bool.and_false, Bool.or_false, Bool.false_or, Bool.or_true, Bool.true_or, beq_self_eq_true, DL.x_addBb, DL.x_addBib, DL.x_addBi, DL.x_addBs, DL.x_addBt, DL.x_addBl, DL.x_subBb, DL.x_subBib, DL.x_subBi, DL.x_mulBb, DL.x_mulBi, DL.x_strI, DL.x_strS, DL.x_strB, DL.x_up, DL.x_eqT, DL.x_eqL, DL.x_inDS, DL.x_inDI, DL.dec_cons, DL.x_nox, DL.x_raise0, DL.x_raise1, DL.x_try, DL.x_isX, DL.x_xf, DL.onMi_mi, DL.onSm_some, DL.lk_cons, DL.lk_nil, DL.put_nil, DL.put_cons, DL.x_fld, DL.x_fldO, DL.x_sfld, DL.x_stO, DL.x_aug, DL.x_augO, DL.x_methC, DL.x_methO, DL.x_make, DL.x_del, DL.x_delO, DL.x_isB, DL.x_idxT, DL.x_gtL, DL.x_sortS, DL.x_extO, DL.x_gstM, DL.x_gstA, DL.x_gstT, DL.x_frz, DL.x_frzO, DL.del_put, DL.x_lenO, DL.x_lenOD, DL.x_methN, DL.x_methK, DL.x_gFld, DL.x_asg3, DL.x_intS, DL.x_intAb, DL.x_intAi, DL.x_getO1, DL.x_sortA, DL.x_sortB, DL.x_sortBT, DL.x_listVals, DL.x_callM, DL.x_callL, DL.x_lam, DL.gSel, DL.capsOf, DL.onCp_some, DL.x_kval, DL.isStrD, DL.strIs, Option.map_some, List.all_cons, List.all_nil, List.any_cons, List.any_nil, DL.x_sortTD, DL.x_makeM, DL.x_methL, DL.gKm, DL.x_ifT, DL.x_lenSet, DL.lenB_d, DL.x_extT, DL.x_sortSet, DL.x_updD, DL.x_tupIt, DL.x_tupItO, DL.x_mkV, DL.x_isV, DL.x_isVe, DL.x_fldV, DL.x_fldVe, DL.x_lzip, put_ne hac, put_S]
      repeat (refine ⟨(by walk_at "side"), ?_⟩)
      exact fin _ _ r _ (by rw [put_same]; rfl) (dx _ _ w0).1 (dx _ _ w0).2 (by omega) (by omega) (by omega) (by rw [put_ne ne, put_same]) (fun b b1 b2 => by rw [put_ne b1, put_ne b2, put_ne b1])

theorem merge3 (x y z : D) : mergeD [] [(kC, x), (kT, y), (kS, z)] = [(kC, x), (kT, y), (kS, z)] := by
  have h1 : kC ≠ kT := by decide +kernel
  have h2 : kC ≠ kS := by decide +kernel
  have h3 : kT ≠ kS := by decide +kernel
  simp [mergeD, putD, h1, h2, h3]
theorem deck_w {ns : List Int} {μ : Mem} {Q : D → Mem → Prop} {E : XD} (hl : ns.length ≤ 63) (hμ : ∀ b, μ b = none)
    (q : ∀ a c μ', Dk shD μ' a c 0 → Q (.obj a) μ') : m__law_deck [.lst (ns.map .int)] μ Q E := by
  have hc : DL.cutD (ns.map D.int) none (some 63) = ns.map D.int := cut_all (by rw [List.length_map]; omega)
  simp only [m__law_deck, b__law_deck, DL.x_bnd, DL.x_ret, DL.x_req, DL.x_get, DL.x_opt, DL.x_seq, DL.x_on, DL.x_or, DL.x_ob, DL.x_oc, DL.x_nil, DL.x_rt, DL.x_rtN, DL.x_drop, DL.x_break, DL.x_cont, DL.x_if, DL.x_ift, DL.x_iff, DL.x_set, DL.x_asg, DL.x_par2, DL.x_par3, DL.x_for, DL.x_v0, DL.x_vS, DL.x_c, DL.x_bin, DL.x_un, DL.x_tbin, DL.x_tru, DL.x_trb, DL.x_not, DL.x_tand, DL.x_tor, DL.x_and, DL.x_orE, DL.x_notE, DL.x_ifE, DL.x_tup, DL.x_lst, DL.x_lstM, DL.x_anil, DL.x_acons, DL.x_call, DL.x_callD, DL.x_callK, DL.x_meth, DL.x_sl, DL.x_oN, DL.x_oS, DL.x_gn, DL.x_gt, DL.x_gc, DL.x_g0, DL.x_gi, DL.x_body, DL.x_yes, DL.x_add, DL.x_addS, DL.x_addT, DL.x_addL, DL.x_sub, DL.x_mul, DL.x_div, DL.x_mod, DL.x_pow, DL.x_neg, DL.x_cmp, DL.x_cmpS, DL.x_isN, DL.x_mmL, DL.x_mm2, DL.x_eqS, DL.x_eqI, DL.x_intb, DL.onB_bl, DL.onI_int, DL.onO_nx, DL.onO_rt, DL.onL_ml, DL.addD_ol, DL.isNon_non, DL.isNon_int, DL.isNon_str, DL.isNon_tup, DL.ix_tup, DL.ix_lst, DL.ix_str, DL.ix_obj, DL.atI_0, DL.atI_1, DL.atI_2, DL.atI_3, DL.len_tup, DL.len_lst, DL.len_str, DL.len_obj, DL.ty_obj, DL.ty_str, DL.ty_lst, DL.append_obj, DL.pop_obj, DL.set_obj, DL.ixN_3_2, DL.tuple_obj, DL.tuple_lst, DL.list_tup, DL.list_lst, DL.sl_str, DL.sl_tup, DL.sl_lst, DL.rev_tup, DL.revM_lst, DL.sum_lst, DL.put_same, DL.startD, DL.pick, List.map_cons, List.map_nil, List.replicate, List.cons_append, List.nil_append, List.append_nil, List.length_cons, List.length_nil, List.getElem?_cons_zero, List.getElem?_cons_succ, List.set_cons_zero, List.set_cons_succ, List.filterMap_cons, List.filterMap_nil, Nat.zero_add, Nat.add_zero, Nat.reduceAdd, Nat.reduceSub, true_and, and_true, id_eq, if_true, if_false, Bool.false_eq_true, Bool.not_true, Bool.not_false, DL.x_idx, DL.rev_obj, DL.wipeD, DL.x_addM, DL.x_addMl, DL.x_isi, DL.ty_nonM, DL.ty_blM, DL.ty_intM, DL.ty_strM, DL.ty_tupM, DL.ty_lstM, DL.ty_dctM, DL.kb_non_str, DL.kb_non_int, DL.kb_non_bool, DL.kb_non_tuple, DL.kb_non_list, DL.kb_non_dict, DL.kb_bl_str, DL.kb_bl_int, DL.kb_bl_bool, DL.kb_bl_tuple, DL.kb_bl_list, DL.kb_bl_dict, DL.kb_int_str, DL.kb_int_int, DL.kb_int_bool, DL.kb_int_tuple, DL.kb_int_list, DL.kb_int_dict, DL.kb_str_str, DL.kb_str_int, DL.kb_str_bool, DL.kb_str_tuple, DL.kb_str_list, DL.kb_str_dict, DL.kb_tup_str, DL.kb_tup_int, DL.kb_tup_bool, DL.kb_tup_tuple, DL.kb_tup_list, DL.kb_tup_dict, DL.kb_lst_str, DL.kb_lst_int, DL.kb_lst_bool, DL.kb_lst_tuple, DL.kb_lst_list, DL.kb_lst_dict, DL.kb_dct_str, DL.kb_dct_int, DL.kb_dct_bool, DL.kb_dct_tuple, DL.kb_dct_list, DL.kb_dct_dict, DL.isNon_bl, DL.isNon_lst, DL.isNon_dct, DL.x_tOf, DL.x_tOfE, DL.x_chain, DL.x_kix, DL.x_kin, DL.x_kgt, DL.x_allL, DL.x_anyL, DL.x_istr, DL.x_dgetO, DL.x_dgetS, DL.x_dgetI, DL.x_gdix, DL.x_dset, DL.x_popAt, DL.x_insert, DL.ty_dct, DL.x_getS1, DL.x_getI1, DL.x_getS2, DL.x_getI2, DL.x_pnil, DL.x_pcons, DL.x_disM, DL.x_dis0M, DL.x_listM, DL.x_listMT, DL.x_gst, DL.x_mulS, DL.x_mulL, DL.x_dict, DL.onM_md, DL.onS_str, DL.kfind_nil, DL.kfind_cons, DL.lit_beq, DL.x_iseq, DL.onIt_lst, DL.onIt_tup, DL.sl_obj, DL.x_rg1, DL.valD_nil, DL.valD_cons, DL.key_rr, DL.key_ll, DL.key_lr, DL.key_rl, String.reduceBEq, Option.isSome_some, Option.isSome_none, Option.getD_some, Option.getD_none, Bool.true_and, Bool.and_true, Bool.false_and, Bool.and_false, Bool.or_false, Bool.false_or, Bool.or_true, Bool.true_or, beq_self_eq_true, DL.x_addBb, DL.x_addBib, DL.x_addBi, DL.x_addBs, DL.x_addBt, DL.x_addBl, DL.x_subBb, DL.x_subBib, DL.x_subBi, DL.x_mulBb, DL.x_mulBi, DL.x_strI, DL.x_strS, DL.x_strB, DL.x_up, DL.x_eqT, DL.x_eqL, DL.x_inDS, DL.x_inDI, DL.dec_cons, DL.x_nox, DL.x_raise0, DL.x_raise1, DL.x_try, DL.x_isX, DL.x_xf, DL.onMi_mi, DL.onSm_some, DL.lk_cons, DL.lk_nil, DL.put_nil, DL.put_cons, DL.x_fld, DL.x_fldO, DL.x_sfld, DL.x_stO, DL.x_aug, DL.x_augO, DL.x_methC, DL.x_methO, DL.x_make, DL.x_del, DL.x_delO, DL.x_isB, DL.x_idxT, DL.x_gtL, DL.x_sortS, DL.x_extO, DL.x_gstM, DL.x_gstA, DL.x_gstT, DL.x_frz, DL.x_frzO, DL.del_put, DL.x_lenO, DL.x_lenOD, DL.x_methN, DL.x_methK, DL.x_gFld, DL.x_asg3, DL.x_intS, DL.x_intAb, DL.x_intAi, DL.x_getO1, DL.x_sortA, DL.x_sortB, DL.x_sortBT, DL.x_listVals, DL.x_callM, DL.x_callL, DL.x_lam, DL.gSel, DL.capsOf, DL.onCp_some, DL.x_kval, DL.isStrD, DL.strIs, Option.map_some, List.all_cons, List.all_nil, List.any_cons, List.any_nil, DL.x_sortTD, DL.x_makeM, DL.x_methL, DL.gKm, DL.x_ifT, DL.x_lenSet, DL.lenB_d, DL.x_extT, DL.x_sortSet, DL.x_updD, DL.x_tupIt, DL.x_tupItO, DL.x_mkV, DL.x_isV, DL.x_isVe, DL.x_fldV, DL.x_fldVe, DL.x_lzip, hc, List.length_map]
  intro a ha c hca
  repeat (refine ⟨(by walk_at "side"), ?_⟩)
  obtain ⟨h1, h2⟩ := put_none hca
  refine ⟨by rw [put_ne (Ne.symm h1), put_same], [(kC, .obj c), (kT, .int 0), (kS, .int _)], rfl, (show (3 : Nat) ≤ 15 by decide), ?_⟩
  rw [merge3]
  exact q a c _ ⟨h1, ⟨_, 0, put_same, by omega, by omega, Int.emod_nonneg _ (by decide), by have := Int.emod_lt_of_pos (ns.sum + 104729 * (ns.length : Int)) (show (0 : Int) < 2147483549 by decide); omega⟩, ns, by rw [put_ne h1, put_same], hl⟩
end Lk01

namespace Lk01
open PySem PySem.Spec PyProof.Rows L2 DL
variable [CA]

theorem sgs_abcd : sgs (PySem.Str.ofString "abcd") = [⟨#[97]⟩, ⟨#[98]⟩, ⟨#[99]⟩, ⟨#[100]⟩] := by decide +kernel
theorem sx0 {d : D} {k' : Nat} (h : d ∈ ([.non, .bl true, .bl false, .int (0 - 1), .int (10 ^ 39), .str (PySem.Str.ofString ""), .str (PySem.Str.ofString "ab z"), .int (7 + k')] : List D)) (hk : k' < 1000) : Sx 0 2000 d := by
  simp only [List.mem_cons, List.not_mem_nil, or_false] at h
  rcases h with rfl | rfl | rfl | rfl | rfl | rfl | rfl | rfl
  · exact Sx.non.mono (Nat.le_refl _) (by decide)
  · exact Sx.bl.mono (Nat.le_refl _) (by decide)
  · exact Sx.bl.mono (Nat.le_refl _) (by decide)
  · exact (Sx.int (by decide +kernel)).mono (Nat.le_refl _) (by decide)
  · exact (Sx.int (by decide +kernel)).mono (Nat.le_refl _) (by decide)
  · exact (Sx.str (n := 0) (by decide +kernel) (by decide +kernel)).mono (Nat.le_refl _) (by decide)
  · exact (Sx.str (n := 4) (by decide +kernel) (by decide +kernel)).mono (Nat.le_refl _) (by decide)
  · refine (Sx.int ?_).mono (Nat.le_refl _) (by decide)
    have e : ((7 : Int) + (k' : Int)).natAbs = 7 + k' := by omega
    rw [e]
    exact (Nat.log2_lt (by omega)).mpr (Nat.lt_of_lt_of_le (show 7 + k' < 2 ^ 12 by omega) (Nat.pow_le_pow_right (by decide) (by decide)))
theorem any0_g {a c : Addr} : Gen shD a c 2 (mm__law_any 1 [.obj a, .int 0]) (Sx 0 2000) := by
  intro μ0 μ t Q E h ht q
  simp only [mm__law_any, b__law_any, DL.x_bnd, DL.x_ret, DL.x_req, DL.x_get, DL.x_opt, DL.x_seq, DL.x_on, DL.x_or, DL.x_ob, DL.x_oc, DL.x_nil, DL.x_rt, DL.x_rtN, DL.x_drop, DL.x_break, DL.x_cont, DL.x_if, DL.x_ift, DL.x_iff, DL.x_set, DL.x_asg, DL.x_par2, DL.x_par3, DL.x_for, DL.x_v0, DL.x_vS, DL.x_c, DL.x_bin, DL.x_un, DL.x_tbin, DL.x_tru, DL.x_trb, DL.x_not, DL.x_tand, DL.x_tor, DL.x_and, DL.x_orE, DL.x_notE, DL.x_ifE, DL.x_tup, DL.x_lst, DL.x_lstM, DL.x_anil, DL.x_acons, DL.x_call, DL.x_callD, DL.x_callK, DL.x_meth, DL.x_sl, DL.x_oN, DL.x_oS, DL.x_gn, DL.x_gt, DL.x_gc, DL.x_g0, DL.x_gi, DL.x_body, DL.x_yes, DL.x_add, DL.x_addS, DL.x_addT, DL.x_addL, DL.x_sub, DL.x_mul, DL.x_div, DL.x_mod, DL.x_pow, DL.x_neg, DL.x_cmp, DL.x_cmpS, DL.x_isN, DL.x_mmL, DL.x_mm2, DL.x_eqS, DL.x_eqI, DL.x_intb, DL.onB_bl, DL.onI_int, DL.onO_nx, DL.onO_rt, DL.onL_ml, DL.addD_ol, DL.isNon_non, DL.isNon_int, DL.isNon_str, DL.isNon_tup, DL.ix_tup, DL.ix_lst, DL.ix_str, DL.ix_obj, DL.atI_0, DL.atI_1, DL.atI_2, DL.atI_3, DL.len_tup, DL.len_lst, DL.len_str, DL.len_obj, DL.ty_obj, DL.ty_str, DL.ty_lst, DL.append_obj, DL.pop_obj, DL.set_obj, DL.ixN_3_2, DL.tuple_obj, DL.tuple_lst, DL.list_tup, DL.list_lst, DL.sl_str, DL.sl_tup, DL.sl_lst, DL.rev_tup, DL.revM_lst, DL.sum_lst, DL.put_same, DL.startD, DL.pick, List.map_cons, List.map_nil, List.replicate, List.cons_append, List.nil_append, List.append_nil, List.length_cons, List.length_nil, List.getElem?_cons_zero, List.getElem?_cons_succ, List.set_cons_zero, List.set_cons_succ, List.filterMap_cons, List.filterMap_nil, Nat.zero_add, Nat.add_zero, Nat.reduceAdd, Nat.reduceSub, true_and, and_true, id_eq, if_true, if_false, Bool.false_eq_true, Bool.not_true, Bool.not_false, DL.x_idx, DL.rev_obj, DL.wipeD, DL.x_addM, DL.x_addMl, DL.x_isi, DL.ty_nonM, DL.ty_blM, DL.ty_intM, DL.ty_strM, DL.ty_tupM, DL.ty_lstM, DL.ty_dctM, DL.kb_non_str, DL.kb_non_int, DL.kb_non_bool, DL.kb_non_tuple, DL.kb_non_list, DL.kb_non_dict, DL.kb_bl_str, DL.kb_bl_int, DL.kb_bl_bool, DL.kb_bl_tuple, DL.kb_bl_list, DL.kb_bl_dict, DL.kb_int_str, DL.kb_int_int, DL.kb_int_bool, DL.kb_int_tuple, DL.kb_int_list, DL.kb_int_dict, DL.kb_str_str, DL.kb_str_int, DL.kb_str_bool, DL.kb_str_tuple, DL.kb_str_list, DL.kb_str_dict, DL.kb_tup_str, DL.kb_tup_int, DL.kb_tup_bool, DL.kb_tup_tuple, DL.kb_tup_list, DL.kb_tup_dict, DL.kb_lst_str, DL.kb_lst_int, DL.kb_lst_bool, DL.kb_lst_tuple, DL.kb_lst_list, DL.kb_lst_dict, DL.kb_dct_str, DL.kb_dct_int, DL.kb_dct_bool, DL.kb_dct_tuple, DL.kb_dct_list, DL.kb_dct_dict, DL.isNon_bl, DL.isNon_lst, DL.isNon_dct, DL.x_tOf, DL.x_tOfE, DL.x_chain, DL.x_kix, DL.x_kin, DL.x_kgt, DL.x_allL, DL.x_anyL, DL.x_istr, DL.x_dgetO, DL.x_dgetS, DL.x_dgetI, DL.x_gdix, DL.x_dset, DL.x_popAt, DL.x_insert, DL.ty_dct, DL.x_getS1, DL.x_getI1, DL.x_getS2, DL.x_getI2, DL.x_pnil, DL.x_pcons, DL.x_disM, DL.x_dis0M, DL.x_listM, DL.x_listMT, DL.x_gst, DL.x_mulS, DL.x_mulL, DL.x_dict, DL.onM_md, DL.onS_str, DL.kfind_nil, DL.kfind_cons, DL.lit_beq, DL.x_iseq, DL.onIt_lst, DL.onIt_tup, DL.sl_obj, DL.x_rg1, DL.valD_nil, DL.valD_cons, DL.key_rr, DL.key_ll, DL.key_lr, DL.key_rl, String.reduceBEq, Option.isSome_some, Option.isSome_none, Option.getD_some, Option.getD_none, Bool.true_and, Bool.and_true, Bool.false_and, Bool.and_false, Bool.or_false, Bool.false_or, Bool.or_true, Bool.true_or, beq_self_eq_true, DL.x_addBb, DL.x_addBib, DL.x_addBi, DL.x_addBs, DL.x_addBt, DL.x_addBl, DL.x_subBb, DL.x_subBib, DL.x_subBi, DL.x_mulBb, DL.x_mulBi, DL.x_strI, DL.x_strS, DL.x_strB, DL.x_up, DL.x_eqT, DL.x_eqL, DL.x_inDS, DL.x_inDI, DL.dec_cons, DL.x_nox, DL.x_raise0, DL.x_raise1, DL.x_try, DL.x_isX, DL.x_xf, DL.onMi_mi, DL.onSm_some, DL.lk_cons, DL.lk_nil, DL.put_nil, DL.put_cons, DL.x_fld, DL.x_fldO, DL.x_sfld, DL.x_stO, DL.x_aug, DL.x_augO, DL.x_methC, DL.x_methO, DL.x_make, DL.x_del, DL.x_delO, DL.x_isB, DL.x_idxT, DL.x_gtL, DL.x_sortS, DL.x_extO, DL.x_gstM, DL.x_gstA, DL.x_gstT, DL.x_frz, DL.x_frzO, DL.del_put, DL.x_lenO, DL.x_lenOD, DL.x_methN, DL.x_methK, DL.x_gFld, DL.x_asg3, DL.x_intS, DL.x_intAb, DL.x_intAi, DL.x_getO1, DL.x_sortA, DL.x_sortB, DL.x_sortBT, DL.x_listVals, DL.x_callM, DL.x_callL, DL.x_lam, DL.gSel, DL.capsOf, DL.onCp_some, DL.x_kval, DL.isStrD, DL.strIs, Option.map_some, List.all_cons, List.all_nil, List.any_cons, List.any_nil, DL.x_sortTD, DL.x_makeM, DL.x_methL, DL.gKm, DL.x_ifT, DL.x_lenSet, DL.lenB_d, DL.x_extT, DL.x_sortSet, DL.x_updD, DL.x_tupIt, DL.x_tupItO, DL.x_mkV, DL.x_isV, DL.x_isVe, DL.x_fldV, DL.x_fldVe, DL.x_lzip]
  walk_at "go"
  rw [show (if decide ((0 : Int) < 0) = true then (1 : Int) else 0) = 0 from by decide]
  walk_at "go"
  refine draw_g (by omega) (by omega) μ0 μ t _ _ h (by omega) fun d μ1 ⟨k, e, k0, k1⟩ h1 => ?_
  subst e
  walk_at "go"
  simp only [show decide (k < 8) = true from decide_eq_true k1]
  walk_at "go"
  refine draw_g (by omega) (by omega) μ0 μ1 (t + 1) _ _ h1 (by omega) fun d μ2 ⟨k', e, k0', k1'⟩ h2 => ?_
  subst e
  walk_at "go"
  refine ix_in k0 (by simpa using k1) fun d hd _ => q d μ2 ?_ (by rw [show t + 2 = t + 1 + 1 by omega]; exact h2)
  obtain ⟨m, rfl⟩ := Int.eq_ofNat_of_zero_le k0'
  exact sx0 (k' := m) hd (by omega)
/-- a dict of at most four things under a, b, c, d -/
def dzip (ds : List D) : List (Key × D) := ((sgs (PySem.Str.ofString "abcd")).zip ds).map fun p => (.inr p.1, p.2)
theorem dict_of {ds : List D} (hl : ds.length ≤ 3) {μ : Mem} {Q : D → Mem → Prop} {E : XD} (q : Q (.dct (dzip ds)) μ) : dictD [.lst (((sgs (PySem.Str.ofString "abcd")).zip ds).map fun p => D.tup [.str p.1, p.2])] μ Q E := by
  unfold dzip at q
  rw [sgs_abcd] at q ⊢
  have n1 : ((.inr (⟨#[97]⟩ : Str) : Key) = .inr ⟨#[98]⟩) = False := by simp
  have n2 : ((.inr (⟨#[97]⟩ : Str) : Key) = .inr ⟨#[99]⟩) = False := by simp
  have n3 : ((.inr (⟨#[98]⟩ : Str) : Key) = .inr ⟨#[99]⟩) = False := by simp
  match ds, hl with
  | [], _ => exact q
  | [x], _ => exact q
  | [x, y], _ =>
    show Q (.dct (mergeD [] [(.inr ⟨#[97]⟩, x), (.inr ⟨#[98]⟩, y)])) μ
    simp only [mergeD, putD, List.foldl_cons, List.foldl_nil, n1, if_false]
    exact q
  | [x, y, z], _ =>
    show Q (.dct (mergeD [] [(.inr ⟨#[97]⟩, x), (.inr ⟨#[98]⟩, y), (.inr ⟨#[99]⟩, z)])) μ
    simp only [mergeD, putD, List.foldl_cons, List.foldl_nil, n1, n2, n3, if_false]
    exact q
theorem sx_dzip {k z : Nat} {ds : List D} (hl : ds.length ≤ 3) (h : ∀ d ∈ ds, Sx k z d) : Sx (k + 1) (3 * (z + 16) + 2) (.dct (dzip ds)) := by
  have one : ∀ c : Nat, c < 1114112 → ∀ x ∈ (⟨#[c]⟩ : Str).cps.toList, x < 1114112 := fun c hc x hx => by
    have : x = c := by simpa using hx
    omega
  unfold dzip
  rw [sgs_abcd]
  match ds, hl with
  | [], _ => exact (Sx.dct SxK.nil).mono (Nat.le_refl _) (by omega)
  | [x], _ => exact (Sx.dct (SxK.consS (n := 1) (one 97 (by decide)) (Nat.le_refl _) (h x (by simp)) SxK.nil)).mono (Nat.le_refl _) (by omega)
  | [x, y], _ => exact (Sx.dct (SxK.consS (n := 1) (one 97 (by decide)) (Nat.le_refl _) (h x (by simp)) (SxK.consS (n := 1) (one 98 (by decide)) (Nat.le_refl _) (h y (by simp)) SxK.nil))).mono (Nat.le_refl _) (by omega)
  | [x, y, w], _ => exact (Sx.dct (SxK.consS (n := 1) (one 97 (by decide)) (Nat.le_refl _) (h x (by simp)) (SxK.consS (n := 1) (one 98 (by decide)) (Nat.le_refl _) (h y (by simp)) (SxK.consS (n := 1) (one 99 (by decide)) (Nat.le_refl _) (h w (by simp)) SxK.nil)))).mono (Nat.le_refl _) (by omega)
theorem sx1 {k z : Nat} {ds : List D} (hl : ds.length ≤ 3) (h : ∀ d ∈ ds, Sx k z d) {d : D} (hd : d ∈ ([.tup ds, .lst ds, .dct (dzip ds), .tup [.lst ds, .tup []]] : List D)) : Sx (k + 2) (3 * (z + 16) + 20) d := by
  have hL : SxL k (3 * (z + 2)) ds := SxL.all h hl
  simp only [List.mem_cons, List.not_mem_nil, or_false] at hd
  rcases hd with rfl | rfl | rfl | rfl
  · exact (Sx.tup hL).mono (by omega) (by omega)
  · exact (Sx.lst hL).mono (by omega) (by omega)
  · exact (sx_dzip hl h).mono (by omega) (by omega)
  · exact (Sx.tup (SxL.cons (Sx.lst hL) (SxL.cons ((Sx.tup (k := 0) SxL.nil).mono (by omega) (Nat.le_refl _)) SxL.nil))).mono (by omega) (by omega)
theorem any_step {a c : Addr} {mr : List D → W D} {deep : Int} {n : Int} {k z : Nat} (h0 : 0 < deep) (hn : 0 ≤ n) (hn2 : n ≤ 1000) (hz : 2000 ≤ z) (hr : Gen shD a c n (mr [.obj a, .int (deep - 1)]) (Sx k z)) :
    Gen shD a c (2 + 3 * n) (bodyD 5 (b__law_any mr) [.obj a, .int deep]) (Sx (k + 2) (3 * (z + 16) + 20)) := by
  intro μ0 μ t Q E h ht q
  simp only [b__law_any, DL.x_bnd, DL.x_ret, DL.x_req, DL.x_get, DL.x_opt, DL.x_seq, DL.x_on, DL.x_or, DL.x_ob, DL.x_oc, DL.x_nil, DL.x_rt, DL.x_rtN, DL.x_drop, DL.x_break, DL.x_cont, DL.x_if, DL.x_ift, DL.x_iff, DL.x_set, DL.x_asg, DL.x_par2, DL.x_par3, DL.x_for, DL.x_v0, DL.x_vS, DL.x_c, DL.x_bin, DL.x_un, DL.x_tbin, DL.x_tru, DL.x_trb, DL.x_not, DL.x_tand, DL.x_tor, DL.x_and, DL.x_orE, DL.x_notE, DL.x_ifE, DL.x_tup, DL.x_lst, DL.x_lstM, DL.x_anil, DL.x_acons, DL.x_call, DL.x_callD, DL.x_callK, DL.x_meth, DL.x_sl, DL.x_oN, DL.x_oS, DL.x_gn, DL.x_gt, DL.x_gc, DL.x_g0, DL.x_gi, DL.x_body, DL.x_yes, DL.x_add, DL.x_addS, DL.x_addT, DL.x_addL, DL.x_sub, DL.x_mul, DL.x_div, DL.x_mod, DL.x_pow, DL.x_neg, DL.x_cmp, DL.x_cmpS, DL.x_isN, DL.x_mmL, DL.x_mm2, DL.x_eqS, DL.x_eqI, DL.x_intb, DL.onB_bl, DL.onI_int, DL.onO_nx, DL.onO_rt, DL.onL_ml, DL.addD_ol, DL.isNon_non, DL.isNon_int, DL.isNon_str, DL.isNon_tup, DL.ix_tup, DL.ix_lst, DL.ix_str, DL.ix_obj, DL.atI_0, DL.atI_1, DL.atI_2, DL.atI_3, DL.len_tup, DL.len_lst, DL.len_str, DL.len_obj, DL.ty_obj, DL.ty_str, DL.ty_lst, DL.append_obj, DL.pop_obj, DL.set_obj, DL.ixN_3_2, DL.tuple_obj, DL.tuple_lst, DL.list_tup, DL.list_lst, DL.sl_str, DL.sl_tup, DL.sl_lst, DL.rev_tup, DL.revM_lst, DL.sum_lst, DL.put_same, DL.startD, DL.pick, List.map_cons, List.map_nil, List.replicate, List.cons_append, List.nil_append, List.append_nil, List.length_cons, List.length_nil, List.getElem?_cons_zero, List.getElem?_cons_succ, List.set_cons_zero, List.set_cons_succ, List.filterMap_cons, List.filterMap_nil, Nat.zero_add, Nat.add_zero, Nat.reduceAdd, Nat.reduceSub, true_and, and_true, id_eq, if_true, if_false, Bool.false_eq_true, Bool.not_true, Bool.not_false, DL.x_idx, DL.rev_obj, DL.wipeD, DL.x_addM, DL.x_addMl, DL.x_isi, DL.ty_nonM, DL.ty_blM, DL.ty_intM, DL.ty_strM, DL.ty_tupM, DL.ty_lstM, DL.ty_dctM, DL.kb_non_str, DL.kb_non_int, DL.kb_non_bool, DL.kb_non_tuple, DL.kb_non_list, DL.kb_non_dict, DL.kb_bl_str, DL.kb_bl_int, DL.kb_bl_bool, DL.kb_bl_tuple, DL.kb_bl_list, DL.kb_bl_dict, DL.kb_int_str, DL.kb_int_int, DL.kb_int_bool, DL.kb_int_tuple, DL.kb_int_list, DL.kb_int_dict, DL.kb_str_str, DL.kb_str_int, DL.kb_str_bool, DL.kb_str_tuple, DL.kb_str_list, DL.kb_str_dict, DL.kb_tup_str, DL.kb_tup_int, DL.kb_tup_bool, DL.kb_tup_tuple, DL.kb_tup_list, DL.kb_tup_dict, DL.kb_lst_str, DL.kb_lst_int, DL.kb_lst_bool, DL.kb_lst_tuple, DL.kb_lst_list, DL.kb_lst_dict, DL.kb_dct_str, DL.kb_dct_int, DL.kb_dct_bool, DL.kb_dct_tuple, DL.kb_dct_list, DL.kb_dct_dict, DL.isNon_bl, DL.isNon_lst, DL.isNon_dct, DL.x_tOf, DL.x_tOfE, DL.x_chain, DL.x_kix, DL.x_kin, DL.x_kgt, DL.x_allL, DL.x_anyL, DL.x_istr, DL.x_dgetO, DL.x_dgetS, DL.x_dgetI, DL.x_gdix, DL.x_dset, DL.x_popAt, DL.x_insert, DL.ty_dct, DL.x_getS1, DL.x_getI1, DL.x_getS2, DL.x_getI2, DL.x_pnil, DL.x_pcons, DL.x_disM, DL.x_dis0M, DL.x_listM, DL.x_listMT, DL.x_gst, DL.x_mulS, DL.x_mulL, DL.x_dict, DL.onM_md, DL.onS_str, DL.kfind_nil, DL.kfind_cons, DL.lit_beq, DL.x_iseq, DL.onIt_lst, DL.onIt_tup, DL.sl_obj, DL.x_rg1, DL.valD_nil, DL.valD_cons, DL.key_rr, DL.key_ll, DL.key_lr, DL.key_rl, String.reduceBEq, Option.isSome_some, Option.isSome_none, Option.getD_some, Option.getD_none, Bool.true_and, Bool.and_true, Bool.false_and, Bool.and_false, Bool.or_false, Bool.false_or, Bool.or_true, Bool.true_or, beq_self_eq_true, DL.x_addBb, DL.x_addBib, DL.x_addBi, DL.x_addBs, DL.x_addBt, DL.x_addBl, DL.x_subBb, DL.x_subBib, DL.x_subBi, DL.x_mulBb, DL.x_mulBi, DL.x_strI, DL.x_strS, DL.x_strB, DL.x_up, DL.x_eqT, DL.x_eqL, DL.x_inDS, DL.x_inDI, DL.dec_cons, DL.x_nox, DL.x_raise0, DL.x_raise1, DL.x_try, DL.x_isX, DL.x_xf, DL.onMi_mi, DL.onSm_some, DL.lk_cons, DL.lk_nil, DL.put_nil, DL.put_cons, DL.x_fld, DL.x_fldO, DL.x_sfld, DL.x_stO, DL.x_aug, DL.x_augO, DL.x_methC, DL.x_methO, DL.x_make, DL.x_del, DL.x_delO, DL.x_isB, DL.x_idxT, DL.x_gtL, DL.x_sortS, DL.x_extO, DL.x_gstM, DL.x_gstA, DL.x_gstT, DL.x_frz, DL.x_frzO, DL.del_put, DL.x_lenO, DL.x_lenOD, DL.x_methN, DL.x_methK, DL.x_gFld, DL.x_asg3, DL.x_intS, DL.x_intAb, DL.x_intAi, DL.x_getO1, DL.x_sortA, DL.x_sortB, DL.x_sortBT, DL.x_listVals, DL.x_callM, DL.x_callL, DL.x_lam, DL.gSel, DL.capsOf, DL.onCp_some, DL.x_kval, DL.isStrD, DL.strIs, Option.map_some, List.all_cons, List.all_nil, List.any_cons, List.any_nil, DL.x_sortTD, DL.x_makeM, DL.x_methL, DL.gKm, DL.x_ifT, DL.x_lenSet, DL.lenB_d, DL.x_extT, DL.x_sortSet, DL.x_updD, DL.x_tupIt, DL.x_tupItO, DL.x_mkV, DL.x_isV, DL.x_isVe, DL.x_fldV, DL.x_fldVe, DL.x_lzip]
  walk_at "go"
  rw [show (if decide ((0 : Int) < deep) = true then (1 : Int) else 0) = 1 from by rw [decide_eq_true h0]; rfl]
  walk_at "go"
  refine draw_g (by omega) (by omega) μ0 μ t _ _ h (by omega) fun d μ1 ⟨s, e, k0, k1⟩ h1 => ?_
  subst e
  walk_at "go"
  by_cases hs : s < 8
  · simp only [decide_eq_true hs]
    walk_at "go"
    refine draw_g (by omega) (by omega) μ0 μ1 (t + 1) _ _ h1 (by omega) fun d μ2 ⟨k', e, k0', k1'⟩ h2 => ?_
    subst e
    walk_at "go"
    refine ix_in k0 (by simpa using hs) fun d hd _ => q d μ2 ?_ (h2.mono (by omega))
    obtain ⟨m, rfl⟩ := Int.eq_ofNat_of_zero_le k0'
    exact (sx0 (k' := m) hd (by omega)).mono (Nat.zero_le _) (by omega)
  · simp only [decide_eq_false hs]
    walk_at "go"
    rw [x_lcI]
    walk_at "go"
    refine draw_g (by omega) (by omega) μ0 μ1 (t + 1) _ _ h1 (by omega) fun d μ2 ⟨j, e, j0, j1⟩ h2 => ?_
    subst e
    walk_at "go"
    obtain ⟨m, rfl⟩ := Int.eq_ofNat_of_zero_le j0
    have hm : m ≤ 3 := by omega
    have hnm : n * (m : Int) ≤ n * 3 := Int.mul_le_mul_of_nonneg_left (by omega) hn
    refine elc_gen n (fun _ d => Sx k z d) h2 (by rw [rangeL_len, Int.toNat_natCast]; omega) (by rw [rangeL_len, Int.toNat_natCast]; omega) hn (fun x hx μ1 μ' t' R hd ht' hR => ?_) fun ds μ' hl hP h3 => ?_
    · walk_at "go"
      exact hr _ _ _ _ _ hd ht' fun d μ'' hs h => hR d μ'' hs h
    rw [rangeL_len, Int.toNat_natCast] at hl h3
    have hl3 : ds.length ≤ 3 := by omega
    have hds : ∀ d ∈ ds, Sx k z d := fun d hd => by obtain ⟨_, _, z⟩ := hP d hd; exact z
    simp only [DL.tuple_lst, DL.x_lzip]
    refine dict_of hl3 ?_
    refine ⟨by decide, by decide, by decide, ?_⟩
    refine ix_in (by omega) (by show s - 8 < 4; omega) fun d hd _ => q d μ' (sx1 hl3 hds hd) (h3.mono (by omega))
theorem mm2 : mm__law_any 2 = bodyD 5 (b__law_any (mm__law_any 1)) := rfl
theorem mm3 : m__law_any = bodyD 5 (b__law_any (mm__law_any 2)) := rfl
theorem any1_g {a c : Addr} : Gen shD a c 8 (mm__law_any 2 [.obj a, .int 1]) (Sx 2 6100) := by
  rw [mm2]
  intro μ0 μ t Q E h ht q
  exact any_step (mr := mm__law_any 1) (deep := 1) (n := 2) (k := 0) (z := 2000) (by decide) (by decide) (by decide) (Nat.le_refl _) (by rw [show ((1 : Int) - 1) = 0 from rfl]; exact any0_g) μ0 μ t Q E h ht fun d μ' hd h' => q d μ' (hd.mono (Nat.le_refl _) (by decide)) h'
theorem any_g {a c : Addr} : Gen shD a c 26 (m__law_any [.obj a, .int 2]) (Sx 4 20000) := by
  rw [mm3]
  intro μ0 μ t Q E h ht q
  exact any_step (mr := mm__law_any 2) (deep := 2) (n := 8) (k := 2) (z := 6100) (by decide) (by decide) (by decide) (by decide) (by rw [show ((2 : Int) - 1) = 1 from rfl]; exact any1_g) μ0 μ t Q E h ht fun d μ' hd h' => q d μ' (hd.mono (Nat.le_refl _) (by decide)) h'
end Lk01

namespace Lk01
open PySem PySem.Spec PyProof.Rows L2 DL
variable [CA]

def madeD (a b c : D) : List D := [.exv cC_NoShape (PySem.Str.ofString "NoShape") [] [], .exv cC_NoCond (PySem.Str.ofString "NoCond") [] [], .exv cC_NoRule (PySem.Str.ofString "NoRule") [] [], .exv cC_Full (PySem.Str.ofString "Full") [] [], .exv cC_Last (PySem.Str.ofString "Last") [] [], .exv cC_Busy (PySem.Str.ofString "Busy") [] [], .exv cC_NoLine (PySem.Str.ofString "NoLine") [] [], .exv cC_NoName (PySem.Str.ofString "NoName") [PySem.Str.ofString "name"] [a], .exv cC_Taken (PySem.Str.ofString "Taken") [PySem.Str.ofString "name"] [a], .exv cC_NoFit (PySem.Str.ofString "NoFit") [PySem.Str.ofString "name"] [a], .exv cC_Used (PySem.Str.ofString "Used") [PySem.Str.ofString "name"] [a], .exv cC_NoChange (PySem.Str.ofString "NoChange") [PySem.Str.ofString "place"] [a], .exv cC_NoRow (PySem.Str.ofString "NoRow") [PySem.Str.ofString "place"] [a], .exv cC_NoDeed (PySem.Str.ofString "NoDeed") [PySem.Str.ofString "deed"] [a], .exv cC_NoText (PySem.Str.ofString "NoText") [PySem.Str.ofString "row"] [a], .exv cC_TooLate (PySem.Str.ofString "TooLate") [PySem.Str.ofString "base"] [a], .exv cC_Tired (PySem.Str.ofString "Tired") [PySem.Str.ofString "tries"] [a], .exv cC_NotNow (PySem.Str.ofString "NotNow") [PySem.Str.ofString "state"] [a], .exv cC_Over (PySem.Str.ofString "Over") [PySem.Str.ofString "until"] [a], .exv cC_Clash (PySem.Str.ofString "Clash") [PySem.Str.ofString "file", PySem.Str.ofString "word", PySem.Str.ofString "number"] [c, b, a], .exv cC_NoColumn (PySem.Str.ofString "NoColumn") [PySem.Str.ofString "name"] [a], .exv cC_NoFile (PySem.Str.ofString "NoFile") [PySem.Str.ofString "file"] [a], .exv cC_NoTable (PySem.Str.ofString "NoTable") [PySem.Str.ofString "name"] [a], .exv cC_NoCommit (PySem.Str.ofString "NoCommit") [PySem.Str.ofString "number"] [a], .exv cC_NoTag (PySem.Str.ofString "NoTag") [PySem.Str.ofString "name"] [a], .exv cC_NoWriter (PySem.Str.ofString "NoWriter") [PySem.Str.ofString "name"] [a], .exv cC_Crash (PySem.Str.ofString "Crash") [PySem.Str.ofString "step"] [a], .exv cC_Lost (PySem.Str.ofString "Lost") [PySem.Str.ofString "step"] [a]]
theorem made_len {a b c : D} : (madeD a b c).length = 28 := rfl
theorem mV_Used : (PySem.Str.ofString "Used", cC_Used) ∈ tbV := (.head _)
theorem mV_NoFit : (PySem.Str.ofString "NoFit", cC_NoFit) ∈ tbV := (.tail _ (.head _))
theorem mV_Taken : (PySem.Str.ofString "Taken", cC_Taken) ∈ tbV := (.tail _ (.tail _ (.head _)))
theorem mV_NoName : (PySem.Str.ofString "NoName", cC_NoName) ∈ tbV := (.tail _ (.tail _ (.tail _ (.head _))))
theorem mV_NoLine : (PySem.Str.ofString "NoLine", cC_NoLine) ∈ tbV := (.tail _ (.tail _ (.tail _ (.tail _ (.head _)))))
theorem mV_Busy : (PySem.Str.ofString "Busy", cC_Busy) ∈ tbV := (.tail _ (.tail _ (.tail _ (.tail _ (.tail _ (.head _))))))
theorem mV_Last : (PySem.Str.ofString "Last", cC_Last) ∈ tbV := (.tail _ (.tail _ (.tail _ (.tail _ (.tail _ (.tail _ (.head _)))))))
theorem mV_Full : (PySem.Str.ofString "Full", cC_Full) ∈ tbV := (.tail _ (.tail _ (.tail _ (.tail _ (.tail _ (.tail _ (.tail _ (.head _))))))))
theorem mV_NoRule : (PySem.Str.ofString "NoRule", cC_NoRule) ∈ tbV := (.tail _ (.tail _ (.tail _ (.tail _ (.tail _ (.tail _ (.tail _ (.tail _ (.head _)))))))))
theorem mV_NoCond : (PySem.Str.ofString "NoCond", cC_NoCond) ∈ tbV := (.tail _ (.tail _ (.tail _ (.tail _ (.tail _ (.tail _ (.tail _ (.tail _ (.tail _ (.head _))))))))))
theorem mV_NoShape : (PySem.Str.ofString "NoShape", cC_NoShape) ∈ tbV := (.tail _ (.tail _ (.tail _ (.tail _ (.tail _ (.tail _ (.tail _ (.tail _ (.tail _ (.tail _ (.head _)))))))))))
theorem mV_Over : (PySem.Str.ofString "Over", cC_Over) ∈ tbV := (.tail _ (.tail _ (.tail _ (.tail _ (.tail _ (.tail _ (.tail _ (.tail _ (.tail _ (.tail _ (.tail _ (.head _))))))))))))
theorem mV_NotNow : (PySem.Str.ofString "NotNow", cC_NotNow) ∈ tbV := (.tail _ (.tail _ (.tail _ (.tail _ (.tail _ (.tail _ (.tail _ (.tail _ (.tail _ (.tail _ (.tail _ (.tail _ (.head _)))))))))))))
theorem mV_Tired : (PySem.Str.ofString "Tired", cC_Tired) ∈ tbV := (.tail _ (.tail _ (.tail _ (.tail _ (.tail _ (.tail _ (.tail _ (.tail _ (.tail _ (.tail _ (.tail _ (.tail _ (.tail _ (.head _))))))))))))))
theorem mV_TooLate : (PySem.Str.ofString "TooLate", cC_TooLate) ∈ tbV := (.tail _ (.tail _ (.tail _ (.tail _ (.tail _ (.tail _ (.tail _ (.tail _ (.tail _ (.tail _ (.tail _ (.tail _ (.tail _ (.tail _ (.head _)))))))))))))))
theorem mV_NoText : (PySem.Str.ofString "NoText", cC_NoText) ∈ tbV := (.tail _ (.tail _ (.tail _ (.tail _ (.tail _ (.tail _ (.tail _ (.tail _ (.tail _ (.tail _ (.tail _ (.tail _ (.tail _ (.tail _ (.tail _ (.head _))))))))))))))))
theorem mV_NoDeed : (PySem.Str.ofString "NoDeed", cC_NoDeed) ∈ tbV := (.tail _ (.tail _ (.tail _ (.tail _ (.tail _ (.tail _ (.tail _ (.tail _ (.tail _ (.tail _ (.tail _ (.tail _ (.tail _ (.tail _ (.tail _ (.tail _ (.head _)))))))))))))))))
theorem mV_NoRow : (PySem.Str.ofString "NoRow", cC_NoRow) ∈ tbV := (.tail _ (.tail _ (.tail _ (.tail _ (.tail _ (.tail _ (.tail _ (.tail _ (.tail _ (.tail _ (.tail _ (.tail _ (.tail _ (.tail _ (.tail _ (.tail _ (.tail _ (.head _))))))))))))))))))
theorem mV_NoChange : (PySem.Str.ofString "NoChange", cC_NoChange) ∈ tbV := (.tail _ (.tail _ (.tail _ (.tail _ (.tail _ (.tail _ (.tail _ (.tail _ (.tail _ (.tail _ (.tail _ (.tail _ (.tail _ (.tail _ (.tail _ (.tail _ (.tail _ (.tail _ (.head _)))))))))))))))))))
theorem mV_NoWriter : (PySem.Str.ofString "NoWriter", cC_NoWriter) ∈ tbV := (.tail _ (.tail _ (.tail _ (.tail _ (.tail _ (.tail _ (.tail _ (.tail _ (.tail _ (.tail _ (.tail _ (.tail _ (.tail _ (.tail _ (.tail _ (.tail _ (.tail _ (.tail _ (.tail _ (.head _))))))))))))))))))))
theorem mV_NoTag : (PySem.Str.ofString "NoTag", cC_NoTag) ∈ tbV := (.tail _ (.tail _ (.tail _ (.tail _ (.tail _ (.tail _ (.tail _ (.tail _ (.tail _ (.tail _ (.tail _ (.tail _ (.tail _ (.tail _ (.tail _ (.tail _ (.tail _ (.tail _ (.tail _ (.tail _ (.head _)))))))))))))))))))))
theorem mV_NoCommit : (PySem.Str.ofString "NoCommit", cC_NoCommit) ∈ tbV := (.tail _ (.tail _ (.tail _ (.tail _ (.tail _ (.tail _ (.tail _ (.tail _ (.tail _ (.tail _ (.tail _ (.tail _ (.tail _ (.tail _ (.tail _ (.tail _ (.tail _ (.tail _ (.tail _ (.tail _ (.tail _ (.head _))))))))))))))))))))))
theorem mV_NoTable : (PySem.Str.ofString "NoTable", cC_NoTable) ∈ tbV := (.tail _ (.tail _ (.tail _ (.tail _ (.tail _ (.tail _ (.tail _ (.tail _ (.tail _ (.tail _ (.tail _ (.tail _ (.tail _ (.tail _ (.tail _ (.tail _ (.tail _ (.tail _ (.tail _ (.tail _ (.tail _ (.tail _ (.head _)))))))))))))))))))))))
theorem mV_NoFile : (PySem.Str.ofString "NoFile", cC_NoFile) ∈ tbV := (.tail _ (.tail _ (.tail _ (.tail _ (.tail _ (.tail _ (.tail _ (.tail _ (.tail _ (.tail _ (.tail _ (.tail _ (.tail _ (.tail _ (.tail _ (.tail _ (.tail _ (.tail _ (.tail _ (.tail _ (.tail _ (.tail _ (.tail _ (.head _))))))))))))))))))))))))
theorem mV_NoColumn : (PySem.Str.ofString "NoColumn", cC_NoColumn) ∈ tbV := (.tail _ (.tail _ (.tail _ (.tail _ (.tail _ (.tail _ (.tail _ (.tail _ (.tail _ (.tail _ (.tail _ (.tail _ (.tail _ (.tail _ (.tail _ (.tail _ (.tail _ (.tail _ (.tail _ (.tail _ (.tail _ (.tail _ (.tail _ (.tail _ (.head _)))))))))))))))))))))))))
theorem mV_Clash : (PySem.Str.ofString "Clash", cC_Clash) ∈ tbV := (.tail _ (.tail _ (.tail _ (.tail _ (.tail _ (.tail _ (.tail _ (.tail _ (.tail _ (.tail _ (.tail _ (.tail _ (.tail _ (.tail _ (.tail _ (.tail _ (.tail _ (.tail _ (.tail _ (.tail _ (.tail _ (.tail _ (.tail _ (.tail _ (.tail _ (.head _))))))))))))))))))))))))))
theorem mV_Lost : (PySem.Str.ofString "Lost", cC_Lost) ∈ tbV := (.tail _ (.tail _ (.tail _ (.tail _ (.tail _ (.tail _ (.tail _ (.tail _ (.tail _ (.tail _ (.tail _ (.tail _ (.tail _ (.tail _ (.tail _ (.tail _ (.tail _ (.tail _ (.tail _ (.tail _ (.tail _ (.tail _ (.tail _ (.tail _ (.tail _ (.tail _ (.head _)))))))))))))))))))))))))))
theorem mV_Crash : (PySem.Str.ofString "Crash", cC_Crash) ∈ tbV := (.tail _ (.tail _ (.tail _ (.tail _ (.tail _ (.tail _ (.tail _ (.tail _ (.tail _ (.tail _ (.tail _ (.tail _ (.tail _ (.tail _ (.tail _ (.tail _ (.tail _ (.tail _ (.tail _ (.tail _ (.tail _ (.tail _ (.tail _ (.tail _ (.tail _ (.tail _ (.tail _ (.head _))))))))))))))))))))))))))))
theorem mF_name_Used : (PySem.Str.ofString "Used", cC_Used) ∈ tbF_name := (.head _)
theorem mF_name_NoFit : (PySem.Str.ofString "NoFit", cC_NoFit) ∈ tbF_name := (.tail _ (.head _))
theorem mF_name_Taken : (PySem.Str.ofString "Taken", cC_Taken) ∈ tbF_name := (.tail _ (.tail _ (.head _)))
theorem mF_name_NoName : (PySem.Str.ofString "NoName", cC_NoName) ∈ tbF_name := (.tail _ (.tail _ (.tail _ (.head _))))
theorem mF_name_NoWriter : (PySem.Str.ofString "NoWriter", cC_NoWriter) ∈ tbF_name := (.tail _ (.tail _ (.tail _ (.tail _ (.head _)))))
theorem mF_name_NoTag : (PySem.Str.ofString "NoTag", cC_NoTag) ∈ tbF_name := (.tail _ (.tail _ (.tail _ (.tail _ (.tail _ (.head _))))))
theorem mF_name_NoTable : (PySem.Str.ofString "NoTable", cC_NoTable) ∈ tbF_name := (.tail _ (.tail _ (.tail _ (.tail _ (.tail _ (.tail _ (.head _)))))))
theorem mF_name_NoColumn : (PySem.Str.ofString "NoColumn", cC_NoColumn) ∈ tbF_name := (.tail _ (.tail _ (.tail _ (.tail _ (.tail _ (.tail _ (.tail _ (.head _))))))))
theorem mF_place_NoRow : (PySem.Str.ofString "NoRow", cC_NoRow) ∈ tbF_place := (.head _)
theorem mF_place_NoChange : (PySem.Str.ofString "NoChange", cC_NoChange) ∈ tbF_place := (.tail _ (.head _))
theorem mF_deed_NoDeed : (PySem.Str.ofString "NoDeed", cC_NoDeed) ∈ tbF_deed := (.head _)
theorem mF_row_NoText : (PySem.Str.ofString "NoText", cC_NoText) ∈ tbF_row := (.head _)
theorem mF_base_TooLate : (PySem.Str.ofString "TooLate", cC_TooLate) ∈ tbF_base := (.head _)
theorem mF_tries_Tired : (PySem.Str.ofString "Tired", cC_Tired) ∈ tbF_tries := (.head _)
theorem mF_state_NotNow : (PySem.Str.ofString "NotNow", cC_NotNow) ∈ tbF_state := (.head _)
theorem mF_until_Over : (PySem.Str.ofString "Over", cC_Over) ∈ tbF_until := (.head _)
theorem mF_number_NoCommit : (PySem.Str.ofString "NoCommit", cC_NoCommit) ∈ tbF_number := (.head _)
theorem mF_number_Clash : (PySem.Str.ofString "Clash", cC_Clash) ∈ tbF_number := (.tail _ (.head _))
theorem mF_word_Clash : (PySem.Str.ofString "Clash", cC_Clash) ∈ tbF_word := (.head _)
theorem mF_file_NoFile : (PySem.Str.ofString "NoFile", cC_NoFile) ∈ tbF_file := (.head _)
theorem mF_file_Clash : (PySem.Str.ofString "Clash", cC_Clash) ∈ tbF_file := (.tail _ (.head _))
theorem mF_step_Lost : (PySem.Str.ofString "Lost", cC_Lost) ∈ tbF_step := (.head _)
theorem mF_step_Crash : (PySem.Str.ofString "Crash", cC_Crash) ∈ tbF_step := (.tail _ (.head _))
theorem lk1 {f : Str} {d : D} : ([f].zip [d]).lookup f = some d := by
  show List.lookup f [(f, d)] = _
  rw [List.lookup_cons, beq_self_eq_true]
theorem lk_number {a b c : D} : (([PySem.Str.ofString "file", PySem.Str.ofString "word", PySem.Str.ofString "number"] : List Str).zip [c, b, a]).lookup (PySem.Str.ofString "number") = some a := by kernel_rfl
theorem lk_word {a b c : D} : (([PySem.Str.ofString "file", PySem.Str.ofString "word", PySem.Str.ofString "number"] : List Str).zip [c, b, a]).lookup (PySem.Str.ofString "word") = some b := by kernel_rfl
theorem lk_file {a b c : D} : (([PySem.Str.ofString "file", PySem.Str.ofString "word", PySem.Str.ofString "number"] : List Str).zip [c, b, a]).lookup (PySem.Str.ofString "file") = some c := by kernel_rfl
theorem at_7 {a b c : D} : atI (madeD a b c) 7 = some (.exv cC_NoName (PySem.Str.ofString "NoName") [PySem.Str.ofString "name"] [a]) := rfl
theorem at_8 {a b c : D} : atI (madeD a b c) 8 = some (.exv cC_Taken (PySem.Str.ofString "Taken") [PySem.Str.ofString "name"] [a]) := rfl
theorem at_9 {a b c : D} : atI (madeD a b c) 9 = some (.exv cC_NoFit (PySem.Str.ofString "NoFit") [PySem.Str.ofString "name"] [a]) := rfl
theorem at_10 {a b c : D} : atI (madeD a b c) 10 = some (.exv cC_Used (PySem.Str.ofString "Used") [PySem.Str.ofString "name"] [a]) := rfl
theorem at_11 {a b c : D} : atI (madeD a b c) 11 = some (.exv cC_NoChange (PySem.Str.ofString "NoChange") [PySem.Str.ofString "place"] [a]) := rfl
theorem at_12 {a b c : D} : atI (madeD a b c) 12 = some (.exv cC_NoRow (PySem.Str.ofString "NoRow") [PySem.Str.ofString "place"] [a]) := rfl
theorem at_13 {a b c : D} : atI (madeD a b c) 13 = some (.exv cC_NoDeed (PySem.Str.ofString "NoDeed") [PySem.Str.ofString "deed"] [a]) := rfl
theorem at_14 {a b c : D} : atI (madeD a b c) 14 = some (.exv cC_NoText (PySem.Str.ofString "NoText") [PySem.Str.ofString "row"] [a]) := rfl
theorem at_15 {a b c : D} : atI (madeD a b c) 15 = some (.exv cC_TooLate (PySem.Str.ofString "TooLate") [PySem.Str.ofString "base"] [a]) := rfl
theorem at_16 {a b c : D} : atI (madeD a b c) 16 = some (.exv cC_Tired (PySem.Str.ofString "Tired") [PySem.Str.ofString "tries"] [a]) := rfl
theorem at_17 {a b c : D} : atI (madeD a b c) 17 = some (.exv cC_NotNow (PySem.Str.ofString "NotNow") [PySem.Str.ofString "state"] [a]) := rfl
theorem at_18 {a b c : D} : atI (madeD a b c) 18 = some (.exv cC_Over (PySem.Str.ofString "Over") [PySem.Str.ofString "until"] [a]) := rfl
theorem at_19 {a b c : D} : atI (madeD a b c) 19 = some (.exv cC_Clash (PySem.Str.ofString "Clash") [PySem.Str.ofString "file", PySem.Str.ofString "word", PySem.Str.ofString "number"] [c, b, a]) := rfl
theorem at_20 {a b c : D} : atI (madeD a b c) 20 = some (.exv cC_NoColumn (PySem.Str.ofString "NoColumn") [PySem.Str.ofString "name"] [a]) := rfl
theorem at_21 {a b c : D} : atI (madeD a b c) 21 = some (.exv cC_NoFile (PySem.Str.ofString "NoFile") [PySem.Str.ofString "file"] [a]) := rfl
theorem at_22 {a b c : D} : atI (madeD a b c) 22 = some (.exv cC_NoTable (PySem.Str.ofString "NoTable") [PySem.Str.ofString "name"] [a]) := rfl
theorem at_23 {a b c : D} : atI (madeD a b c) 23 = some (.exv cC_NoCommit (PySem.Str.ofString "NoCommit") [PySem.Str.ofString "number"] [a]) := rfl
theorem at_24 {a b c : D} : atI (madeD a b c) 24 = some (.exv cC_NoTag (PySem.Str.ofString "NoTag") [PySem.Str.ofString "name"] [a]) := rfl
theorem at_25 {a b c : D} : atI (madeD a b c) 25 = some (.exv cC_NoWriter (PySem.Str.ofString "NoWriter") [PySem.Str.ofString "name"] [a]) := rfl
theorem at_26 {a b c : D} : atI (madeD a b c) 26 = some (.exv cC_Crash (PySem.Str.ofString "Crash") [PySem.Str.ofString "step"] [a]) := rfl
theorem at_27 {a b c : D} : atI (madeD a b c) 27 = some (.exv cC_Lost (PySem.Str.ofString "Lost") [PySem.Str.ofString "step"] [a]) := rfl
def clsB (n : Str) : List Bool := [vsub_NoShape n, vsub_NoCond n, vsub_NoRule n, vsub_Full n, vsub_Last n, vsub_Busy n, vsub_NoLine n, vsub_NoName n, vsub_Taken n, vsub_NoFit n, vsub_Used n, vsub_NoChange n, vsub_NoRow n, vsub_NoDeed n, vsub_NoText n, vsub_TooLate n, vsub_Tired n, vsub_NotNow n, vsub_Over n, vsub_Clash n, vsub_NoColumn n, vsub_NoFile n, vsub_NoTable n, vsub_NoCommit n, vsub_NoTag n, vsub_NoWriter n, vsub_Crash n, vsub_Lost n, vsub_StillError n, vsub_Missing n, vsub_Trouble n, vsub_ValueError n, vsub_KeyError n, vsub_ArithmeticError n]
def expB (i : Nat) : List Bool := (List.range 28).map (fun j => decide (j = i)) ++ [decide (i < 20), decide (20 ≤ i) && decide (i < 26), decide (25 < i)] ++ [decide (i < 20), decide (20 ≤ i) && decide (i < 26), decide (25 < i)]
theorem made_at {a b c : D} : ∀ i, i < 28 → ∃ C n ns ds, (madeD a b c)[i]? = some (.exv C n ns ds) ∧ (n, C) ∈ tbV ∧ clsB n = expB i
  | 0, _ => ⟨_, _, _, _, rfl, mV_NoShape, by decide +kernel⟩
  | 1, _ => ⟨_, _, _, _, rfl, mV_NoCond, by decide +kernel⟩
  | 2, _ => ⟨_, _, _, _, rfl, mV_NoRule, by decide +kernel⟩
  | 3, _ => ⟨_, _, _, _, rfl, mV_Full, by decide +kernel⟩
  | 4, _ => ⟨_, _, _, _, rfl, mV_Last, by decide +kernel⟩
  | 5, _ => ⟨_, _, _, _, rfl, mV_Busy, by decide +kernel⟩
  | 6, _ => ⟨_, _, _, _, rfl, mV_NoLine, by decide +kernel⟩
  | 7, _ => ⟨_, _, _, _, rfl, mV_NoName, by decide +kernel⟩
  | 8, _ => ⟨_, _, _, _, rfl, mV_Taken, by decide +kernel⟩
  | 9, _ => ⟨_, _, _, _, rfl, mV_NoFit, by decide +kernel⟩
  | 10, _ => ⟨_, _, _, _, rfl, mV_Used, by decide +kernel⟩
  | 11, _ => ⟨_, _, _, _, rfl, mV_NoChange, by decide +kernel⟩
  | 12, _ => ⟨_, _, _, _, rfl, mV_NoRow, by decide +kernel⟩
  | 13, _ => ⟨_, _, _, _, rfl, mV_NoDeed, by decide +kernel⟩
  | 14, _ => ⟨_, _, _, _, rfl, mV_NoText, by decide +kernel⟩
  | 15, _ => ⟨_, _, _, _, rfl, mV_TooLate, by decide +kernel⟩
  | 16, _ => ⟨_, _, _, _, rfl, mV_Tired, by decide +kernel⟩
  | 17, _ => ⟨_, _, _, _, rfl, mV_NotNow, by decide +kernel⟩
  | 18, _ => ⟨_, _, _, _, rfl, mV_Over, by decide +kernel⟩
  | 19, _ => ⟨_, _, _, _, rfl, mV_Clash, by decide +kernel⟩
  | 20, _ => ⟨_, _, _, _, rfl, mV_NoColumn, by decide +kernel⟩
  | 21, _ => ⟨_, _, _, _, rfl, mV_NoFile, by decide +kernel⟩
  | 22, _ => ⟨_, _, _, _, rfl, mV_NoTable, by decide +kernel⟩
  | 23, _ => ⟨_, _, _, _, rfl, mV_NoCommit, by decide +kernel⟩
  | 24, _ => ⟨_, _, _, _, rfl, mV_NoTag, by decide +kernel⟩
  | 25, _ => ⟨_, _, _, _, rfl, mV_NoWriter, by decide +kernel⟩
  | 26, _ => ⟨_, _, _, _, rfl, mV_Crash, by decide +kernel⟩
  | 27, _ => ⟨_, _, _, _, rfl, mV_Lost, by decide +kernel⟩
  | n + 28, h => absurd h (by omega)
theorem placed_w {a b c : D} {μ : Mem} {Q : D → Mem → Prop} {E : XD} (q : Q (.lst (madeD a b c)) μ) : m__law_placed [a, b, c] μ Q E := by
  simp only [m__law_placed, b__law_placed, DL.x_bnd, DL.x_ret, DL.x_req, DL.x_get, DL.x_opt, DL.x_seq, DL.x_on, DL.x_or, DL.x_ob, DL.x_oc, DL.x_nil, DL.x_rt, DL.x_rtN, DL.x_drop, DL.x_break, DL.x_cont, DL.x_if, DL.x_ift, DL.x_iff, DL.x_set, DL.x_asg, DL.x_par2, DL.x_par3, DL.x_for, DL.x_v0, DL.x_vS, DL.x_c, DL.x_bin, DL.x_un, DL.x_tbin, DL.x_tru, DL.x_trb, DL.x_not, DL.x_tand, DL.x_tor, DL.x_and, DL.x_orE, DL.x_notE, DL.x_ifE, DL.x_tup, DL.x_lst, DL.x_lstM, DL.x_anil, DL.x_acons, DL.x_call, DL.x_callD, DL.x_callK, DL.x_meth, DL.x_sl, DL.x_oN, DL.x_oS, DL.x_gn, DL.x_gt, DL.x_gc, DL.x_g0, DL.x_gi, DL.x_body, DL.x_yes, DL.x_add, DL.x_addS, DL.x_addT, DL.x_addL, DL.x_sub, DL.x_mul, DL.x_div, DL.x_mod, DL.x_pow, DL.x_neg, DL.x_cmp, DL.x_cmpS, DL.x_isN, DL.x_mmL, DL.x_mm2, DL.x_eqS, DL.x_eqI, DL.x_intb, DL.onB_bl, DL.onI_int, DL.onO_nx, DL.onO_rt, DL.onL_ml, DL.addD_ol, DL.isNon_non, DL.isNon_int, DL.isNon_str, DL.isNon_tup, DL.ix_tup, DL.ix_lst, DL.ix_str, DL.ix_obj, DL.atI_0, DL.atI_1, DL.atI_2, DL.atI_3, DL.len_tup, DL.len_lst, DL.len_str, DL.len_obj, DL.ty_obj, DL.ty_str, DL.ty_lst, DL.append_obj, DL.pop_obj, DL.set_obj, DL.ixN_3_2, DL.tuple_obj, DL.tuple_lst, DL.list_tup, DL.list_lst, DL.sl_str, DL.sl_tup, DL.sl_lst, DL.rev_tup, DL.revM_lst, DL.sum_lst, DL.put_same, DL.startD, DL.pick, List.map_cons, List.map_nil, List.replicate, List.cons_append, List.nil_append, List.append_nil, List.length_cons, List.length_nil, List.getElem?_cons_zero, List.getElem?_cons_succ, List.set_cons_zero, List.set_cons_succ, List.filterMap_cons, List.filterMap_nil, Nat.zero_add, Nat.add_zero, Nat.reduceAdd, Nat.reduceSub, true_and, and_true, id_eq, if_true, if_false, Bool.false_eq_true, Bool.not_true, Bool.not_false, DL.x_idx, DL.rev_obj, DL.wipeD, DL.x_addM, DL.x_addMl, DL.x_isi, DL.ty_nonM, DL.ty_blM, DL.ty_intM, DL.ty_strM, DL.ty_tupM, DL.ty_lstM, DL.ty_dctM, DL.kb_non_str, DL.kb_non_int, DL.kb_non_bool, DL.kb_non_tuple, DL.kb_non_list, DL.kb_non_dict, DL.kb_bl_str, DL.kb_bl_int, DL.kb_bl_bool, DL.kb_bl_tuple, DL.kb_bl_list, DL.kb_bl_dict, DL.kb_int_str, DL.kb_int_int, DL.kb_int_bool, DL.kb_int_tuple, DL.kb_int_list, DL.kb_int_dict, DL.kb_str_str, DL.kb_str_int, DL.kb_str_bool, DL.kb_str_tuple, DL.kb_str_list, DL.kb_str_dict, DL.kb_tup_str, DL.kb_tup_int, DL.kb_tup_bool, DL.kb_tup_tuple, DL.kb_tup_list, DL.kb_tup_dict, DL.kb_lst_str, DL.kb_lst_int, DL.kb_lst_bool, DL.kb_lst_tuple, DL.kb_lst_list, DL.kb_lst_dict, DL.kb_dct_str, DL.kb_dct_int, DL.kb_dct_bool, DL.kb_dct_tuple, DL.kb_dct_list, DL.kb_dct_dict, DL.isNon_bl, DL.isNon_lst, DL.isNon_dct, DL.x_tOf, DL.x_tOfE, DL.x_chain, DL.x_kix, DL.x_kin, DL.x_kgt, DL.x_allL, DL.x_anyL, DL.x_istr, DL.x_dgetO, DL.x_dgetS, DL.x_dgetI, DL.x_gdix, DL.x_dset, DL.x_popAt, DL.x_insert, DL.ty_dct, DL.x_getS1, DL.x_getI1, DL.x_getS2, DL.x_getI2, DL.x_pnil, DL.x_pcons, DL.x_disM, DL.x_dis0M, DL.x_listM, DL.x_listMT, DL.x_gst, DL.x_mulS, DL.x_mulL, DL.x_dict, DL.onM_md, DL.onS_str, DL.kfind_nil, DL.kfind_cons, DL.lit_beq, DL.x_iseq, DL.onIt_lst, DL.onIt_tup, DL.sl_obj, DL.x_rg1, DL.valD_nil, DL.valD_cons, DL.key_rr, DL.key_ll, DL.key_lr, DL.key_rl, String.reduceBEq, Option.isSome_some, Option.isSome_none, Option.getD_some, Option.getD_none, Bool.true_and, Bool.and_true, Bool.false_and, Bool.and_false, Bool.or_false, Bool.false_or, Bool.or_true, Bool.true_or, beq_self_eq_true, DL.x_addBb, DL.x_addBib, DL.x_addBi, DL.x_addBs, DL.x_addBt, DL.x_addBl, DL.x_subBb, DL.x_subBib, DL.x_subBi, DL.x_mulBb, DL.x_mulBi, DL.x_strI, DL.x_strS, DL.x_strB, DL.x_up, DL.x_eqT, DL.x_eqL, DL.x_inDS, DL.x_inDI, DL.dec_cons, DL.x_nox, DL.x_raise0, DL.x_raise1, DL.x_try, DL.x_isX, DL.x_xf, DL.onMi_mi, DL.onSm_some, DL.lk_cons, DL.lk_nil, DL.put_nil, DL.put_cons, DL.x_fld, DL.x_fldO, DL.x_sfld, DL.x_stO, DL.x_aug, DL.x_augO, DL.x_methC, DL.x_methO, DL.x_make, DL.x_del, DL.x_delO, DL.x_isB, DL.x_idxT, DL.x_gtL, DL.x_sortS, DL.x_extO, DL.x_gstM, DL.x_gstA, DL.x_gstT, DL.x_frz, DL.x_frzO, DL.del_put, DL.x_lenO, DL.x_lenOD, DL.x_methN, DL.x_methK, DL.x_gFld, DL.x_asg3, DL.x_intS, DL.x_intAb, DL.x_intAi, DL.x_getO1, DL.x_sortA, DL.x_sortB, DL.x_sortBT, DL.x_listVals, DL.x_callM, DL.x_callL, DL.x_lam, DL.gSel, DL.capsOf, DL.onCp_some, DL.x_kval, DL.isStrD, DL.strIs, Option.map_some, List.all_cons, List.all_nil, List.any_cons, List.any_nil, DL.x_sortTD, DL.x_makeM, DL.x_methL, DL.gKm, DL.x_ifT, DL.x_lenSet, DL.lenB_d, DL.x_extT, DL.x_sortSet, DL.x_updD, DL.x_tupIt, DL.x_tupItO, DL.x_mkV, DL.x_isV, DL.x_isVe, DL.x_fldV, DL.x_fldVe, DL.x_lzip]
  walk_at "go"
  exact q
theorem named_w {a b c : D} {μ : Mem} {Q : D → Mem → Prop} {E : XD} (q : Q (.lst (madeD a b c)) μ) : m__law_named [a, b, c] μ Q E := by
  simp only [m__law_named, b__law_named, DL.x_bnd, DL.x_ret, DL.x_req, DL.x_get, DL.x_opt, DL.x_seq, DL.x_on, DL.x_or, DL.x_ob, DL.x_oc, DL.x_nil, DL.x_rt, DL.x_rtN, DL.x_drop, DL.x_break, DL.x_cont, DL.x_if, DL.x_ift, DL.x_iff, DL.x_set, DL.x_asg, DL.x_par2, DL.x_par3, DL.x_for, DL.x_v0, DL.x_vS, DL.x_c, DL.x_bin, DL.x_un, DL.x_tbin, DL.x_tru, DL.x_trb, DL.x_not, DL.x_tand, DL.x_tor, DL.x_and, DL.x_orE, DL.x_notE, DL.x_ifE, DL.x_tup, DL.x_lst, DL.x_lstM, DL.x_anil, DL.x_acons, DL.x_call, DL.x_callD, DL.x_callK, DL.x_meth, DL.x_sl, DL.x_oN, DL.x_oS, DL.x_gn, DL.x_gt, DL.x_gc, DL.x_g0, DL.x_gi, DL.x_body, DL.x_yes, DL.x_add, DL.x_addS, DL.x_addT, DL.x_addL, DL.x_sub, DL.x_mul, DL.x_div, DL.x_mod, DL.x_pow, DL.x_neg, DL.x_cmp, DL.x_cmpS, DL.x_isN, DL.x_mmL, DL.x_mm2, DL.x_eqS, DL.x_eqI, DL.x_intb, DL.onB_bl, DL.onI_int, DL.onO_nx, DL.onO_rt, DL.onL_ml, DL.addD_ol, DL.isNon_non, DL.isNon_int, DL.isNon_str, DL.isNon_tup, DL.ix_tup, DL.ix_lst, DL.ix_str, DL.ix_obj, DL.atI_0, DL.atI_1, DL.atI_2, DL.atI_3, DL.len_tup, DL.len_lst, DL.len_str, DL.len_obj, DL.ty_obj, DL.ty_str, DL.ty_lst, DL.append_obj, DL.pop_obj, DL.set_obj, DL.ixN_3_2, DL.tuple_obj, DL.tuple_lst, DL.list_tup, DL.list_lst, DL.sl_str, DL.sl_tup, DL.sl_lst, DL.rev_tup, DL.revM_lst, DL.sum_lst, DL.put_same, DL.startD, DL.pick, List.map_cons, List.map_nil, List.replicate, List.cons_append, List.nil_append, List.append_nil, List.length_cons, List.length_nil, List.getElem?_cons_zero, List.getElem?_cons_succ, List.set_cons_zero, List.set_cons_succ, List.filterMap_cons, List.filterMap_nil, Nat.zero_add, Nat.add_zero, Nat.reduceAdd, Nat.reduceSub, true_and, and_true, id_eq, if_true, if_false, Bool.false_eq_true, Bool.not_true, Bool.not_false, DL.x_idx, DL.rev_obj, DL.wipeD, DL.x_addM, DL.x_addMl, DL.x_isi, DL.ty_nonM, DL.ty_blM, DL.ty_intM, DL.ty_strM, DL.ty_tupM, DL.ty_lstM, DL.ty_dctM, DL.kb_non_str, DL.kb_non_int, DL.kb_non_bool, DL.kb_non_tuple, DL.kb_non_list, DL.kb_non_dict, DL.kb_bl_str, DL.kb_bl_int, DL.kb_bl_bool, DL.kb_bl_tuple, DL.kb_bl_list, DL.kb_bl_dict, DL.kb_int_str, DL.kb_int_int, DL.kb_int_bool, DL.kb_int_tuple, DL.kb_int_list, DL.kb_int_dict, DL.kb_str_str, DL.kb_str_int, DL.kb_str_bool, DL.kb_str_tuple, DL.kb_str_list, DL.kb_str_dict, DL.kb_tup_str, DL.kb_tup_int, DL.kb_tup_bool, DL.kb_tup_tuple, DL.kb_tup_list, DL.kb_tup_dict, DL.kb_lst_str, DL.kb_lst_int, DL.kb_lst_bool, DL.kb_lst_tuple, DL.kb_lst_list, DL.kb_lst_dict, DL.kb_dct_str, DL.kb_dct_int, DL.kb_dct_bool, DL.kb_dct_tuple, DL.kb_dct_list, DL.kb_dct_dict, DL.isNon_bl, DL.isNon_lst, DL.isNon_dct, DL.x_tOf, DL.x_tOfE, DL.x_chain, DL.x_kix, DL.x_kin, DL.x_kgt, DL.x_allL, DL.x_anyL, DL.x_istr, DL.x_dgetO, DL.x_dgetS, DL.x_dgetI, DL.x_gdix, DL.x_dset, DL.x_popAt, DL.x_insert, DL.ty_dct, DL.x_getS1, DL.x_getI1, DL.x_getS2, DL.x_getI2, DL.x_pnil, DL.x_pcons, DL.x_disM, DL.x_dis0M, DL.x_listM, DL.x_listMT, DL.x_gst, DL.x_mulS, DL.x_mulL, DL.x_dict, DL.onM_md, DL.onS_str, DL.kfind_nil, DL.kfind_cons, DL.lit_beq, DL.x_iseq, DL.onIt_lst, DL.onIt_tup, DL.sl_obj, DL.x_rg1, DL.valD_nil, DL.valD_cons, DL.key_rr, DL.key_ll, DL.key_lr, DL.key_rl, String.reduceBEq, Option.isSome_some, Option.isSome_none, Option.getD_some, Option.getD_none, Bool.true_and, Bool.and_true, Bool.false_and, Bool.and_false, Bool.or_false, Bool.false_or, Bool.or_true, Bool.true_or, beq_self_eq_true, DL.x_addBb, DL.x_addBib, DL.x_addBi, DL.x_addBs, DL.x_addBt, DL.x_addBl, DL.x_subBb, DL.x_subBib, DL.x_subBi, DL.x_mulBb, DL.x_mulBi, DL.x_strI, DL.x_strS, DL.x_strB, DL.x_up, DL.x_eqT, DL.x_eqL, DL.x_inDS, DL.x_inDI, DL.dec_cons, DL.x_nox, DL.x_raise0, DL.x_raise1, DL.x_try, DL.x_isX, DL.x_xf, DL.onMi_mi, DL.onSm_some, DL.lk_cons, DL.lk_nil, DL.put_nil, DL.put_cons, DL.x_fld, DL.x_fldO, DL.x_sfld, DL.x_stO, DL.x_aug, DL.x_augO, DL.x_methC, DL.x_methO, DL.x_make, DL.x_del, DL.x_delO, DL.x_isB, DL.x_idxT, DL.x_gtL, DL.x_sortS, DL.x_extO, DL.x_gstM, DL.x_gstA, DL.x_gstT, DL.x_frz, DL.x_frzO, DL.del_put, DL.x_lenO, DL.x_lenOD, DL.x_methN, DL.x_methK, DL.x_gFld, DL.x_asg3, DL.x_intS, DL.x_intAb, DL.x_intAi, DL.x_getO1, DL.x_sortA, DL.x_sortB, DL.x_sortBT, DL.x_listVals, DL.x_callM, DL.x_callL, DL.x_lam, DL.gSel, DL.capsOf, DL.onCp_some, DL.x_kval, DL.isStrD, DL.strIs, Option.map_some, List.all_cons, List.all_nil, List.any_cons, List.any_nil, DL.x_sortTD, DL.x_makeM, DL.x_methL, DL.gKm, DL.x_ifT, DL.x_lenSet, DL.lenB_d, DL.x_extT, DL.x_sortSet, DL.x_updD, DL.x_tupIt, DL.x_tupItO, DL.x_mkV, DL.x_isV, DL.x_isVe, DL.x_fldV, DL.x_fldVe, DL.x_lzip]
  walk_at "go"
  exact q
theorem classes_w {C : Addr} {n : Str} {ns : List Str} {ds : List D} {μ : Mem} {Q : D → Mem → Prop} {E : XD} (h : (n, C) ∈ tbV) (q : Q (.lst ((clsB n).map .bl)) μ) : m__law_classes [.exv C n ns ds] μ Q E := by
  simp only [m__law_classes, b__law_classes, DL.x_bnd, DL.x_ret, DL.x_req, DL.x_get, DL.x_opt, DL.x_seq, DL.x_on, DL.x_or, DL.x_ob, DL.x_oc, DL.x_nil, DL.x_rt, DL.x_rtN, DL.x_drop, DL.x_break, DL.x_cont, DL.x_if, DL.x_ift, DL.x_iff, DL.x_set, DL.x_asg, DL.x_par2, DL.x_par3, DL.x_for, DL.x_v0, DL.x_vS, DL.x_c, DL.x_bin, DL.x_un, DL.x_tbin, DL.x_tru, DL.x_trb, DL.x_not, DL.x_tand, DL.x_tor, DL.x_and, DL.x_orE, DL.x_notE, DL.x_ifE, DL.x_tup, DL.x_lst, DL.x_lstM, DL.x_anil, DL.x_acons, DL.x_call, DL.x_callD, DL.x_callK, DL.x_meth, DL.x_sl, DL.x_oN, DL.x_oS, DL.x_gn, DL.x_gt, DL.x_gc, DL.x_g0, DL.x_gi, DL.x_body, DL.x_yes, DL.x_add, DL.x_addS, DL.x_addT, DL.x_addL, DL.x_sub, DL.x_mul, DL.x_div, DL.x_mod, DL.x_pow, DL.x_neg, DL.x_cmp, DL.x_cmpS, DL.x_isN, DL.x_mmL, DL.x_mm2, DL.x_eqS, DL.x_eqI, DL.x_intb, DL.onB_bl, DL.onI_int, DL.onO_nx, DL.onO_rt, DL.onL_ml, DL.addD_ol, DL.isNon_non, DL.isNon_int, DL.isNon_str, DL.isNon_tup, DL.ix_tup, DL.ix_lst, DL.ix_str, DL.ix_obj, DL.atI_0, DL.atI_1, DL.atI_2, DL.atI_3, DL.len_tup, DL.len_lst, DL.len_str, DL.len_obj, DL.ty_obj, DL.ty_str, DL.ty_lst, DL.append_obj, DL.pop_obj, DL.set_obj, DL.ixN_3_2, DL.tuple_obj, DL.tuple_lst, DL.list_tup, DL.list_lst, DL.sl_str, DL.sl_tup, DL.sl_lst, DL.rev_tup, DL.revM_lst, DL.sum_lst, DL.put_same, DL.startD, DL.pick, List.map_cons, List.map_nil, List.replicate, List.cons_append, List.nil_append, List.append_nil, List.length_cons, List.length_nil, List.getElem?_cons_zero, List.getElem?_cons_succ, List.set_cons_zero, List.set_cons_succ, List.filterMap_cons, List.filterMap_nil, Nat.zero_add, Nat.add_zero, Nat.reduceAdd, Nat.reduceSub, true_and, and_true, id_eq, if_true, if_false, Bool.false_eq_true, Bool.not_true, Bool.not_false, DL.x_idx, DL.rev_obj, DL.wipeD, DL.x_addM, DL.x_addMl, DL.x_isi, DL.ty_nonM, DL.ty_blM, DL.ty_intM, DL.ty_strM, DL.ty_tupM, DL.ty_lstM, DL.ty_dctM, DL.kb_non_str, DL.kb_non_int, DL.kb_non_bool, DL.kb_non_tuple, DL.kb_non_list, DL.kb_non_dict, DL.kb_bl_str, DL.kb_bl_int, DL.kb_bl_bool, DL.kb_bl_tuple, DL.kb_bl_list, DL.kb_bl_dict, DL.kb_int_str, DL.kb_int_int, DL.kb_int_bool, DL.kb_int_tuple, DL.kb_int_list, DL.kb_int_dict, DL.kb_str_str, DL.kb_str_int, DL.kb_str_bool, DL.kb_str_tuple, DL.kb_str_list, DL.kb_str_dict, DL.kb_tup_str, DL.kb_tup_int, DL.kb_tup_bool, DL.kb_tup_tuple, DL.kb_tup_list, DL.kb_tup_dict, DL.kb_lst_str, DL.kb_lst_int, DL.kb_lst_bool, DL.kb_lst_tuple, DL.kb_lst_list, DL.kb_lst_dict, DL.kb_dct_str, DL.kb_dct_int, DL.kb_dct_bool, DL.kb_dct_tuple, DL.kb_dct_list, DL.kb_dct_dict, DL.isNon_bl, DL.isNon_lst, DL.isNon_dct, DL.x_tOf, DL.x_tOfE, DL.x_chain, DL.x_kix, DL.x_kin, DL.x_kgt, DL.x_allL, DL.x_anyL, DL.x_istr, DL.x_dgetO, DL.x_dgetS, DL.x_dgetI, DL.x_gdix, DL.x_dset, DL.x_popAt, DL.x_insert, DL.ty_dct, DL.x_getS1, DL.x_getI1, DL.x_getS2, DL.x_getI2, DL.x_pnil, DL.x_pcons, DL.x_disM, DL.x_dis0M, DL.x_listM, DL.x_listMT, DL.x_gst, DL.x_mulS, DL.x_mulL, DL.x_dict, DL.onM_md, DL.onS_str, DL.kfind_nil, DL.kfind_cons, DL.lit_beq, DL.x_iseq, DL.onIt_lst, DL.onIt_tup, DL.sl_obj, DL.x_rg1, DL.valD_nil, DL.valD_cons, DL.key_rr, DL.key_ll, DL.key_lr, DL.key_rl, String.reduceBEq, Option.isSome_some, Option.isSome_none, Option.getD_some, Option.getD_none, Bool.true_and, Bool.and_true, Bool.false_and, Bool.and_false, Bool.or_false, Bool.false_or, Bool.or_true, Bool.true_or, beq_self_eq_true, DL.x_addBb, DL.x_addBib, DL.x_addBi, DL.x_addBs, DL.x_addBt, DL.x_addBl, DL.x_subBb, DL.x_subBib, DL.x_subBi, DL.x_mulBb, DL.x_mulBi, DL.x_strI, DL.x_strS, DL.x_strB, DL.x_up, DL.x_eqT, DL.x_eqL, DL.x_inDS, DL.x_inDI, DL.dec_cons, DL.x_nox, DL.x_raise0, DL.x_raise1, DL.x_try, DL.x_isX, DL.x_xf, DL.onMi_mi, DL.onSm_some, DL.lk_cons, DL.lk_nil, DL.put_nil, DL.put_cons, DL.x_fld, DL.x_fldO, DL.x_sfld, DL.x_stO, DL.x_aug, DL.x_augO, DL.x_methC, DL.x_methO, DL.x_make, DL.x_del, DL.x_delO, DL.x_isB, DL.x_idxT, DL.x_gtL, DL.x_sortS, DL.x_extO, DL.x_gstM, DL.x_gstA, DL.x_gstT, DL.x_frz, DL.x_frzO, DL.del_put, DL.x_lenO, DL.x_lenOD, DL.x_methN, DL.x_methK, DL.x_gFld, DL.x_asg3, DL.x_intS, DL.x_intAb, DL.x_intAi, DL.x_getO1, DL.x_sortA, DL.x_sortB, DL.x_sortBT, DL.x_listVals, DL.x_callM, DL.x_callL, DL.x_lam, DL.gSel, DL.capsOf, DL.onCp_some, DL.x_kval, DL.isStrD, DL.strIs, Option.map_some, List.all_cons, List.all_nil, List.any_cons, List.any_nil, DL.x_sortTD, DL.x_makeM, DL.x_methL, DL.gKm, DL.x_ifT, DL.x_lenSet, DL.lenB_d, DL.x_extT, DL.x_sortSet, DL.x_updD, DL.x_tupIt, DL.x_tupItO, DL.x_mkV, DL.x_isV, DL.x_isVe, DL.x_fldV, DL.x_fldVe, DL.x_lzip]
  walk_at "go"
  exact q
theorem fields_w {a b c : D} {μ : Mem} {Q : D → Mem → Prop} {E : XD} (q : Q (.lst (List.replicate 13 a ++ [b, c] ++ List.replicate 8 a)) μ) : m__law_fields [.lst (madeD a b c)] μ Q E := by
  simp only [m__law_fields, b__law_fields, DL.x_bnd, DL.x_ret, DL.x_req, DL.x_get, DL.x_opt, DL.x_seq, DL.x_on, DL.x_or, DL.x_ob, DL.x_oc, DL.x_nil, DL.x_rt, DL.x_rtN, DL.x_drop, DL.x_break, DL.x_cont, DL.x_if, DL.x_ift, DL.x_iff, DL.x_set, DL.x_asg, DL.x_par2, DL.x_par3, DL.x_for, DL.x_v0, DL.x_vS, DL.x_c, DL.x_bin, DL.x_un, DL.x_tbin, DL.x_tru, DL.x_trb, DL.x_not, DL.x_tand, DL.x_tor, DL.x_and, DL.x_orE, DL.x_notE, DL.x_ifE, DL.x_tup, DL.x_lst, DL.x_lstM, DL.x_anil, DL.x_acons, DL.x_call, DL.x_callD, DL.x_callK, DL.x_meth, DL.x_sl, DL.x_oN, DL.x_oS, DL.x_gn, DL.x_gt, DL.x_gc, DL.x_g0, DL.x_gi, DL.x_body, DL.x_yes, DL.x_add, DL.x_addS, DL.x_addT, DL.x_addL, DL.x_sub, DL.x_mul, DL.x_div, DL.x_mod, DL.x_pow, DL.x_neg, DL.x_cmp, DL.x_cmpS, DL.x_isN, DL.x_mmL, DL.x_mm2, DL.x_eqS, DL.x_eqI, DL.x_intb, DL.onB_bl, DL.onI_int, DL.onO_nx, DL.onO_rt, DL.onL_ml, DL.addD_ol, DL.isNon_non, DL.isNon_int, DL.isNon_str, DL.isNon_tup, DL.ix_tup, DL.ix_lst, DL.ix_str, DL.ix_obj, DL.atI_0, DL.atI_1, DL.atI_2, DL.atI_3, DL.len_tup, DL.len_lst, DL.len_str, DL.len_obj, DL.ty_obj, DL.ty_str, DL.ty_lst, DL.append_obj, DL.pop_obj, DL.set_obj, DL.ixN_3_2, DL.tuple_obj, DL.tuple_lst, DL.list_tup, DL.list_lst, DL.sl_str, DL.sl_tup, DL.sl_lst, DL.rev_tup, DL.revM_lst, DL.sum_lst, DL.put_same, DL.startD, DL.pick, List.map_cons, List.map_nil, List.replicate, List.cons_append, List.nil_append, List.append_nil, List.length_cons, List.length_nil, List.getElem?_cons_zero, List.getElem?_cons_succ, List.set_cons_zero, List.set_cons_succ, List.filterMap_cons, List.filterMap_nil, Nat.zero_add, Nat.add_zero, Nat.reduceAdd, Nat.reduceSub, true_and, and_true, id_eq, if_true, if_false, Bool.false_eq_true, Bool.not_true, Bool.not_false, DL.x_idx, DL.rev_obj, DL.wipeD, DL.x_addM, DL.x_addMl, DL.x_isi, DL.ty_nonM, DL.ty_blM, DL.ty_intM, DL.ty_strM, DL.ty_tupM, DL.ty_lstM, DL.ty_dctM, DL.kb_non_str, DL.kb_non_int, DL.kb_non_bool, DL.kb_non_tuple, DL.kb_non_list, DL.kb_non_dict, DL.kb_bl_str, DL.kb_bl_int, DL.kb_bl_bool, DL.kb_bl_tuple, DL.kb_bl_list, DL.kb_bl_dict, DL.kb_int_str, DL.kb_int_int, DL.kb_int_bool, DL.kb_int_tuple, DL.kb_int_list, DL.kb_int_dict, DL.kb_str_str, DL.kb_str_int, DL.kb_str_bool, DL.kb_str_tuple, DL.kb_str_list, DL.kb_str_dict, DL.kb_tup_str, DL.kb_tup_int, DL.kb_tup_bool, DL.kb_tup_tuple, DL.kb_tup_list, DL.kb_tup_dict, DL.kb_lst_str, DL.kb_lst_int, DL.kb_lst_bool, DL.kb_lst_tuple, DL.kb_lst_list, DL.kb_lst_dict, DL.kb_dct_str, DL.kb_dct_int, DL.kb_dct_bool, DL.kb_dct_tuple, DL.kb_dct_list, DL.kb_dct_dict, DL.isNon_bl, DL.isNon_lst, DL.isNon_dct, DL.x_tOf, DL.x_tOfE, DL.x_chain, DL.x_kix, DL.x_kin, DL.x_kgt, DL.x_allL, DL.x_anyL, DL.x_istr, DL.x_dgetO, DL.x_dgetS, DL.x_dgetI, DL.x_gdix, DL.x_dset, DL.x_popAt, DL.x_insert, DL.ty_dct, DL.x_getS1, DL.x_getI1, DL.x_getS2, DL.x_getI2, DL.x_pnil, DL.x_pcons, DL.x_disM, DL.x_dis0M, DL.x_listM, DL.x_listMT, DL.x_gst, DL.x_mulS, DL.x_mulL, DL.x_dict, DL.onM_md, DL.onS_str, DL.kfind_nil, DL.kfind_cons, DL.lit_beq, DL.x_iseq, DL.onIt_lst, DL.onIt_tup, DL.sl_obj, DL.x_rg1, DL.valD_nil, DL.valD_cons, DL.key_rr, DL.key_ll, DL.key_lr, DL.key_rl, String.reduceBEq, Option.isSome_some, Option.isSome_none, Option.getD_some, Option.getD_none, Bool.true_and, Bool.and_true, Bool.false_and, Bool.and_false, Bool.or_false, Bool.false_or, Bool.or_true, Bool.true_or, beq_self_eq_true, DL.x_addBb, DL.x_addBib, DL.x_addBi, DL.x_addBs, DL.x_addBt, DL.x_addBl, DL.x_subBb, DL.x_subBib, DL.x_subBi, DL.x_mulBb, DL.x_mulBi, DL.x_strI, DL.x_strS, DL.x_strB, DL.x_up, DL.x_eqT, DL.x_eqL, DL.x_inDS, DL.x_inDI, DL.dec_cons, DL.x_nox, DL.x_raise0, DL.x_raise1, DL.x_try, DL.x_isX, DL.x_xf, DL.onMi_mi, DL.onSm_some, DL.lk_cons, DL.lk_nil, DL.put_nil, DL.put_cons, DL.x_fld, DL.x_fldO, DL.x_sfld, DL.x_stO, DL.x_aug, DL.x_augO, DL.x_methC, DL.x_methO, DL.x_make, DL.x_del, DL.x_delO, DL.x_isB, DL.x_idxT, DL.x_gtL, DL.x_sortS, DL.x_extO, DL.x_gstM, DL.x_gstA, DL.x_gstT, DL.x_frz, DL.x_frzO, DL.del_put, DL.x_lenO, DL.x_lenOD, DL.x_methN, DL.x_methK, DL.x_gFld, DL.x_asg3, DL.x_intS, DL.x_intAb, DL.x_intAi, DL.x_getO1, DL.x_sortA, DL.x_sortB, DL.x_sortBT, DL.x_listVals, DL.x_callM, DL.x_callL, DL.x_lam, DL.gSel, DL.capsOf, DL.onCp_some, DL.x_kval, DL.isStrD, DL.strIs, Option.map_some, List.all_cons, List.all_nil, List.any_cons, List.any_nil, DL.x_sortTD, DL.x_makeM, DL.x_methL, DL.gKm, DL.x_ifT, DL.x_lenSet, DL.lenB_d, DL.x_extT, DL.x_sortSet, DL.x_updD, DL.x_tupIt, DL.x_tupItO, DL.x_mkV, DL.x_isV, DL.x_isVe, DL.x_fldV, DL.x_fldVe, DL.x_lzip, at_10, at_11, at_12, at_13, at_14, at_15, at_16, at_17, at_18, at_19, at_20, at_21, at_22, at_23, at_24, at_25, at_26, at_27, at_7, at_8, at_9, mF_name_NoName, mF_name_Taken, mF_name_NoFit, mF_name_Used, mF_place_NoChange, mF_place_NoRow, mF_deed_NoDeed, mF_row_NoText, mF_base_TooLate, mF_tries_Tired, mF_state_NotNow, mF_until_Over, mF_number_Clash, mF_word_Clash, mF_file_Clash, mF_name_NoColumn, mF_file_NoFile, mF_name_NoTable, mF_number_NoCommit, mF_name_NoTag, mF_name_NoWriter, mF_step_Crash, mF_step_Lost, lk1, lk_number, lk_word, lk_file]
  walk_at "go"
  exact q
end Lk01

namespace Lk01
open PySem PySem.Spec PyProof.Rows L2 DL
variable [CA]

def unD (i : Nat) : List D := [.bl (decide (i < 20)), .bl (decide (20 ≤ i) && decide (i < 26)), .bl (decide (25 < i))]
theorem exp_eq (i : Nat) : (expB i).map D.bl = ((List.range 28).map fun j => D.bl (decide (j = i))) ++ unD i ++ unD i := by
  unfold expB unD
  simp [List.map_append, List.map_map, Function.comp_def]
def eqf (i : Nat) : D → D
  | .int j => .bl (decide (j = (i : Int)))
  | _ => .non
theorem range_int {x : D} {n : Nat} (h : x ∈ rangeL 0 n) : ∃ j : Int, x = .int j := by
  unfold rangeL at h
  obtain ⟨k, _, e⟩ := List.mem_map.mp h
  exact ⟨_, e.symm⟩
theorem eqf_range (i : Nat) : ((rangeL 0 (28 : Int).toNat).filter fun _ => true).map (eqf i) = (List.range 28).map fun j => D.bl (decide (j = i)) := by
  rw [List.filter_eq_self.mpr (fun _ _ => rfl)]
  unfold rangeL
  rw [List.map_map]
  refine List.map_congr_left fun j _ => ?_
  show D.bl (decide ((0 : Int) + (j : Int) = (i : Int))) = _
  congr 1
  exact decide_eq_decide.mpr (by omega)
theorem un1 {i : Nat} (h : (20 : Int) ≤ i) : ([.bl (decide ((i : Int) < 20)), .bl (decide ((i : Int) < 26)), .bl (decide (25 < (i : Int)))] : List D) = unD i := by
  unfold unD
  rw [show decide ((i : Int) < 20) = decide (i < 20) from decide_eq_decide.mpr (by omega), show decide ((i : Int) < 26) = (decide (20 ≤ i) && decide (i < 26)) from by rw [show decide (20 ≤ i) = true from decide_eq_true (by omega), Bool.true_and]; exact decide_eq_decide.mpr (by omega), show decide (25 < (i : Int)) = decide (25 < i) from decide_eq_decide.mpr (by omega)]
theorem un2 {i : Nat} (h : ¬ (20 : Int) ≤ i) : ([.bl (decide ((i : Int) < 20)), .bl false, .bl (decide (25 < (i : Int)))] : List D) = unD i := by
  unfold unD
  rw [show decide ((i : Int) < 20) = decide (i < 20) from decide_eq_decide.mpr (by omega), show decide (20 ≤ i) = false from decide_eq_false (by omega), Bool.false_and, show decide (25 < (i : Int)) = decide (25 < i) from decide_eq_decide.mpr (by omega)]
theorem sx_bools (i : Nat) : Sx 1 3000 (.lst (((List.range 28).map fun j => D.bl (decide (j = i))) ++ unD i ++ unD i)) := by
  refine (Sx.lst (SxL.all (k := 0) (z := 5) (n := 40) (fun d hd => ?_) (by simp [unD]))).mono (Nat.le_refl _) (by decide)
  have : ∃ b, d = .bl b := by
    simp only [List.mem_append, List.mem_map, unD, List.mem_cons, List.not_mem_nil, or_false] at hd
    rcases hd with (⟨j, _, e⟩ | e | e | e) | e | e | e
    · exact ⟨_, e.symm⟩
    all_goals exact ⟨_, e⟩
  obtain ⟨b, rfl⟩ := this
  exact Sx.bl
theorem flat13 {a : D} : (List.replicate (Int.toNat 13) [a]).flatten = List.replicate 13 a := rfl
theorem flat8 {a : D} : (List.replicate (Int.toNat 8) [a]).flatten = List.replicate 8 a := rfl
theorem sx_fields {a b c : D} (ha : Sx 4 20000 a) (hb : Sx 4 20000 b) (hc : Sx 4 20000 c) : Sx 5 600000 (.lst (List.replicate 13 a ++ [b, c] ++ List.replicate 8 a)) := by
  refine (Sx.lst (SxL.all (k := 4) (z := 20000) (n := 23) (fun d hd => ?_) (by simp))).mono (Nat.le_refl _) (by decide)
  simp only [List.mem_append, List.mem_replicate, List.mem_cons, List.not_mem_nil, or_false] at hd
  rcases hd with (⟨_, rfl⟩ | rfl | rfl) | ⟨_, rfl⟩
  · exact ha
  · exact hb
  · exact hc
  · exact ha
theorem right_w {a b c : D} (ha : Sx 4 20000 a) (hb : Sx 4 20000 b) (hc : Sx 4 20000 c) {μ : Mem} {Q : D → Mem → Prop} {E : XD} (q : Q (.bl true) μ) : m__law_right [.lst (madeD a b c), a, b, c] μ Q E := by
  simp only [m__law_right, b__law_right, DL.x_bnd, DL.x_ret, DL.x_req, DL.x_get, DL.x_opt, DL.x_seq, DL.x_on, DL.x_or, DL.x_ob, DL.x_oc, DL.x_nil, DL.x_rt, DL.x_rtN, DL.x_drop, DL.x_break, DL.x_cont, DL.x_if, DL.x_ift, DL.x_iff, DL.x_set, DL.x_asg, DL.x_par2, DL.x_par3, DL.x_for, DL.x_v0, DL.x_vS, DL.x_c, DL.x_bin, DL.x_un, DL.x_tbin, DL.x_tru, DL.x_trb, DL.x_not, DL.x_tand, DL.x_tor, DL.x_and, DL.x_orE, DL.x_notE, DL.x_ifE, DL.x_tup, DL.x_lst, DL.x_lstM, DL.x_anil, DL.x_acons, DL.x_call, DL.x_callD, DL.x_callK, DL.x_meth, DL.x_sl, DL.x_oN, DL.x_oS, DL.x_gn, DL.x_gt, DL.x_gc, DL.x_g0, DL.x_gi, DL.x_body, DL.x_yes, DL.x_add, DL.x_addS, DL.x_addT, DL.x_addL, DL.x_sub, DL.x_mul, DL.x_div, DL.x_mod, DL.x_pow, DL.x_neg, DL.x_cmp, DL.x_cmpS, DL.x_isN, DL.x_mmL, DL.x_mm2, DL.x_eqS, DL.x_eqI, DL.x_intb, DL.onB_bl, DL.onI_int, DL.onO_nx, DL.onO_rt, DL.onL_ml, DL.addD_ol, DL.isNon_non, DL.isNon_int, DL.isNon_str, DL.isNon_tup, DL.ix_tup, DL.ix_lst, DL.ix_str, DL.ix_obj, DL.atI_0, DL.atI_1, DL.atI_2, DL.atI_3, DL.len_tup, DL.len_lst, DL.len_str, DL.len_obj, DL.ty_obj, DL.ty_str, DL.ty_lst, DL.append_obj, DL.pop_obj, DL.set_obj, DL.ixN_3_2, DL.tuple_obj, DL.tuple_lst, DL.list_tup, DL.list_lst, DL.sl_str, DL.sl_tup, DL.sl_lst, DL.rev_tup, DL.revM_lst, DL.sum_lst, DL.put_same, DL.startD, DL.pick, List.map_cons, List.map_nil, List.replicate, List.cons_append, List.nil_append, List.append_nil, List.length_cons, List.length_nil, List.getElem?_cons_zero, List.getElem?_cons_succ, List.set_cons_zero, List.set_cons_succ, List.filterMap_cons, List.filterMap_nil, Nat.zero_add, Nat.add_zero, Nat.reduceAdd, Nat.reduceSub, true_and, and_true, id_eq, if_true, if_false, Bool.false_eq_true, Bool.not_true, Bool.not_false, DL.x_idx, DL.rev_obj, DL.wipeD, DL.x_addM, DL.x_addMl, DL.x_isi, DL.ty_nonM, DL.ty_blM, DL.ty_intM, DL.ty_strM, DL.ty_tupM, DL.ty_lstM, DL.ty_dctM, DL.kb_non_str, DL.kb_non_int, DL.kb_non_bool, DL.kb_non_tuple, DL.kb_non_list, DL.kb_non_dict, DL.kb_bl_str, DL.kb_bl_int, DL.kb_bl_bool, DL.kb_bl_tuple, DL.kb_bl_list, DL.kb_bl_dict, DL.kb_int_str, DL.kb_int_int, DL.kb_int_bool, DL.kb_int_tuple, DL.kb_int_list, DL.kb_int_dict, DL.kb_str_str, DL.kb_str_int, DL.kb_str_bool, DL.kb_str_tuple, DL.kb_str_list, DL.kb_str_dict, DL.kb_tup_str, DL.kb_tup_int, DL.kb_tup_bool, DL.kb_tup_tuple, DL.kb_tup_list, DL.kb_tup_dict, DL.kb_lst_str, DL.kb_lst_int, DL.kb_lst_bool, DL.kb_lst_tuple, DL.kb_lst_list, DL.kb_lst_dict, DL.kb_dct_str, DL.kb_dct_int, DL.kb_dct_bool, DL.kb_dct_tuple, DL.kb_dct_list, DL.kb_dct_dict, DL.isNon_bl, DL.isNon_lst, DL.isNon_dct, DL.x_tOf, DL.x_tOfE, DL.x_chain, DL.x_kix, DL.x_kin, DL.x_kgt, DL.x_allL, DL.x_anyL, DL.x_istr, DL.x_dgetO, DL.x_dgetS, DL.x_dgetI, DL.x_gdix, DL.x_dset, DL.x_popAt, DL.x_insert, DL.ty_dct, DL.x_getS1, DL.x_getI1, DL.x_getS2, DL.x_getI2, DL.x_pnil, DL.x_pcons, DL.x_disM, DL.x_dis0M, DL.x_listM, DL.x_listMT, DL.x_gst, DL.x_mulS, DL.x_mulL, DL.x_dict, DL.onM_md, DL.onS_str, DL.kfind_nil, DL.kfind_cons, DL.lit_beq, DL.x_iseq, DL.onIt_lst, DL.onIt_tup, DL.sl_obj, DL.x_rg1, DL.valD_nil, DL.valD_cons, DL.key_rr, DL.key_ll, DL.key_lr, DL.key_rl, String.reduceBEq, Option.isSome_some, Option.isSome_none, Option.getD_some, Option.getD_none, Bool.true_and, Bool.and_true, Bool.false_and, Bool.and_false, Bool.or_false, Bool.false_or, Bool.or_true, Bool.true_or, beq_self_eq_true, DL.x_addBb, DL.x_addBib, DL.x_addBi, DL.x_addBs, DL.x_addBt, DL.x_addBl, DL.x_subBb, DL.x_subBib, DL.x_subBi, DL.x_mulBb, DL.x_mulBi, DL.x_strI, DL.x_strS, DL.x_strB, DL.x_up, DL.x_eqT, DL.x_eqL, DL.x_inDS, DL.x_inDI, DL.dec_cons, DL.x_nox, DL.x_raise0, DL.x_raise1, DL.x_try, DL.x_isX, DL.x_xf, DL.onMi_mi, DL.onSm_some, DL.lk_cons, DL.lk_nil, DL.put_nil, DL.put_cons, DL.x_fld, DL.x_fldO, DL.x_sfld, DL.x_stO, DL.x_aug, DL.x_augO, DL.x_methC, DL.x_methO, DL.x_make, DL.x_del, DL.x_delO, DL.x_isB, DL.x_idxT, DL.x_gtL, DL.x_sortS, DL.x_extO, DL.x_gstM, DL.x_gstA, DL.x_gstT, DL.x_frz, DL.x_frzO, DL.del_put, DL.x_lenO, DL.x_lenOD, DL.x_methN, DL.x_methK, DL.x_gFld, DL.x_asg3, DL.x_intS, DL.x_intAb, DL.x_intAi, DL.x_getO1, DL.x_sortA, DL.x_sortB, DL.x_sortBT, DL.x_listVals, DL.x_callM, DL.x_callL, DL.x_lam, DL.gSel, DL.capsOf, DL.onCp_some, DL.x_kval, DL.isStrD, DL.strIs, Option.map_some, List.all_cons, List.all_nil, List.any_cons, List.any_nil, DL.x_sortTD, DL.x_makeM, DL.x_methL, DL.gKm, DL.x_ifT, DL.x_lenSet, DL.lenB_d, DL.x_extT, DL.x_sortSet, DL.x_updD, DL.x_tupIt, DL.x_tupItO, DL.x_mkV, DL.x_isV, DL.x_isVe, DL.x_fldV, DL.x_fldVe, DL.x_lzip]
  walk_at "gn"
  refine for_w (fun i ρ μ' => ∃ o4 o5 o6, ρ = [some (.lst (madeD a b c)), some a, some b, some c, o4, o5, o6] ∧ μ' = μ) (rangeL 0 (28 : Int).toNat) ?_ ?_ _ _ ⟨none, none, none, rfl, rfl⟩
  · intro i x ρ μ' R hx hI hnx hrt
    obtain ⟨o4, o5, o6, rfl, rfl⟩ := hI
    have hi : i < 28 := by
      have := (List.getElem?_eq_some_iff.mp hx).1
      rwa [rangeL_len] at this
    have hx2 := rangeL_get (lo := 0) (n := (28 : Int).toNat) (i := i) hi
    rw [hx2, Int.zero_add] at hx
    cases hx
    obtain ⟨C, n, ns, ds, e, hm, hcl⟩ := made_at (a := a) (b := b) (c := c) i hi
    refine ⟨trivial, ?_⟩
    walk_at "gn"
    split
    · rename_i h20
      rw [un1 (of_decide_eq_true h20)]
      refine ⟨by decide, ?_⟩
      simp only [DL.x_on]
      walk_at "gn"
      rw [atI_n (by rw [made_len]; exact hi), e]
      walk_at "gn"
      refine classes_w hm ?_
      rw [hcl, exp_eq]
      obtain ⟨w, hw⟩ := (sx_bools i).repr rfl (by decide) (by decide)
      refine hw _ _ _ ?_
      walk_at "gn"
      refine elc_nm (fun _ => true) (eqf i) (fun R r => by walk_at "go"; exact r) (by rw [rangeL_len]; decide) (fun _ _ _ => trivial) (fun x hx p acc hp R r => r) (fun x hx _ p acc hp R r => ?_) ?_
      · obtain ⟨j, rfl⟩ := range_int hx
        walk_at "go"
        exact r
      rw [eqf_range]
      walk_at "gn"
      refine ⟨by rw [sz_eq]; simp [unD], by rw [sz_eq]; simp [unD], ?_⟩
      refine hw _ _ _ ?_
      walk_at "gn"
      exact hnx _ _ ⟨_, _, _, rfl, rfl⟩
    · rename_i h20
      rw [un2 (fun z => h20 (decide_eq_true z))]
      refine ⟨by decide, ?_⟩
      simp only [DL.x_on]
      walk_at "gn"
      rw [atI_n (by rw [made_len]; exact hi), e]
      walk_at "gn"
      refine classes_w hm ?_
      rw [hcl, exp_eq]
      obtain ⟨w, hw⟩ := (sx_bools i).repr rfl (by decide) (by decide)
      refine hw _ _ _ ?_
      walk_at "gn"
      refine elc_nm (fun _ => true) (eqf i) (fun R r => by walk_at "go"; exact r) (by rw [rangeL_len]; decide) (fun _ _ _ => trivial) (fun x hx p acc hp R r => r) (fun x hx _ p acc hp R r => ?_) ?_
      · obtain ⟨j, rfl⟩ := range_int hx
        walk_at "go"
        exact r
      rw [eqf_range]
      walk_at "gn"
      refine ⟨by rw [sz_eq]; simp [unD], by rw [sz_eq]; simp [unD], ?_⟩
      refine hw _ _ _ ?_
      walk_at "gn"
      exact hnx _ _ ⟨_, _, _, rfl, rfl⟩
  · intro ρ μ' hI
    obtain ⟨o4, o5, o6, rfl, rfl⟩ := hI
    refine ⟨trivial, ?_⟩
    simp only [DL.x_on]
    walk_at "gn"
    rw [made_len]
    simp only [show decide (((28 : Nat) : Int) = 28) = true from rfl, if_true]
    refine fields_w ?_
    obtain ⟨w, hw⟩ := (sx_fields ha hb hc).repr rfl (by decide) (by decide)
    refine hw _ _ _ ?_
    rw [flat13, flat8]
    refine ⟨by decide, ⟨by decide, by decide, by decide⟩, by decide, by rw [sz_eq]; simp, by decide, ⟨by decide, by decide, by decide⟩, by rw [sz_eq]; simp, ?_⟩
    refine hw _ _ _ ?_
    walk_at "gn"
    exact q
/-- what is kept of a turn -/
structure Tr where
  a : D
  b : D
  c : D
def Tr.d (t : Tr) : D := .tup [.lst (madeD t.a t.b t.c), t.a, t.b, t.c]
structure Tr.ok (t : Tr) : Prop where
  ha : Sx 4 20000 t.a
  hb : Sx 4 20000 t.b
  hc : Sx 4 20000 t.c
/-- [te for i, j, k, l in items if tt], where no item passes -/
theorem elc_q0 {mi : Rho → W ItD} {i j k l : Nat} {tt : Rho → W Bool} {te : Rho → W D} {vs : List Nat} {ρ : Rho} {μ : Mem} {Q : D → Mem → Prop} {E : XD} {items : List D} {chk : Mem → Prop}
    (hmi : ∀ R : ItD → Mem → Prop, R ⟨items, chk⟩ μ → mi ρ μ R E) (hz : items.length < sizeLine) (hc : ∀ p acc, μ p = none → chk (put μ p (.ml acc)))
    (h2 : ∀ x ∈ items, ∃ a b c d, x = .tup [a, b, c, d])
    (ht : ∀ a b c d, .tup [a, b, c, d] ∈ items → ∀ p acc, μ p = none → ∀ R : Bool → Mem → Prop, R false (put μ p (.ml acc)) → tt (((((wipeD ρ vs).set i (some a)).set j (some b)).set k (some c)).set l (some d)) (put μ p (.ml acc)) R E)
    (q : Q (.lst []) μ) : eLc mi (gTp 4 (gsCons (gNm i) (gsCons (gNm j) (gsCons (gNm k) (gsCons (gNm l) gsNil))))) tt te vs ρ μ Q E := by
  unfold eLc
  refine hmi _ fun p hp => ?_
  refine lc_w (fun _ => false) (fun d => d) hp Q items [] (by simpa using hz) (fun acc => hc p acc hp) (fun x hx acc R hR => ?_) (by rw [List.nil_append, List.filter_eq_nil_iff.mpr fun _ _ => by decide]; exact q)
  obtain ⟨a, b, c, d, rfl⟩ := h2 x hx
  exact ⟨rfl, hR _ (fun R' r => ht a b c d hx p acc hp R' r) (fun e R' => nomatch e)⟩
theorem law_true (ns : List Int) (μ : Mem) (hl : ns.length ≤ 63) (hμ : ∀ b, μ b = none) : m_law [.lst (ns.map .int)] μ (fun d _ => d = .bl true) (fun _ _ => False) := by
  simp only [m_law, b_law]
  walk_at "gn"
  refine deck_w hl hμ fun a c μ1 hd => ?_
  walk_at "gn"
  simp only [DL.x_on]
  walk_at "gn"
  simp only [DL.x_on]
  walk_at "gn"
  refine for_w (fun i ρ μ' => ∃ ks o3 o4 o5 o6 o7 o8, ρ = [some (.lst (ns.map .int)), some (.obj a), some (.lst (ks.map Tr.d)), o3, o4, o5, o6, o7, o8] ∧ ks.length ≤ 2 * i ∧ (∀ k ∈ ks, Tr.ok k) ∧ Dk shD μ' a c (78 * i)) (rangeL 0 (2 : Int).toNat) ?_ ?_ _ _ ⟨[], none, none, none, none, none, none, rfl, Nat.zero_le _, (fun _ h => nomatch h), hd⟩
  · intro i x ρ μ' R hx hI hnx hrt
    obtain ⟨ks, o3, o4, o5, o6, o7, o8, rfl, hlk, hks, hd'⟩ := hI
    have hi : i < 2 := by
      have := (List.getElem?_eq_some_iff.mp hx).1
      rwa [rangeL_len] at this
    have hx2 := rangeL_get (lo := 0) (n := (2 : Int).toNat) (i := i) hi
    rw [hx2, Int.zero_add] at hx
    cases hx
    refine ⟨trivial, ?_⟩
    walk_at "gn"
    rw [x_lcI]
    walk_at "gn"
    refine elc_gen 26 (fun _ d => Sx 4 20000 d) (DF.start hd') (by rw [rangeL_len]; decide) (by rw [rangeL_len]; show 78 * (i : Int) + 26 * ((3 : Nat) : Int) ≤ _; omega) (by decide) (fun x hx μ1 μ' t' R hd ht' hR => ?_) fun ds μ2 hl hP h2 => ?_
    · walk_at "go"
      exact any_g _ _ _ _ _ hd ht' fun d μ'' hs h => hR d μ'' hs h
    rw [rangeL_len] at hl h2
    have hl3 : ds.length = 3 := hl
    have h2 : DF shD μ' a c (78 * (i : Int) + 78) μ2 := h2
    match ds, hl3 with
    | [x, y, z], _ =>
    obtain ⟨_, _, hx⟩ := hP x (by simp)
    obtain ⟨_, _, hy⟩ := hP y (by simp)
    obtain ⟨_, _, hz⟩ := hP z (by simp)
    walk_at "gn"
    simp only [DL.x_on]
    walk_at "gn"
    refine placed_w ?_
    walk_at "gn"
    refine named_w ?_
    walk_at "gn"
    refine hnx _ _ ⟨ks ++ [⟨x, y, z⟩, ⟨x, y, z⟩], _, _, _, _, _, _, by rw [List.map_append]; rfl, by rw [List.length_append]; show ks.length + 2 ≤ _; omega, fun k hk => ?_, h2.dk.mono (by omega)⟩
    rcases List.mem_append.mp hk with hk | hk
    · exact hks k hk
    · simp only [List.mem_cons, List.not_mem_nil, or_false] at hk
      rcases hk with rfl | rfl <;> exact ⟨hx, hy, hz⟩
  · intro ρ μ' hI
    obtain ⟨ks, o3, o4, o5, o6, o7, o8, rfl, hlk, hks, hd'⟩ := hI
    refine ⟨trivial, ?_⟩
    simp only [DL.x_on]
    walk_at "gn"
    refine elc_q0 (items := ks.map Tr.d) (chk := fun _ => True) (fun R r => by walk_at "go"; exact r) (by rw [List.length_map, sz_eq]; have : (rangeL 0 (2 : Int).toNat).length = 2 := rangeL_len _ _; omega) (fun _ _ _ => trivial) (fun x hx => ?_) (fun x y z u hx p acc hp R r => ?_) ?_
    · obtain ⟨k, _, rfl⟩ := List.mem_map.mp hx
      exact ⟨_, _, _, _, rfl⟩
    · obtain ⟨k, hk, e⟩ := List.mem_map.mp hx
      unfold Tr.d at e
      cases e
      have ok := hks k hk
      walk_at "gn"
      refine right_w ok.ha ok.hb ok.hc ?_
      walk_at "gn"
      exact r
    walk_at "gn"
    rfl
end Lk01

open PySem PySem.W PyProof.Rows
set_option maxHeartbeats 0 in
theorem PySem.Challenge.cw_stillfiles_k01_refusals_made_holds : PySem.Challenge.rw_stillfiles_k01_refusals_made.Holds := by
  w_on; o_law; k_head; (case hw => w_witness2)
  k_fill
  refine DL.walkD (l := PySem.Challenge.rw_stillfiles_k01_refusals_made) (n := 63) (k := 5) (x := "_law_script") (m := Lk01.mAll) rfl (by decide) rfl ⟨rfl, by decide, by decide⟩ (fun w h Y => PySem.W.kIn_of Y) ?F (fun ns μ hl h0 ca => @Lk01.law_true ca ns μ hl h0)
  case F =>
    intro w mg fa h KX G hmg
    refine' Lk01.all_mk KX G hmg ?u0 ?u1 ?u2 ?u3 ?u4 ?u5 ?u6 ?u7 ?u8 ?u9 ?u10 ?u11 ?u12 ?u13 ?u14 ?u15 ?u16 ?u17 ?u18 ?u19 ?u20 ?u21 ?u22 ?u23 ?u24 ?u25 ?u26 ?u27 ?u28 ?u29 ?u30 ?hr_StillError ?hga_StillError ?hfc_StillError ?hr_Missing ?hga_Missing ?hfc_Missing ?hr_Trouble ?hga_Trouble ?hfc_Trouble ?hnf_Used_name ?hnf_NoFit_name ?hnf_Taken_name ?hnf_NoName_name ?hnf_Over_until ?hnf_NotNow_state ?hnf_Tired_tries ?hnf_TooLate_base ?hnf_NoText_row ?hnf_NoDeed_deed ?hnf_NoRow_place ?hnf_NoChange_place ?hnf_NoWriter_name ?hnf_NoTag_name ?hnf_NoCommit_number ?hnf_NoTable_name ?hnf_NoFile_file ?hnf_NoColumn_name ?hnf_Clash_number ?hnf_Clash_word ?hnf_Clash_file ?hnf_Lost_step ?hnf_Crash_step ?hx_NoLine ?hk_NoLine ?hx_Busy ?hk_Busy ?hx_Last ?hk_Last ?hx_Full ?hk_Full ?hx_NoRule ?hk_NoRule ?hx_NoCond ?hk_NoCond ?hx_NoShape ?hk_NoShape ?hi_Used ?ho_Used ?hti_Used ?hi_NoFit ?ho_NoFit ?hti_NoFit ?hi_Taken ?ho_Taken ?hti_Taken ?hi_NoName ?ho_NoName ?hti_NoName ?hi_Over ?ho_Over ?hti_Over ?hi_NotNow ?ho_NotNow ?hti_NotNow ?hi_Tired ?ho_Tired ?hti_Tired ?hi_TooLate ?ho_TooLate ?hti_TooLate ?hi_NoText ?ho_NoText ?hti_NoText ?hi_NoDeed ?ho_NoDeed ?hti_NoDeed ?hi_NoRow ?ho_NoRow ?hti_NoRow ?hi_NoChange ?ho_NoChange ?hti_NoChange ?hi_NoWriter ?ho_NoWriter ?hti_NoWriter ?hi_NoTag ?ho_NoTag ?hti_NoTag ?hi_NoCommit ?ho_NoCommit ?hti_NoCommit ?hi_NoTable ?ho_NoTable ?hti_NoTable ?hi_NoFile ?ho_NoFile ?hti_NoFile ?hi_NoColumn ?ho_NoColumn ?hti_NoColumn ?hi_Clash ?ho_Clash ?hti_Clash ?hi_Lost ?ho_Lost ?hti_Lost ?hi_Crash ?ho_Crash ?hti_Crash ?hvx ?hvq_Full ?hvq_NoRule ?hvq_NoCond ?hvq_NoShape ?hvq_NoName ?hvq_NoLine ?hvq_Busy ?hvq_Last ?hvq_NoChange ?hvq_Used ?hvq_NoFit ?hvq_Taken ?hvq_TooLate ?hvq_NoText ?hvq_NoDeed ?hvq_NoRow ?hvq_Clash ?hvq_Over ?hvq_NotNow ?hvq_Tired ?hvq_NoCommit ?hvq_NoTable ?hvq_NoFile ?hvq_NoColumn ?hvq_Lost ?hvq_Crash ?hvq_NoWriter ?hvq_NoTag ?hvq_Trouble ?hvq_Missing ?hvq_StillError ?hvq_ArithmeticError ?hvq_KeyError ?hvq_ValueError ?hvf_deed ?hvf_place ?hvf_name ?hvf_until ?hvf_state ?hvf_tries ?hvf_base ?hvf_row ?hvf_file ?hvf_word ?hvf_number ?hvf_step ?l9 ?c9 ?k9 ?l10 ?c10 ?k10 ?l11 ?c11 ?k11 ?l12 ?c12 ?k12 ?l13 ?c13 ?k13 ?l14 ?c14 ?k14 ?l15 ?c15 ?k15 ?l16 ?c16 ?k16 ?l17 ?c17 ?k17 ?l18 ?c18 ?k18 ?l19 ?c19 ?k19 ?l20 ?c20 ?k20 ?l21 ?c21 ?k21 ?l22 ?c22 ?k22 ?l23 ?c23 ?k23 ?l24 ?c24 ?k24 ?l25 ?c25 ?k25 ?l26 ?c26 ?k26 ?l27 ?c27 ?k27 ?l28 ?c28 ?k28 ?l29 ?c29 ?k29 ?a0 ?l0 ?c0 ?k0 ?a1 ?l1 ?c1 ?k1 ?a2 ?l2 ?c2 ?k2 ?a3 ?l3 ?c3 ?k3 ?a4 ?l4 ?c4 ?k4 ?a5 ?l5 ?c5 ?k5 ?a6 ?l6 ?c6 ?k6 ?a7 ?l7 ?c7 ?k7 ?a8 ?l8 ?c8 ?k8 ?z0 ?z1 ?z2 ?z3 ?z4 ?z5 ?z6 ?z7 ?z8 ?z9 ?z10 ?z11 ?z12
    (case u0 => k_is); (case u1 => k_is); (case u2 => k_is); (case u3 => k_is); (case u4 => k_is); (case u5 => k_is); (case u6 => k_is); (case u7 => k_is); (case u8 => k_is); (case u9 => k_is); (case u10 => k_is); (case u11 => k_is); (case u12 => k_is); (case u13 => k_is); (case u14 => k_is); (case u15 => k_is); (case u16 => k_is); (case u17 => k_is); (case u18 => k_is); (case u19 => k_is); (case u20 => k_is); (case u21 => k_is); (case u22 => k_is); (case u23 => k_is); (case u24 => k_is); (case u25 => k_is); (case u26 => k_is); (case u27 => k_is); (case u28 => k_is); (case u29 => k_is); (case u30 => k_is); (case hr_StillError => first | k_is | k_exc | kernel_rfl); (case hga_StillError => first | k_is | k_exc | kernel_rfl); (case hfc_StillError => first | k_is | k_exc | kernel_rfl); (case hr_Missing => first | k_is | k_exc | kernel_rfl); (case hga_Missing => first | k_is | k_exc | kernel_rfl); (case hfc_Missing => first | k_is | k_exc | kernel_rfl); (case hr_Trouble => first | k_is | k_exc | kernel_rfl); (case hga_Trouble => first | k_is | k_exc | kernel_rfl); (case hfc_Trouble => first | k_is | k_exc | kernel_rfl); (case hnf_Used_name => first | k_is | k_exc | kernel_rfl); (case hnf_NoFit_name => first | k_is | k_exc | kernel_rfl); (case hnf_Taken_name => first | k_is | k_exc | kernel_rfl); (case hnf_NoName_name => first | k_is | k_exc | kernel_rfl); (case hnf_Over_until => first | k_is | k_exc | kernel_rfl); (case hnf_NotNow_state => first | k_is | k_exc | kernel_rfl); (case hnf_Tired_tries => first | k_is | k_exc | kernel_rfl); (case hnf_TooLate_base => first | k_is | k_exc | kernel_rfl); (case hnf_NoText_row => first | k_is | k_exc | kernel_rfl); (case hnf_NoDeed_deed => first | k_is | k_exc | kernel_rfl); (case hnf_NoRow_place => first | k_is | k_exc | kernel_rfl); (case hnf_NoChange_place => first | k_is | k_exc | kernel_rfl); (case hnf_NoWriter_name => first | k_is | k_exc | kernel_rfl); (case hnf_NoTag_name => first | k_is | k_exc | kernel_rfl); (case hnf_NoCommit_number => first | k_is | k_exc | kernel_rfl); (case hnf_NoTable_name => first | k_is | k_exc | kernel_rfl); (case hnf_NoFile_file => first | k_is | k_exc | kernel_rfl); (case hnf_NoColumn_name => first | k_is | k_exc | kernel_rfl); (case hnf_Clash_number => first | k_is | k_exc | kernel_rfl); (case hnf_Clash_word => first | k_is | k_exc | kernel_rfl); (case hnf_Clash_file => first | k_is | k_exc | kernel_rfl); (case hnf_Lost_step => first | k_is | k_exc | kernel_rfl); (case hnf_Crash_step => first | k_is | k_exc | kernel_rfl); (case hx_NoLine => first | k_is | k_exc | kernel_rfl); (case hk_NoLine => first | k_is | k_exc | kernel_rfl); (case hx_Busy => first | k_is | k_exc | kernel_rfl); (case hk_Busy => first | k_is | k_exc | kernel_rfl); (case hx_Last => first | k_is | k_exc | kernel_rfl); (case hk_Last => first | k_is | k_exc | kernel_rfl); (case hx_Full => first | k_is | k_exc | kernel_rfl); (case hk_Full => first | k_is | k_exc | kernel_rfl); (case hx_NoRule => first | k_is | k_exc | kernel_rfl); (case hk_NoRule => first | k_is | k_exc | kernel_rfl); (case hx_NoCond => first | k_is | k_exc | kernel_rfl); (case hk_NoCond => first | k_is | k_exc | kernel_rfl); (case hx_NoShape => first | k_is | k_exc | kernel_rfl); (case hk_NoShape => first | k_is | k_exc | kernel_rfl); (case hi_Used => first | k_is | k_exc | kernel_rfl); (case ho_Used => first | k_is | k_exc | kernel_rfl); (case hti_Used => first | k_is | k_exc | kernel_rfl); (case hi_NoFit => first | k_is | k_exc | kernel_rfl); (case ho_NoFit => first | k_is | k_exc | kernel_rfl); (case hti_NoFit => first | k_is | k_exc | kernel_rfl); (case hi_Taken => first | k_is | k_exc | kernel_rfl); (case ho_Taken => first | k_is | k_exc | kernel_rfl); (case hti_Taken => first | k_is | k_exc | kernel_rfl); (case hi_NoName => first | k_is | k_exc | kernel_rfl); (case ho_NoName => first | k_is | k_exc | kernel_rfl); (case hti_NoName => first | k_is | k_exc | kernel_rfl); (case hi_Over => first | k_is | k_exc | kernel_rfl); (case ho_Over => first | k_is | k_exc | kernel_rfl); (case hti_Over => first | k_is | k_exc | kernel_rfl); (case hi_NotNow => first | k_is | k_exc | kernel_rfl); (case ho_NotNow => first | k_is | k_exc | kernel_rfl); (case hti_NotNow => first | k_is | k_exc | kernel_rfl); (case hi_Tired => first | k_is | k_exc | kernel_rfl); (case ho_Tired => first | k_is | k_exc | kernel_rfl); (case hti_Tired => first | k_is | k_exc | kernel_rfl); (case hi_TooLate => first | k_is | k_exc | kernel_rfl); (case ho_TooLate => first | k_is | k_exc | kernel_rfl); (case hti_TooLate => first | k_is | k_exc | kernel_rfl); (case hi_NoText => first | k_is | k_exc | kernel_rfl); (case ho_NoText => first | k_is | k_exc | kernel_rfl); (case hti_NoText => first | k_is | k_exc | kernel_rfl); (case hi_NoDeed => first | k_is | k_exc | kernel_rfl); (case ho_NoDeed => first | k_is | k_exc | kernel_rfl); (case hti_NoDeed => first | k_is | k_exc | kernel_rfl); (case hi_NoRow => first | k_is | k_exc | kernel_rfl); (case ho_NoRow => first | k_is | k_exc | kernel_rfl); (case hti_NoRow => first | k_is | k_exc | kernel_rfl); (case hi_NoChange => first | k_is | k_exc | kernel_rfl); (case ho_NoChange => first | k_is | k_exc | kernel_rfl); (case hti_NoChange => first | k_is | k_exc | kernel_rfl); (case hi_NoWriter => first | k_is | k_exc | kernel_rfl); (case ho_NoWriter => first | k_is | k_exc | kernel_rfl); (case hti_NoWriter => first | k_is | k_exc | kernel_rfl); (case hi_NoTag => first | k_is | k_exc | kernel_rfl); (case ho_NoTag => first | k_is | k_exc | kernel_rfl); (case hti_NoTag => first | k_is | k_exc | kernel_rfl); (case hi_NoCommit => first | k_is | k_exc | kernel_rfl); (case ho_NoCommit => first | k_is | k_exc | kernel_rfl); (case hti_NoCommit => first | k_is | k_exc | kernel_rfl); (case hi_NoTable => first | k_is | k_exc | kernel_rfl); (case ho_NoTable => first | k_is | k_exc | kernel_rfl); (case hti_NoTable => first | k_is | k_exc | kernel_rfl); (case hi_NoFile => first | k_is | k_exc | kernel_rfl); (case ho_NoFile => first | k_is | k_exc | kernel_rfl); (case hti_NoFile => first | k_is | k_exc | kernel_rfl); (case hi_NoColumn => first | k_is | k_exc | kernel_rfl); (case ho_NoColumn => first | k_is | k_exc | kernel_rfl); (case hti_NoColumn => first | k_is | k_exc | kernel_rfl); (case hi_Clash => first | k_is | k_exc | kernel_rfl); (case ho_Clash => first | k_is | k_exc | kernel_rfl); (case hti_Clash => first | k_is | k_exc | kernel_rfl); (case hi_Lost => first | k_is | k_exc | kernel_rfl); (case ho_Lost => first | k_is | k_exc | kernel_rfl); (case hti_Lost => first | k_is | k_exc | kernel_rfl); (case hi_Crash => first | k_is | k_exc | kernel_rfl); (case ho_Crash => first | k_is | k_exc | kernel_rfl); (case hti_Crash => first | k_is | k_exc | kernel_rfl); (case hvx => first | k_is | k_exc | kernel_rfl); (case hvq_Full => first | k_is | k_exc | kernel_rfl); (case hvq_NoRule => first | k_is | k_exc | kernel_rfl); (case hvq_NoCond => first | k_is | k_exc | kernel_rfl); (case hvq_NoShape => first | k_is | k_exc | kernel_rfl); (case hvq_NoName => first | k_is | k_exc | kernel_rfl); (case hvq_NoLine => first | k_is | k_exc | kernel_rfl); (case hvq_Busy => first | k_is | k_exc | kernel_rfl); (case hvq_Last => first | k_is | k_exc | kernel_rfl); (case hvq_NoChange => first | k_is | k_exc | kernel_rfl); (case hvq_Used => first | k_is | k_exc | kernel_rfl); (case hvq_NoFit => first | k_is | k_exc | kernel_rfl); (case hvq_Taken => first | k_is | k_exc | kernel_rfl); (case hvq_TooLate => first | k_is | k_exc | kernel_rfl); (case hvq_NoText => first | k_is | k_exc | kernel_rfl); (case hvq_NoDeed => first | k_is | k_exc | kernel_rfl); (case hvq_NoRow => first | k_is | k_exc | kernel_rfl); (case hvq_Clash => first | k_is | k_exc | kernel_rfl); (case hvq_Over => first | k_is | k_exc | kernel_rfl); (case hvq_NotNow => first | k_is | k_exc | kernel_rfl); (case hvq_Tired => first | k_is | k_exc | kernel_rfl); (case hvq_NoCommit => first | k_is | k_exc | kernel_rfl); (case hvq_NoTable => first | k_is | k_exc | kernel_rfl); (case hvq_NoFile => first | k_is | k_exc | kernel_rfl); (case hvq_NoColumn => first | k_is | k_exc | kernel_rfl); (case hvq_Lost => first | k_is | k_exc | kernel_rfl); (case hvq_Crash => first | k_is | k_exc | kernel_rfl); (case hvq_NoWriter => first | k_is | k_exc | kernel_rfl); (case hvq_NoTag => first | k_is | k_exc | kernel_rfl); (case hvq_Trouble => first | k_is | k_exc | kernel_rfl); (case hvq_Missing => first | k_is | k_exc | kernel_rfl); (case hvq_StillError => first | k_is | k_exc | kernel_rfl); (case hvq_ArithmeticError => first | k_is | k_exc | kernel_rfl); (case hvq_KeyError => first | k_is | k_exc | kernel_rfl); (case hvq_ValueError => first | k_is | k_exc | kernel_rfl); (case hvf_deed => first | k_is | k_exc | kernel_rfl); (case hvf_place => first | k_is | k_exc | kernel_rfl); (case hvf_name => first | k_is | k_exc | kernel_rfl); (case hvf_until => first | k_is | k_exc | kernel_rfl); (case hvf_state => first | k_is | k_exc | kernel_rfl); (case hvf_tries => first | k_is | k_exc | kernel_rfl); (case hvf_base => first | k_is | k_exc | kernel_rfl); (case hvf_row => first | k_is | k_exc | kernel_rfl); (case hvf_file => first | k_is | k_exc | kernel_rfl); (case hvf_word => first | k_is | k_exc | kernel_rfl); (case hvf_number => first | k_is | k_exc | kernel_rfl); (case hvf_step => first | k_is | k_exc | kernel_rfl); (case l9 => k_is); (case c9 => k_is); (case k9 => k_is); (case l10 => k_is); (case c10 => k_is); (case k10 => k_is); (case l11 => k_is); (case c11 => k_is); (case k11 => k_is); (case l12 => k_is); (case c12 => k_is); (case k12 => k_is); (case l13 => k_is); (case c13 => k_is); (case k13 => k_is); (case l14 => k_is); (case c14 => k_is); (case k14 => k_is); (case l15 => k_is); (case c15 => k_is); (case k15 => k_is); (case l16 => k_is); (case c16 => k_is); (case k16 => k_is); (case l17 => k_is); (case c17 => k_is); (case k17 => k_is); (case l18 => k_is); (case c18 => k_is); (case k18 => k_is); (case l19 => k_is); (case c19 => k_is); (case k19 => k_is); (case l20 => k_is); (case c20 => k_is); (case k20 => k_is); (case l21 => k_is); (case c21 => k_is); (case k21 => k_is); (case l22 => k_is); (case c22 => k_is); (case k22 => k_is); (case l23 => k_is); (case c23 => k_is); (case k23 => k_is); (case l24 => k_is); (case c24 => k_is); (case k24 => k_is); (case l25 => k_is); (case c25 => k_is); (case k25 => k_is); (case l26 => k_is); (case c26 => k_is); (case k26 => k_is); (case l27 => k_is); (case c27 => k_is); (case k27 => k_is); (case l28 => k_is); (case c28 => k_is); (case k28 => k_is); (case l29 => k_is); (case c29 => k_is); (case k29 => k_is); (case a0 => k_is); (case l0 => k_is); (case c0 => k_is); (case k0 => k_is); (case a1 => k_is); (case l1 => k_is); (case c1 => k_is); (case k1 => k_is); (case a2 => k_is); (case l2 => k_is); (case c2 => k_is); (case k2 => k_is); (case a3 => k_is); (case l3 => k_is); (case c3 => k_is); (case k3 => k_is); (case a4 => k_is); (case l4 => k_is); (case c4 => k_is); (case k4 => k_is); (case a5 => k_is); (case l5 => k_is); (case c5 => k_is); (case k5 => k_is); (case a6 => k_is); (case l6 => k_is); (case c6 => k_is); (case k6 => k_is); (case a7 => k_is); (case l7 => k_is); (case c7 => k_is); (case k7 => k_is); (case a8 => k_is); (case l8 => k_is); (case c8 => k_is); (case k8 => k_is); (case z0 => k_is); (case z1 => k_is); (case z2 => k_is); (case z3 => k_is); (case z4 => k_is); (case z5 => k_is); (case z6 => k_is); (case z7 => k_is); (case z8 => k_is); (case z9 => k_is); (case z10 => k_is); (case z11 => k_is); (case z12 => k_is)
