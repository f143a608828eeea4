import PyProof.Rows.All
import Wide.All
import OpenK.AllK
import Wide.FinOn
import Lean
import PySem.Challenge.RW_sj0097_01
set_option Elab.async false
set_option rowWalk.seconds 0
-- part HK
section
namespace Mine
theorem freshHK : True := by
  w_top off
  trivial
end Mine
open PySem PySem.W PyProof.Rows
set_option maxRecDepth 100000
set_option maxHeartbeats 8000000
namespace Mine
def defAtPath : List Stmt → List Nat → Option DefRec
  | b, [i] => match b[i]? with
    | some (.FunctionDef n a body _ _ _ sc _ _ pos) => some ⟨n, a, body, sc, pos⟩
    | _ => none
  | b, i :: r => match b[i]? with
    | some (.ClassDef _ _ _ body _ _ _ _ _ _ _) => defAtPath body r
    | _ => none
  | _, [] => none
def theAt (p : List Nat) : DefRec := match defAtPath Challenge.pw_sj0097_01.main.body p with
  | some d => d
  | none => ⟨Str.ofString "", ⟨[], [], none, [], [], none, []⟩, [], ⟨.function, [], false, false, []⟩, ⟨0, 0, 0, 0⟩⟩
def stmtsAt (is : List Nat) : List Stmt := is.filterMap fun i => Challenge.pw_sj0097_01.main.body[i]?
noncomputable def fA30 : Arguments := by
  refine' (?f : (x : Arguments) → (theAt [1, 0]).params = x → Arguments) _ ?h
  case f => exact fun x _ => x
  case h => (conv => lhs; whnf)
noncomputable def fB30 : List Stmt := by
  refine' (?f : (x : List Stmt) → (theAt [1, 0]).body = x → List Stmt) _ ?h
  case f => exact fun x _ => x
  case h => (conv => lhs; whnf)
noncomputable def fS30 : Scope := by
  refine' (?f : (x : Scope) → (theAt [1, 0]).scope = x → Scope) _ ?h
  case f => exact fun x _ => x
  case h => (conv => lhs; whnf)
noncomputable def fA37 : Arguments := by
  refine' (?f : (x : Arguments) → (theAt [1, 1]).params = x → Arguments) _ ?h
  case f => exact fun x _ => x
  case h => (conv => lhs; whnf)
noncomputable def fB37 : List Stmt := by
  refine' (?f : (x : List Stmt) → (theAt [1, 1]).body = x → List Stmt) _ ?h
  case f => exact fun x _ => x
  case h => (conv => lhs; whnf)
noncomputable def fS37 : Scope := by
  refine' (?f : (x : Scope) → (theAt [1, 1]).scope = x → Scope) _ ?h
  case f => exact fun x _ => x
  case h => (conv => lhs; whnf)
noncomputable def fA59 : Arguments := by
  refine' (?f : (x : Arguments) → (theAt [2, 0]).params = x → Arguments) _ ?h
  case f => exact fun x _ => x
  case h => (conv => lhs; whnf)
noncomputable def fB59 : List Stmt := by
  refine' (?f : (x : List Stmt) → (theAt [2, 0]).body = x → List Stmt) _ ?h
  case f => exact fun x _ => x
  case h => (conv => lhs; whnf)
noncomputable def fS59 : Scope := by
  refine' (?f : (x : Scope) → (theAt [2, 0]).scope = x → Scope) _ ?h
  case f => exact fun x _ => x
  case h => (conv => lhs; whnf)
noncomputable def fA66 : Arguments := by
  refine' (?f : (x : Arguments) → (theAt [2, 1]).params = x → Arguments) _ ?h
  case f => exact fun x _ => x
  case h => (conv => lhs; whnf)
noncomputable def fB66 : List Stmt := by
  refine' (?f : (x : List Stmt) → (theAt [2, 1]).body = x → List Stmt) _ ?h
  case f => exact fun x _ => x
  case h => (conv => lhs; whnf)
noncomputable def fS66 : Scope := by
  refine' (?f : (x : Scope) → (theAt [2, 1]).scope = x → Scope) _ ?h
  case f => exact fun x _ => x
  case h => (conv => lhs; whnf)
noncomputable def fA78 : Arguments := by
  refine' (?f : (x : Arguments) → (theAt [4]).params = x → Arguments) _ ?h
  case f => exact fun x _ => x
  case h => (conv => lhs; whnf)
noncomputable def fB78 : List Stmt := by
  refine' (?f : (x : List Stmt) → (theAt [4]).body = x → List Stmt) _ ?h
  case f => exact fun x _ => x
  case h => (conv => lhs; whnf)
noncomputable def fS78 : Scope := by
  refine' (?f : (x : Scope) → (theAt [4]).scope = x → Scope) _ ?h
  case f => exact fun x _ => x
  case h => (conv => lhs; whnf)
noncomputable def fA85 : Arguments := by
  refine' (?f : (x : Arguments) → (theAt [5]).params = x → Arguments) _ ?h
  case f => exact fun x _ => x
  case h => (conv => lhs; whnf)
noncomputable def fB85 : List Stmt := by
  refine' (?f : (x : List Stmt) → (theAt [5]).body = x → List Stmt) _ ?h
  case f => exact fun x _ => x
  case h => (conv => lhs; whnf)
noncomputable def fS85 : Scope := by
  refine' (?f : (x : Scope) → (theAt [5]).scope = x → Scope) _ ?h
  case f => exact fun x _ => x
  case h => (conv => lhs; whnf)
noncomputable def fA92 : Arguments := by
  refine' (?f : (x : Arguments) → (theAt [6]).params = x → Arguments) _ ?h
  case f => exact fun x _ => x
  case h => (conv => lhs; whnf)
noncomputable def fB92 : List Stmt := by
  refine' (?f : (x : List Stmt) → (theAt [6]).body = x → List Stmt) _ ?h
  case f => exact fun x _ => x
  case h => (conv => lhs; whnf)
noncomputable def fS92 : Scope := by
  refine' (?f : (x : Scope) → (theAt [6]).scope = x → Scope) _ ?h
  case f => exact fun x _ => x
  case h => (conv => lhs; whnf)
noncomputable def fA100 : Arguments := by
  refine' (?f : (x : Arguments) → (theAt [16]).params = x → Arguments) _ ?h
  case f => exact fun x _ => x
  case h => (conv => lhs; whnf)
noncomputable def fB100 : List Stmt := by
  refine' (?f : (x : List Stmt) → (theAt [16]).body = x → List Stmt) _ ?h
  case f => exact fun x _ => x
  case h => (conv => lhs; whnf)
noncomputable def fS100 : Scope := by
  refine' (?f : (x : Scope) → (theAt [16]).scope = x → Scope) _ ?h
  case f => exact fun x _ => x
  case h => (conv => lhs; whnf)
noncomputable def fA107 : Arguments := by
  refine' (?f : (x : Arguments) → (theAt [17]).params = x → Arguments) _ ?h
  case f => exact fun x _ => x
  case h => (conv => lhs; whnf)
noncomputable def fB107 : List Stmt := by
  refine' (?f : (x : List Stmt) → (theAt [17]).body = x → List Stmt) _ ?h
  case f => exact fun x _ => x
  case h => (conv => lhs; whnf)
noncomputable def fS107 : Scope := by
  refine' (?f : (x : Scope) → (theAt [17]).scope = x → Scope) _ ?h
  case f => exact fun x _ => x
  case h => (conv => lhs; whnf)
noncomputable def fA121 : Arguments := by
  refine' (?f : (x : Arguments) → (theAt [18, 0]).params = x → Arguments) _ ?h
  case f => exact fun x _ => x
  case h => (conv => lhs; whnf)
noncomputable def fB121 : List Stmt := by
  refine' (?f : (x : List Stmt) → (theAt [18, 0]).body = x → List Stmt) _ ?h
  case f => exact fun x _ => x
  case h => (conv => lhs; whnf)
noncomputable def fS121 : Scope := by
  refine' (?f : (x : Scope) → (theAt [18, 0]).scope = x → Scope) _ ?h
  case f => exact fun x _ => x
  case h => (conv => lhs; whnf)
noncomputable def fA128 : Arguments := by
  refine' (?f : (x : Arguments) → (theAt [18, 1]).params = x → Arguments) _ ?h
  case f => exact fun x _ => x
  case h => (conv => lhs; whnf)
noncomputable def fB128 : List Stmt := by
  refine' (?f : (x : List Stmt) → (theAt [18, 1]).body = x → List Stmt) _ ?h
  case f => exact fun x _ => x
  case h => (conv => lhs; whnf)
noncomputable def fS128 : Scope := by
  refine' (?f : (x : Scope) → (theAt [18, 1]).scope = x → Scope) _ ?h
  case f => exact fun x _ => x
  case h => (conv => lhs; whnf)
noncomputable def fA135 : Arguments := by
  refine' (?f : (x : Arguments) → (theAt [18, 2]).params = x → Arguments) _ ?h
  case f => exact fun x _ => x
  case h => (conv => lhs; whnf)
noncomputable def fB135 : List Stmt := by
  refine' (?f : (x : List Stmt) → (theAt [18, 2]).body = x → List Stmt) _ ?h
  case f => exact fun x _ => x
  case h => (conv => lhs; whnf)
noncomputable def fS135 : Scope := by
  refine' (?f : (x : Scope) → (theAt [18, 2]).scope = x → Scope) _ ?h
  case f => exact fun x _ => x
  case h => (conv => lhs; whnf)
noncomputable def fA142 : Arguments := by
  refine' (?f : (x : Arguments) → (theAt [18, 3]).params = x → Arguments) _ ?h
  case f => exact fun x _ => x
  case h => (conv => lhs; whnf)
noncomputable def fB142 : List Stmt := by
  refine' (?f : (x : List Stmt) → (theAt [18, 3]).body = x → List Stmt) _ ?h
  case f => exact fun x _ => x
  case h => (conv => lhs; whnf)
noncomputable def fS142 : Scope := by
  refine' (?f : (x : Scope) → (theAt [18, 3]).scope = x → Scope) _ ?h
  case f => exact fun x _ => x
  case h => (conv => lhs; whnf)
noncomputable def fA149 : Arguments := by
  refine' (?f : (x : Arguments) → (theAt [18, 4]).params = x → Arguments) _ ?h
  case f => exact fun x _ => x
  case h => (conv => lhs; whnf)
noncomputable def fB149 : List Stmt := by
  refine' (?f : (x : List Stmt) → (theAt [18, 4]).body = x → List Stmt) _ ?h
  case f => exact fun x _ => x
  case h => (conv => lhs; whnf)
noncomputable def fS149 : Scope := by
  refine' (?f : (x : Scope) → (theAt [18, 4]).scope = x → Scope) _ ?h
  case f => exact fun x _ => x
  case h => (conv => lhs; whnf)
noncomputable def fA156 : Arguments := by
  refine' (?f : (x : Arguments) → (theAt [18, 5]).params = x → Arguments) _ ?h
  case f => exact fun x _ => x
  case h => (conv => lhs; whnf)
noncomputable def fB156 : List Stmt := by
  refine' (?f : (x : List Stmt) → (theAt [18, 5]).body = x → List Stmt) _ ?h
  case f => exact fun x _ => x
  case h => (conv => lhs; whnf)
noncomputable def fS156 : Scope := by
  refine' (?f : (x : Scope) → (theAt [18, 5]).scope = x → Scope) _ ?h
  case f => exact fun x _ => x
  case h => (conv => lhs; whnf)
noncomputable def fA163 : Arguments := by
  refine' (?f : (x : Arguments) → (theAt [18, 6]).params = x → Arguments) _ ?h
  case f => exact fun x _ => x
  case h => (conv => lhs; whnf)
noncomputable def fB163 : List Stmt := by
  refine' (?f : (x : List Stmt) → (theAt [18, 6]).body = x → List Stmt) _ ?h
  case f => exact fun x _ => x
  case h => (conv => lhs; whnf)
noncomputable def fS163 : Scope := by
  refine' (?f : (x : Scope) → (theAt [18, 6]).scope = x → Scope) _ ?h
  case f => exact fun x _ => x
  case h => (conv => lhs; whnf)
noncomputable def fA170 : Arguments := by
  refine' (?f : (x : Arguments) → (theAt [18, 7]).params = x → Arguments) _ ?h
  case f => exact fun x _ => x
  case h => (conv => lhs; whnf)
noncomputable def fB170 : List Stmt := by
  refine' (?f : (x : List Stmt) → (theAt [18, 7]).body = x → List Stmt) _ ?h
  case f => exact fun x _ => x
  case h => (conv => lhs; whnf)
noncomputable def fS170 : Scope := by
  refine' (?f : (x : Scope) → (theAt [18, 7]).scope = x → Scope) _ ?h
  case f => exact fun x _ => x
  case h => (conv => lhs; whnf)
noncomputable def fA177 : Arguments := by
  refine' (?f : (x : Arguments) → (theAt [18, 8]).params = x → Arguments) _ ?h
  case f => exact fun x _ => x
  case h => (conv => lhs; whnf)
noncomputable def fB177 : List Stmt := by
  refine' (?f : (x : List Stmt) → (theAt [18, 8]).body = x → List Stmt) _ ?h
  case f => exact fun x _ => x
  case h => (conv => lhs; whnf)
noncomputable def fS177 : Scope := by
  refine' (?f : (x : Scope) → (theAt [18, 8]).scope = x → Scope) _ ?h
  case f => exact fun x _ => x
  case h => (conv => lhs; whnf)
noncomputable def fA184 : Arguments := by
  refine' (?f : (x : Arguments) → (theAt [18, 9]).params = x → Arguments) _ ?h
  case f => exact fun x _ => x
  case h => (conv => lhs; whnf)
noncomputable def fB184 : List Stmt := by
  refine' (?f : (x : List Stmt) → (theAt [18, 9]).body = x → List Stmt) _ ?h
  case f => exact fun x _ => x
  case h => (conv => lhs; whnf)
noncomputable def fS184 : Scope := by
  refine' (?f : (x : Scope) → (theAt [18, 9]).scope = x → Scope) _ ?h
  case f => exact fun x _ => x
  case h => (conv => lhs; whnf)
noncomputable def fA191 : Arguments := by
  refine' (?f : (x : Arguments) → (theAt [18, 10]).params = x → Arguments) _ ?h
  case f => exact fun x _ => x
  case h => (conv => lhs; whnf)
noncomputable def fB191 : List Stmt := by
  refine' (?f : (x : List Stmt) → (theAt [18, 10]).body = x → List Stmt) _ ?h
  case f => exact fun x _ => x
  case h => (conv => lhs; whnf)
noncomputable def fS191 : Scope := by
  refine' (?f : (x : Scope) → (theAt [18, 10]).scope = x → Scope) _ ?h
  case f => exact fun x _ => x
  case h => (conv => lhs; whnf)
noncomputable def fA206 : Arguments := by
  refine' (?f : (x : Arguments) → (theAt [21]).params = x → Arguments) _ ?h
  case f => exact fun x _ => x
  case h => (conv => lhs; whnf)
noncomputable def fB206 : List Stmt := by
  refine' (?f : (x : List Stmt) → (theAt [21]).body = x → List Stmt) _ ?h
  case f => exact fun x _ => x
  case h => (conv => lhs; whnf)
noncomputable def fS206 : Scope := by
  refine' (?f : (x : Scope) → (theAt [21]).scope = x → Scope) _ ?h
  case f => exact fun x _ => x
  case h => (conv => lhs; whnf)
noncomputable def fA213 : Arguments := by
  refine' (?f : (x : Arguments) → (theAt [22]).params = x → Arguments) _ ?h
  case f => exact fun x _ => x
  case h => (conv => lhs; whnf)
noncomputable def fB213 : List Stmt := by
  refine' (?f : (x : List Stmt) → (theAt [22]).body = x → List Stmt) _ ?h
  case f => exact fun x _ => x
  case h => (conv => lhs; whnf)
noncomputable def fS213 : Scope := by
  refine' (?f : (x : Scope) → (theAt [22]).scope = x → Scope) _ ?h
  case f => exact fun x _ => x
  case h => (conv => lhs; whnf)
noncomputable def fA220 : Arguments := by
  refine' (?f : (x : Arguments) → (theAt [23]).params = x → Arguments) _ ?h
  case f => exact fun x _ => x
  case h => (conv => lhs; whnf)
noncomputable def fB220 : List Stmt := by
  refine' (?f : (x : List Stmt) → (theAt [23]).body = x → List Stmt) _ ?h
  case f => exact fun x _ => x
  case h => (conv => lhs; whnf)
noncomputable def fS220 : Scope := by
  refine' (?f : (x : Scope) → (theAt [23]).scope = x → Scope) _ ?h
  case f => exact fun x _ => x
  case h => (conv => lhs; whnf)
noncomputable def fA227 : Arguments := by
  refine' (?f : (x : Arguments) → (theAt [24]).params = x → Arguments) _ ?h
  case f => exact fun x _ => x
  case h => (conv => lhs; whnf)
noncomputable def fB227 : List Stmt := by
  refine' (?f : (x : List Stmt) → (theAt [24]).body = x → List Stmt) _ ?h
  case f => exact fun x _ => x
  case h => (conv => lhs; whnf)
noncomputable def fS227 : Scope := by
  refine' (?f : (x : Scope) → (theAt [24]).scope = x → Scope) _ ?h
  case f => exact fun x _ => x
  case h => (conv => lhs; whnf)
noncomputable def fA234 : Arguments := by
  refine' (?f : (x : Arguments) → (theAt [25]).params = x → Arguments) _ ?h
  case f => exact fun x _ => x
  case h => (conv => lhs; whnf)
noncomputable def fB234 : List Stmt := by
  refine' (?f : (x : List Stmt) → (theAt [25]).body = x → List Stmt) _ ?h
  case f => exact fun x _ => x
  case h => (conv => lhs; whnf)
noncomputable def fS234 : Scope := by
  refine' (?f : (x : Scope) → (theAt [25]).scope = x → Scope) _ ?h
  case f => exact fun x _ => x
  case h => (conv => lhs; whnf)
noncomputable def fA241 : Arguments := by
  refine' (?f : (x : Arguments) → (theAt [26]).params = x → Arguments) _ ?h
  case f => exact fun x _ => x
  case h => (conv => lhs; whnf)
noncomputable def fB241 : List Stmt := by
  refine' (?f : (x : List Stmt) → (theAt [26]).body = x → List Stmt) _ ?h
  case f => exact fun x _ => x
  case h => (conv => lhs; whnf)
noncomputable def fS241 : Scope := by
  refine' (?f : (x : Scope) → (theAt [26]).scope = x → Scope) _ ?h
  case f => exact fun x _ => x
  case h => (conv => lhs; whnf)
noncomputable def fA248 : Arguments := by
  refine' (?f : (x : Arguments) → (theAt [27]).params = x → Arguments) _ ?h
  case f => exact fun x _ => x
  case h => (conv => lhs; whnf)
noncomputable def fB248 : List Stmt := by
  refine' (?f : (x : List Stmt) → (theAt [27]).body = x → List Stmt) _ ?h
  case f => exact fun x _ => x
  case h => (conv => lhs; whnf)
noncomputable def fS248 : Scope := by
  refine' (?f : (x : Scope) → (theAt [27]).scope = x → Scope) _ ?h
  case f => exact fun x _ => x
  case h => (conv => lhs; whnf)
noncomputable def fA255 : Arguments := by
  refine' (?f : (x : Arguments) → (theAt [28]).params = x → Arguments) _ ?h
  case f => exact fun x _ => x
  case h => (conv => lhs; whnf)
noncomputable def fB255 : List Stmt := by
  refine' (?f : (x : List Stmt) → (theAt [28]).body = x → List Stmt) _ ?h
  case f => exact fun x _ => x
  case h => (conv => lhs; whnf)
noncomputable def fS255 : Scope := by
  refine' (?f : (x : Scope) → (theAt [28]).scope = x → Scope) _ ?h
  case f => exact fun x _ => x
  case h => (conv => lhs; whnf)
noncomputable def fA262 : Arguments := by
  refine' (?f : (x : Arguments) → (theAt [29]).params = x → Arguments) _ ?h
  case f => exact fun x _ => x
  case h => (conv => lhs; whnf)
noncomputable def fB262 : List Stmt := by
  refine' (?f : (x : List Stmt) → (theAt [29]).body = x → List Stmt) _ ?h
  case f => exact fun x _ => x
  case h => (conv => lhs; whnf)
noncomputable def fS262 : Scope := by
  refine' (?f : (x : Scope) → (theAt [29]).scope = x → Scope) _ ?h
  case f => exact fun x _ => x
  case h => (conv => lhs; whnf)
noncomputable def fA269 : Arguments := by
  refine' (?f : (x : Arguments) → (theAt [30]).params = x → Arguments) _ ?h
  case f => exact fun x _ => x
  case h => (conv => lhs; whnf)
noncomputable def fB269 : List Stmt := by
  refine' (?f : (x : List Stmt) → (theAt [30]).body = x → List Stmt) _ ?h
  case f => exact fun x _ => x
  case h => (conv => lhs; whnf)
noncomputable def fS269 : Scope := by
  refine' (?f : (x : Scope) → (theAt [30]).scope = x → Scope) _ ?h
  case f => exact fun x _ => x
  case h => (conv => lhs; whnf)
noncomputable def fA276 : Arguments := by
  refine' (?f : (x : Arguments) → (theAt [31]).params = x → Arguments) _ ?h
  case f => exact fun x _ => x
  case h => (conv => lhs; whnf)
noncomputable def fB276 : List Stmt := by
  refine' (?f : (x : List Stmt) → (theAt [31]).body = x → List Stmt) _ ?h
  case f => exact fun x _ => x
  case h => (conv => lhs; whnf)
noncomputable def fS276 : Scope := by
  refine' (?f : (x : Scope) → (theAt [31]).scope = x → Scope) _ ?h
  case f => exact fun x _ => x
  case h => (conv => lhs; whnf)
noncomputable def fA283 : Arguments := by
  refine' (?f : (x : Arguments) → (theAt [32]).params = x → Arguments) _ ?h
  case f => exact fun x _ => x
  case h => (conv => lhs; whnf)
noncomputable def fB283 : List Stmt := by
  refine' (?f : (x : List Stmt) → (theAt [32]).body = x → List Stmt) _ ?h
  case f => exact fun x _ => x
  case h => (conv => lhs; whnf)
noncomputable def fS283 : Scope := by
  refine' (?f : (x : Scope) → (theAt [32]).scope = x → Scope) _ ?h
  case f => exact fun x _ => x
  case h => (conv => lhs; whnf)
noncomputable def fA288 : Arguments := by
  refine' (?f : (x : Arguments) → (theAt [33]).params = x → Arguments) _ ?h
  case f => exact fun x _ => x
  case h => (conv => lhs; whnf)
noncomputable def fB288 : List Stmt := by
  refine' (?f : (x : List Stmt) → (theAt [33]).body = x → List Stmt) _ ?h
  case f => exact fun x _ => x
  case h => (conv => lhs; whnf)
noncomputable def fS288 : Scope := by
  refine' (?f : (x : Scope) → (theAt [33]).scope = x → Scope) _ ?h
  case f => exact fun x _ => x
  case h => (conv => lhs; whnf)
noncomputable def lawDef : DefRec := by
  refine' (?f : (x : DefRec) → theAt [33] = x → DefRec) _ ?h
  case f => exact fun x _ => x
  case h => (conv => lhs; whnf)
noncomputable def heapR : Params → List (Nat × Obj) := fun P =>
  (nat_lit 2, Obj.mk Value.none none (Data.dict #[DictEntry.mk (PyData.keyHash P (Str.ofString "type.__subclasses__.Exception.0")) (Value.str (Str.ofString "type.__subclasses__.Exception.0") 223) (Value.int 40 0), DictEntry.mk (PyData.keyHash P (Str.ofString "type.__subclasses__.Exception.n")) (Value.str (Str.ofString "type.__subclasses__.Exception.n") 224) (Value.int 1 0)] 2) #[]) ::
   (nat_lit 3, Obj.mk (Value.type "dict") none (Data.dict #[DictEntry.mk (PyData.keyHash P (Str.ofString "__name__")) (Value.str (Str.ofString "__name__") 165) (Value.str (Str.ofString "law_sj0097_01") 460), DictEntry.mk (PyData.keyHash P (Str.ofString "__doc__")) (Value.str (Str.ofString "__doc__") 166) Value.none, DictEntry.mk (PyData.keyHash P (Str.ofString "__package__")) (Value.str (Str.ofString "__package__") 167) Value.none, DictEntry.mk (PyData.keyHash P (Str.ofString "__loader__")) (Value.str (Str.ofString "__loader__") 168) (Value.builtin "__main__.__loader__#opaque"), DictEntry.mk (PyData.keyHash P (Str.ofString "__spec__")) (Value.str (Str.ofString "__spec__") 169) Value.none, DictEntry.mk (PyData.keyHash P (Str.ofString "__annotations__")) (Value.str (Str.ofString "__annotations__") 170) (Value.ref 6), DictEntry.mk (PyData.keyHash P (Str.ofString "__builtins__")) (Value.str (Str.ofString "__builtins__") 171) (Value.ref 4), DictEntry.mk (PyData.keyHash P (Str.ofString "__file__")) (Value.str (Str.ofString "__file__") 173) (Value.str (Str.ofString "/claim/cut.py") 172), DictEntry.mk (PyData.keyHash P (Str.ofString "__cached__")) (Value.str (Str.ofString "__cached__") 174) Value.none, DictEntry.mk (PyData.keyHash P (Str.ofString "SmtError")) (Value.str (Str.ofString "SmtError") 226) (Value.ref 40), DictEntry.mk (PyData.keyHash P (Str.ofString "SyntaxFault")) (Value.str (Str.ofString "SyntaxFault") 261) (Value.ref 69), DictEntry.mk (PyData.keyHash P (Str.ofString "gcd_of")) (Value.str (Str.ofString "gcd_of") 271) (Value.ref 78), DictEntry.mk (PyData.keyHash P (Str.ofString "ratio")) (Value.str (Str.ofString "ratio") 280) (Value.ref 85), DictEntry.mk (PyData.keyHash P (Str.ofString "ratio_of_decimal")) (Value.str (Str.ofString "ratio_of_decimal") 289) (Value.ref 92), DictEntry.mk (PyData.keyHash P (Str.ofString "BLANKS")) (Value.str (Str.ofString "BLANKS") 293) (Value.str (Str.ofString " \t\x0d\n") 292), DictEntry.mk (PyData.keyHash P (Str.ofString "DIGITS")) (Value.str (Str.ofString "DIGITS") 295) (Value.str (Str.ofString "0123456789") 294), DictEntry.mk (PyData.keyHash P (Str.ofString "HEX_DIGITS")) (Value.str (Str.ofString "HEX_DIGITS") 297) (Value.str (Str.ofString "0123456789abcdefABCDEF") 296), DictEntry.mk (PyData.keyHash P (Str.ofString "LETTERS")) (Value.str (Str.ofString "LETTERS") 299) (Value.str (Str.ofString "abcdefghijklmnopqrstuvwxyzABCDEFGHIJKLMNOPQRSTUVWXYZ") 298), DictEntry.mk (PyData.keyHash P (Str.ofString "MARKS")) (Value.str (Str.ofString "MARKS") 301) (Value.str (Str.ofString "~!@$%^&*_-+=<>.?/") 300), DictEntry.mk (PyData.keyHash P (Str.ofString "MOST_FIGURES")) (Value.str (Str.ofString "MOST_FIGURES") 303) (Value.int 1000 302), DictEntry.mk (PyData.keyHash P (Str.ofString "SIMPLE")) (Value.str (Str.ofString "SIMPLE") 306) (Value.str (Str.ofString "abcdefghijklmnopqrstuvwxyzABCDEFGHIJKLMNOPQRSTUVWXYZ0123456789~!@$%^&*_-+=<>.?/") 305), DictEntry.mk (PyData.keyHash P (Str.ofString "RESERVED")) (Value.str (Str.ofString "RESERVED") 320) (Value.ref 93), DictEntry.mk (PyData.keyHash P (Str.ofString "want_few")) (Value.str (Str.ofString "want_few") 328) (Value.ref 100), DictEntry.mk (PyData.keyHash P (Str.ofString "value_of")) (Value.str (Str.ofString "value_of") 338) (Value.ref 107), DictEntry.mk (PyData.keyHash P (Str.ofString "Scanner")) (Value.str (Str.ofString "Scanner") 459) (Value.ref 194), DictEntry.mk (PyData.keyHash P (Str.ofString "_law_pieces")) (Value.str (Str.ofString "_law_pieces") 502) (Value.ref 199), DictEntry.mk (PyData.keyHash P (Str.ofString "_law_tails")) (Value.str (Str.ofString "_law_tails") 508) (Value.ref 206), DictEntry.mk (PyData.keyHash P (Str.ofString "_law_bound")) (Value.str (Str.ofString "_law_bound") 514) (Value.ref 213), DictEntry.mk (PyData.keyHash P (Str.ofString "_law_kinds")) (Value.str (Str.ofString "_law_kinds") 520) (Value.ref 220), DictEntry.mk (PyData.keyHash P (Str.ofString "_law_table")) (Value.str (Str.ofString "_law_table") 526) (Value.ref 227), DictEntry.mk (PyData.keyHash P (Str.ofString "_law_pick")) (Value.str (Str.ofString "_law_pick") 536) (Value.ref 234), DictEntry.mk (PyData.keyHash P (Str.ofString "_law_column")) (Value.str (Str.ofString "_law_column") 545) (Value.ref 241), DictEntry.mk (PyData.keyHash P (Str.ofString "_law_worth")) (Value.str (Str.ofString "_law_worth") 557) (Value.ref 248), DictEntry.mk (PyData.keyHash P (Str.ofString "_law_made")) (Value.str (Str.ofString "_law_made") 569) (Value.ref 255), DictEntry.mk (PyData.keyHash P (Str.ofString "_law_word")) (Value.str (Str.ofString "_law_word") 582) (Value.ref 262), DictEntry.mk (PyData.keyHash P (Str.ofString "_law_past")) (Value.str (Str.ofString "_law_past") 593) (Value.ref 269), DictEntry.mk (PyData.keyHash P (Str.ofString "_law_heard")) (Value.str (Str.ofString "_law_heard") 606) (Value.ref 276), DictEntry.mk (PyData.keyHash P (Str.ofString "_law_told")) (Value.str (Str.ofString "_law_told") 620) (Value.ref 283), DictEntry.mk (PyData.keyHash P (Str.ofString "law")) (Value.str (Str.ofString "law") 626) (Value.ref 288)] 39) #[]) ::
   (nat_lit 15, Obj.mk (Value.type "tuple") none (Data.seq #[Value.type "Exception"]) #[]) ::
   (nat_lit 18, Obj.mk (Value.type "cell") none (Data.cell (some (Value.ref 40))) #[]) ::
   (nat_lit 23, Obj.mk (Value.type "tuple") none (Data.seq #[Value.ref 18]) #[]) ::
   (nat_lit 24, Obj.mk (Value.type "tuple") none (Data.seq #[Value.str (Str.ofString "__class__") 204]) #[]) ::
   (nat_lit 26, Obj.mk (Value.type "tuple") none (Data.seq #[Value.str (Str.ofString "self") 205, Value.str (Str.ofString "what") 206]) #[]) ::
   (nat_lit 27, Obj.mk (Value.type "tuple") none (Data.seq #[]) #[]) ::
   (nat_lit 29, Obj.mk (Value.type "code") none (Data.fields #[Value.str (Str.ofString "__init__") 201, Value.str (Str.ofString "SmtError.__init__") 202, Value.str (Str.ofString "/claim/cut.py") 203, Value.int 4 0, Value.int 2 0, Value.int 0 0, Value.int 0 0, Value.int 3 0, Value.ref 24, Value.bool true, Value.int 181 0, Value.ref 25, Value.none, Value.ref 26, Value.ref 27, Value.ref 28, Value.int 207 0, Value.int 4 0, Value.str (Str.ofString "/claim/cut.py") 208]) #[]) ::
   (nat_lit 30, Obj.mk (Value.type "function") none (Data.func (FuncData.mk (Str.ofString "__init__") (Str.ofString "SmtError.__init__") fA30 (FuncBody.stmts fB30) fS30 3 [(Str.ofString "__class__", 18)] Value.none Value.none Value.none (Value.str (Str.ofString "minismt.errors") 187) none (Value.ref 29) (Value.ref 23) 0)) #[]) ::
   (nat_lit 31, Obj.mk (Value.type "tuple") none (Data.seq #[]) #[]) ::
   (nat_lit 33, Obj.mk (Value.type "tuple") none (Data.seq #[Value.str (Str.ofString "self") 213]) #[]) ::
   (nat_lit 34, Obj.mk (Value.type "tuple") none (Data.seq #[]) #[]) ::
   (nat_lit 36, Obj.mk (Value.type "code") none (Data.fields #[Value.str (Str.ofString "told") 210, Value.str (Str.ofString "SmtError.told") 211, Value.str (Str.ofString "/claim/cut.py") 212, Value.int 8 0, Value.int 1 0, Value.int 0 0, Value.int 0 0, Value.int 3 0, Value.ref 31, Value.bool true, Value.int 181 0, Value.ref 32, Value.none, Value.ref 33, Value.ref 34, Value.ref 35, Value.int 214 0, Value.int 8 0, Value.str (Str.ofString "/claim/cut.py") 215]) #[]) ::
   (nat_lit 37, Obj.mk (Value.type "function") none (Data.func (FuncData.mk (Str.ofString "told") (Str.ofString "SmtError.told") fA37 (FuncBody.stmts fB37) fS37 3 [] Value.none Value.none Value.none (Value.str (Str.ofString "minismt.errors") 187) none (Value.ref 36) Value.none 0)) #[]) ::
   (nat_lit 38, Obj.mk (Value.type "tuple") none (Data.seq #[Value.str (Str.ofString "what") 217]) #[]) ::
   (nat_lit 39, Obj.mk (Value.type "dict") none (Data.dict #[DictEntry.mk (PyData.keyHash P (Str.ofString "__module__")) (Value.str (Str.ofString "__module__") 196) (Value.str (Str.ofString "minismt.errors") 187), DictEntry.mk (PyData.keyHash P (Str.ofString "__firstlineno__")) (Value.str (Str.ofString "__firstlineno__") 200) (Value.int 2 199), DictEntry.mk (PyData.keyHash P (Str.ofString "__init__")) (Value.str (Str.ofString "__init__") 209) (Value.ref 30), DictEntry.mk (PyData.keyHash P (Str.ofString "told")) (Value.str (Str.ofString "told") 216) (Value.ref 37), DictEntry.mk (PyData.keyHash P (Str.ofString "__static_attributes__")) (Value.str (Str.ofString "__static_attributes__") 218) (Value.ref 38), DictEntry.mk (PyData.keyHash P (Str.ofString "__weakref__")) (Value.str (Str.ofString "__weakref__") 221) (Value.ref 41), DictEntry.mk (PyData.keyHash P (Str.ofString "__doc__")) (Value.str (Str.ofString "__doc__") 222) Value.none] 4) #[]) ::
   (nat_lit 40, Obj.mk (Value.type "type") none (Data.cls (ClassData.mk (Str.ofString "SmtError") [Value.type "Exception"] [Value.ref 40, Value.type "Exception", Value.type "BaseException", Value.type "object"] 39 (Str.ofString "SmtError") true [] [Value.ref 69] false none false)) #[some (Value.ref 15), none, some (Value.str (Str.ofString "SmtError") 189), some (Value.str (Str.ofString "SmtError") 197), some (Value.builtin "Exception.__new__"), some (Value.bool true)]) ::
   (nat_lit 41, Obj.mk (Value.type "getset_descriptor") none (Data.fields #[Value.str (Str.ofString "__weakref__") 220, Value.ref 40, Value.builtin "ExceptionGroup.__weakref__", Value.none]) #[]) ::
   (nat_lit 44, Obj.mk (Value.type "tuple") none (Data.seq #[Value.ref 40]) #[]) ::
   (nat_lit 47, Obj.mk (Value.type "cell") none (Data.cell (some (Value.ref 69))) #[]) ::
   (nat_lit 52, Obj.mk (Value.type "tuple") none (Data.seq #[Value.ref 47]) #[]) ::
   (nat_lit 53, Obj.mk (Value.type "tuple") none (Data.seq #[Value.str (Str.ofString "__class__") 242]) #[]) ::
   (nat_lit 55, Obj.mk (Value.type "tuple") none (Data.seq #[Value.str (Str.ofString "self") 243, Value.str (Str.ofString "what") 244, Value.str (Str.ofString "spot") 245]) #[]) ::
   (nat_lit 56, Obj.mk (Value.type "tuple") none (Data.seq #[]) #[]) ::
   (nat_lit 58, Obj.mk (Value.type "code") none (Data.fields #[Value.str (Str.ofString "__init__") 239, Value.str (Str.ofString "SyntaxFault.__init__") 240, Value.str (Str.ofString "/claim/cut.py") 241, Value.int 12 0, Value.int 3 0, Value.int 0 0, Value.int 0 0, Value.int 3 0, Value.ref 53, Value.bool true, Value.int 181 0, Value.ref 54, Value.none, Value.ref 55, Value.ref 56, Value.ref 57, Value.int 246 0, Value.int 12 0, Value.str (Str.ofString "/claim/cut.py") 247]) #[]) ::
   (nat_lit 59, Obj.mk (Value.type "function") none (Data.func (FuncData.mk (Str.ofString "__init__") (Str.ofString "SyntaxFault.__init__") fA59 (FuncBody.stmts fB59) fS59 3 [(Str.ofString "__class__", 47)] Value.none Value.none Value.none (Value.str (Str.ofString "minismt.errors") 187) none (Value.ref 58) (Value.ref 52) 0)) #[]) ::
   (nat_lit 60, Obj.mk (Value.type "tuple") none (Data.seq #[]) #[]) ::
   (nat_lit 62, Obj.mk (Value.type "tuple") none (Data.seq #[Value.str (Str.ofString "self") 252]) #[]) ::
   (nat_lit 63, Obj.mk (Value.type "tuple") none (Data.seq #[]) #[]) ::
   (nat_lit 65, Obj.mk (Value.type "code") none (Data.fields #[Value.str (Str.ofString "told") 249, Value.str (Str.ofString "SyntaxFault.told") 250, Value.str (Str.ofString "/claim/cut.py") 251, Value.int 16 0, Value.int 1 0, Value.int 0 0, Value.int 0 0, Value.int 3 0, Value.ref 60, Value.bool true, Value.int 181 0, Value.ref 61, Value.none, Value.ref 62, Value.ref 63, Value.ref 64, Value.int 253 0, Value.int 16 0, Value.str (Str.ofString "/claim/cut.py") 254]) #[]) ::
   (nat_lit 66, Obj.mk (Value.type "function") none (Data.func (FuncData.mk (Str.ofString "told") (Str.ofString "SyntaxFault.told") fA66 (FuncBody.stmts fB66) fS66 3 [] Value.none Value.none Value.none (Value.str (Str.ofString "minismt.errors") 187) none (Value.ref 65) Value.none 0)) #[]) ::
   (nat_lit 67, Obj.mk (Value.type "tuple") none (Data.seq #[Value.str (Str.ofString "spot") 256]) #[]) ::
   (nat_lit 68, Obj.mk (Value.type "dict") none (Data.dict #[DictEntry.mk (PyData.keyHash P (Str.ofString "__module__")) (Value.str (Str.ofString "__module__") 234) (Value.str (Str.ofString "minismt.errors") 187), DictEntry.mk (PyData.keyHash P (Str.ofString "__firstlineno__")) (Value.str (Str.ofString "__firstlineno__") 238) (Value.int 10 237), DictEntry.mk (PyData.keyHash P (Str.ofString "__init__")) (Value.str (Str.ofString "__init__") 248) (Value.ref 59), DictEntry.mk (PyData.keyHash P (Str.ofString "told")) (Value.str (Str.ofString "told") 255) (Value.ref 66), DictEntry.mk (PyData.keyHash P (Str.ofString "__static_attributes__")) (Value.str (Str.ofString "__static_attributes__") 257) (Value.ref 67), DictEntry.mk (PyData.keyHash P (Str.ofString "__doc__")) (Value.str (Str.ofString "__doc__") 259) Value.none] 3) #[]) ::
   (nat_lit 69, Obj.mk (Value.type "type") none (Data.cls (ClassData.mk (Str.ofString "SyntaxFault") [Value.ref 40] [Value.ref 69, Value.ref 40, Value.type "Exception", Value.type "BaseException", Value.type "object"] 68 (Str.ofString "SyntaxFault") true [] [] false none false)) #[some (Value.ref 44), none, some (Value.str (Str.ofString "SyntaxFault") 227), some (Value.str (Str.ofString "SyntaxFault") 235), some (Value.builtin "Exception.__new__"), some (Value.bool true)]) ::
   (nat_lit 72, Obj.mk (Value.type "tuple") none (Data.seq #[]) #[]) ::
   (nat_lit 74, Obj.mk (Value.type "tuple") none (Data.seq #[Value.str (Str.ofString "a") 267, Value.str (Str.ofString "b") 268]) #[]) ::
   (nat_lit 75, Obj.mk (Value.type "tuple") none (Data.seq #[]) #[]) ::
   (nat_lit 77, Obj.mk (Value.type "code") none (Data.fields #[Value.str (Str.ofString "gcd_of") 264, Value.str (Str.ofString "gcd_of") 265, Value.str (Str.ofString "/claim/cut.py") 266, Value.int 19 0, Value.int 2 0, Value.int 0 0, Value.int 0 0, Value.int 3 0, Value.ref 72, Value.bool true, Value.int 181 0, Value.ref 73, Value.none, Value.ref 74, Value.ref 75, Value.ref 76, Value.int 269 0, Value.int 19 0, Value.str (Str.ofString "/claim/cut.py") 270]) #[]) ::
   (nat_lit 78, Obj.mk (Value.type "function") none (Data.func (FuncData.mk (Str.ofString "gcd_of") (Str.ofString "gcd_of") fA78 (FuncBody.stmts fB78) fS78 3 [] Value.none Value.none Value.none (Value.str (Str.ofString "minismt.ratios") 262) none (Value.ref 77) Value.none 0)) #[]) ::
   (nat_lit 79, Obj.mk (Value.type "tuple") none (Data.seq #[]) #[]) ::
   (nat_lit 81, Obj.mk (Value.type "tuple") none (Data.seq #[Value.str (Str.ofString "top") 275, Value.str (Str.ofString "bottom") 276, Value.str (Str.ofString "common") 277]) #[]) ::
   (nat_lit 82, Obj.mk (Value.type "tuple") none (Data.seq #[]) #[]) ::
   (nat_lit 84, Obj.mk (Value.type "code") none (Data.fields #[Value.str (Str.ofString "ratio") 272, Value.str (Str.ofString "ratio") 273, Value.str (Str.ofString "/claim/cut.py") 274, Value.int 24 0, Value.int 2 0, Value.int 0 0, Value.int 0 0, Value.int 3 0, Value.ref 79, Value.bool true, Value.int 181 0, Value.ref 80, Value.none, Value.ref 81, Value.ref 82, Value.ref 83, Value.int 278 0, Value.int 24 0, Value.str (Str.ofString "/claim/cut.py") 279]) #[]) ::
   (nat_lit 85, Obj.mk (Value.type "function") none (Data.func (FuncData.mk (Str.ofString "ratio") (Str.ofString "ratio") fA85 (FuncBody.stmts fB85) fS85 3 [] Value.none Value.none Value.none (Value.str (Str.ofString "minismt.ratios") 262) none (Value.ref 84) Value.none 0)) #[]) ::
   (nat_lit 86, Obj.mk (Value.type "tuple") none (Data.seq #[]) #[]) ::
   (nat_lit 88, Obj.mk (Value.type "tuple") none (Data.seq #[Value.str (Str.ofString "ahead") 284, Value.str (Str.ofString "behind") 285, Value.str (Str.ofString "scale") 286]) #[]) ::
   (nat_lit 89, Obj.mk (Value.type "tuple") none (Data.seq #[]) #[]) ::
   (nat_lit 91, Obj.mk (Value.type "code") none (Data.fields #[Value.str (Str.ofString "ratio_of_decimal") 281, Value.str (Str.ofString "ratio_of_decimal") 282, Value.str (Str.ofString "/claim/cut.py") 283, Value.int 31 0, Value.int 2 0, Value.int 0 0, Value.int 0 0, Value.int 3 0, Value.ref 86, Value.bool true, Value.int 181 0, Value.ref 87, Value.none, Value.ref 88, Value.ref 89, Value.ref 90, Value.int 287 0, Value.int 31 0, Value.str (Str.ofString "/claim/cut.py") 288]) #[]) ::
   (nat_lit 92, Obj.mk (Value.type "function") none (Data.func (FuncData.mk (Str.ofString "ratio_of_decimal") (Str.ofString "ratio_of_decimal") fA92 (FuncBody.stmts fB92) fS92 3 [] Value.none Value.none Value.none (Value.str (Str.ofString "minismt.ratios") 262) none (Value.ref 91) Value.none 0)) #[]) ::
   (nat_lit 93, Obj.mk (Value.type "tuple") none (Data.seq #[Value.str (Str.ofString "!") 307, Value.str (Str.ofString "_") 308, Value.str (Str.ofString "as") 309, Value.str (Str.ofString "BINARY") 310, Value.str (Str.ofString "DECIMAL") 311, Value.str (Str.ofString "exists") 312, Value.str (Str.ofString "forall") 313, Value.str (Str.ofString "HEXADECIMAL") 314, Value.str (Str.ofString "let") 315, Value.str (Str.ofString "match") 316, Value.str (Str.ofString "NUMERAL") 317, Value.str (Str.ofString "par") 318, Value.str (Str.ofString "STRING") 319]) #[]) ::
   (nat_lit 94, Obj.mk (Value.type "tuple") none (Data.seq #[]) #[]) ::
   (nat_lit 96, Obj.mk (Value.type "tuple") none (Data.seq #[Value.str (Str.ofString "figures") 324, Value.str (Str.ofString "spot") 325]) #[]) ::
   (nat_lit 97, Obj.mk (Value.type "tuple") none (Data.seq #[]) #[]) ::
   (nat_lit 99, Obj.mk (Value.type "code") none (Data.fields #[Value.str (Str.ofString "want_few") 321, Value.str (Str.ofString "want_few") 322, Value.str (Str.ofString "/claim/cut.py") 323, Value.int 43 0, Value.int 2 0, Value.int 0 0, Value.int 0 0, Value.int 3 0, Value.ref 94, Value.bool true, Value.int 181 0, Value.ref 95, Value.none, Value.ref 96, Value.ref 97, Value.ref 98, Value.int 326 0, Value.int 43 0, Value.str (Str.ofString "/claim/cut.py") 327]) #[]) ::
   (nat_lit 100, Obj.mk (Value.type "function") none (Data.func (FuncData.mk (Str.ofString "want_few") (Str.ofString "want_few") fA100 (FuncBody.stmts fB100) fS100 3 [] Value.none Value.none Value.none (Value.str (Str.ofString "minismt.texts") 290) none (Value.ref 99) Value.none 0)) #[]) ::
   (nat_lit 101, Obj.mk (Value.type "tuple") none (Data.seq #[]) #[]) ::
   (nat_lit 103, Obj.mk (Value.type "tuple") none (Data.seq #[Value.str (Str.ofString "digits") 332, Value.str (Str.ofString "base") 333, Value.str (Str.ofString "found") 334, Value.str (Str.ofString "sign") 335]) #[]) ::
   (nat_lit 104, Obj.mk (Value.type "tuple") none (Data.seq #[]) #[]) ::
   (nat_lit 106, Obj.mk (Value.type "code") none (Data.fields #[Value.str (Str.ofString "value_of") 329, Value.str (Str.ofString "value_of") 330, Value.str (Str.ofString "/claim/cut.py") 331, Value.int 46 0, Value.int 2 0, Value.int 0 0, Value.int 0 0, Value.int 3 0, Value.ref 101, Value.bool true, Value.int 181 0, Value.ref 102, Value.none, Value.ref 103, Value.ref 104, Value.ref 105, Value.int 336 0, Value.int 46 0, Value.str (Str.ofString "/claim/cut.py") 337]) #[]) ::
   (nat_lit 107, Obj.mk (Value.type "function") none (Data.func (FuncData.mk (Str.ofString "value_of") (Str.ofString "value_of") fA107 (FuncBody.stmts fB107) fS107 3 [] Value.none Value.none Value.none (Value.str (Str.ofString "minismt.texts") 290) none (Value.ref 106) Value.none 0)) #[]) ::
   (nat_lit 115, Obj.mk (Value.type "tuple") none (Data.seq #[]) #[]) ::
   (nat_lit 117, Obj.mk (Value.type "tuple") none (Data.seq #[Value.str (Str.ofString "self") 354, Value.str (Str.ofString "text") 355]) #[]) ::
   (nat_lit 118, Obj.mk (Value.type "tuple") none (Data.seq #[]) #[]) ::
   (nat_lit 120, Obj.mk (Value.type "code") none (Data.fields #[Value.str (Str.ofString "__init__") 351, Value.str (Str.ofString "Scanner.__init__") 352, Value.str (Str.ofString "/claim/cut.py") 353, Value.int 53 0, Value.int 2 0, Value.int 0 0, Value.int 0 0, Value.int 3 0, Value.ref 115, Value.bool true, Value.int 181 0, Value.ref 116, Value.none, Value.ref 117, Value.ref 118, Value.ref 119, Value.int 356 0, Value.int 53 0, Value.str (Str.ofString "/claim/cut.py") 357]) #[]) ::
   (nat_lit 121, Obj.mk (Value.type "function") none (Data.func (FuncData.mk (Str.ofString "__init__") (Str.ofString "Scanner.__init__") fA121 (FuncBody.stmts fB121) fS121 3 [] Value.none Value.none Value.none (Value.str (Str.ofString "minismt.texts") 290) none (Value.ref 120) Value.none 0)) #[]) ::
   (nat_lit 122, Obj.mk (Value.type "tuple") none (Data.seq #[]) #[]) ::
   (nat_lit 124, Obj.mk (Value.type "tuple") none (Data.seq #[Value.str (Str.ofString "self") 362]) #[]) ::
   (nat_lit 125, Obj.mk (Value.type "tuple") none (Data.seq #[]) #[]) ::
   (nat_lit 127, Obj.mk (Value.type "code") none (Data.fields #[Value.str (Str.ofString "sign") 359, Value.str (Str.ofString "Scanner.sign") 360, Value.str (Str.ofString "/claim/cut.py") 361, Value.int 57 0, Value.int 1 0, Value.int 0 0, Value.int 0 0, Value.int 3 0, Value.ref 122, Value.bool true, Value.int 181 0, Value.ref 123, Value.none, Value.ref 124, Value.ref 125, Value.ref 126, Value.int 363 0, Value.int 57 0, Value.str (Str.ofString "/claim/cut.py") 364]) #[]) ::
   (nat_lit 128, Obj.mk (Value.type "function") none (Data.func (FuncData.mk (Str.ofString "sign") (Str.ofString "Scanner.sign") fA128 (FuncBody.stmts fB128) fS128 3 [] Value.none Value.none Value.none (Value.str (Str.ofString "minismt.texts") 290) none (Value.ref 127) Value.none 0)) #[]) ::
   (nat_lit 129, Obj.mk (Value.type "tuple") none (Data.seq #[]) #[]) ::
   (nat_lit 131, Obj.mk (Value.type "tuple") none (Data.seq #[Value.str (Str.ofString "self") 369, Value.str (Str.ofString "sign") 370]) #[]) ::
   (nat_lit 132, Obj.mk (Value.type "tuple") none (Data.seq #[]) #[]) ::
   (nat_lit 134, Obj.mk (Value.type "code") none (Data.fields #[Value.str (Str.ofString "skip_blanks") 366, Value.str (Str.ofString "Scanner.skip_blanks") 367, Value.str (Str.ofString "/claim/cut.py") 368, Value.int 62 0, Value.int 1 0, Value.int 0 0, Value.int 0 0, Value.int 3 0, Value.ref 129, Value.bool true, Value.int 181 0, Value.ref 130, Value.none, Value.ref 131, Value.ref 132, Value.ref 133, Value.int 371 0, Value.int 62 0, Value.str (Str.ofString "/claim/cut.py") 372]) #[]) ::
   (nat_lit 135, Obj.mk (Value.type "function") none (Data.func (FuncData.mk (Str.ofString "skip_blanks") (Str.ofString "Scanner.skip_blanks") fA135 (FuncBody.stmts fB135) fS135 3 [] Value.none Value.none Value.none (Value.str (Str.ofString "minismt.texts") 290) none (Value.ref 134) Value.none 0)) #[]) ::
   (nat_lit 136, Obj.mk (Value.type "tuple") none (Data.seq #[]) #[]) ::
   (nat_lit 138, Obj.mk (Value.type "tuple") none (Data.seq #[Value.str (Str.ofString "self") 377, Value.str (Str.ofString "signs") 378, Value.str (Str.ofString "begin") 379]) #[]) ::
   (nat_lit 139, Obj.mk (Value.type "tuple") none (Data.seq #[]) #[]) ::
   (nat_lit 141, Obj.mk (Value.type "code") none (Data.fields #[Value.str (Str.ofString "run_of") 374, Value.str (Str.ofString "Scanner.run_of") 375, Value.str (Str.ofString "/claim/cut.py") 376, Value.int 73 0, Value.int 2 0, Value.int 0 0, Value.int 0 0, Value.int 3 0, Value.ref 136, Value.bool true, Value.int 181 0, Value.ref 137, Value.none, Value.ref 138, Value.ref 139, Value.ref 140, Value.int 380 0, Value.int 73 0, Value.str (Str.ofString "/claim/cut.py") 381]) #[]) ::
   (nat_lit 142, Obj.mk (Value.type "function") none (Data.func (FuncData.mk (Str.ofString "run_of") (Str.ofString "Scanner.run_of") fA142 (FuncBody.stmts fB142) fS142 3 [] Value.none Value.none Value.none (Value.str (Str.ofString "minismt.texts") 290) none (Value.ref 141) Value.none 0)) #[]) ::
   (nat_lit 143, Obj.mk (Value.type "tuple") none (Data.seq #[]) #[]) ::
   (nat_lit 145, Obj.mk (Value.type "tuple") none (Data.seq #[Value.str (Str.ofString "self") 386, Value.str (Str.ofString "what") 387, Value.str (Str.ofString "begin") 388]) #[]) ::
   (nat_lit 146, Obj.mk (Value.type "tuple") none (Data.seq #[]) #[]) ::
   (nat_lit 148, Obj.mk (Value.type "code") none (Data.fields #[Value.str (Str.ofString "ends_here") 383, Value.str (Str.ofString "Scanner.ends_here") 384, Value.str (Str.ofString "/claim/cut.py") 385, Value.int 79 0, Value.int 3 0, Value.int 0 0, Value.int 0 0, Value.int 3 0, Value.ref 143, Value.bool true, Value.int 181 0, Value.ref 144, Value.none, Value.ref 145, Value.ref 146, Value.ref 147, Value.int 389 0, Value.int 79 0, Value.str (Str.ofString "/claim/cut.py") 390]) #[]) ::
   (nat_lit 149, Obj.mk (Value.type "function") none (Data.func (FuncData.mk (Str.ofString "ends_here") (Str.ofString "Scanner.ends_here") fA149 (FuncBody.stmts fB149) fS149 3 [] Value.none Value.none Value.none (Value.str (Str.ofString "minismt.texts") 290) none (Value.ref 148) Value.none 0)) #[]) ::
   (nat_lit 150, Obj.mk (Value.type "tuple") none (Data.seq #[]) #[]) ::
   (nat_lit 152, Obj.mk (Value.type "tuple") none (Data.seq #[Value.str (Str.ofString "self") 395, Value.str (Str.ofString "begin") 396, Value.str (Str.ofString "pieces") 397, Value.str (Str.ofString "quote") 398]) #[]) ::
   (nat_lit 153, Obj.mk (Value.type "tuple") none (Data.seq #[]) #[]) ::
   (nat_lit 155, Obj.mk (Value.type "code") none (Data.fields #[Value.str (Str.ofString "read_string") 392, Value.str (Str.ofString "Scanner.read_string") 393, Value.str (Str.ofString "/claim/cut.py") 394, Value.int 83 0, Value.int 1 0, Value.int 0 0, Value.int 0 0, Value.int 3 0, Value.ref 150, Value.bool true, Value.int 181 0, Value.ref 151, Value.none, Value.ref 152, Value.ref 153, Value.ref 154, Value.int 399 0, Value.int 83 0, Value.str (Str.ofString "/claim/cut.py") 400]) #[]) ::
   (nat_lit 156, Obj.mk (Value.type "function") none (Data.func (FuncData.mk (Str.ofString "read_string") (Str.ofString "Scanner.read_string") fA156 (FuncBody.stmts fB156) fS156 3 [] Value.none Value.none Value.none (Value.str (Str.ofString "minismt.texts") 290) none (Value.ref 155) Value.none 0)) #[]) ::
   (nat_lit 157, Obj.mk (Value.type "tuple") none (Data.seq #[]) #[]) ::
   (nat_lit 159, Obj.mk (Value.type "tuple") none (Data.seq #[Value.str (Str.ofString "self") 405, Value.str (Str.ofString "begin") 406, Value.str (Str.ofString "bar") 407, Value.str (Str.ofString "name") 408, Value.str (Str.ofString "slash") 409]) #[]) ::
   (nat_lit 160, Obj.mk (Value.type "tuple") none (Data.seq #[]) #[]) ::
   (nat_lit 162, Obj.mk (Value.type "code") none (Data.fields #[Value.str (Str.ofString "read_quoted") 402, Value.str (Str.ofString "Scanner.read_quoted") 403, Value.str (Str.ofString "/claim/cut.py") 404, Value.int 98 0, Value.int 1 0, Value.int 0 0, Value.int 0 0, Value.int 3 0, Value.ref 157, Value.bool true, Value.int 181 0, Value.ref 158, Value.none, Value.ref 159, Value.ref 160, Value.ref 161, Value.int 410 0, Value.int 98 0, Value.str (Str.ofString "/claim/cut.py") 411]) #[]) ::
   (nat_lit 163, Obj.mk (Value.type "function") none (Data.func (FuncData.mk (Str.ofString "read_quoted") (Str.ofString "Scanner.read_quoted") fA163 (FuncBody.stmts fB163) fS163 3 [] Value.none Value.none Value.none (Value.str (Str.ofString "minismt.texts") 290) none (Value.ref 162) Value.none 0)) #[]) ::
   (nat_lit 164, Obj.mk (Value.type "tuple") none (Data.seq #[]) #[]) ::
   (nat_lit 166, Obj.mk (Value.type "tuple") none (Data.seq #[Value.str (Str.ofString "self") 416, Value.str (Str.ofString "begin") 417, Value.str (Str.ofString "name") 418]) #[]) ::
   (nat_lit 167, Obj.mk (Value.type "tuple") none (Data.seq #[]) #[]) ::
   (nat_lit 169, Obj.mk (Value.type "code") none (Data.fields #[Value.str (Str.ofString "read_key") 413, Value.str (Str.ofString "Scanner.read_key") 414, Value.str (Str.ofString "/claim/cut.py") 415, Value.int 110 0, Value.int 1 0, Value.int 0 0, Value.int 0 0, Value.int 3 0, Value.ref 164, Value.bool true, Value.int 181 0, Value.ref 165, Value.none, Value.ref 166, Value.ref 167, Value.ref 168, Value.int 419 0, Value.int 110 0, Value.str (Str.ofString "/claim/cut.py") 420]) #[]) ::
   (nat_lit 170, Obj.mk (Value.type "function") none (Data.func (FuncData.mk (Str.ofString "read_key") (Str.ofString "Scanner.read_key") fA170 (FuncBody.stmts fB170) fS170 3 [] Value.none Value.none Value.none (Value.str (Str.ofString "minismt.texts") 290) none (Value.ref 169) Value.none 0)) #[]) ::
   (nat_lit 171, Obj.mk (Value.type "tuple") none (Data.seq #[]) #[]) ::
   (nat_lit 173, Obj.mk (Value.type "tuple") none (Data.seq #[Value.str (Str.ofString "self") 425, Value.str (Str.ofString "begin") 426, Value.str (Str.ofString "kind") 427, Value.str (Str.ofString "digits") 428]) #[]) ::
   (nat_lit 174, Obj.mk (Value.type "tuple") none (Data.seq #[]) #[]) ::
   (nat_lit 176, Obj.mk (Value.type "code") none (Data.fields #[Value.str (Str.ofString "read_bits") 422, Value.str (Str.ofString "Scanner.read_bits") 423, Value.str (Str.ofString "/claim/cut.py") 424, Value.int 118 0, Value.int 1 0, Value.int 0 0, Value.int 0 0, Value.int 3 0, Value.ref 171, Value.bool true, Value.int 181 0, Value.ref 172, Value.none, Value.ref 173, Value.ref 174, Value.ref 175, Value.int 429 0, Value.int 118 0, Value.str (Str.ofString "/claim/cut.py") 430]) #[]) ::
   (nat_lit 177, Obj.mk (Value.type "function") none (Data.func (FuncData.mk (Str.ofString "read_bits") (Str.ofString "Scanner.read_bits") fA177 (FuncBody.stmts fB177) fS177 3 [] Value.none Value.none Value.none (Value.str (Str.ofString "minismt.texts") 290) none (Value.ref 176) Value.none 0)) #[]) ::
   (nat_lit 178, Obj.mk (Value.type "tuple") none (Data.seq #[]) #[]) ::
   (nat_lit 180, Obj.mk (Value.type "tuple") none (Data.seq #[Value.str (Str.ofString "self") 435, Value.str (Str.ofString "begin") 436, Value.str (Str.ofString "whole") 437, Value.str (Str.ofString "part") 438]) #[]) ::
   (nat_lit 181, Obj.mk (Value.type "tuple") none (Data.seq #[]) #[]) ::
   (nat_lit 183, Obj.mk (Value.type "code") none (Data.fields #[Value.str (Str.ofString "read_number") 432, Value.str (Str.ofString "Scanner.read_number") 433, Value.str (Str.ofString "/claim/cut.py") 434, Value.int 132 0, Value.int 1 0, Value.int 0 0, Value.int 0 0, Value.int 3 0, Value.ref 178, Value.bool true, Value.int 181 0, Value.ref 179, Value.none, Value.ref 180, Value.ref 181, Value.ref 182, Value.int 439 0, Value.int 132 0, Value.str (Str.ofString "/claim/cut.py") 440]) #[]) ::
   (nat_lit 184, Obj.mk (Value.type "function") none (Data.func (FuncData.mk (Str.ofString "read_number") (Str.ofString "Scanner.read_number") fA184 (FuncBody.stmts fB184) fS184 3 [] Value.none Value.none Value.none (Value.str (Str.ofString "minismt.texts") 290) none (Value.ref 183) Value.none 0)) #[]) ::
   (nat_lit 185, Obj.mk (Value.type "tuple") none (Data.seq #[]) #[]) ::
   (nat_lit 187, Obj.mk (Value.type "tuple") none (Data.seq #[Value.str (Str.ofString "self") 445, Value.str (Str.ofString "sign") 446]) #[]) ::
   (nat_lit 188, Obj.mk (Value.type "tuple") none (Data.seq #[]) #[]) ::
   (nat_lit 190, Obj.mk (Value.type "code") none (Data.fields #[Value.str (Str.ofString "read_word") 442, Value.str (Str.ofString "Scanner.read_word") 443, Value.str (Str.ofString "/claim/cut.py") 444, Value.int 149 0, Value.int 1 0, Value.int 0 0, Value.int 0 0, Value.int 3 0, Value.ref 185, Value.bool true, Value.int 181 0, Value.ref 186, Value.none, Value.ref 187, Value.ref 188, Value.ref 189, Value.int 447 0, Value.int 149 0, Value.str (Str.ofString "/claim/cut.py") 448]) #[]) ::
   (nat_lit 191, Obj.mk (Value.type "function") none (Data.func (FuncData.mk (Str.ofString "read_word") (Str.ofString "Scanner.read_word") fA191 (FuncBody.stmts fB191) fS191 3 [] Value.none Value.none Value.none (Value.str (Str.ofString "minismt.texts") 290) none (Value.ref 190) Value.none 0)) #[]) ::
   (nat_lit 192, Obj.mk (Value.type "tuple") none (Data.seq #[Value.str (Str.ofString "spot") 450, Value.str (Str.ofString "text") 451]) #[]) ::
   (nat_lit 193, Obj.mk (Value.type "dict") none (Data.dict #[DictEntry.mk (PyData.keyHash P (Str.ofString "__module__")) (Value.str (Str.ofString "__module__") 346) (Value.str (Str.ofString "minismt.texts") 290), DictEntry.mk (PyData.keyHash P (Str.ofString "__firstlineno__")) (Value.str (Str.ofString "__firstlineno__") 350) (Value.int 51 349), DictEntry.mk (PyData.keyHash P (Str.ofString "__init__")) (Value.str (Str.ofString "__init__") 358) (Value.ref 121), DictEntry.mk (PyData.keyHash P (Str.ofString "sign")) (Value.str (Str.ofString "sign") 365) (Value.ref 128), DictEntry.mk (PyData.keyHash P (Str.ofString "skip_blanks")) (Value.str (Str.ofString "skip_blanks") 373) (Value.ref 135), DictEntry.mk (PyData.keyHash P (Str.ofString "run_of")) (Value.str (Str.ofString "run_of") 382) (Value.ref 142), DictEntry.mk (PyData.keyHash P (Str.ofString "ends_here")) (Value.str (Str.ofString "ends_here") 391) (Value.ref 149), DictEntry.mk (PyData.keyHash P (Str.ofString "read_string")) (Value.str (Str.ofString "read_string") 401) (Value.ref 156), DictEntry.mk (PyData.keyHash P (Str.ofString "read_quoted")) (Value.str (Str.ofString "read_quoted") 412) (Value.ref 163), DictEntry.mk (PyData.keyHash P (Str.ofString "read_key")) (Value.str (Str.ofString "read_key") 421) (Value.ref 170), DictEntry.mk (PyData.keyHash P (Str.ofString "read_bits")) (Value.str (Str.ofString "read_bits") 431) (Value.ref 177), DictEntry.mk (PyData.keyHash P (Str.ofString "read_number")) (Value.str (Str.ofString "read_number") 441) (Value.ref 184), DictEntry.mk (PyData.keyHash P (Str.ofString "read_word")) (Value.str (Str.ofString "read_word") 449) (Value.ref 191), DictEntry.mk (PyData.keyHash P (Str.ofString "__static_attributes__")) (Value.str (Str.ofString "__static_attributes__") 452) (Value.ref 192), DictEntry.mk (PyData.keyHash P (Str.ofString "__dict__")) (Value.str (Str.ofString "__dict__") 454) (Value.ref 195), DictEntry.mk (PyData.keyHash P (Str.ofString "__weakref__")) (Value.str (Str.ofString "__weakref__") 456) (Value.ref 196), DictEntry.mk (PyData.keyHash P (Str.ofString "__doc__")) (Value.str (Str.ofString "__doc__") 457) Value.none] 4) #[]) ::
   (nat_lit 194, Obj.mk (Value.type "type") none (Data.cls (ClassData.mk (Str.ofString "Scanner") [Value.type "object"] [Value.ref 194, Value.type "object"] 193 (Str.ofString "Scanner") true [] [] false none false)) #[none, none, some (Value.str (Str.ofString "Scanner") 339), some (Value.str (Str.ofString "Scanner") 347), some (Value.builtin "object.__new__"), some (Value.bool true)]) ::
   (nat_lit 195, Obj.mk (Value.type "getset_descriptor") none (Data.fields #[Value.str (Str.ofString "__dict__") 453, Value.ref 194, Value.builtin "function.__dict__", Value.builtin "function.__dict__#set"]) #[]) ::
   (nat_lit 196, Obj.mk (Value.type "getset_descriptor") none (Data.fields #[Value.str (Str.ofString "__weakref__") 455, Value.ref 194, Value.builtin "ExceptionGroup.__weakref__", Value.none]) #[]) ::
   (nat_lit 199, Obj.mk (Value.type "list") none (Data.seq #[Value.str (Str.ofString "0") 462, Value.str (Str.ofString "7") 463, Value.str (Str.ofString "305") 464, Value.str (Str.ofString "1.5") 465, Value.str (Str.ofString "0.25") 466, Value.str (Str.ofString "12.00") 467, Value.str (Str.ofString "100000000001") 468, Value.str (Str.ofString "\"a\"") 469, Value.str (Str.ofString "\"p\"\"q\"") 470, Value.str (Str.ofString "\"\"") 471, Value.str (Str.ofString "|a b|") 472, Value.str (Str.ofString "|let|") 473, Value.str (Str.ofString "||") 474, Value.str (Str.ofString ":k") 475, Value.str (Str.ofString ":a1") 476, Value.str (Str.ofString ": ") 477, Value.str (Str.ofString "#b1") 478, Value.str (Str.ofString "#b0110") 479, Value.str (Str.ofString "#xA") 480, Value.str (Str.ofString "#x0f") 481, Value.str (Str.ofString "x1") 482, Value.str (Str.ofString "let") 483, Value.str (Str.ofString "<=") 484, Value.str (Str.ofString "a.b") 485, Value.str (Str.ofString " ") 486, Value.str (Str.ofString "\n") 487, Value.str (Str.ofString "; r\n") 488, Value.str (Str.ofString ";\"|\x0d") 489, Value.str (Str.ofString "(") 490, Value.str (Str.ofString ")") 491, Value.str (Str.ofString "\"") 492, Value.str (Str.ofString "|") 493, Value.str (Str.ofString ".") 494, Value.str (Str.ofString "#") 495, Value.str (Str.ofString "\\") 496, Value.str (Str.ofString ",") 497, Value.str (Str.ofString "-") 498, Value.str (Str.ofString "b") 499, Value.str (Str.ofString "\t") 500, Value.str (Str.ofString "as") 501]) #[]) ::
   (nat_lit 200, Obj.mk (Value.type "tuple") none (Data.seq #[]) #[]) ::
   (nat_lit 202, Obj.mk (Value.type "tuple") none (Data.seq #[]) #[]) ::
   (nat_lit 203, Obj.mk (Value.type "tuple") none (Data.seq #[]) #[]) ::
   (nat_lit 205, Obj.mk (Value.type "code") none (Data.fields #[Value.str (Str.ofString "_law_tails") 503, Value.str (Str.ofString "_law_tails") 504, Value.str (Str.ofString "/claim/cut.py") 505, Value.int 168 0, Value.int 0 0, Value.int 0 0, Value.int 0 0, Value.int 3 0, Value.ref 200, Value.bool true, Value.int 181 0, Value.ref 201, Value.none, Value.ref 202, Value.ref 203, Value.ref 204, Value.int 506 0, Value.int 168 0, Value.str (Str.ofString "/claim/cut.py") 507]) #[]) ::
   (nat_lit 206, Obj.mk (Value.type "function") none (Data.func (FuncData.mk (Str.ofString "_law_tails") (Str.ofString "_law_tails") fA206 (FuncBody.stmts fB206) fS206 3 [] Value.none Value.none Value.none (Value.str (Str.ofString "law_sj0097_01") 460) none (Value.ref 205) Value.none 0)) #[]) ::
   (nat_lit 207, Obj.mk (Value.type "tuple") none (Data.seq #[]) #[]) ::
   (nat_lit 209, Obj.mk (Value.type "tuple") none (Data.seq #[]) #[]) ::
   (nat_lit 210, Obj.mk (Value.type "tuple") none (Data.seq #[]) #[]) ::
   (nat_lit 212, Obj.mk (Value.type "code") none (Data.fields #[Value.str (Str.ofString "_law_bound") 509, Value.str (Str.ofString "_law_bound") 510, Value.str (Str.ofString "/claim/cut.py") 511, Value.int 170 0, Value.int 0 0, Value.int 0 0, Value.int 0 0, Value.int 3 0, Value.ref 207, Value.bool true, Value.int 181 0, Value.ref 208, Value.none, Value.ref 209, Value.ref 210, Value.ref 211, Value.int 512 0, Value.int 170 0, Value.str (Str.ofString "/claim/cut.py") 513]) #[]) ::
   (nat_lit 213, Obj.mk (Value.type "function") none (Data.func (FuncData.mk (Str.ofString "_law_bound") (Str.ofString "_law_bound") fA213 (FuncBody.stmts fB213) fS213 3 [] Value.none Value.none Value.none (Value.str (Str.ofString "law_sj0097_01") 460) none (Value.ref 212) Value.none 0)) #[]) ::
   (nat_lit 214, Obj.mk (Value.type "tuple") none (Data.seq #[]) #[]) ::
   (nat_lit 216, Obj.mk (Value.type "tuple") none (Data.seq #[]) #[]) ::
   (nat_lit 217, Obj.mk (Value.type "tuple") none (Data.seq #[]) #[]) ::
   (nat_lit 219, Obj.mk (Value.type "code") none (Data.fields #[Value.str (Str.ofString "_law_kinds") 515, Value.str (Str.ofString "_law_kinds") 516, Value.str (Str.ofString "/claim/cut.py") 517, Value.int 172 0, Value.int 0 0, Value.int 0 0, Value.int 0 0, Value.int 3 0, Value.ref 214, Value.bool true, Value.int 181 0, Value.ref 215, Value.none, Value.ref 216, Value.ref 217, Value.ref 218, Value.int 518 0, Value.int 172 0, Value.str (Str.ofString "/claim/cut.py") 519]) #[]) ::
   (nat_lit 220, Obj.mk (Value.type "function") none (Data.func (FuncData.mk (Str.ofString "_law_kinds") (Str.ofString "_law_kinds") fA220 (FuncBody.stmts fB220) fS220 3 [] Value.none Value.none Value.none (Value.str (Str.ofString "law_sj0097_01") 460) none (Value.ref 219) Value.none 0)) #[]) ::
   (nat_lit 221, Obj.mk (Value.type "tuple") none (Data.seq #[]) #[]) ::
   (nat_lit 223, Obj.mk (Value.type "tuple") none (Data.seq #[]) #[]) ::
   (nat_lit 224, Obj.mk (Value.type "tuple") none (Data.seq #[]) #[]) ::
   (nat_lit 226, Obj.mk (Value.type "code") none (Data.fields #[Value.str (Str.ofString "_law_table") 521, Value.str (Str.ofString "_law_table") 522, Value.str (Str.ofString "/claim/cut.py") 523, Value.int 174 0, Value.int 0 0, Value.int 0 0, Value.int 0 0, Value.int 3 0, Value.ref 221, Value.bool true, Value.int 181 0, Value.ref 222, Value.none, Value.ref 223, Value.ref 224, Value.ref 225, Value.int 524 0, Value.int 174 0, Value.str (Str.ofString "/claim/cut.py") 525]) #[]) ::
   (nat_lit 227, Obj.mk (Value.type "function") none (Data.func (FuncData.mk (Str.ofString "_law_table") (Str.ofString "_law_table") fA227 (FuncBody.stmts fB227) fS227 3 [] Value.none Value.none Value.none (Value.str (Str.ofString "law_sj0097_01") 460) none (Value.ref 226) Value.none 0)) #[]) ::
   (nat_lit 228, Obj.mk (Value.type "tuple") none (Data.seq #[]) #[]) ::
   (nat_lit 230, Obj.mk (Value.type "tuple") none (Data.seq #[Value.str (Str.ofString "feed") 530, Value.str (Str.ofString "wide") 531, Value.str (Str.ofString "at") 532, Value.str (Str.ofString "cell") 533]) #[]) ::
   (nat_lit 231, Obj.mk (Value.type "tuple") none (Data.seq #[]) #[]) ::
   (nat_lit 233, Obj.mk (Value.type "code") none (Data.fields #[Value.str (Str.ofString "_law_pick") 527, Value.str (Str.ofString "_law_pick") 528, Value.str (Str.ofString "/claim/cut.py") 529, Value.int 176 0, Value.int 2 0, Value.int 0 0, Value.int 0 0, Value.int 3 0, Value.ref 228, Value.bool true, Value.int 181 0, Value.ref 229, Value.none, Value.ref 230, Value.ref 231, Value.ref 232, Value.int 534 0, Value.int 176 0, Value.str (Str.ofString "/claim/cut.py") 535]) #[]) ::
   (nat_lit 234, Obj.mk (Value.type "function") none (Data.func (FuncData.mk (Str.ofString "_law_pick") (Str.ofString "_law_pick") fA234 (FuncBody.stmts fB234) fS234 3 [] Value.none Value.none Value.none (Value.str (Str.ofString "law_sj0097_01") 460) none (Value.ref 233) Value.none 0)) #[]) ::
   (nat_lit 235, Obj.mk (Value.type "tuple") none (Data.seq #[]) #[]) ::
   (nat_lit 237, Obj.mk (Value.type "tuple") none (Data.seq #[Value.str (Str.ofString "text") 540, Value.str (Str.ofString "here") 541, Value.str (Str.ofString "k") 542]) #[]) ::
   (nat_lit 238, Obj.mk (Value.type "tuple") none (Data.seq #[]) #[]) ::
   (nat_lit 240, Obj.mk (Value.type "code") none (Data.fields #[Value.str (Str.ofString "_law_column") 537, Value.str (Str.ofString "_law_column") 538, Value.str (Str.ofString "/claim/cut.py") 539, Value.int 181 0, Value.int 2 0, Value.int 0 0, Value.int 0 0, Value.int 3 0, Value.ref 235, Value.bool true, Value.int 181 0, Value.ref 236, Value.none, Value.ref 237, Value.ref 238, Value.ref 239, Value.int 543 0, Value.int 181 0, Value.str (Str.ofString "/claim/cut.py") 544]) #[]) ::
   (nat_lit 241, Obj.mk (Value.type "function") none (Data.func (FuncData.mk (Str.ofString "_law_column") (Str.ofString "_law_column") fA241 (FuncBody.stmts fB241) fS241 3 [] Value.none Value.none Value.none (Value.str (Str.ofString "law_sj0097_01") 460) none (Value.ref 240) Value.none 0)) #[]) ::
   (nat_lit 242, Obj.mk (Value.type "tuple") none (Data.seq #[]) #[]) ::
   (nat_lit 244, Obj.mk (Value.type "tuple") none (Data.seq #[Value.str (Str.ofString "figures") 549, Value.str (Str.ofString "base") 550, Value.str (Str.ofString "worth") 551, Value.str (Str.ofString "scale") 552, Value.str (Str.ofString "figure") 553, Value.str (Str.ofString "place") 554]) #[]) ::
   (nat_lit 245, Obj.mk (Value.type "tuple") none (Data.seq #[]) #[]) ::
   (nat_lit 247, Obj.mk (Value.type "code") none (Data.fields #[Value.str (Str.ofString "_law_worth") 546, Value.str (Str.ofString "_law_worth") 547, Value.str (Str.ofString "/claim/cut.py") 548, Value.int 188 0, Value.int 2 0, Value.int 0 0, Value.int 0 0, Value.int 3 0, Value.ref 242, Value.bool true, Value.int 181 0, Value.ref 243, Value.none, Value.ref 244, Value.ref 245, Value.ref 246, Value.int 555 0, Value.int 188 0, Value.str (Str.ofString "/claim/cut.py") 556]) #[]) ::
   (nat_lit 248, Obj.mk (Value.type "function") none (Data.func (FuncData.mk (Str.ofString "_law_worth") (Str.ofString "_law_worth") fA248 (FuncBody.stmts fB248) fS248 3 [] Value.none Value.none Value.none (Value.str (Str.ofString "law_sj0097_01") 460) none (Value.ref 247) Value.none 0)) #[]) ::
   (nat_lit 249, Obj.mk (Value.type "tuple") none (Data.seq #[]) #[]) ::
   (nat_lit 251, Obj.mk (Value.type "tuple") none (Data.seq #[Value.str (Str.ofString "state") 561, Value.str (Str.ofString "kept") 562, Value.str (Str.ofString "point") 563, Value.str (Str.ofString "top") 564, Value.str (Str.ofString "bottom") 565, Value.str (Str.ofString "prime") 566]) #[]) ::
   (nat_lit 252, Obj.mk (Value.type "tuple") none (Data.seq #[]) #[]) ::
   (nat_lit 254, Obj.mk (Value.type "code") none (Data.fields #[Value.str (Str.ofString "_law_made") 558, Value.str (Str.ofString "_law_made") 559, Value.str (Str.ofString "/claim/cut.py") 560, Value.int 194 0, Value.int 2 0, Value.int 0 0, Value.int 0 0, Value.int 3 0, Value.ref 249, Value.bool true, Value.int 181 0, Value.ref 250, Value.none, Value.ref 251, Value.ref 252, Value.ref 253, Value.int 567 0, Value.int 194 0, Value.str (Str.ofString "/claim/cut.py") 568]) #[]) ::
   (nat_lit 255, Obj.mk (Value.type "function") none (Data.func (FuncData.mk (Str.ofString "_law_made") (Str.ofString "_law_made") fA255 (FuncBody.stmts fB255) fS255 3 [] Value.none Value.none Value.none (Value.str (Str.ofString "law_sj0097_01") 460) none (Value.ref 254) Value.none 0)) #[]) ::
   (nat_lit 256, Obj.mk (Value.type "tuple") none (Data.seq #[]) #[]) ::
   (nat_lit 258, Obj.mk (Value.type "tuple") none (Data.seq #[Value.str (Str.ofString "text") 573, Value.str (Str.ofString "at") 574, Value.str (Str.ofString "state") 575, Value.str (Str.ofString "kept") 576, Value.str (Str.ofString "slash") 577, Value.str (Str.ofString "here") 578, Value.str (Str.ofString "fresh") 579]) #[]) ::
   (nat_lit 259, Obj.mk (Value.type "tuple") none (Data.seq #[]) #[]) ::
   (nat_lit 261, Obj.mk (Value.type "code") none (Data.fields #[Value.str (Str.ofString "_law_word") 570, Value.str (Str.ofString "_law_word") 571, Value.str (Str.ofString "/claim/cut.py") 572, Value.int 215 0, Value.int 2 0, Value.int 0 0, Value.int 0 0, Value.int 3 0, Value.ref 256, Value.bool true, Value.int 181 0, Value.ref 257, Value.none, Value.ref 258, Value.ref 259, Value.ref 260, Value.int 580 0, Value.int 215 0, Value.str (Str.ofString "/claim/cut.py") 581]) #[]) ::
   (nat_lit 262, Obj.mk (Value.type "function") none (Data.func (FuncData.mk (Str.ofString "_law_word") (Str.ofString "_law_word") fA262 (FuncBody.stmts fB262) fS262 3 [] Value.none Value.none Value.none (Value.str (Str.ofString "law_sj0097_01") 460) none (Value.ref 261) Value.none 0)) #[]) ::
   (nat_lit 263, Obj.mk (Value.type "tuple") none (Data.seq #[]) #[]) ::
   (nat_lit 265, Obj.mk (Value.type "tuple") none (Data.seq #[Value.str (Str.ofString "text") 586, Value.str (Str.ofString "at") 587, Value.str (Str.ofString "is_remark") 588, Value.str (Str.ofString "here") 589, Value.str (Str.ofString "sign") 590]) #[]) ::
   (nat_lit 266, Obj.mk (Value.type "tuple") none (Data.seq #[]) #[]) ::
   (nat_lit 268, Obj.mk (Value.type "code") none (Data.fields #[Value.str (Str.ofString "_law_past") 583, Value.str (Str.ofString "_law_past") 584, Value.str (Str.ofString "/claim/cut.py") 585, Value.int 231 0, Value.int 2 0, Value.int 0 0, Value.int 0 0, Value.int 3 0, Value.ref 263, Value.bool true, Value.int 181 0, Value.ref 264, Value.none, Value.ref 265, Value.ref 266, Value.ref 267, Value.int 591 0, Value.int 231 0, Value.str (Str.ofString "/claim/cut.py") 592]) #[]) ::
   (nat_lit 269, Obj.mk (Value.type "function") none (Data.func (FuncData.mk (Str.ofString "_law_past") (Str.ofString "_law_past") fA269 (FuncBody.stmts fB269) fS269 3 [] Value.none Value.none Value.none (Value.str (Str.ofString "law_sj0097_01") 460) none (Value.ref 268) Value.none 0)) #[]) ::
   (nat_lit 270, Obj.mk (Value.type "tuple") none (Data.seq #[]) #[]) ::
   (nat_lit 272, Obj.mk (Value.type "tuple") none (Data.seq #[Value.str (Str.ofString "text") 597, Value.str (Str.ofString "at") 598, Value.str (Str.ofString "is_passing") 599, Value.str (Str.ofString "heard") 600, Value.str (Str.ofString "here") 601, Value.str (Str.ofString "lap") 602, Value.str (Str.ofString "found") 603]) #[]) ::
   (nat_lit 273, Obj.mk (Value.type "tuple") none (Data.seq #[]) #[]) ::
   (nat_lit 275, Obj.mk (Value.type "code") none (Data.fields #[Value.str (Str.ofString "_law_heard") 594, Value.str (Str.ofString "_law_heard") 595, Value.str (Str.ofString "/claim/cut.py") 596, Value.int 242 0, Value.int 3 0, Value.int 0 0, Value.int 0 0, Value.int 3 0, Value.ref 270, Value.bool true, Value.int 181 0, Value.ref 271, Value.none, Value.ref 272, Value.ref 273, Value.ref 274, Value.int 604 0, Value.int 242 0, Value.str (Str.ofString "/claim/cut.py") 605]) #[]) ::
   (nat_lit 276, Obj.mk (Value.type "function") none (Data.func (FuncData.mk (Str.ofString "_law_heard") (Str.ofString "_law_heard") fA276 (FuncBody.stmts fB276) fS276 3 [] Value.none Value.none Value.none (Value.str (Str.ofString "law_sj0097_01") 460) none (Value.ref 275) Value.none 0)) #[]) ::
   (nat_lit 277, Obj.mk (Value.type "tuple") none (Data.seq #[]) #[]) ::
   (nat_lit 279, Obj.mk (Value.type "tuple") none (Data.seq #[Value.str (Str.ofString "text") 610, Value.str (Str.ofString "at") 611, Value.str (Str.ofString "is_passing") 612, Value.str (Str.ofString "scanner") 613, Value.str (Str.ofString "told") 614, Value.str (Str.ofString "lap") 615, Value.str (Str.ofString "item") 616, Value.str (Str.ofString "fault") 617]) #[]) ::
   (nat_lit 280, Obj.mk (Value.type "tuple") none (Data.seq #[]) #[]) ::
   (nat_lit 282, Obj.mk (Value.type "code") none (Data.fields #[Value.str (Str.ofString "_law_told") 607, Value.str (Str.ofString "_law_told") 608, Value.str (Str.ofString "/claim/cut.py") 609, Value.int 251 0, Value.int 3 0, Value.int 0 0, Value.int 0 0, Value.int 3 0, Value.ref 277, Value.bool true, Value.int 181 0, Value.ref 278, Value.none, Value.ref 279, Value.ref 280, Value.ref 281, Value.int 618 0, Value.int 251 0, Value.str (Str.ofString "/claim/cut.py") 619]) #[]) ::
   (nat_lit 283, Obj.mk (Value.type "function") none (Data.func (FuncData.mk (Str.ofString "_law_told") (Str.ofString "_law_told") fA283 (FuncBody.stmts fB283) fS283 3 [] Value.none Value.none Value.none (Value.str (Str.ofString "law_sj0097_01") 460) none (Value.ref 282) Value.none 0)) #[]) ::
   (nat_lit 284, Obj.mk (Value.type "tuple") none (Data.seq #[]) #[]) ::
   (nat_lit 287, Obj.mk (Value.type "code") none (Data.fields #[Value.str (Str.ofString "law") 621, Value.str (Str.ofString "law") 622, Value.str (Str.ofString "/claim/cut.py") 623, Value.int 264 0, Value.int 1 0, Value.int 0 0, Value.int 0 0, Value.int 3 0, Value.ref 284, Value.bool true, Value.int 181 0, Value.ref 285, Value.none, Value.none, Value.none, Value.ref 286, Value.int 624 0, Value.int 264 0, Value.str (Str.ofString "/claim/cut.py") 625]) #[]) ::
   (nat_lit 288, Obj.mk (Value.type "function") none (Data.func (FuncData.mk (Str.ofString "law") (Str.ofString "law") fA288 (FuncBody.stmts fB288) fS288 3 [] Value.none Value.none Value.none (Value.str (Str.ofString "law_sj0097_01") 460) none (Value.ref 287) Value.none 0)) #[]) :: []
noncomputable def heapK : Params → Frag := by
  refine' (?f : (x : Params → List (Nat × Obj)) → heapR = x → Params → List (Nat × Obj)) _ ?h
  case f => exact fun x _ => x
  case h =>
    delta heapR fA30 fB30 fS30 fA37 fB37 fS37 fA59 fB59 fS59 fA66 fB66 fS66 fA78 fB78 fS78 fA85 fB85 fS85 fA92 fB92 fS92 fA100 fB100 fS100 fA107 fB107 fS107 fA121 fB121 fS121 fA128 fB128 fS128 fA135 fB135 fS135 fA142 fB142 fS142 fA149 fB149 fS149 fA156 fB156 fS156 fA163 fB163 fS163 fA170 fB170 fS170 fA177 fB177 fS177 fA184 fB184 fS184 fA191 fB191 fS191 fA206 fB206 fS206 fA213 fB213 fS213 fA220 fB220 fS220 fA227 fB227 fS227 fA234 fB234 fS234 fA241 fB241 fS241 fA248 fB248 fS248 fA255 fB255 fS255 fA262 fB262 fS262 fA269 fB269 fS269 fA276 fB276 fS276 fA283 fB283 fS283 fA288 fB288 fS288
    exact rfl
noncomputable def viewB : List Stmt := stmtsAt [1, 2, 4, 5, 6, 8, 9, 10, 11, 12, 13, 14, 15, 16, 17, 18, 20, 21, 22, 23, 24, 25, 26, 27, 28, 29, 30, 31, 32, 33]
noncomputable def viewV : Program := { (OpenRow.toRowW (OpenLaw.row Challenge.rw_sj0097_01)).prog with main := { (OpenRow.toRowW (OpenLaw.row Challenge.rw_sj0097_01)).prog.main with body := viewB } }
theorem asOk : ∀ P, ([2, 3, 15, 18, 23, 24, 26, 27, 29, 30, 31, 33, 34, 36, 37, 38, 39, 40, 41, 44, 47, 52, 53, 55, 56, 58, 59, 60, 62, 63, 65, 66, 67, 68, 69, 72, 74, 75, 77, 78, 79, 81, 82, 84, 85, 86, 88, 89, 91, 92, 93, 94, 96, 97, 99, 100, 101, 103, 104, 106, 107, 115, 117, 118, 120, 121, 122, 124, 125, 127, 128, 129, 131, 132, 134, 135, 136, 138, 139, 141, 142, 143, 145, 146, 148, 149, 150, 152, 153, 155, 156, 157, 159, 160, 162, 163, 164, 166, 167, 169, 170, 171, 173, 174, 176, 177, 178, 180, 181, 183, 184, 185, 187, 188, 190, 191, 192, 193, 194, 195, 196, 199, 200, 202, 203, 205, 206, 207, 209, 210, 212, 213, 214, 216, 217, 219, 220, 221, 223, 224, 226, 227, 228, 230, 231, 233, 234, 235, 237, 238, 240, 241, 242, 244, 245, 247, 248, 249, 251, 252, 254, 255, 256, 258, 259, 261, 262, 263, 265, 266, 268, 269, 270, 272, 273, 275, 276, 277, 279, 280, 282, 283, 284, 287, 288] : List Nat) = (heapK P).map (·.1) := fun _ => by kernel_rfl
abbrev walkG : Prop := WalkO viewV [Str.ofString "SIMPLE", Str.ofString "_law_pieces"] (XL viewV [(Str.ofString "SIMPLE", WData.str (Str.mk #[97, 98, 99, 100, 101, 102, 103, 104, 105, 106, 107, 108, 109, 110, 111, 112, 113, 114, 115, 116, 117, 118, 119, 120, 121, 122, 65, 66, 67, 68, 69, 70, 71, 72, 73, 74, 75, 76, 77, 78, 79, 80, 81, 82, 83, 84, 85, 86, 87, 88, 89, 90, 48, 49, 50, 51, 52, 53, 54, 55, 56, 57, 126, 33, 64, 36, 37, 94, 38, 42, 95, 45, 43, 61, 60, 62, 46, 63, 47]))]) (Hook.says (kHook heapK [2, 3, 15, 18, 23, 24, 26, 27, 29, 30, 31, 33, 34, 36, 37, 38, 39, 40, 41, 44, 47, 52, 53, 55, 56, 58, 59, 60, 62, 63, 65, 66, 67, 68, 69, 72, 74, 75, 77, 78, 79, 81, 82, 84, 85, 86, 88, 89, 91, 92, 93, 94, 96, 97, 99, 100, 101, 103, 104, 106, 107, 115, 117, 118, 120, 121, 122, 124, 125, 127, 128, 129, 131, 132, 134, 135, 136, 138, 139, 141, 142, 143, 145, 146, 148, 149, 150, 152, 153, 155, 156, 157, 159, 160, 162, 163, 164, 166, 167, 169, 170, 171, 173, 174, 176, 177, 178, 180, 181, 183, 184, 185, 187, 188, 190, 191, 192, 193, 194, 195, 196, 199, 200, 202, 203, 205, 206, 207, 209, 210, 212, 213, 214, 216, 217, 219, 220, 221, 223, 224, 226, 227, 228, 230, 231, 233, 234, 235, 237, 238, 240, 241, 242, 244, 245, 247, 248, 249, 251, 252, 254, 255, 256, 258, 259, 261, 262, 263, 265, 266, 268, 269, 270, 272, 273, 275, 276, 277, 279, 280, 282, 283, 284, 287, 288] asOk)) (OpenRow.toRowW (OpenLaw.row Challenge.rw_sj0097_01)) lawDef [] fun f vs => call f vs
end Mine
end
-- part EX1
section
namespace Mine
theorem freshEX1 : True := by
  w_top off
  trivial
end Mine
open PySem PySem.W PySem.Calls
set_option maxRecDepth 100000
set_option maxHeartbeats 8000000
namespace Mine
section
variable {prog : Program} {w : World} {A : Around} {E : Value → Shared → Prop} {R : Result → Shared → Prop} {h : Heap} {g : Array GenState} {d : Drawn} {t : Nat} {os : OsState}
variable {nm q : Str} {C N : Addr} {bs bm : List Value} {hdct : Bool} {sn : List Str} {sub : List Value} {ab : Bool} {col : Option Bool} {dd : Option Addr} {k0 k1 k2 k3 k5 : Option Value} {K : Frag}

theorem exChkNew (hb : bm.contains (.type "Exception") = true) {rest : List Value} {M : Model} {Q : Unit → Shared → Prop} (hC : h.get? C = some (excClassObj nm q C N bs bm hdct sn sub ab col dd k0 k1 k2 k3 k5 "Exception.__new__"))
    (hq : Q () ⟨h, g, d, t, os⟩) : wpAny M A (checkBuiltinCall "Exception.__new__" ⟨.ref C :: rest, []⟩) Q E ⟨h, g, d, t, os⟩ := by
  have F := PySem.F.excBase_Exception
  have hc : (Value.ref C :: bm).contains (.type "Exception") = true := by rw [List.contains_cons, hb, Bool.or_true]
  have hs := F.noStar
  simp only [checkBuiltinCall, F.newKind, F.newSplit, F.newRow]
  repeat (first | refine wpAny_loadPart_at hC ?_ | (refine wpAny_isSubtype_exc hC ?_; rw [hc]) | refine wpAny_staticBase_exc hC ?_ | refine wpAny_madeBy_exc hC ?_ | simp only [bne_self_eq_false, Bool.false_eq_true, if_false] | wp_step)
  exact hq

theorem exNew (hb : bm.contains (.type "Exception") = true) (ha : bm.contains (.type "AttributeError") = false) (hn : bm.contains (.type "NameError") = false) {rest : List Value}
    (hC : h.get? C = some (excClassObj nm q C N bs bm hdct sn sub ab col dd k0 k1 k2 k3 k5 "Exception.__new__"))
    (hq : R (.ok (.ret (.ref (h.objs.size + 1)))) ⟨(h.push { cls := .type "tuple", data := .seq rest.toArray }).push { cls := .ref C, data := .fields #[.ref h.objs.size, .none, .none, .none, .bool false, .none] }, g, d, t, os⟩)
    (hrest : rest.length ≤ sizeLine := by size_fits) : codeAny (model prog w) A (.builtin "Exception.__new__" ⟨.ref C :: rest, []⟩) R ⟨h, g, d, t, os⟩ := by
  have F := PySem.F.excBase_Exception
  have hends := F.ends
  have hcB : (Value.ref C :: bm).contains (.type "Exception") = true := by rw [List.contains_cons, hb, Bool.or_true]
  have hcA : (Value.ref C :: bm).contains (.type "AttributeError") = false := by rw [List.contains_cons, ha]; rfl
  have hcN : (Value.ref C :: bm).contains (.type "NameError") = false := by rw [List.contains_cons, hn]; rfl
  refine codeAny_builtinAt F.entry ?_
  unfold Builtin.«BaseException.__new__»
  refine wpAt_bind ?_
  show wpAt _ _ _ (stack >>= _) _ _ _
  refine wpAt_bind (wpAt_stack fun p below => wpAt_of_wpAny ?_)
  wp_walk
  refine wpAt_of_wpAny ?_
  rw [F.owner]
  repeat (first | with_reducible refine wpAny_madeHere_exc F.canon hC ?_ | with_reducible refine wpAny_loadPart_at hC ?_ | (with_reducible refine wpAny_isSubtype_exc hC ?_; first | rw [hcB] | rw [hcA] | rw [hcN]) | wp_step)
  show R _ _
  rw [Heap.size_push]
  exact hq

theorem exMake (X : K.In h) (hb : bm.contains (.type "Exception") = true) (ha : bm.contains (.type "AttributeError") = false) (hn : bm.contains (.type "NameError") = false) {rest : List Value} {fI : Addr}
    (hC' : K.lookup C = some (excClassObj nm q C N bs bm hdct sn sub ab col dd k0 k1 k2 k3 k5 "Exception.__new__"))
    (hcall : specialIn K (.ref C) "__call__" = some (some (.builtin "type.__call__"))) (htyp : instIn K (.ref C) (.type "type") = some true)
    (hi : findIn K (.ref C) "__init__" = some (some (.ref fI))) (hf : typeIn K (.ref fI) = some (.type "function"))
    (hq : codeAny (model prog w) (A.under (.builtin "type.__call__" ⟨.ref C :: rest, []⟩)) (.call (.ref fI) ⟨.ref (h.objs.size + 1) :: rest, []⟩) (InitBack (h.objs.size + 1) R)
      ⟨(h.push { cls := .type "tuple", data := .seq rest.toArray }).push { cls := .ref C, data := .fields #[.ref h.objs.size, .none, .none, .none, .bool false, .none] }, g, d, t, os⟩)
    (hrest : rest.length ≤ sizeLine := by size_fits) :
    codeAny (model prog w) A (.call (.ref C) ⟨rest, []⟩) R ⟨h, g, d, t, os⟩ := by
  have hC := X _ _ hC'
  have call := looks_specialIn (M := model prog w) X hcall
  have typ := looks_instIn (M := model prog w) X htyp
  have init := looks_findIn (M := model prog w) X hi
  refine codeAny_of_tree ?_
  show wpAny _ _ (callAny (.ref C) _) _ _ _
  refine nd_load hC ?_
  show wpAny _ _ (callAny.viaDunder (.ref C) _) _ _ _
  unfold callAny.viaDunder
  refine wpAny_bind (call.at ?_)
  dsimp only
  rw [tc_bind]
  refine wpAny_bind (wpAny_pure (wpAny_bind (wpAny_pure ?_)))
  refine wpAny_pure (a := Fin.again (.call (.builtin "type.__call__") ⟨.ref C :: rest, []⟩)) (And.intro rfl ?_)
  refine codeAny_call_builtin_at (Code.quiet_builtin _ (by decide +kernel)) entry_typeCall (check_slot tc_kind tc_split typ (tc_args _ _ _) ?_)
  unfold Builtin.«type.__call__»
  repeat (first | with_reducible refine wpAny_loadPart_at hC ?_ | with_reducible refine wpAny_madeBy_exc hC ?_ | wp_step)
  refine codeAny_call_builtin_code (Code.quiet_builtin _ PySem.F.excBase_Exception.quiet) (exChkNew hb hC ?_)
  refine exNew hb ha hn hC ?_ hrest
  show wpAny _ _ _ _ _ _
  have k : ∀ b o, h.get? b = some o → ((h.push { cls := .type "tuple", data := .seq rest.toArray }).push { cls := .ref C, data := .fields #[.ref h.objs.size, .none, .none, .none, .bool false, .none] }).get? b = some o := fun b o e => Heap.get?_push_of_some _ (Heap.get?_push_of_some _ e)
  have hC₁ := k _ _ hC
  have init₁ := init.keeps k
  have hget : ((h.push { cls := .type "tuple", data := .seq rest.toArray }).push
      { cls := .ref C, data := .fields #[.ref h.objs.size, .none, .none, .none, .bool false, .none] }).get? (h.objs.size + 1) = some
      { cls := .ref C, data := .fields #[.ref h.objs.size, .none, .none, .none, .bool false, .none] } := by heap_get
  have b1 := bind_fn (M := model prog w) (X.keeps k) (f := fI) (.ref (h.objs.size + 1)) hf
  have hcC : (Value.ref C :: bm).contains (.ref C) = true := by simp
  unfold isInstance callSpecial? specialOf
  repeat (first | with_reducible refine wpAny_loadPart_at hget ?_ | (with_reducible refine wpAny_isSubtype_exc hC₁ ?_; rw [hcC]) | with_reducible refine Looks.at init₁ ?_ | with_reducible refine Looks.at b1 ?_ | with_reducible refine wpAny_call ?_ | wp_step | lk)
  refine codeAny_mono hq fun r s' z => ?_
  rcases r with e | (v | _ | _ | _) <;> first | exact z | exact z.elim | skip
  obtain ⟨rfl, z⟩ := z
  exact wpAny_pure (wpAny_pure z)
end
end Mine
end
-- part EX2
section
namespace Mine
theorem freshEX2 : True := by
  w_top off
  trivial
end Mine
open PySem PySem.W PySem.Calls PyProof.Rows Builtin Builtin.ObjectAttr
set_option maxRecDepth 100000
set_option maxHeartbeats 8000000
namespace Mine

theorem exRefuse (self : Value) : refuseLoop self "__setattr__" [.ref 69, .ref 40, .type "Exception", .type "BaseException", .type "object"] = pure () := by
  rw [refuseLoop_ref, refuseLoop_ref]; kernel_rfl

section
variable {prog : Program} {w : World} {A : Around} {E : Value → Shared → Prop} {R : Result → Shared → Prop} {s : Shared} {K : Frag} {C x L : Addr} {h₀ : Heap} {m : Str → Option Value} {cd : ClassData} {name : Str} {tk : Tok} {v : Value} {pre post : List (Addr × Obj)}

theorem exSetOpen {ox : Obj} {od : Option Obj} (X : K.In s.heap) (I : InstAt s.heap x ox C od) (hc : clsIn K C = some cd) (hp : ∀ self, refuseLoop self "__setattr__" cd.mro = pure ()) (hobj : cd.mro.contains (.type "object") = true) (hne : cd.mro.isEmpty = false)
    (ht : takerIn K C name = some none) (hs : findIn K (.ref C) "__setattr__" = some (some (.builtin "object.__setattr__"))) {Q : Unit → Shared → Prop}
    (h : ∀ b A, wpAny (model prog w) A (storeInOwnDict (.ref x) (.ref C) (.str name s.toks) name v b)
      (fun fin s' => match fin with | .done (.ret _) => Q () s' | _ => False) (fun e s' => E e s') { s with toks := s.toks + 1 }) :
    wpAny (model prog w) A (setAttr (.ref x) name v) Q E s := by
  refine set_plain X I hs ?_
  have SF := PySem.F.store_object
  have sub : Looks (model prog w) s.heap (isInstance (.ref x) (.type "object")) true := I.type.andThen (looks_mroIn X (by unfold mroIn; rw [hc, Option.bind_some, if_neg (by rw [hne]; decide), hobj]))
  refine codeAny_call_builtin SF.slot.plain SF.entry (@check_slot (model prog w) _ _ { s with toks := s.toks + 1 } "object.__setattr__" "object" "__setattr__" (.ref x) [.str name s.toks, v] [] _ SF.kind SF.split sub (SF.args (.ref x) (.str name s.toks) v) ?_)
  obtain ⟨attr, ha, hr⟩ := Option.bind_eq_some_iff.mp ht
  have hm : Looks (model prog w) s.heap (mroOf (.ref C)) cd.mro := (looks_clsIn X hc).andThen .now
  have L3 : Looks (model prog w) s.heap (storeTaker? attr) none := by
    cases attr with
    | none => cases hr; exact .now
    | some a =>
      obtain ⟨b, hb, e⟩ := Option.map_eq_some_iff.mp hr
      refine (looks_takesIn X hb).andThen ?_
      cases b <;> first | exact .now | cases e
  rw [osa_eq, refuse_eq]
  refine wpAny_bind (wpAny_bind (I.type.at (wpAny_bind (hm.at ?_))))
  rw [hp]
  refine wpAny_pure (wpAny_bind (I.type.at (wpAny_bind ((looks_findIn X ha).at (wpAny_bind (L3.at ?_))))))
  refine wpAny_mono (h _ _) (fun fin s' z => ?_) fun _ _ z => z
  rcases fin with (_ | _ | _ | _) | _ <;> first | exact z | exact z.elim

/-- a store into an exception that has no dict yet -/
theorem exSet0 {Q : Unit → Shared → Prop} {vs : Array Value} {sl : Array (Option Value)} (F : Fr h₀ L s.heap m) (X₀ : K.In h₀) (N : News h₀ L s.heap (pre ++ (x, ⟨.ref C, none, .fields vs, sl⟩) :: post)) (h1 : ∀ p ∈ pre, p.1 ≠ x) (h2 : ∀ p ∈ post, p.1 ≠ x)
    (hc : clsIn K C = some cd) (hp : ∀ self, refuseLoop self "__setattr__" cd.mro = pure ()) (hobj : cd.mro.contains (.type "object") = true) (hne : cd.mro.isEmpty = false) (hd : cd.hasDict = true)
    (ht : takerIn K C name = some none) (hs : findIn K (.ref C) "__setattr__" = some (some (.builtin "object.__setattr__")))
    (h : ∀ dx h' tk', Fr h₀ L h' m → (∀ p ∈ pre ++ (x, (⟨.ref C, none, .fields vs, sl⟩ : Obj)) :: post, p.1 < dx) → News h₀ L h' ((dx, dictOf [⟨PyData.keyHash w.params name, .str name tk', v⟩] 1) :: pre ++ (x, ⟨.ref C, some dx, .fields vs, sl⟩) :: post) → Q () { s with heap := h', toks := s.toks + 2 }) :
    wpAny (model prog w) A (setAttr (.ref x) name v) Q E s := by
  have X := X₀.keeps F.keep
  have Nx := N (x, ⟨.ref C, none, .fields vs, sl⟩) (by simp)
  have I : InstAt s.heap x ⟨.ref C, none, .fields vs, sl⟩ C none := ⟨Nx.1, rfl, rfl, trivial⟩
  refine exSetOpen X I hc hp hobj hne ht hs fun b A => ?_
  have F1 := F.push emptyDict
  have N1 := N.push F emptyDict
  have ltd : ∀ p ∈ pre ++ (x, (⟨.ref C, none, .fields vs, sl⟩ : Obj)) :: post, p.1 < s.heap.objs.size := fun p hp => Heap.lt_size (N p hp).1
  have U := news_upd (pre := (s.heap.objs.size, emptyDict) :: pre) (post := post) (f := fun o => { o with dict := some s.heap.objs.size }) F1 N1
    (fun p hp => by
      rcases List.mem_cons.mp hp with rfl | hp
      · exact Nat.ne_of_gt (ltd (x, ⟨.ref C, none, .fields vs, sl⟩) (by simp))
      · exact h1 p hp) h2 rfl rfl
  obtain ⟨U1, U2⟩ := U
  have U3 := news_upd (pre := []) (post := pre ++ (x, ⟨.ref C, some s.heap.objs.size, .fields vs, sl⟩) :: post) (f := Obj.putName name (PyData.keyHash w.params name) (.str name (s.toks + 1)) v) U1 U2
    (fun _ h => nomatch h) (fun p hp => by
      rcases List.mem_append.mp hp with hp | hp
      · exact Nat.ne_of_lt (ltd p (by simp [hp]))
      · rcases List.mem_cons.mp hp with rfl | hp
        · exact Nat.ne_of_lt (ltd (x, ⟨.ref C, none, .fields vs, sl⟩) (by simp))
        · exact Nat.ne_of_lt (ltd p (by simp [hp]))) (putName_dict name _ _ v [] 0) rfl
  obtain ⟨V1, V2⟩ := U3
  have D := (U2 (s.heap.objs.size, emptyDict) (by simp)).1
  have D' := (V2 (s.heap.objs.size, dictOf (putL name (PyData.keyHash w.params name) (.str name (s.toks + 1)) v []) (putN name [] 0)) (by simp)).1
  refine wpAny_bind (wpAny_pure (wpAny_bind (wpAny_bind (wpAny_loadPart Nx.1 (wpAny_bind ((looks_clsIn (M := model prog w) X hc).at ?_))))))
  rw [hd]
  refine wpAny_bind (wpAny_alloc (wpAny_bind (wpAny_update ((N1 (x, ⟨.ref C, none, .fields vs, sl⟩) (by simp)).1) (wpAny_pure ?_))))
  refine wpAny_bind (wpAny_pure (wpAny_bind ?_))
  unfold nsSet
  refine wpAny_bind (wpAny_bind (wpAny_askSetting (wpAny_pure (wpAny_bind (wpAny_mkText (wpAny_bind (wpAny_loadPart D ?_)))))))
  refine wpAny_updatePart D ?_
  refine wpAny_bind (wpAny_lookBehind D' (pastItsLine_dict (by simp [putL, sizeLine_eq])) ?_)
  exact wpAny_pure (h _ _ _ V1 ltd V2)

/-- a store into an exception's dict -/
theorem exSet1 {Q : Unit → Shared → Prop} {vs : Array Value} {sl : Array (Option Value)} {dx : Addr} {es : List DictEntry} {n : Nat} (F : Fr h₀ L s.heap m) (X₀ : K.In h₀) (N : News h₀ L s.heap (pre ++ (dx, dictOf es n) :: post)) (h1 : ∀ p ∈ pre, p.1 ≠ dx) (h2 : ∀ p ∈ post, p.1 ≠ dx)
    (hx : (x, ⟨.ref C, some dx, .fields vs, sl⟩) ∈ pre ++ post)
    (hc : clsIn K C = some cd) (hp : ∀ self, refuseLoop self "__setattr__" cd.mro = pure ()) (hobj : cd.mro.contains (.type "object") = true) (hne : cd.mro.isEmpty = false) (hd : cd.hasDict = true)
    (ht : takerIn K C name = some none) (hs : findIn K (.ref C) "__setattr__" = some (some (.builtin "object.__setattr__"))) (hk : es.any (·.refKey) = false) (hz : es.length ≤ 900)
    (h : ∀ h' tk', Fr h₀ L h' m → News h₀ L h' (pre ++ (dx, dictOf (putL name (PyData.keyHash w.params name) (.str name tk') v es) (putN name es n)) :: post) → Q () { s with heap := h', toks := s.toks + 2 }) :
    wpAny (model prog w) A (setAttr (.ref x) name v) Q E s := by
  have X := X₀.keeps F.keep
  have Nx := N (x, ⟨.ref C, some dx, .fields vs, sl⟩) (by
    rcases List.mem_append.mp hx with q | q
    · exact List.mem_append_left _ q
    · exact List.mem_append_right _ (.tail _ q))
  have D := (N (dx, dictOf es n) (by simp)).1
  have I : InstAt s.heap x ⟨.ref C, some dx, .fields vs, sl⟩ C (some (dictOf es n)) := ⟨Nx.1, rfl, rfl, D⟩
  refine exSetOpen X I hc hp hobj hne ht hs fun b A => ?_
  obtain ⟨V1, V2⟩ := news_upd (f := Obj.putName name (PyData.keyHash w.params name) (.str name (s.toks + 1)) v) F N h1 h2 (putName_dict name _ _ v es n) rfl
  have D' := (V2 (dx, dictOf (putL name (PyData.keyHash w.params name) (.str name (s.toks + 1)) v es) (putN name es n)) (by simp)).1
  refine wpAny_bind (wpAny_pure (wpAny_bind (wpAny_bind (wpAny_loadPart Nx.1 (wpAny_bind ((looks_clsIn (M := model prog w) X hc).at ?_))))))
  rw [hd]
  refine wpAny_pure (a := some dx) (wpAny_bind (wpAny_pure (wpAny_bind ?_)))
  unfold nsSet
  refine wpAny_bind (wpAny_bind (wpAny_askSetting (wpAny_pure (wpAny_bind (wpAny_mkText (wpAny_bind (wpAny_loadPart D ?_)))))))
  dsimp only
  have c : (!(es.toArray).any (·.key.isStr name) && (es.toArray).any (·.refKey)) = false := by
    rw [← Array.any_toList, ← Array.any_toList, hk, Bool.and_false]
  rw [aRefKeyMayBeTheName_at, c]
  refine wpAny_updatePart D ?_
  refine wpAny_bind (wpAny_lookBehind D' (pastItsLine_dict ?_) ?_)
  · have : (putL name (PyData.keyHash w.params name) (.str name (s.toks + 1)) v es).length ≤ es.length + 1 := by
      clear h h1 h2 hz hk c D D' V1 V2 I Nx N hx
      induction es with
      | nil => simp [putL]
      | cons e r ih => simp only [putL]; split <;> simp <;> omega
    rw [List.size_toArray, sizeLine_eq]; omega
  · exact wpAny_pure (h _ _ V1 V2)
end
end Mine
end
-- part EX3
section
namespace Mine
theorem freshEX3 : True := by
  w_top off
  trivial
end Mine
open PySem PySem.W PySem.Calls Builtin Builtin.ObjectAttr
set_option maxRecDepth 100000
set_option maxHeartbeats 8000000
namespace Mine

theorem wd_slot : Slot "wrapper_descriptor" "__get__" "wrapper_descriptor.__get__" := .of (owner := "wrapper_descriptor") (n := "__get__") (by rw [typeLookup_type, builtinLookup_eq_fast]; kernel_rfl) (by decide +kernel) (by decide +kernel) (by decide +kernel)
  (by first | exact .inl (by decide +kernel) | exact .inr (by decide +kernel)) (by rw [isSubtype_type]; kernel_rfl)
theorem wd_entry : entryFor table "wrapper_descriptor.__get__" = some Builtin.«wrapper_descriptor.__get__» := entryFor_of_tree (by kernel_rfl)
theorem wd_args (a b c : Value) : argsOk "wrapper_descriptor.__get__" ⟨[a, b, c], []⟩ := by unfold argsOk; kernel_rfl
theorem ei_type : typeOf (.builtin "Exception.__init__") = pure (.type "wrapper_descriptor") := by show builtinType _ = _; rw [builtinType_eq_fast]; kernel_rfl

abbrev mwObj (x : Addr) : Obj := { cls := .type "method-wrapper", dict := none, data := .fields #[.builtin "Exception.__init__", .ref x], slots := #[] }
section
variable {prog : Program} {w : World} {A : Around} {E : Value → Shared → Prop} {R : Result → Shared → Prop} {h : Heap} {g : Array GenState} {d : Drawn} {t : Nat} {os : OsState} {K : Frag}

theorem exSuperGa {so D x C : Addr} {l₀ l : List Value} {tk : Tok} {Q : PySem.Fin → Shared → Prop}
    (hso : h.get? so = some { cls := .type "super", dict := none, data := .fields #[.ref D, .ref x, .ref C], slots := #[] }) (hno : Looks (model prog w) h (opaqueClassAbove (.ref C)) none)
    (hC : Looks (model prog w) h (mroOf (.ref C)) l₀) (hl : (l₀.dropWhile (· != .ref D)).drop 1 = l) (X : K.In h)
    (hf : alongIn K "__init__" l = some (some (.builtin "Exception.__init__"))) (hxC : x ≠ C) {ox : Obj} (hx : h.get? x = some ox) (hxc : ox.cls = .ref C) (hi : Looks (model prog w) h (isSubtype (.ref C) (.type "Exception")) true)
    (hq : Q (.done (.ret (.ref h.objs.size))) ⟨h.push (mwObj x), g, d, t, os⟩) :
    wpAny (model prog w) A (Builtin.«super.__getattribute__» ⟨[.ref so, .str "__init__" tk], []⟩) Q E ⟨h, g, d, t, os⟩ := by
  have hne : (Value.ref x == Value.ref C) = false := by simp [hxC]
  have hT : (⟨h, g, d, t, os⟩ : Shared).TypeIs (.builtin "Exception.__init__") "wrapper_descriptor" := ei_type
  have hdt : ({ cls := .type "super", dict := none, data := .fields #[.ref D, .ref x, .ref C], slots := #[] } : Obj).data = .fields #[.ref D, .ref x, .ref C] := rfl
  have f0 : (#[.ref D, .ref x, .ref C] : Array Value)[0]? = some (.ref D) := rfl
  have f1 : (#[.ref D, .ref x, .ref C] : Array Value)[1]? = some (.ref x) := rfl
  have f2 : (#[.ref D, .ref x, .ref C] : Array Value)[2]? = some (.ref C) := rfl
  have hn : (Str.ofString "__init__" == Str.ofString "__class__") = false := by decide
  have hlk := wd_slot.lookup
  have hname : (".".intercalate ("Exception.__init__".cutAt '.').dropLast) = "Exception" := by decide +kernel
  unfold Builtin.«super.__getattribute__»
  repeat (first
    | (with_reducible refine wpAny_field hso hdt f0 ?_) | (with_reducible refine wpAny_field hso hdt f1 ?_) | (with_reducible refine wpAny_field hso hdt f2 ?_)
    | (with_reducible refine ks_wpAny_notOpaque hno ?_)
    | (with_reducible refine Looks.at hC ?_; rw [hl])
    | (with_reducible refine wpAny_loadPart_at hx ?_; rw [hxc])
    | (with_reducible rw [hname]; with_reducible refine Looks.at hi ?_)
    | (refine ks_forIn_along X (fun _ _ => rfl) rfl ?_ hf)
    | (with_reducible refine wpAny_typeOf hT ?_)
    | (with_reducible refine wpAny_call_entry wd_slot hT wd_entry ?_ (wd_args _ _ _))
    | (with_reducible refine ⟨_, rfl, ?_⟩)
    | (simp only [hn, hne, Bool.or_false, Bool.false_eq_true, if_false])
    | wp_step
    | dsimp only)
  all_goals exact hq

theorem exGetMethodSuper {so D x C : Addr} {l₀ l : List Value} {pl : Sem Bool} {Q : Value × List Value → Shared → Prop}
    (hso : h.get? so = some { cls := .type "super", dict := none, data := .fields #[.ref D, .ref x, .ref C], slots := #[] }) (hno : Looks (model prog w) h (opaqueClassAbove (.ref C)) none)
    (hC : Looks (model prog w) h (mroOf (.ref C)) l₀) (hl : (l₀.dropWhile (· != .ref D)).drop 1 = l) (X : K.In h)
    (hf : alongIn K "__init__" l = some (some (.builtin "Exception.__init__"))) (hxC : x ≠ C) {ox : Obj} (hx : h.get? x = some ox) (hxc : ox.cls = .ref C) (hi : Looks (model prog w) h (isSubtype (.ref C) (.type "Exception")) true)
    (hq : Q (.ref h.objs.size, []) ⟨h.push (mwObj x), g, d, t + 1, os⟩) :
    wpAny (model prog w) A (getMethod (.ref so) "__init__" pl) Q E ⟨h, g, d, t, os⟩ := by
  have hlk := PySem.F.ks_slot_super_ga.lookup
  have hcan := PySem.F.ks_canon_super_ga
  have hT : ∀ t', (⟨h, g, d, t', os⟩ : Shared).TypeIs (.ref so) "super" := fun _ => ⟨_, hso, rfl⟩
  unfold getMethod
  refine wpAny_bind (wpAny_specialOf (hT _) hlk ?_)
  show wpAny _ _ (if (Manifest.canonical "super.__getattribute__" != "object.__getattribute__") = true then _ else _) _ _ _
  rw [if_pos hcan]
  unfold getAttr getAttrBy
  refine wpAny_bind (wpAny_bind (wpAny_mkText (wpAny_holding (wpAny_bind (wpAny_typeOf (hT _) (wpAny_bind (wpAny_of_eq hlk ?_)))))))
  show wpAny _ _ (getAttrByItsOwn (.ref so) (.str "__init__" t) (.type "super") (.builtin "super.__getattribute__") true false) _ _ _
  unfold getAttrByItsOwn hookBefore callGetattribute boundAndCalled
  refine wpAny_bind (wpAny_of_eq (show (if onTheHeap (.type "super") then typeLookup (.type "super") "__getattr__" else pure none) = pure none from rfl) ?_)
  refine wpAny_bind (wpAny_attempt (wpAny_holding ?_))
  show wpAny _ _ (bindSpecial (.builtin "super.__getattribute__") (.ref so) >>= _) _ _ _
  refine wpAny_bind (wpAny_of_eq (PySem.F.ks_slot_super_ga.bind _) ?_)
  refine wpAny_call_entry PySem.F.ks_slot_super_ga (hT _) PySem.F.ks_entry_super_ga ?_ (PySem.F.ks_gaArgs_super _ _)
  refine exSuperGa hso hno hC hl X hf hxC hx hxc hi ⟨_, rfl, ?_⟩
  refine wpAny_bind (wpAny_pure (wpAny_pure ?_))
  exact wpAny_pure hq
end
section
open PyProof.Rows
variable {prog : Program} {w : World} {A : Around} {E : Value → Shared → Prop} {s : Shared} {K : Frag} {C D L x q : Addr} {h₀ : Heap} {m : Str → Option Value} {news pre post : List (Addr × Obj)} {env : Env} {pos : Pos}
theorem keeps_MW {M : Model} (h : Heap) (X : h.get? q = some (mwObj x)) : ∃ k, (k = Keeper.frame ∨ k = Keeper.machine ∨ k = Keeper.boundFrame) ∧ Looks M h (keeperOf (.ref q)) k :=
  ⟨.machine, .inr (.inl rfl), (Looks.ld (part := none) X).andThen .now⟩
theorem callWith_MW {e : Expr} {rest : List Expr} {Q : Value → Shared → Prop} (N : News h₀ L s.heap news) (hq : (q, mwObj x) ∈ news) (h : wpAny (model prog w) A (spliced (backTo pos (starEach (e :: rest) env))) (fun vs s₁ => s₁.heap.get? q = some (mwObj x) ∧ wpAny (model prog w) A (call (.ref q) vs) Q E s₁) E s)
    (he : starEach (e :: rest) env = (false, eval e env) :: starEach rest env := by rfl) (hplain : (backTo pos (starEach rest env)).any (·.1) = false := by rfl) :
    wpAny (model prog w) A (callWith pos (.ref q) [] (backTo pos (starEach (e :: rest) env)) []) Q E s := by
  rw [he] at h ⊢
  exact callWith_of (by show ((false || (backTo pos (starEach rest env)).any (·.1)) || false) = false; rw [hplain]; rfl) keeps_MW (evalArgs_plain h)
theorem ei_bound {M : Model} {x : Addr} {v : Value} {ox : Obj} {Q : Unit → Shared → Prop} {h : Heap} {g : Array GenState} {d : Drawn} {t : Nat} {os : OsState} {C : Addr} {oC : Obj} {cd : ClassData} (hx : h.get? x = some ox) (hxc : ox.cls = .ref C) (hC : h.get? C = some oC) (hCd : oC.data = .cls cd) (hQ : Q () ⟨h, g, d, t, os⟩) : wpAny M A (checkBoundCall "Exception.__init__" ⟨[.ref x, v], []⟩) Q E ⟨h, g, d, t, os⟩ := by
  have F := PySem.F.excBase_Exception
  have hshort := F.noStar
  unfold checkBoundCall
  rw [F.initRow, F.initKind]
  dsimp only
  rw [if_pos (by decide)]
  obtain ⟨oc1, oc2, oc3, oc4⟩ := oC
  dsimp only at hCd
  subst hCd
  repeat (first | (with_reducible refine wpAny_loadPart_at hx ?_; rw [hxc]) | (with_reducible refine wpAny_loadPart_at hC ?_) | wp_step)
  exact hQ
/-- the built-in base's __init__, called through super() -/
theorem exInit {v : Value} {t₀ : Addr} {o1 o2 o3 o4 o5 : Value} {dd : Option Addr} {sl : Array (Option Value)} {Q : Value → Shared → Prop} (F : Fr h₀ L s.heap m) (N : News h₀ L s.heap (pre ++ (x, ⟨.ref C, dd, .fields #[.ref t₀, o1, o2, o3, o4, o5], sl⟩) :: post)) (h1 : ∀ p ∈ pre, p.1 ≠ x) (h2 : ∀ p ∈ post, p.1 ≠ x)
    (hq : (q, mwObj x) ∈ pre ++ post) {cd : ClassData} (X₀ : K.In h₀) (hcd : clsIn K C = some cd)
    (h : ∀ tn h', Fr h₀ L h' m → (∀ p ∈ pre ++ (x, (⟨.ref C, dd, .fields #[.ref t₀, o1, o2, o3, o4, o5], sl⟩ : Obj)) :: post, p.1 < tn) → News h₀ L h' ((tn, { cls := .type "tuple", data := .seq #[v] }) :: pre ++ (x, ⟨.ref C, dd, .fields #[.ref tn, o1, o2, o3, o4, o5], sl⟩) :: post) → Q .none { s with heap := h' }) :
    wpAny (model prog w) A (call (.ref q) [v]) Q E s := by
  have Nq := (N (q, mwObj x) (by
    rcases List.mem_append.mp hq with z | z
    · exact List.mem_append_left _ z
    · exact List.mem_append_right _ (.tail _ z))).1
  have Nx := (N (x, ⟨.ref C, dd, .fields #[.ref t₀, o1, o2, o3, o4, o5], sl⟩) (by simp)).1
  have F1 := F.push { cls := .type "tuple", data := .seq #[v] }
  have N1 := N.push F { cls := .type "tuple", data := .seq #[v] }
  have ltd : ∀ p ∈ pre ++ (x, (⟨.ref C, dd, .fields #[.ref t₀, o1, o2, o3, o4, o5], sl⟩ : Obj)) :: post, p.1 < s.heap.objs.size := fun p hp => Heap.lt_size (N p hp).1
  have U := news_upd (pre := (s.heap.objs.size, { cls := .type "tuple", data := .seq #[v] }) :: pre) (post := post) (f := Obj.mapFields (·.setIfInBounds 0 (.ref s.heap.objs.size))) F1 N1
    (fun p hp => by
      rcases List.mem_cons.mp hp with rfl | hp
      · exact Nat.ne_of_gt (ltd (x, ⟨.ref C, dd, .fields #[.ref t₀, o1, o2, o3, o4, o5], sl⟩) (by simp))
      · exact h1 p hp) h2 rfl rfl
  obtain ⟨U1, U2⟩ := U
  have fin := h _ _ U1 ltd U2
  have Nx1 := (N1 (x, ⟨.ref C, dd, .fields #[.ref t₀, o1, o2, o3, o4, o5], sl⟩) (by simp)).1
  refine wpAny_call (codeAny_of_tree ?_)
  show wpAny _ A.in1 (callAny (.ref q) ⟨[v], []⟩) _ _ _
  unfold callAny
  refine wpAny_bind (wpAny_load Nq ?_)
  show wpAny _ _ (checkBoundCall "Exception.__init__" ⟨[.ref x, v], []⟩ >>= _) _ _ _
  obtain ⟨oC, hC, hCd⟩ : ∃ oC, s.heap.get? C = some oC ∧ oC.data = .cls cd := by
    unfold clsIn at hcd
    split at hcd
    · rename_i ho; cases hcd; exact ⟨_, F.keep _ _ (X₀ _ _ ho), rfl⟩
    · cases hcd
  refine wpAny_bind (ei_bound (h := s.heap) Nx rfl hC hCd ?_)
  refine wpAny_bind (wpAny_pure (wpAny_pure ⟨Code.quiet_builtin _ (by decide +kernel), ?_⟩))
  refine codeAny_builtin PySem.F.excBase_Exception.initEntry ?_
  unfold Builtin.«BaseException.__init__» Builtin.BaseException.bexcPut
  wp_walk
  exact fin
end
end Mine
end
-- part EX4
section
namespace Mine
theorem freshEX4 : True := by
  w_top off
  trivial
end Mine
open PySem PySem.W PySem.Calls PyProof.Rows Builtin Builtin.ObjectAttr
set_option maxRecDepth 100000
set_option maxHeartbeats 8000000
namespace Mine
noncomputable abbrev LO : List Str := looseW viewV [Str.ofString "SIMPLE", Str.ofString "_law_pieces"]

abbrev excF (te : Addr) (d : Option Addr) : Obj := ⟨.ref 69, d, .fields #[.ref te, .none, .none, .none, .bool false, .none], #[]⟩
theorem InstAt.exc0 {h₀ h : Heap} {L x C : Addr} {news : List (Addr × Obj)} {vs : Array Value} {sl : Array (Option Value)} (N : News h₀ L h news) (h1 : (x, (⟨.ref C, none, .fields vs, sl⟩ : Obj)) ∈ news) :
    W.InstAt h x ⟨.ref C, none, .fields vs, sl⟩ C none := ⟨(N _ h1).1, rfl, rfl, trivial⟩

theorem splitKey {x : Addr} : ∀ (p1 p2 q1 q2 : List (Addr × Obj)) (o : Obj), p1 ++ (x, o) :: q1 = p2 ++ (x, o) :: q2 → (∀ r ∈ p1, r.1 ≠ x) → (∀ r ∈ p2, r.1 ≠ x) → p1 = p2 ∧ q1 = q2 := by
  intro p1
  induction p1 with
  | nil =>
    intro p2 q1 q2 o e h1 h2
    cases p2 with
    | nil => exact ⟨rfl, (List.cons.inj e).2⟩
    | cons r p2 =>
      have := (List.cons.inj e).1
      exact absurd (by rw [← this]) (h2 r (.head _))
  | cons r p1 ih =>
    intro p2 q1 q2 o e h1 h2
    cases p2 with
    | nil =>
      have := (List.cons.inj e).1
      exact absurd (by rw [this]) (h1 r (.head _))
    | cons r2 p2 =>
      obtain ⟨e1, e2⟩ := List.cons.inj e
      obtain ⟨f1, f2⟩ := ih p2 q1 q2 o e2 (fun r h => h1 r (.tail _ h)) (fun r h => h2 r (.tail _ h))
      exact ⟨by rw [e1, f1], f2⟩

section
variable {prog : Program} {w : World} {A : Around} {E : Value → Shared → Prop} {s : Shared} {K : Frag} {C D L x q so dx : Addr} {h₀ : Heap} {m : Str → Option Value} {news : List (Addr × Obj)} {env : Env} {pos : Pos} {cd : ClassData} {name : Str} {v : Value}
theorem exMethodK {pl : Sem Bool} {Q : Value × List Value → Shared → Prop} {ox : Obj} {odx : Option Obj} (F : Fr h₀ L s.heap m) (X₀ : K.In h₀) (N : News h₀ L s.heap news) (hso : (so, ks_superObj D x C) ∈ news) (I : W.InstAt s.heap x ox C odx) (ho : nsIn K cStatics "thirdparty.any" = some none)
    (hm : ks_superIn K C D "__init__" = some (some (.builtin "Exception.__init__"))) (hs : subIn K (.ref C) (.type "Exception") = some true)
    (h : ∀ q h', Fr h₀ L h' m → News h₀ L h' ((q, mwObj x) :: news) → (∀ p ∈ news, p.1 < q) → Q (.ref q, []) { s with heap := h', toks := s.toks + 1 }) : wpAny (model prog w) A (getMethod (.ref so) "__init__" pl) Q E s := by
  have X : K.In s.heap := X₀.keeps F.keep
  obtain ⟨hh, g, d, t, os⟩ := s
  cases hc : clsIn K C with
  | none => unfold ks_superIn at hm; rw [hc] at hm; cases hm
  | some cd =>
    unfold ks_superIn at hm
    rw [hc] at hm
    refine exGetMethodSuper (N _ hso).1 (looks_opaque X ho) (l₀ := cd.mro) ?_ rfl X hm (ks_ne X I hc) I.at_ I.cls (looks_subIn X hs) ?_
    · exact fun A Q E s k q => wpAny_bind ((looks_clsIn X hc) A _ E s k (wpAny_pure q))
    · obtain ⟨F', N', l'⟩ := ks_newsPush (s := ⟨hh, g, d, t, os⟩) (o := mwObj x) F N rfl (Heap.get?_push_at rfl rfl) (fun b o e => Heap.get?_push_of_some _ e)
      exact h _ _ F' N' l'
def MWAt (q x : Addr) (h : Heap) : Prop := h.get? q = some (mwObj x)
theorem mwAt {h : Heap} (N : News h₀ L h news) (hq : (q, mwObj x) ∈ news) : MWAt q x h := (N _ hq).1
theorem callWith_MWK {e : Expr} {rest : List Expr} {Q : Value → Shared → Prop} (N : News h₀ L s.heap news) (hq : (q, mwObj x) ∈ news) (h : wpAny (model prog w) A (spliced (backTo pos (starEach (e :: rest) env))) (fun vs s₁ => MWAt q x s₁.heap ∧ wpAny (model prog w) A (call (.ref q) vs) Q E s₁) E s)
    (he : starEach (e :: rest) env = (false, eval e env) :: starEach rest env := by rfl) (hplain : (backTo pos (starEach rest env)).any (·.1) = false := by rfl) :
    wpAny (model prog w) A (callWith pos (.ref q) [] (backTo pos (starEach (e :: rest) env)) []) Q E s := callWith_MW N hq h he hplain
theorem updMem {d : Addr} {o o' : Obj} {l l' : List (Addr × Obj)} (U : Upd d o o' l l') {p : Addr × Obj} (hp : p ∈ l) (hne : p.1 ≠ d) : ∃ pre post, l = pre ++ (d, o) :: post ∧ l' = pre ++ (d, o') :: post ∧ (∀ q ∈ pre, q.1 ≠ d) ∧ (∀ q ∈ post, q.1 ≠ d) ∧ p ∈ pre ++ post := by
  obtain ⟨pre, post, e1, e2, a, b⟩ := U.split
  refine ⟨pre, post, e1, e2, a, b, ?_⟩
  subst e1
  rcases List.mem_append.mp hp with h | h
  · exact List.mem_append_left _ h
  · rcases List.mem_cons.mp h with rfl | h
    · exact absurd rfl hne
    · exact List.mem_append_right _ h
theorem exInitK {t₀ : Addr} {o1 o2 o3 o4 o5 : Value} {dd : Option Addr} {sl : Array (Option Value)} {Q : Value → Shared → Prop} {news' : Addr → List (Addr × Obj)} (F : Fr h₀ L s.heap m) (X₀ : K.In h₀) (N : News h₀ L s.heap news)
    (hq : (q, mwObj x) ∈ news) (hne : q ≠ x) (U : ∀ tn, Upd x ⟨.ref C, dd, .fields #[.ref t₀, o1, o2, o3, o4, o5], sl⟩ ⟨.ref C, dd, .fields #[.ref tn, o1, o2, o3, o4, o5], sl⟩ news (news' tn)) (hcd : clsIn K C = some cd)
    (h : ∀ tn h', Fr h₀ L h' m → (∀ p ∈ news, p.1 < tn) → News h₀ L h' ((tn, { cls := .type "tuple", data := .seq #[v] }) :: news' tn) → Q .none { s with heap := h' }) :
    wpAny (model prog w) A (call (.ref q) [v]) Q E s := by
  obtain ⟨pre, post, e1, e2, a, b, hm⟩ := updMem (U 0) hq hne
  subst e1
  refine exInit F N a b hm X₀ hcd fun tn h' F' l N' => h tn h' F' l ?_
  have e3 : news' tn = pre ++ (x, ⟨.ref C, dd, .fields #[.ref tn, o1, o2, o3, o4, o5], sl⟩) :: post := by
    obtain ⟨pre', post', e1', e2', a', b', _⟩ := updMem (U tn) hq hne
    obtain ⟨f1, f2⟩ := splitKey _ _ _ _ _ e1' a a'
    rw [e2', f1, f2]
  rw [e3]
  exact N'
/-- a store into an exception that has no dict yet -/
theorem exSet0K {Q : Unit → Shared → Prop} {vs : Array Value} {sl : Array (Option Value)} {news' : Addr → List (Addr × Obj)} (F : Fr h₀ L s.heap m) (X₀ : K.In h₀) (N : News h₀ L s.heap news)
    (U : ∀ dn, Upd x ⟨.ref C, none, .fields vs, sl⟩ ⟨.ref C, some dn, .fields vs, sl⟩ news (news' dn))
    (hc : clsIn K C = some cd) (hp : ∀ self, refuseLoop self "__setattr__" cd.mro = pure ()) (hobj : cd.mro.contains (.type "object") = true) (hne : cd.mro.isEmpty = false) (hd : cd.hasDict = true)
    (ht : takerIn K C name = some none) (hs : findIn K (.ref C) "__setattr__" = some (some (.builtin "object.__setattr__")))
    (h : ∀ dn h' tk', Fr h₀ L h' m → (∀ p ∈ news, p.1 < dn) → News h₀ L h' ((dn, dictOf [⟨PyData.keyHash w.params name, .str name tk', v⟩] 1) :: news' dn) → Q () { s with heap := h', toks := s.toks + 2 }) :
    wpAny (model prog w) A (setAttr (.ref x) name v) Q E s := by
  obtain ⟨pre, post, e1, e2, a, b⟩ := (U 0).split
  subst e1
  refine exSet0 F X₀ N a b hc hp hobj hne hd ht hs fun dn h' tk' F' l N' => h dn h' tk' F' l ?_
  have e3 : news' dn = pre ++ (x, ⟨.ref C, some dn, .fields vs, sl⟩) :: post := by
    obtain ⟨pre', post', e1', e2', a', b'⟩ := (U dn).split
    obtain ⟨f1, f2⟩ := splitKey _ _ _ _ _ e1' a a'
    rw [e2', f1, f2]
  rw [e3]
  exact N'
theorem exSet1K {Q : Unit → Shared → Prop} {vs : Array Value} {sl : Array (Option Value)} {es : List DictEntry} {n : Nat} {news' : Tok → List (Addr × Obj)} (F : Fr h₀ L s.heap m) (X₀ : K.In h₀) (N : News h₀ L s.heap news) (hx : (x, ⟨.ref C, some dx, .fields vs, sl⟩) ∈ news) (hxd : x ≠ dx)
    (hc : clsIn K C = some cd) (hp : ∀ self, refuseLoop self "__setattr__" cd.mro = pure ()) (hobj : cd.mro.contains (.type "object") = true) (hne : cd.mro.isEmpty = false) (hd : cd.hasDict = true)
    (ht : takerIn K C name = some none) (hs : findIn K (.ref C) "__setattr__" = some (some (.builtin "object.__setattr__"))) (hk : es.any (·.refKey) = false) (hz : es.length ≤ 900)
    (U : ∀ tk, Upd dx (dictOf es n) (dictOf (putL name (PyData.keyHash w.params name) (.str name tk) v es) (putN name es n)) news (news' tk))
    (h : ∀ h' tk', Fr h₀ L h' m → News h₀ L h' (news' tk') → Q () { s with heap := h', toks := s.toks + 2 }) :
    wpAny (model prog w) A (setAttr (.ref x) name v) Q E s := by
  obtain ⟨pre, post, e1, e2, a, b, hm⟩ := updMem (U 0) hx hxd
  subst e1
  refine exSet1 F X₀ N a b hm hc hp hobj hne hd ht hs hk hz fun h' tk' F' N' => h h' tk' F' ?_
  have e3 : news' tk' = pre ++ (dx, dictOf (putL name (PyData.keyHash w.params name) (.str name tk') v es) (putN name es n)) :: post := by
    obtain ⟨pre', post', e1', e2', a', b', _⟩ := updMem (U tk') hx hxd
    obtain ⟨f1, f2⟩ := splitKey _ _ _ _ _ e1' a a'
    rw [e2', f1, f2]
  rw [e3]
  exact N'
end
theorem exSet1P {prog : Program} {w : World} {A : Around} {E : Value → Shared → Prop} {s : Shared} {K : Frag} {C L x dx : Addr} {h₀ : Heap} {m : Str → Option Value} {news : List (Addr × Obj)} {cd : ClassData} {name : Str} {v : Value} {Q : Unit → Shared → Prop} {vs : Array Value} {sl : Array (Option Value)} {es : List DictEntry} {es' : Tok → List DictEntry} {n n' : Nat} {news' : Tok → List (Addr × Obj)} (F : Fr h₀ L s.heap m) (X₀ : K.In h₀) (N : News h₀ L s.heap news) (hx : (x, ⟨.ref C, some dx, .fields vs, sl⟩) ∈ news) (hxd : x ≠ dx)
    (hc : clsIn K C = some cd) (hp : ∀ self, refuseLoop self "__setattr__" cd.mro = pure ()) (hobj : cd.mro.contains (.type "object") = true) (hne : cd.mro.isEmpty = false) (hd : cd.hasDict = true)
    (ht : takerIn K C name = some none) (hs : findIn K (.ref C) "__setattr__" = some (some (.builtin "object.__setattr__"))) (hdx : (dx, dictOf es n) ∈ news) (hk : es.any (·.refKey) = false) (hz : es.length ≤ 900)
    (e : ∀ tk, (putL name (PyData.keyHash w.params name) (.str name tk) v es, putN name es n) = (es' tk, n'))
    (U : ∀ tk, Upd dx (dictOf es n) (dictOf (es' tk) n') news (news' tk))
    (h : ∀ h' tk', Fr h₀ L h' m → News h₀ L h' (news' tk') → Q () { s with heap := h', toks := s.toks + 2 }) :
    wpAny (model prog w) A (setAttr (.ref x) name v) Q E s :=
  exSet1K F X₀ N hx hxd hc hp hobj hne hd ht hs hk hz (fun tk => by have := e tk; obtain ⟨e1, e2⟩ := Prod.mk.inj this; rw [e1, e2]; exact U tk) h
abbrev sfD (P : Params) (what : Str) (spot : Int) (t1 t2 k1 k2 : Tok) : Obj := dictOf [⟨PyData.keyHash P (Str.ofString "what"), .str (Str.ofString "what") k1, .str what t1⟩, ⟨PyData.keyHash P (Str.ofString "spot"), .str (Str.ofString "spot") k2, .int spot t2⟩] 2
local macro_rules | `(tactic| k_inst) => `(tactic| (refine' InstAt.exc0 ?N ?h1; (case N => k_asm); (case h1 => k_mem)))

local macro_rules | `(tactic| k_room) => `(tactic| ktr_room)
theorem tailNe {l news : List (Addr × Obj)} {d : Addr} (h : ∀ p ∈ l, p.1 < d) (s : ∀ p ∈ news, p ∈ l) : ∀ p ∈ news, p.1 ≠ d := fun p hp => Nat.ne_of_lt (h p (s p hp))
local macro_rules | `(tactic| k_all) => `(tactic| ((fail_if_success (refine List.forall_mem_cons.mpr ⟨?_, ?_⟩)); first | assumption | exact tailNe (by assumption) (by intro p9 h9; repeat (first | exact h9 | refine List.mem_cons_of_mem _ ?_))))
local macro_rules | `(tactic| walk_at $s:str) => `(tactic| k_extra $s)
theorem mkSF {w : World} {mean : ExcName → Option Value} {mg mb : Str → Option Value} {dp un : Nat} {gd : Option (List Code)} {cn : Str} {cs : Scope} {a : Addr} {ccd : Value} {cl : List (Str × Addr)} {outer : List Env} {A₀ : Around} {base h₀ : Heap} {L : Addr} {m : Str → Option Value} {s : Shared} {Q E : Value → Shared → Prop}
    {what : Str} {spot : Int} {t1 t2 : Tok} {news : List (Addr × Obj)} :
    Below A₀ base outer h₀ → Fr h₀ L s.heap m → (heapK w.params).In h₀ → News h₀ L s.heap news → Top viewV LO mean mg mb h₀ → cs.kind = .function →
    dp + 4 < recursionLimit → un + 40 < cLine →
    (∀ e de te k1 k2 h' tk', Fr h₀ L h' m → News h₀ L h' ((e, excF te (some de)) :: (de, sfD w.params what spot t1 t2 k1 k2) :: (te, { cls := .type "tuple", data := .seq #[.str what t1] }) :: news) → (∀ q ∈ (de, sfD w.params what spot t1 t2 k1 k2) :: (te, ({ cls := .type "tuple", data := .seq #[.str what t1] } : Obj)) :: news, q.1 ≠ e) → Q (.ref e) { s with heap := h', toks := tk' }) →
    wpAny (model Challenge.rw_sj0097_01.row.prog w) (ktrTop dp un gd cn cs L a ccd cl outer) (call (.ref 69) [.str what t1, .int spot t2]) Q E s := by
  k_with_none
  k_with "getMethod ref" => (k_here; (with_reducible show wpAny _ _ (getMethod (Value.ref _) (Str.ofString "__init__") _) _ _ _); k_dflt (refine' exMethodK ?k1z9 ?k2z9 ?k3z9 ?k4z9 ?k5z9 ?k6z9 ?k7z9 ?k8z9 ?_; (case k1z9 => k_asm); (case k2z9 => k_asm); (case k3z9 => k_asm); (case k4z9 => k_mem); (case k5z9 => k_inst); (case k6z9 => k_is); (case k7z9 => ks_is); (case k8z9 => k_is)); intro q' h' F' N' l1; (try k_lt l1))
  k_with "callWith ref" => (k_here; k_dflt (refine' callWith_MWK ?k1z9 ?k2z9 ?_; (case k1z9 => k_asm); (case k2z9 => k_mem)))
  k_with "MWAt" => exact mwAt (by k_asm) (by k_mem)
  k_with "call ref" => (k_here; k_dflt (refine' exInitK ?k1z9 ?k2z9 ?k3z9 ?k4z9 ?k5z9 ?k6z9 ?k7z9 ?_; (case k1z9 => k_asm); (case k2z9 => k_asm); (case k3z9 => k_asm); (case k4z9 => k_mem); (case k5z9 => k_ne); (case k6z9 => (intro tn; k_upd)); (case k7z9 => k_is)); intro tn' h' F' l1 N'; have l9 := l1; (try k_lt l1))
  k_with "setAttr ref" => (k_here; k_dflt (refine' exSet0K ?k1z9 ?k2z9 ?k3z9 ?k4z9 ?k5z9 ?k6z9 ?k7z9 ?k8z9 ?k9z9 ?k10z9 ?k11z9 ?_; (case k1z9 => k_asm); (case k2z9 => k_asm); (case k3z9 => k_asm); (case k4z9 => (intro tn; k_upd)); (case k5z9 => k_is); (case k6z9 => exact exRefuse); (case k7z9 => decide); (case k8z9 => decide); (case k9z9 => rfl); (case k10z9 => k_is); (case k11z9 => k_is)); intro dn' h' tk' F' l1 N'; have l9 := l1; (try k_lt l1))
  k_with "setAttr ref" => (k_here; k_dflt (refine' exSet1P ?k1z9 ?k2z9 ?k3z9 ?kaz9 ?kbz9 ?k5z9 ?k6z9 ?k7z9 ?k8z9 ?k9z9 ?k10z9 ?k11z9 ?kcz9 ?kdz9 ?kez9 ?k12z9 ?k13z9 ?_; (case k1z9 => k_asm); (case k2z9 => k_asm); (case k3z9 => k_asm); (case kaz9 => k_mem); (case kbz9 => k_ne); (case k5z9 => k_is); (case k6z9 => exact exRefuse); (case k7z9 => decide); (case k8z9 => decide); (case k9z9 => rfl); (case k10z9 => k_is); (case k11z9 => k_is); (case kcz9 => k_mem); (case kdz9 => rfl); (case kez9 => exact Nat.le_of_ble_eq_true rfl); (case k12z9 => (intro tk; k_put)); (case k13z9 => (intro tk; k_upd))); intro h' tk' F' N')
  k_fill
  intro B F X N Tp hk hd hu ret
  refine wpAny_call ?_
  obtain ⟨hh, g, d, t, os⟩ := s
  k_dflt (refine' exMake ?k1 ?k2 ?k3 ?k4 ?k5 ?k6 ?k7 ?k8 ?k9 ?_ ?kz; (case k1 => exact X.keeps F.keep); (case k5 => k_is); (case k2 => decide); (case k3 => decide); (case k4 => decide); (case k6 => k_is); (case k7 => k_is); (case k8 => k_is); (case k9 => k_is); (case kz => size_fits))
  have F1 := (F.push { cls := .type "tuple", data := .seq #[.str what t1, .int spot t2] }).push (excF hh.objs.size none)
  have N1 := (N.push F { cls := .type "tuple", data := .seq #[.str what t1, .int spot t2] }).push (F.push _) (excF hh.objs.size none)
  have lt1 : ∀ p ∈ news, p.1 < hh.objs.size := fun p hp => Heap.lt_size (N p hp).1
  rw [Heap.size_push] at N1
  clear F N
  obtain ⟨ck, c1, c2, c3, c4⟩ := cs
  cases hk
  dsimp only at N1 F1
  have hlt := Nat.lt_succ_self hh.objs.size
  have lt2 := allLt_of lt1
  have hn1 : ∀ p ∈ news, p.1 ≠ hh.objs.size + 1 := fun p hp => Nat.ne_of_lt (Nat.lt_succ_of_lt (lt1 p hp))
  generalize hte : hh.objs.size = te at *
  generalize he : te + 1 = e at *
  k_dflt ks_enter
  k_steps
  exact ret _ _ _ _ _ _ _ (by k_asm) (cb_drop (by k_asm) (by kqd_sub)) (List.forall_mem_cons.mpr ⟨by k_ne, List.forall_mem_cons.mpr ⟨by k_ne, hn1⟩⟩)
end Mine
end
-- part EX5
section
namespace Mine
theorem freshEX5 : True := by
  w_top off
  trivial
end Mine
open PySem PySem.W PySem.Calls PyProof.Rows
set_option maxRecDepth 100000
set_option maxHeartbeats 8000000
namespace Mine
section
variable {prog : Program} {w : World} {A : Around} {E : Value → Shared → Prop} {s : Shared} {env : Env}
/-- an exception object of class C with a dict -/
def ExcAt (M : Model) (h : Heap) (x C : Addr) : Prop := ∃ ox vs, h.get? x = some ox ∧ ox.cls = .ref C ∧ ox.data = .fields vs ∧ vs[1]? = some .none ∧ Looks M h (isSubtype (.ref C) (.type "BaseException")) true ∧ Looks M h (typeOf (.ref C)) (.type "type")
def RaisedAt (M : Model) (C : Addr) (E : Value → Shared → Prop) (v : Value) (s : Shared) : Prop := ∃ x, v = .ref x ∧ ExcAt M s.heap x C ∧ E (.ref x) s
theorem exRaise {e : Expr} {pos : Pos} {C : Addr} {Q : Flow → Shared → Prop} (hh : A.handled = none)
    (h : wpAny (model prog w) A (eval e env) (RaisedAt (model prog w) C E) E s) :
    wpAny (model prog w) A (exec (.Raise (some e) none pos) env) Q E s := by
  show wpAny (model prog w) A (do standAt pos; raiseStmt env (some (do let v ← eval e env; standAt pos; pure v)) none) Q E s
  refine wpAny_bind (wpAny_standAt ?_)
  unfold raiseStmt
  dsimp only
  refine wpAny_bind (wpAny_bind (wpAny_mono h (fun v s₁ h₁ => wpAny_bind (wpAny_standAt (wpAny_pure ?_))) fun _ _ x => x))
  obtain ⟨x, rfl, ⟨ox, vs, hx, hc, hd, h1, hsub, htC⟩, hE⟩ := h₁
  obtain ⟨hh1, g, d, t, os⟩ := s₁
  obtain ⟨oc, od, oda, osl⟩ := ox
  dsimp only at hc hd hx hsub htC
  subst hc hd
  have L0 : Looks (model prog w) hh1 (typeOf (.ref x)) (.ref C) := (Looks.ld hx).andThen .now
  have L1 : Looks (model prog w) hh1 (isInstance (.ref x) (.type "BaseException")) true := L0.andThen hsub
  refine wpAny_bind (wpAny_pure ?_)
  refine wpAny_bind (wpAny_holding ?_)
  unfold excFromValue isExcClass
  have T0 : Looks (model prog w) hh1 (isType (.ref x)) false := by
    unfold isType loadHead
    exact (Looks.ld hx).andThen .now
  refine wpAny_bind (wpAny_bind (T0.at (wpAny_pure ?_)))
  rw [if_neg (by decide)]
  refine wpAny_bind (L1.at ?_)
  rw [if_pos rfl]
  refine wpAny_pure ?_
  dsimp only
  refine wpAny_bind (T0.at ?_)
  rw [if_neg (by decide)]
  unfold raisedInstance
  refine wpAny_bind (wpAny_bind (L0.at (wpAny_bind (htC.at ?_))))
  rw [if_pos (show (Value.type "type" == Value.type "type") = true by decide)]
  refine wpAny_pure ?_
  unfold setFlight
  refine wpAny_bind (wpAny_bind (wpAny_field hx rfl h1 ?_))
  rw [if_neg (by decide)]
  exact wpAny_pure (wpAny_raiseNew_none hh hE)
end

/-- where an exception with a dict stands in a heap, in flight (fl = None) or held by a frame -/
structure Ex (B : Heap) (l : List Env) (e : Addr) (cls : Value) (dd : Option Addr) (fl : Value) (h : Heap) : Prop where
  stays : B.StaysIn h
  new : B.get? e = none
  frames : h.FunFrames B l
  there : ∃ vs sl T oT ts, h.get? e = some ⟨cls, dd, .fields vs, sl⟩ ∧ vs[1]? = some (.ref T) ∧ B.get? T = none ∧ T ≠ e ∧ h.get? T = some oT ∧ oT.data = .fields ts ∧ ts[3]? = some fl

section
variable {M : Model} {A : Around} {E : Value → Shared → Prop} {s : Shared} {B : Heap} {env : Env} {outer l : List Env} {L e : Addr} {cls fl : Value} {dd : Option Addr} {Q : Unit → Shared → Prop}

theorem exEntry {vs : Array Value} {sl : Array (Option Value)} {head : Value} {hadNext : Bool} (hfr : A.frames = some (env :: outer)) (hl : s.heap.FunFrames B (env :: outer)) (hf : env.frame = some L)
    (he : s.heap.get? e = some ⟨cls, dd, .fields vs, sl⟩) (hkb : B.StaysIn s.heap) (hen : B.get? e = none) (hsz : 1 < vs.size)
    (h : ∀ h', Ex B (env :: outer) e cls dd (rawInt L) h' → s.heap.UpToSlots h' → Q () { s with heap := h' }) :
    wpAny M A (do let a ← frameOf env; let pl ← entryPlaceOf L hadNext; let b ← EntryCells.newEntry head a .none (rawInt L) .none pl; setField (.ref e) 1 b) Q E s := by
  have hene : e ∉ (env :: outer).filterMap (·.frame) := fun hm => by
    obtain ⟨_, o, ho, hnf⟩ := hl.mem hm
    rw [he] at ho
    cases ho
    exact hnf vs rfl
  refine wpAny_bind (wpAny_frameOf_fun hfr hl hf fun h₁ hs₁ => ?_)
  refine wpAny_bind (wpAny_entryPlaceOf fun pl hpl => ?_)
  unfold EntryCells.newEntry newFields
  refine wpAny_bind (wpAny_newObj_type ?_ (hpl.sizeOk5 _ _ _ _ _))
  have he₁ : h₁.get? e = some ⟨cls, dd, .fields vs, sl⟩ := (hs₁.2.1 e hene).trans he
  have kb₁ : B.StaysIn h₁ := fun b o hbo => (hs₁.2.1 b fun hm => by rw [(hl.mem hm).1] at hbo; cases hbo).trans (hkb b o hbo)
  have he₂ := Heap.get?_push_of_some (h := h₁) { cls := .type "traceback", dict := none, data := .fields ([head, .ref L, .none, rawInt L, .none] ++ (if pl.isEmpty then List.replicate 6 Value.none else pl)).toArray } he₁
  refine wpAny_setField he₂ rfl hsz (h _ ?_ ?_)
  all_goals
    have hTe : h₁.objs.size ≠ e := Nat.ne_of_gt (Heap.lt_size he₁)
    have he₃ := Heap.get?_update_self (Obj.mapFields (·.setIfInBounds 1 (Value.ref h₁.objs.size))) he₂ rfl
    have hT₃ := (Heap.get?_update_other (h₁.push { cls := .type "traceback", dict := none, data := .fields ([head, .ref L, .none, rawInt L, .none] ++ (if pl.isEmpty then List.replicate 6 Value.none else pl)).toArray })
      (Obj.mapFields (·.setIfInBounds 1 (Value.ref h₁.objs.size))) (Ne.symm hTe)).trans (Heap.get?_push_size h₁ rfl)
    have keep : ∀ b o, b ≠ e → h₁.get? b = some o →
        ((h₁.push { cls := .type "traceback", dict := none, data := .fields ([head, .ref L, .none, rawInt L, .none] ++ (if pl.isEmpty then List.replicate 6 Value.none else pl)).toArray }).update e (Obj.mapFields (·.setIfInBounds 1 (Value.ref h₁.objs.size)))).get? b = some o :=
      fun b o hbe hb => by
        rw [Heap.get?_update_other _ _ (Ne.symm hbe)]
        exact Heap.get?_push_of_some _ hb
    have noRecord : ∀ b o, s.heap.get? b = some o → (∀ vs, o.data ≠ .fields vs) → b ≠ e := fun b o hb hnf q => by
      rw [q, he] at hb
      cases hb
      exact hnf vs rfl
  · refine ⟨fun b o hbo => keep b o (fun q => by rw [q, hen] at hbo; cases hbo) (kb₁ b o hbo), hen, hl.of_keeps fun b o hb hnf => ?_, ?_⟩
    · obtain ⟨sl, hs⟩ := hs₁.2.2 b o hb
      exact ⟨_, keep b _ (noRecord b o hb hnf) hs, rfl⟩
    · exact ⟨_, _, h₁.objs.size, _, _, he₃, by simp [hsz], kb₁.fresh, hTe, hT₃, rfl, by first | (simp; done) | (rcases hpl with rfl | ⟨_, _, _, _, _, _, _, rfl⟩ <;> simp)⟩
  · intro b o hb hnf
    obtain ⟨sl, hs⟩ := hs₁.2.2 b o hb
    exact ⟨sl, keep b _ (noRecord b o hb hnf) hs⟩

/-- the first frame it passes -/
theorem exNote0 {vs : Array Value} {sl : Array (Option Value)} (hfr : A.frames = some (env :: outer)) (hl : s.heap.FunFrames B (env :: outer)) (hf : env.frame = some L)
    (he : s.heap.get? e = some ⟨cls, dd, .fields vs, sl⟩) (hkb : B.StaysIn s.heap) (hen : B.get? e = none) (h1 : vs[1]? = some .none)
    (h : ∀ h', Ex B (env :: outer) e cls dd (rawInt L) h' → s.heap.UpToSlots h' → Q () { s with heap := h' }) : wpAny M A (noteFrame (.ref e) env) Q E s := by
  unfold noteFrame
  simp only [hf]
  refine wpAny_bind (wpAny_field he rfl h1 ?_)
  rw [if_neg (by decide)]
  exact exEntry hfr hl hf he hkb hen (Array.getElem?_eq_some_iff.mp h1).1 h

theorem exFlight {fl' : Option Addr} (X : Ex B l e cls dd fl s.heap)
    (h : ∀ h', Ex B l e cls dd (fl'.elim .none fun f => rawInt f) h' → s.heap.UpToSlots h' → Q () { s with heap := h' }) : wpAny M A (setFlight (.ref e) fl') Q E s := by
  obtain ⟨x1, x2, x3, vs, sl, T, oT, ts, he, h1, hnT, hTe, hT, hdT, h3⟩ := X
  have hsz3 : 3 < ts.size := (Array.getElem?_eq_some_iff.mp h3).1
  have other : ∀ b, b ≠ T → (s.heap.update T (Obj.mapFields (·.setIfInBounds 3 (fl'.elim Value.none fun f => rawInt f)))).get? b = s.heap.get? b :=
    fun b hb => Heap.get?_update_other _ _ (Ne.symm hb)
  have noRecord : ∀ b o, s.heap.get? b = some o → (∀ vs, o.data ≠ .fields vs) → b ≠ T := fun b o hb hnf q => by
    rw [q, hT] at hb
    cases hb
    exact hnf ts hdT
  unfold setFlight
  refine wpAny_bind (wpAny_field he rfl h1 ?_)
  rw [if_pos (show (Value.ref T != Value.none) = true from by simp)]
  refine wpAny_setField hT hdT hsz3 (h _ ⟨fun b o hbo => (other b fun q => by rw [q, hnT] at hbo; cases hbo).trans (x1 b o hbo), x2, x3.of_keeps fun b o hb hnf => ⟨o, (other b (noRecord b o hb hnf)).trans hb, rfl⟩, ?_⟩ fun b o hb hnf => ⟨o.slots, (other b (noRecord b o hb hnf)).trans hb⟩)
  exact ⟨vs, sl, T, _, _, (other e (Ne.symm hTe)).trans he, h1, hnT, hTe, Heap.get?_update_self _ hT (Obj.isFreed_of_fields (Obj.data_mapFields hdT _)), Obj.data_mapFields hdT _, by simp [hsz3]⟩

/-- a further frame -/
theorem exNote1 (hfr : A.frames = some (env :: outer)) (hf : env.frame = some L) (X : Ex B (env :: outer) e cls dd .none s.heap)
    (h : ∀ h', Ex B (env :: outer) e cls dd (rawInt L) h' → s.heap.UpToSlots h' → Q () { s with heap := h' }) : wpAny M A (noteFrame (.ref e) env) Q E s := by
  obtain ⟨x1, x2, x3, vs, sl, T, oT, ts, he, h1, hnT, hTe, hT, hdT, h3⟩ := X
  unfold noteFrame
  simp only [hf]
  refine wpAny_bind (wpAny_field he rfl h1 ?_)
  rw [if_pos (show (Value.ref T != Value.none) = true from by simp)]
  refine wpAny_bind (wpAny_field hT hdT h3 ?_)
  rw [if_neg (show ¬ ((Value.none == rawInt L) = true) from by simp [rawInt])]
  refine wpAny_bind (wpAny_setField hT hdT (Array.getElem?_eq_some_iff.mp h3).1 ?_)
  have other : ∀ b, b ≠ T → (s.heap.update T (Obj.mapFields (·.setIfInBounds 3 Value.none))).get? b = s.heap.get? b := fun b hb => Heap.get?_update_other _ _ (Ne.symm hb)
  have noRecord : ∀ b o, s.heap.get? b = some o → (∀ vs, o.data ≠ .fields vs) → b ≠ T := fun b o hb hnf q => by
    rw [q, hT] at hb
    cases hb
    exact hnf ts hdT
  refine exEntry hfr (x3.of_keeps fun b o hb hnf => ⟨o, (other b (noRecord b o hb hnf)).trans hb, rfl⟩) hf ((other e (Ne.symm hTe)).trans he)
    (fun b o hbo => (other b fun q => by rw [q, hnT] at hbo; cases hbo).trans (x1 b o hbo)) x2 (Array.getElem?_eq_some_iff.mp h1).1
    fun h' x k => h h' x fun b o hb hnf => k b o ((other b (noRecord b o hb hnf)).trans hb) hnf

/-- the same frame again -/
theorem exNote2 (hf : env.frame = some L) (X : Ex B l e cls dd (rawInt L) s.heap) (h : Q () s) : wpAny M A (noteFrame (.ref e) env) Q E s := by
  obtain ⟨x1, x2, x3, vs, sl, T, oT, ts, he, h1, hnT, hTe, hT, hdT, h3⟩ := X
  unfold noteFrame
  simp only [hf]
  refine wpAny_bind (wpAny_field he rfl h1 ?_)
  rw [if_pos (show (Value.ref T != Value.none) = true from by simp)]
  refine wpAny_bind (wpAny_field hT hdT h3 ?_)
  rw [if_pos (show (rawInt L == rawInt L) = true from by simp)]
  exact wpAny_pure h

/-- an own activation hands it back -/
theorem exBack (X : Ex B l e cls dd fl s.heap) (hf : env.frame = some L) (h : ∀ h', Ex B l e cls dd (rawInt L) h' → s.heap.UpToSlots h' → E (.ref e) { s with heap := h' }) : cameBackBy M A env E (.ref e) s := by
  have X' := X
  obtain ⟨x1, x2, x3, vs, sl, T, oT, ts, he, h1, hnT, hTe, hT, hdT, h3⟩ := X
  unfold cameBackBy
  refine wpAny_bind (wpAny_field he rfl h1 ?_)
  rw [if_neg (show ¬ ((Value.ref T == Value.none) = true) from by simp)]
  show wpAny M A (setFlight (.ref e) env.frame) _ _ _
  rw [hf]
  exact exFlight (fl' := some L) X' h
end
end Mine
end
-- part EX6
section
namespace Mine
theorem freshEX6 : True := by
  w_top off
  trivial
end Mine
open PySem PySem.W PySem.Calls PyProof.Rows Builtin Builtin.ObjectAttr
set_option maxRecDepth 100000
set_option maxHeartbeats 8000000
namespace Mine

def RaisedD (base G : Heap) (l : List Env) (e C de : Addr) (keep : List (Addr × Obj)) (h : Heap) : Prop :=
  ∃ B, base.StaysIn B ∧ (∀ b o, G.get? b = some o → b ∉ l.filterMap (·.frame) → B.get? b = some o) ∧ (∀ q ∈ keep, B.get? q.1 = some q.2 ∧ G.get? q.1 = none ∧ base.get? q.1 = none) ∧ Ex B l e (.ref C) (some de) .none h
/-- the same, held by the frame L -/
def HeldD (base G : Heap) (l : List Env) (e C de : Addr) (L : Addr) (keep : List (Addr × Obj)) (h : Heap) : Prop :=
  ∃ B, base.StaysIn B ∧ (∀ b o, G.get? b = some o → b ∉ l.filterMap (·.frame) → B.get? b = some o) ∧ (∀ q ∈ keep, B.get? q.1 = some q.2 ∧ G.get? q.1 = none ∧ base.get? q.1 = none) ∧ Ex B l e (.ref C) (some de) (rawInt L) h

theorem Ex.tail {B h : Heap} {env : Env} {l : List Env} {e : Addr} {cls fl : Value} {dd : Option Addr} (X : Ex B (env :: l) e cls dd fl h) : Ex B l e cls dd fl h :=
  ⟨X.stays, X.new, X.frames.2.2, X.there⟩

section
variable {M : Model} {A : Around} {E : Value → Shared → Prop} {s' : Shared} {base g g₂ : Heap} {outer : List Env} {L a e C de : Addr} {m : Str → Option Value} {name : Str} {scope : Scope} {cd : Value} {Q : Unit → Shared → Prop} {news keep : List (Addr × Obj)}

theorem noteD {vs : Array Value} {sl : Array (Option Value)} (K : Below A base outer g) (F : Fr g L s'.heap m) (N : News g L s'.heap news) (he : (e, ⟨.ref C, some de, .fields vs, sl⟩) ∈ news) (h1 : vs[1]? = some .none) (hk : ∀ q ∈ keep, q ∈ news ∧ q.1 ≠ e)
    (hQ : ∀ h', HeldD base g (envOf name scope L a cd :: outer) e C de L keep h' → g.UpToSlots h' → s'.heap.UpToSlots h' → Q () { s' with heap := h' }) (hs : scope.kind = .function := by rfl) :
    wpAny M (A.deeper (envOf name scope L a cd)) (noteFrame (.ref e) (envOf name scope L a cd)) Q E s' := by
  have K' := K.push (name := name) (a := a) (cd := cd) F hs
  have hin : ∀ env ∈ (envOf name scope L a cd :: outer), ∀ b, env.frame = some b → b ∈ e :: (envOf name scope L a cd :: outer).filterMap (·.frame) := fun env he b hb => .tail _ (List.mem_filterMap.mpr ⟨env, he, hb⟩)
  have eg : g.get? e = none := (N _ he).2.2
  have eb : base.get? e = none := kts_none K.stays eg
  have st : base.StaysIn (hideAll s'.heap (e :: (envOf name scope L a cd :: outer).filterMap (·.frame))) := fun b o q => hideAll_get _ (K'.stays b o q) fun hm => by
    rcases List.mem_cons.mp hm with rfl | hm
    · rw [eb] at q; cases q
    · rw [(K'.frames.mem hm).1] at q; cases q
  have sg : ∀ b o, g.get? b = some o → b ∉ (envOf name scope L a cd :: outer).filterMap (·.frame) → (hideAll s'.heap (e :: (envOf name scope L a cd :: outer).filterMap (·.frame))).get? b = some o := fun b o q nm => hideAll_get _ (F.keep b o q) fun hm => by
    rcases List.mem_cons.mp hm with rfl | hm
    · rw [eg] at q; cases q
    · exact nm hm
  have hl : ∀ q ∈ keep, (hideAll s'.heap (e :: (envOf name scope L a cd :: outer).filterMap (·.frame))).get? q.1 = some q.2 ∧ g.get? q.1 = none ∧ base.get? q.1 = none := fun q hq' => by
    obtain ⟨hq, hne⟩ := hk q hq'
    refine ⟨hideAll_get _ (N q hq).1 fun hm => ?_, (N q hq).2.2, kts_none K.stays (N q hq).2.2⟩
    rcases List.mem_cons.mp hm with z | hm
    · exact hne z
    · obtain ⟨env, he, hf⟩ := List.mem_filterMap.mp hm
      rcases List.mem_cons.mp he with rfl | he
      · exact (N q hq).2.1 (Option.some.inj hf).symm
      · obtain ⟨o, ho, _⟩ := (K.frames.mem (List.mem_filterMap.mpr ⟨env, he, hf⟩)).2
        rw [(N q hq).2.2] at ho; cases ho
  refine exNote0 K'.stack (funFrames_hide K'.frames hin) rfl (N _ he).1 (fun b o q => of_hideAll _ q) (hideAll_none _ (.head _)) h1 fun h' x k => ?_
  exact hQ h' ⟨_, st, sg, hl, x⟩ ((Heap.UpToSlots.of_keeps F.keep).trans k) k

/-- the frame that raises is left -/
theorem leaveD {vs : Array Value} {sl : Array (Option Value)} (K : Below A base outer g) (F : Fr g L s'.heap m) (N : News g L s'.heap news) (he : (e, ⟨.ref C, some de, .fields vs, sl⟩) ∈ news) (h1 : vs[1]? = some .none) (hk : ∀ q ∈ keep, q ∈ news ∧ q.1 ≠ e)
    (hQ : ∀ h', RaisedD base g outer e C de keep h' → g.UpToSlots h' → Q () { s' with heap := h' }) (hs : scope.kind = .function := by rfl) :
    wpAny M (A.deeper (envOf name scope L a cd)) (leaving (envOf name scope L a cd) (.ref e)) Q E s' := by
  unfold leaving
  refine wpAny_bind (noteD K F N he h1 hk (fun h₁ R k _ => ?_) hs)
  obtain ⟨B, r1, r2, r3, x⟩ := R
  refine exFlight (fl' := none) x fun h₂ x₂ k₂ => ?_
  refine hQ h₂ ⟨B, r1, fun b o q nm => r2 b o q (fun hm => ?_), r3, x₂.tail⟩ (k.trans k₂)
  rcases kts_mem hm with z | z
  · rw [z, kts_self F] at q; cases q
  · exact nm z

/-- a frame that holds it is left -/
theorem leave_heldD (F : Fr g L g₂ m) (R : HeldD base g₂ (envOf name scope L a cd :: outer) e C de L keep s'.heap) (hsm : g₂.UpToSlots s'.heap)
    (hQ : ∀ h', RaisedD base g outer e C de keep h' → g.UpToSlots h' → Q () { s' with heap := h' }) :
    wpAny M (A.deeper (envOf name scope L a cd)) (leaving (envOf name scope L a cd) (.ref e)) Q E s' := by
  obtain ⟨B, r1, r2, r3, x⟩ := R
  unfold leaving
  refine wpAny_bind (exNote2 rfl x ?_)
  refine exFlight (fl' := none) x fun h₂ x₂ k₂ => ?_
  refine hQ h₂ ⟨B, r1, fun b o q nm => r2 b o (F.keep b o q) (fun hm => ?_), fun q hq => ⟨(r3 q hq).1, kts_none F.keep (r3 q hq).2.1, (r3 q hq).2.2⟩, x₂.tail⟩ ((Heap.UpToSlots.of_keeps F.keep).trans (hsm.trans k₂))
  rcases kts_mem hm with z | z
  · rw [z, kts_self F] at q; cases q
  · exact nm z

/-- a frame that it passes is left -/
theorem leave_onD (K : Below A base outer g) (F : Fr g L g₂ m) (R : RaisedD base g₂ (envOf name scope L a cd :: outer) e C de keep s'.heap) (hsm : g₂.UpToSlots s'.heap)
    (hQ : ∀ h', RaisedD base g outer e C de keep h' → g.UpToSlots h' → Q () { s' with heap := h' }) :
    wpAny M (A.deeper (envOf name scope L a cd)) (leaving (envOf name scope L a cd) (.ref e)) Q E s' := by
  obtain ⟨B, r1, r2, r3, x⟩ := R
  unfold leaving
  refine wpAny_bind (exNote1 (Around.frames_deeper K.stack) rfl x fun h₁ x₁ k₁ => ?_)
  refine exFlight (fl' := none) x₁ fun h₂ x₂ k₂ => ?_
  refine hQ h₂ ⟨B, r1, fun b o q nm => r2 b o (F.keep b o q) (fun hm => ?_), fun q hq => ⟨(r3 q hq).1, kts_none F.keep (r3 q hq).2.1, (r3 q hq).2.2⟩, x₂.tail⟩ ((Heap.UpToSlots.of_keeps F.keep).trans (hsm.trans (k₁.trans k₂)))
  rcases kts_mem hm with z | z
  · rw [z, kts_self F] at q; cases q
  · exact nm z
theorem RaisedD.sub {base G : Heap} {l : List Env} {e C de : Addr} {keep keep' : List (Addr × Obj)} {h : Heap} (R : RaisedD base G l e C de keep h) (s : ∀ q ∈ keep', q ∈ keep) : RaisedD base G l e C de keep' h :=
  let ⟨B, r1, r2, r3, x⟩ := R
  ⟨B, r1, r2, fun q hq => r3 q (s q hq), x⟩
theorem leaveD' {vs : Array Value} {sl : Array (Option Value)} (K : Below A base outer g) (F : Fr g L s'.heap m) (N : News g L s'.heap ((e, ⟨.ref C, some de, .fields vs, sl⟩) :: keep)) (h1 : vs[1]? = some .none) (hk : ∀ q ∈ keep, q.1 ≠ e)
    (hQ : ∀ h', RaisedD base g outer e C de keep h' → g.UpToSlots h' → Q () { s' with heap := h' }) (hs : scope.kind = .function := by rfl) :
    wpAny M (A.deeper (envOf name scope L a cd)) (leaving (envOf name scope L a cd) (.ref e)) Q E s' :=
  leaveD K F N (.head _) h1 (fun q hq => ⟨.tail _ hq, hk q hq⟩) hQ hs
theorem raisedAt {prog : Program} {w : World} {K : Frag} {h₀ : Heap} {s : Shared} {E : Value → Shared → Prop} {vs : Array Value} {sl : Array (Option Value)} {news : List (Addr × Obj)} (F : Fr h₀ L s.heap m) (X₀ : K.In h₀) (N : News h₀ L s.heap ((e, ⟨.ref C, some de, .fields vs, sl⟩) :: news)) (h1 : vs[1]? = some .none)
    (hs : subIn K (.ref C) (.type "BaseException") = some true) (ht : typeIn K (.ref C) = some (.type "type")) (h : E (.ref e) s) : RaisedAt (model prog w) C E (.ref e) s :=
  ⟨e, rfl, ⟨_, vs, (N _ (.head _)).1, rfl, rfl, h1, looks_subIn (X₀.keeps F.keep) hs, looks_typeIn (X₀.keeps F.keep) ht⟩, h⟩
end
/-- a call that raises the fault with this spot, the rest of the ledger kept -/
def RaisesTo (P : Params) (base h₀ : Heap) (L : Addr) (m : Str → Option Value) (l : List Env) (spot : Int) (rest : List (Addr × Obj)) (s : Shared) (E : Value → Shared → Prop) : Prop :=
  ∀ e de what t1 t2 k1 k2 h' tk' G, Fr h₀ L G m → G.UpToSlots h' → RaisedD base G l e 69 de ((de, sfD P what spot t1 t2 k1 k2) :: rest) h' → E (.ref e) { s with heap := h', toks := tk' }
end Mine
end
-- part EX7
section
namespace Mine
theorem freshEX7 : True := by
  w_top off
  trivial
end Mine
open PySem PySem.W PySem.Calls PyProof.Rows Builtin Builtin.ObjectAttr
set_option maxRecDepth 100000
set_option maxHeartbeats 8000000
namespace Mine
section
variable {prog : Program} {w : World} {A₀ : Around} {E : Value → Shared → Prop} {s' : Shared} {base g G : Heap} {outer : List Env} {L a e C de : Addr} {m : Str → Option Value} {name : Str} {scope : Scope} {cd : Value}
  {n : Str} {b₀ : Stmt} {suite : List Stmt} {pos np : Pos} {rest : List ExceptHandler} {Q : Flow → Shared → Prop} {keep : List (Addr × Obj)} {KF : Frag}
  {p : Program} {loose : List Str} {mean : ExcName → Option Value} {mg mb : Str → Option Value} {x : Str}

/-- an exception of the text's own class is caught and named -/
theorem caughtD (R : RaisedD base G (envOf name scope L a cd :: outer) e C de keep s'.heap) (F : Fr g L G m) (K : Below A₀ base outer g) (hsm : G.UpToSlots s'.heap) (XB : KF.In base) (TB : Top p loose mean mg mb base)
    (ex : nsIn KF mainGlobals x = some (some (.ref C))) (q : ktsIn KF C "BaseException" = true)
    (k : ∀ h' g' tk vs sl, KtsTurn (outer.filterMap (·.frame)) g g' → Fr g' L h' (fun y => if y = n then some (.ref e) else m y) → News g' L h' ((e, ⟨.ref C, some de, .fields vs, sl⟩) :: keep) → Below A₀ base outer g' → KF.In g' → Top p loose mean mg mb g' →
      wpAny (model prog w) ((A₀.deeper (envOf name scope L a cd)).mark (some (.ref e))) (execs (b₀ :: suite) (envOf name scope L a cd))
        (fun f s₄ => wpAny (model prog w) (A₀.deeper (envOf name scope L a cd)) (do bindName (envOf name scope L a cd) n .none; unbindBehindTheSuite (envOf name scope L a cd) n pos) (fun _ s₅ => Q f s₅) E s₄)
        (AsSuiteRaised (model prog w) ((A₀.deeper (envOf name scope L a cd)).mark (some (.ref e))) (envOf name scope L a cd) n pos (notedBy (model prog w) ((A₀.deeper (envOf name scope L a cd)).mark (some (.ref e))) (envOf name scope L a cd) (cameBackBy (model prog w) (A₀.deeper (envOf name scope L a cd)) (envOf name scope L a cd) E)))
        { s' with heap := h', toks := tk })
    (hk : scope.kind = .function := by rfl) (hlo : (envOf name scope L a cd).kindOf n = some .local := by rfl) (hx : (envOf name scope L a cd).kindOf x = some .globalImplicit := by rfl) (hd : (x == ("__debug__" : Str)) = false := by decide) :
    wpAny (model prog w) (A₀.deeper (envOf name scope L a cd)) (noteFrame (.ref e) (envOf name scope L a cd))
      (fun _ s₂ => wpAny (model prog w) (A₀.deeper (envOf name scope L a cd)) (setFlight (.ref e) none) (fun _ s₃ =>
        wpAny (model prog w) (A₀.deeper (envOf name scope L a cd)) (handleBy (.ref e) (envOf name scope L a cd) (.ExceptHandler (some (.Name x np)) (some n) (b₀ :: suite) pos :: rest)) Q E s₃) E s₂) E s' := by
  obtain ⟨B, hB, hBG, hl, X₀⟩ := R
  have hL : B.get? L = none := by
    obtain ⟨_, ⟨L', _, hf, hn', _⟩, _⟩ := X₀.frames
    obtain rfl : L = L' := Option.some.inj hf
    exact hn'
  refine exNote1 (Around.frames_deeper K.stack) rfl X₀ fun h₄ x₄ k₄ => ?_
  refine exFlight (fl' := none) x₄ fun h₅ x₅ k₅' => ?_
  have k₅ := k₄.trans k₅'
  obtain ⟨g₅, T₅, F₅, K₅⟩ := kts_ground K F hBG x₅.stays (hsm.trans k₅)
  have X₅ : KF.In g₅ := XB.keeps K₅.stays
  have P₅ : TopRead p loose mg mb g₅ := topRead_of (TB.keeps K₅.stays)
  obtain ⟨vs₅, sl₅, _, _, _, he₅, _⟩ := x₅.there
  obtain ⟨nm, q', N, bs, bm, hdct, sn, sub, ab, col, dd, k0, k1, k2, k3, kk5, newId, hC, hbase, hbT⟩ := kts_cls X₅ q
  have hC₅ := F₅.keep _ _ hC
  refine wpAny_handleBy_cons (codeAny_handlers_test (name_K F₅ X₅ P₅ ex ?_ hk hx hd)) (by intro q; cases q)
  refine wpAny_excMatches_sub_self hC₅ he₅ rfl hbase (codeAny_handlers_suite_as ?_)
  refine exFlight (fl' := none) x₅ fun h₆ x₆ k₆ => ?_
  obtain ⟨g₆, T₆, F₆, K₆⟩ := kts_ground K F hBG x₆.stays ((hsm.trans k₅).trans k₆)
  obtain ⟨vs₆, sl₆, _, _, _, he₆, _⟩ := x₆.there
  have ne₆ : g₆.get? e = none := T₆.none_ _ (kts_fresh F hBG x₆.new fun o ho m => by
    obtain ⟨_, o', ho', hd⟩ := K.frames.mem m
    rw [ho] at ho'
    cases ho'
    obtain ⟨sl, hs⟩ := ((hsm.trans k₅).trans k₆) _ _ (F.keep _ _ ho) hd
    rw [he₆] at hs
    have e2 := congrArg Obj.data (Option.some.inj hs)
    exact hd _ e2.symm)
  have N₆ := News.more F₆ News.nil he₆ (fun es n q => by cases q) ne₆
  have Nl : News g₆ L h₆ keep := fun q hq => ⟨x₆.stays _ _ (hl q hq).1, (fun z => by have := (hl q hq).1; rw [z, hL] at this; cases this), T₆.none_ _ (kts_none F.keep (hl q hq).2.1)⟩
  have X₆ : KF.In g₆ := XB.keeps K₆.stays
  have P₆ : Top p loose mean mg mb g₆ := TB.keeps K₆.stays
  refine stN F₆ (news := (e, _) :: keep) (fun q hq => (List.mem_cons.mp hq).elim (fun z => N₆ q (by rw [z]; exact .head _)) (Nl q)) (fun h₇ F₇ N₇ => ?_) hk hlo
  exact k h₇ g₆ _ _ _ T₆ F₇ N₇ K₆ X₆ P₆
end

section
variable {prog : Program} {w : World} {A : Around} {E : Value → Shared → Prop} {s : Shared} {K : Frag} {x C : Addr} {ox : Obj} {od : Option Obj} {name : Str} {Q : Value → Shared → Prop} {h₀ : Heap} {L : Addr} {m : Str → Option Value}
theorem bg_slot : Slot "Exception" "__getattribute__" "BaseException.__getattribute__" := .of (owner := "BaseException") (n := "__getattribute__") (by rw [typeLookup_type, builtinLookup_eq_fast]; kernel_rfl) (by decide +kernel) (by decide +kernel) (by decide +kernel)
    (by first | exact .inl (by decide +kernel) | exact .inr (by decide +kernel)) (by rw [isSubtype_type]; kernel_rfl)
theorem bg_entry : entryFor table "BaseException.__getattribute__" = some Builtin.«object.__getattribute__» := PySem.F.entry_bexc_ga
theorem bg_args (a b : Value) : argsOk "BaseException.__getattribute__" ⟨[a, b], []⟩ := PySem.F.args_bexc_ga a b
theorem bg_kind : builtinKind "BaseException.__getattribute__" = some .slot := by decide +kernel
theorem bg_split : splitId "BaseException.__getattribute__" = some ("BaseException", "__getattribute__") := by decide +kernel
/-- a field of an exception is read -/
theorem exGet {v : Value} {expr : Bool} (F : Fr h₀ L s.heap m) (X₀ : K.In h₀) (I : W.InstAt s.heap x ox C od) (hg : findIn K (.ref C) "__getattribute__" = some (some (.builtin "BaseException.__getattribute__"))) (hh : findIn K (.ref C) "__getattr__" = some none)
    (hs : subIn K (.ref C) (.type "BaseException") = some true) (hf : findObj K C od name = some (.value v)) (hv : handedIn v = true) (h : Q v { s with toks := s.toks + 1 }) :
    wpAny (model prog w) A (getAttr (.ref x) name expr) Q E s := by
  have X := X₀.keeps F.keep
  obtain ⟨hh0, g, d, t, os⟩ := s
  have L0 := I.type (M := model prog w)
  have L1 := looks_findIn (M := model prog w) X hg
  have L2 := looks_findIn (M := model prog w) X hh
  have L3 := looks_find (M := model prog w) X I hf
  have L4 : Looks (model prog w) hh0 (isInstance (.ref x) (.type "BaseException")) true := L0.andThen (looks_subIn X hs)
  unfold getAttr getAttrBy
  refine wpAny_bind (wpAny_mkText (wpAny_holding (wpAny_bind (L0.at (wpAny_bind (L1.at ?_))))))
  show wpAny _ _ (getAttrByItsOwn (.ref x) (.str name t) (.ref C) (.builtin "BaseException.__getattribute__") true expr) _ _ _
  unfold getAttrByItsOwn hookBefore callGetattribute boundAndCalled
  refine wpAny_bind (show wpAny _ _ (typeLookup (.ref C) "__getattr__") _ _ _ from L2.at ?_)
  refine wpAny_bind (wpAny_attempt (wpAny_holding ?_))
  rw [show (expr && onTheHeap (Value.builtin "BaseException.__getattribute__")) = false from by cases expr <;> rfl, if_neg (by decide)]
  rw [bg_slot.bind]
  refine wpAny_bind (wpAny_pure ?_)
  dsimp only
  have fin : wpAny (model prog w) A (handedOut v) Q E ⟨hh0, g, d, t + 1, os⟩ := by rw [handedOut_of hv]; exact wpAny_pure h
  refine wpAny_call (codeAny_call_builtin bg_slot.plain bg_entry (@check_slot (model prog w) _ _ ⟨hh0, g, d, t + 1, os⟩ "BaseException.__getattribute__" "BaseException" "__getattribute__" (.ref x) [.str name t] [] _ bg_kind bg_split L4 (bg_args _ _) ?_))
  unfold Builtin.«object.__getattribute__»
  refine wpAny_bind (wpAny_pure (wpAny_bind (wpAny_pure (wpAny_bind (L0.at (wpAny_bind (L3.at ?_)))))))
  exact wpAny_pure fin
end
end Mine
end
-- part TX
section
namespace Mine
theorem freshTX : True := by
  w_top off
  trivial
end Mine
open PySem PySem.W PySem.Calls PyProof.Rows
set_option maxRecDepth 100000
set_option maxHeartbeats 8000000
namespace Mine
/-- the text of one sign; a text's signs; its sign at a place -/
def one (c : Nat) : Str := ⟨#[c]⟩
def cs (T : Str) : List Nat := T.cps.toList
def ch (T : Str) (i : Int) : Nat := (cs T).getD i.toNat 0
theorem cs_length (T : Str) : (cs T).length = T.length := by simp [cs, Str.length]
theorem one_length (c : Nat) : (one c).length = 1 := rfl
theorem item_is {T : Str} {i : Int} (h1 : 0 ≤ i) (h2 : i < T.length) : Txt.item T i = one (ch T i) := by
  unfold Txt.item Txt.charAt one ch cs
  have hl : i.toNat < T.cps.toList.length := by simp; have : T.length = T.cps.size := rfl; lia
  have e : seqIndex? i T.length = some i.toNat := by
    have h3 : ¬ i < 0 := by lia
    simp [seqIndex?, h3, h1, h2]
  rw [e, Option.bind_some]
  congr 2
  rw [List.getD_eq_getElem?_getD]
  simp
theorem item_one {prog : Program} {w : World} {A : Around} {E : Value → Shared → Prop} {s : Shared} {value slice : Expr} {x : Str} {t : Tok} {Q : Value → Shared → Prop} {i : Int} {u : Tok} (h1 : 0 ≤ i) (h2 : i < x.length) (hx : x.length ≤ 4000)
    (h : Q (.str (one (ch x i)) s.toks) { s with toks := s.toks + 1 })
    (hs : subscripted slice false (.str x t) (.int i u) = operate [.str x t, .int i u] (getItem (.str x t) (.int i u)) := by with_unfolding_all rfl)
    (ht : ∀ r, letTemporaryGo value (.str x t) r = pure () := by intro _; with_unfolding_all rfl) :
    wpAny (model prog w) A (subscriptTail value slice (.str x t) (.int i u)) Q E s :=
  item_str (fitsSsize_of (N := 9223372036854775808) (by lia) (by lia) (Int.le_refl _)) (by lia) h2 (fun _ => by rw [item_is h1 h2]; exact h) hs ht
def inS (y x : Str) : Bool := !(Builtin.Str.occurrences x y 0 x.length 1).isEmpty
theorem inS_one (c : Nat) (x : Str) : inS (one c) x = decide (c ∈ cs x) := StrLaws.found_one x c
theorem in_strS {prog : Program} {w : World} {A : Around} {E : Value → Shared → Prop} {s : Shared} {x y : Str} {t u : Tok} {Q : Value → Shared → Prop} (h : Q (.bool (inS y x)) s) : wpAny (model prog w) A (compareOp .In (.str y u) (.str x t)) Q E s := PyProof.Rows.in_str h
theorem notIn_strS {prog : Program} {w : World} {A : Around} {E : Value → Shared → Prop} {s : Shared} {x y : Str} {t u : Tok} {Q : Value → Shared → Prop} (h : Q (.bool (!inS y x)) s) : wpAny (model prog w) A (compareOp .NotIn (.str y u) (.str x t)) Q E s := PyProof.Rows.notIn_str h
theorem one_eq (c : Nat) (x : Str) : (one c == x) = decide (cs x = [c]) := by
  obtain ⟨⟨l⟩⟩ := x
  unfold one cs
  rw [Bool.eq_iff_iff]
  simp
  exact eq_comm
theorem one_ne_empty (c : Nat) : (one c == Str.ofString "") = false := by rw [one_eq]; exact decide_eq_false (by rw [show cs (Str.ofString "") = [] by decide]; simp)
end Mine
end
-- what the walking parts share
section
open PySem PySem.W PySem.Calls PyProof.Rows Mine
local macro_rules | `(tactic| k_room) => `(tactic| ktr_room)
local macro_rules | `(tactic| k_all) => `(tactic| ((fail_if_success (refine List.forall_mem_cons.mpr ⟨?_, ?_⟩)); first | assumption | exact tailNe (by assumption) (by intro p9 h9; repeat (first | exact h9 | refine List.mem_cons_of_mem _ ?_))))
local macro_rules | `(tactic| walk_at $s:str) => `(tactic| k_extra $s)
-- part W1
section
namespace Mine
theorem freshW1 : True := by
  w_top off
  trivial
end Mine
open PySem PySem.W PySem.Calls PyProof.Rows
set_option maxRecDepth 100000
set_option maxHeartbeats 8000000
namespace Mine
abbrev fnScope (c1 : List (Str × NameKind)) (c2 c3 : Bool) (c4 : List (Str × Const)) : Scope := ⟨.function, c1, c2, c3, c4⟩
abbrev scanD (P : Params) (T : Str) (p : Int) (a b c d : Tok) : Obj :=
  dictOf [⟨PyData.keyHash P (Str.ofString "text"), .str (Str.ofString "text") a, .str T b⟩, ⟨PyData.keyHash P (Str.ofString "spot"), .str (Str.ofString "spot") c, .int p d⟩] 2
def signS (T : Str) (p : Int) : Str := if p < T.length then one (ch T p) else Str.ofString ""


section
variable {w : World} {mean : ExcName → Option Value} {mg mb : Str → Option Value} {dp un : Nat} {gd : Option (List Code)} {cn : Str} {c1 : List (Str × NameKind)} {c2 c3 : Bool} {c4 : List (Str × Const)} {a : Addr} {ccd : Value} {cl : List (Str × Addr)} {outer : List Env} {A₀ : Around} {base h₀ : Heap} {L : Addr} {m : Str → Option Value} {s : Shared} {Q E : Value → Shared → Prop}
  {x dx : Addr} {T : Str} {p : Int} {t1 t2 t3 t4 : Tok} {rest : List (Addr × Obj)}

theorem sign_c :
    Below A₀ base outer h₀ → Fr h₀ L s.heap m → (heapK w.params).In h₀ → News h₀ L s.heap ((x, instObj 194 dx) :: (dx, scanD w.params T p t1 t2 t3 t4) :: rest) → Top viewV LO mean mg mb h₀ →
    x ≠ dx → (∀ q ∈ rest, q.1 ≠ dx) → 0 ≤ p → T.length ≤ 1000 → dp + 1 < recursionLimit → un + 8 < cLine →
    (∀ t h' tk', Fr h₀ L h' m → News h₀ L h' ((x, instObj 194 dx) :: (dx, scanD w.params T p t1 t2 t3 t4) :: rest) → Q (.str (signS T p) t) { s with heap := h', toks := tk' }) →
    wpAny (model Challenge.rw_sj0097_01.row.prog w) (ktrTop dp un gd cn (fnScope c1 c2 c3 c4) L a ccd cl outer) (call (.ref 128) [.ref x]) Q E s := by
  k_with_none
  k_with "subscriptTail" => (k_here; (with_reducible show wpAny _ _ (subscriptTail _ _ (Value.str _ _) (Value.int _ _)) _ _ _); (refine item_one (by omega) (by omega) (by omega) ?_))
  k_fill
  intro B F X N Tp h1 h2 hp hT hd hu ret
  refine wpAny_call ?_
  k_dflt k_enter
  k_steps
  all_goals first | (rw [signS, if_pos (by assumption)] at ret; exact ret _ _ _ (by k_asm) (by k_asm)) | (rw [signS, if_neg (by assumption)] at ret; exact ret _ _ _ (by k_asm) (by k_asm))
end

/-- a while by a state c: the frame's map, the ledger, what holds, what falls -/
def WEnd {σ : Type} (h₀ : Heap) (L : Addr) (s : Shared) (ms : σ → Str → Option Value) (Led : σ → List (Addr × Obj)) (P : σ → Prop) (μ : σ → Nat) (c : σ) (s₃ : Shared) : Prop :=
  ∃ (c' : σ) (h' : Heap) (tk : Nat) (m' : Str → Option Value) (news' : List (Addr × Obj)), s₃ = { s with heap := h', toks := tk } ∧ Fr h₀ L h' m' ∧ News h₀ L h' news' ∧ (∀ y, m' y = ms c' y) ∧ (∀ q ∈ Led c', q ∈ news') ∧ P c' ∧ μ c' < μ c
def WPost {σ : Type} (h₀ : Heap) (L : Addr) (s : Shared) (ms : σ → Str → Option Value) (Led : σ → List (Addr × Obj)) (P : σ → Prop) (μ : σ → Nat) (Q : Flow → Shared → Prop) (c : σ) (f : Flow) (s₃ : Shared) : Prop :=
  match f with
  | .ret v => Q (.ret v) s₃
  | .brk => Q .next s₃
  | _ => WEnd h₀ L s ms Led P μ c s₃
theorem wEnd {σ : Type} {h₀ : Heap} {L : Addr} {s : Shared} {ms : σ → Str → Option Value} {Led : σ → List (Addr × Obj)} {P : σ → Prop} {μ : σ → Nat} {c : σ} {h' : Heap} {tk : Nat} {m' : Str → Option Value} {news' : List (Addr × Obj)} (c' : σ)
    (F : Fr h₀ L h' m') (N : News h₀ L h' news') (hm : ∀ y, m' y = ms c' y) (hl : ∀ q ∈ Led c', q ∈ news') (hp : P c') (hμ : μ c' < μ c) : WEnd h₀ L s ms Led P μ c { s with heap := h', toks := tk } := ⟨c', h', tk, m', news', rfl, F, N, hm, hl, hp, hμ⟩
theorem wWhile {σ : Type} {prog : Program} {w : World} {A : Around} {E : Value → Shared → Prop} {Q : Flow → Shared → Prop} {s : Shared} {env : Env} {h₀ : Heap} {L : Addr} {m : Str → Option Value} {news : List (Addr × Obj)} {test : Expr} {body : List Stmt} {pos : Pos}
    (ms : σ → Str → Option Value) (Led : σ → List (Addr × Obj)) (P : σ → Prop) (μ : σ → Nat) (c₀ : σ) (F : Fr h₀ L s.heap m) (N : News h₀ L s.heap news) (hm : ∀ y, m y = ms c₀ y) (hl : ∀ q ∈ Led c₀, q ∈ news) (hp : P c₀)
    (turn : ∀ c h₁ tk₁, P c → Fr h₀ L h₁ (ms c) → News h₀ L h₁ (Led c) →
      wpAny (model prog w) A (isTrue test env (eval test env)) (fun b s₂ =>
        if b = true then wpAny (model prog w) A (execs body env) (WPost h₀ L s ms Led P μ Q c) E s₂ else Q .next s₂) E { s with heap := h₁, toks := tk₁ })
    (hE : PassesOwn (model prog w) A env E := by passes_own) :
    wpAny (model prog w) A (exec (.While test body [] pos) env) Q E s := by
  have e0 : m = ms c₀ := funext hm
  subst e0
  refine While_inv2 (fun n m₁ nx => ∃ c, n = μ c ∧ m₁ = ms c ∧ nx = Led c ∧ P c) F (cb_drop N hl) ⟨c₀, rfl, rfl, rfl, hp⟩ ?_ hE
  rintro n m₁ nx h₁ tk₁ F₁ N₁ ⟨c, rfl, rfl, rfl, hc⟩
  refine wpAny_mono (turn c h₁ tk₁ hc F₁ N₁) (fun b s₂ h₂ => ?_) fun _ _ x => x
  cases b with
  | false => exact h₂
  | true =>
    refine wpAny_mono h₂ (fun f s₃ h₃ => ?_) fun _ _ x => x
    cases f with
    | ret v => exact h₃
    | brk => exact h₃
    | next =>
      obtain ⟨c', h', tk, m', news', e, F', N', e1, e2, h1, h2⟩ := h₃
      have e3 : m' = ms c' := funext e1
      subst e3
      exact ⟨h', tk, ms c', Led c', μ c', e, F', cb_drop N' e2, h2, c', rfl, rfl, rfl, h1⟩
    | cont =>
      obtain ⟨c', h', tk, m', news', e, F', N', e1, e2, h1, h2⟩ := h₃
      have e3 : m' = ms c' := funext e1
      subst e3
      exact ⟨h', tk, ms c', Led c', μ c', e, F', cb_drop N' e2, h2, c', rfl, rfl, rfl, h1⟩
theorem wWhileC {σ : Type} {prog : Program} {w : World} {A : Around} {E : Value → Shared → Prop} {Q : Flow → Shared → Prop} {s : Shared} {env : Env} {h₀ : Heap} {L : Addr} {m : Str → Option Value} {news : List (Addr × Obj)} {test : Expr} {body : List Stmt} {pos : Pos}
    (Led : σ → List (Addr × Obj)) (P : σ → Prop) (μ : σ → Nat) (c₀ : σ) (F : Fr h₀ L s.heap m) (N : News h₀ L s.heap news) (hl : ∀ q ∈ Led c₀, q ∈ news) (hp : P c₀)
    (turn : ∀ c h₁ tk₁, P c → Fr h₀ L h₁ m → News h₀ L h₁ (Led c) →
      wpAny (model prog w) A (isTrue test env (eval test env)) (fun b s₂ =>
        if b = true then wpAny (model prog w) A (execs body env) (WPost h₀ L s (fun _ => m) Led P μ Q c) E s₂ else Q .next s₂) E { s with heap := h₁, toks := tk₁ })
    (hE : PassesOwn (model prog w) A env E := by passes_own) :
    wpAny (model prog w) A (exec (.While test body [] pos) env) Q E s := wWhile (fun _ => m) Led P μ c₀ F N (fun _ => rfl) hl hp turn hE
end Mine
end
-- part W2
section
namespace Mine
theorem freshW2 : True := by
  w_top off
  trivial
end Mine
open PySem PySem.W PySem.Calls PyProof.Rows
set_option maxRecDepth 100000
set_option maxHeartbeats 8000000
namespace Mine
section
variable {w : World} {mean : ExcName → Option Value} {mg mb : Str → Option Value} {dp un : Nat} {gd : Option (List Code)} {cn : Str} {c1 : List (Str × NameKind)} {c2 c3 : Bool} {c4 : List (Str × Const)} {a : Addr} {ccd : Value} {cl : List (Str × Addr)} {outer : List Env} {A₀ : Around} {base h₀ : Heap} {L : Addr} {m : Str → Option Value} {s : Shared} {Q E : Value → Shared → Prop}
  {x dx : Addr} {T : Str} {p : Int} {t1 t2 t3 t4 t5 : Tok} {rest : List (Addr × Obj)} {signs : Str}

def RunTo (T signs : Str) (p q : Int) : Prop := p ≤ q ∧ q ≤ T.length ∧ (∀ i, p ≤ i → i < q → inS (one (ch T i)) signs = true)

theorem run_of_c :
    Below A₀ base outer h₀ → Fr h₀ L s.heap m → (heapK w.params).In h₀ → News h₀ L s.heap ((x, instObj 194 dx) :: (dx, scanD w.params T p t1 t2 t3 t4) :: rest) → Top viewV LO mean mg mb h₀ →
    x ≠ dx → (∀ q ∈ rest, q.1 ≠ dx) → 0 ≤ p → p ≤ T.length → T.length ≤ 1000 → dp + 1 < recursionLimit → un + 8 < cLine →
    (∀ q t t' h' tk', RunTo T signs p q → (q < T.length → inS (one (ch T q)) signs = false) → Fr h₀ L h' m → News h₀ L h' ((x, instObj 194 dx) :: (dx, scanD w.params T q t1 t2 t3 t') :: rest) → Q (.str (Txt.slice T (some p) (some q)) t) { s with heap := h', toks := tk' }) →
    wpAny (model Challenge.rw_sj0097_01.row.prog w) (ktrTop dp un gd cn (fnScope c1 c2 c3 c4) L a ccd cl outer) (call (.ref 142) [.ref x, .str signs t5]) Q E s := by
  k_with_none
  k_with "subscriptTail" => (k_here; (with_reducible show wpAny _ _ (subscriptTail _ _ (Value.str _ _) (Value.int _ _)) _ _ _); (refine item_one (by omega) (by omega) (by omega) ?_))
  k_with "compareOp In str str" => refine in_strS ?_
  k_with "exec While BoolOp cons nil" => (refine' wWhileC (σ := Int × Tok) (fun c => (x, instObj 194 dx) :: (dx, scanD w.params T c.1 t1 t2 t3 c.2) :: rest) (fun c => RunTo T signs p c.1) (fun c => (T.length - c.1).toNat) (p, t4) ?kF ?kN ?kL ?kP ?_; (case kF => k_asm); (case kN => k_asm); (case kL => kqd_sub); (case kP => exact ⟨Int.le_refl _, hpT, fun i h1 h2 => absurd h1 (by omega)⟩); rintro ⟨c, ct⟩ h' tk' hc F' N'; obtain ⟨hc1, hc2, hc3⟩ := hc; dsimp only at hc1 hc2 hc3 N')
  k_fill
  intro B F X N Tp h1 h2 hp hpT hT hd hu ret
  refine wpAny_call ?_
  k_dflt k_enter
  k_steps
  all_goals first
    | exact ret _ _ _ _ _ ⟨hc1, hc2, hc3⟩ (fun _ => by assumption) (by k_asm) (by k_asm)
    | exact ret _ _ _ _ _ ⟨hc1, hc2, hc3⟩ (fun h9 => absurd h9 (by assumption)) (by k_asm) (by k_asm)
    | exact wEnd (c + 1, _) (by k_asm) (by k_asm) (fun _ => rfl) (by kqd_sub) ⟨by omega, by omega, fun i h1 h2 => if e : i = c then e ▸ (by assumption) else hc3 i h1 (by omega)⟩ (by dsimp only; omega)
end
end Mine
end
-- part W3
section
namespace Mine
theorem freshW3 : True := by
  w_top off
  trivial
end Mine
open PySem PySem.W PySem.Calls PyProof.Rows
set_option maxRecDepth 100000
set_option maxHeartbeats 8000000
namespace Mine
section
variable {w : World} {mean : ExcName → Option Value} {mg mb : Str → Option Value} {dp un : Nat} {gd : Option (List Code)} {cn : Str} {c1 : List (Str × NameKind)} {c2 c3 : Bool} {c4 : List (Str × Const)} {a : Addr} {ccd : Value} {cl : List (Str × Addr)} {outer : List Env} {A₀ : Around} {base h₀ : Heap} {L : Addr} {m : Str → Option Value} {s : Shared} {Q E : Value → Shared → Prop}
  {x dx : Addr} {T : Str} {p : Int} {t1 t2 t3 t4 t5 t6 t7 : Tok} {rest : List (Addr × Obj)} {signs what : Str} {begin_ : Int}

theorem sign_len (T : Str) (p : Int) : (signS T p).length ≤ 1 := by
  unfold signS
  split
  · exact Nat.le_refl _
  · decide
def SIMPLE : Str := Str.ofString "abcdefghijklmnopqrstuvwxyzABCDEFGHIJKLMNOPQRSTUVWXYZ0123456789~!@$%^&*_-+=<>.?/"
def runsIn (T : Str) (p : Int) : Bool := if (signS T p != Str.ofString "") then inS (signS T p) SIMPLE else false
theorem ends_c :
    Below A₀ base outer h₀ → Fr h₀ L s.heap m → (heapK w.params).In h₀ → News h₀ L s.heap ((x, instObj 194 dx) :: (dx, scanD w.params T p t1 t2 t3 t4) :: rest) → Top viewV LO mean mg mb h₀ →
    x ≠ dx → (∀ q ∈ rest, q.1 ≠ dx) → 0 ≤ p → p ≤ T.length → T.length ≤ 1000 → what.length ≤ 100 → dp + 7 < recursionLimit → un + 60 < cLine →
    (runsIn T p = false → ∀ h' tk', Fr h₀ L h' m → News h₀ L h' ((x, instObj 194 dx) :: (dx, scanD w.params T p t1 t2 t3 t4) :: rest) → Q .none { s with heap := h', toks := tk' }) →
    (runsIn T p = true → RaisesTo w.params base h₀ L m (envX cn (fnScope c1 c2 c3 c4) L a ccd cl :: outer) begin_ rest s E) →
    wpAny (model Challenge.rw_sj0097_01.row.prog w) (ktrTop dp un gd cn (fnScope c1 c2 c3 c4) L a ccd cl outer) (call (.ref 149) [.ref x, .str what t5, .int begin_ t6]) Q E s := by
  k_with_none
  k_with "subscriptTail" => (k_here; (with_reducible show wpAny _ _ (subscriptTail _ _ (Value.str _ _) (Value.int _ _)) _ _ _); (refine item_one (by omega) (by omega) (by omega) ?_))
  k_with "compareOp NotIn str str" => refine notIn_strS ?_
  k_with "compareOp In str str" => refine in_strS ?_
  k_with "exec Raise some none" => refine exRaise (C := 69) rfl ?_
  k_with "RaisedAt" => (k_here; k_dflt (refine' raisedAt ?k1z9 ?k2z9 ?k3z9 ?k4z9 ?k5z9 ?k6z9 ?_; (case k1z9 => k_asm); (case k2z9 => k_asm); (case k3z9 => k_asm); (case k4z9 => rfl); (case k5z9 => k_is); (case k6z9 => k_is)))
  k_with "leaving ref" => (k_here; k_dflt (refine' leaveD' ?k1z9 ?k2z9 ?k3z9 ?k4z9 ?k5z9 ?_; (case k1z9 => assumption); (case k2z9 => k_asm); (case k3z9 => k_asm); (case k4z9 => rfl); (case k5z9 => assumption)); intro h' R' U'; (try dsimp only))
  k_with "leaving ref" => (k_here; k_dflt (refine' leave_onD ?k1z9 ?k2z9 ?k3z9 ?k4z9 ?_; (case k3z9 => assumption); (case k1z9 => assumption); (case k4z9 => assumption); (case k2z9 => assumption)); intro h' R' U'; (try dsimp only))
  k_with "call ref" => (k_here; (with_reducible show wpAny _ _ (call (Value.ref 69) _) _ _ _); k_dflt (refine' mkSF ?k1z9 ?k2z9 ?k3z9 ?k4z9 ?k5z9 ?k6z9 ?kdz9 ?kuz9 ?_; (case k1z9 => k_asm); (case k2z9 => k_asm); (case k3z9 => k_asm); (case k4z9 => k_asm); (case k5z9 => k_asm); (case k6z9 => rfl); (case kdz9 => ktr_room); (case kuz9 => ktr_units)); intro e9 de9 te9 k9 l9 h9 tk9 F9 N9 n9; (try dsimp only))
  k_with "call ref" => (k_here; (with_reducible show wpAny _ _ (call (Value.ref 128) _) _ _ _); k_dflt (refine' sign_c ?k1z9 ?k2z9 ?k3z9 ?k4z9 ?k5z9 ?k6z9 ?k7z9 ?k8z9 ?k9z9 ?kdz9 ?kuz9 ?_; (case k1z9 => k_asm); (case k2z9 => k_asm); (case k3z9 => k_asm); (case k4z9 => k_asm); (case k5z9 => k_asm); (case k6z9 => k_asm); (case k7z9 => k_asm); (case k8z9 => omega); (case k9z9 => omega); (case kdz9 => ktr_room); (case kuz9 => ktr_units)); intro t9 h9 tk9 F9 N9; (try dsimp only))
  k_fill
  intro B F X N Tp h1 h2 hp hpT hT hw hd hu ret rai
  have sl := sign_len T p
  refine wpAny_call ?_
  k_dflt k_enter
  k_steps
  all_goals first
    | exact rai (by unfold runsIn; rw [if_pos (by assumption)]; assumption) _ _ _ _ _ _ _ _ _ _ (by assumption) (by assumption) (RaisedD.sub (by assumption) (by kqd_sub))
    | exact ret (by unfold runsIn; rw [if_pos (by assumption)]; assumption) _ _ (by k_asm) (by k_asm)
    | exact ret (by unfold runsIn; rw [if_neg (by assumption)]) _ _ (by k_asm) (by k_asm)
    | exact ret (by unfold runsIn; rw [if_neg (by simp_all)]) _ _ (by k_asm) (by k_asm)
end
end Mine
end
-- part W4
section
namespace Mine
theorem freshW4 : True := by
  w_top off
  trivial
end Mine
open PySem PySem.W PySem.Calls PyProof.Rows
set_option maxRecDepth 100000
set_option maxHeartbeats 8000000
namespace Mine
section
variable {w : World} {mean : ExcName → Option Value} {mg mb : Str → Option Value} {dp un : Nat} {gd : Option (List Code)} {cn : Str} {c1 : List (Str × NameKind)} {c2 c3 : Bool} {c4 : List (Str × Const)} {a : Addr} {ccd : Value} {cl : List (Str × Addr)} {outer : List Env} {A₀ : Around} {base h₀ : Heap} {L : Addr} {m : Str → Option Value} {s : Shared} {Q E : Value → Shared → Prop}
  {x dx : Addr} {T : Str} {p : Int} {t1 t2 t3 t4 t5 t6 t7 : Tok} {rest : List (Addr × Obj)} {signs what : Str} {begin_ : Int}

def rl (T signs : Str) (p : Int) : Nat := (((cs T).drop p.toNat).takeWhile fun c => decide (c ∈ cs signs)).length
def sl (T : Str) (p q : Int) : Str := Txt.slice T (some p) (some q)
theorem rl_le (T signs : Str) {p : Int} (h0 : 0 ≤ p) (h1 : p ≤ T.length) : p + rl T signs p ≤ T.length := by
  unfold rl
  have h := (List.takeWhile_sublist (fun c => decide (c ∈ cs signs)) (l := (cs T).drop p.toNat)).length_le
  rw [List.length_drop, cs_length] at h
  omega
theorem run_rl {T signs : Str} {p q : Int} (h0 : 0 ≤ p) (hr : RunTo T signs p q) (hs : q < T.length → inS (one (ch T q)) signs = false) : q = p + rl T signs p := by
  obtain ⟨h1, h2, h3⟩ := hr
  have key : ∀ (l : List Nat) (n : Nat), n ≤ l.length → (∀ i, i < n → l.getD i 0 ∈ cs signs) → (n < l.length → l.getD n 0 ∉ cs signs) → (l.takeWhile fun c => decide (c ∈ cs signs)).length = n := by
    intro l
    induction l with
    | nil => intro n hn _ _; simp at hn; simp [hn]
    | cons c l ih =>
      intro n hn ha hb
      cases n with
      | zero =>
        have := hb (by simp)
        simp at this
        simp [List.takeWhile_cons, this]
      | succ n =>
        have h0 := ha 0 (by omega)
        simp at h0
        have := ih n (by simpa using hn) (fun i hi => by simpa using ha (i + 1) (by omega)) (fun hl => by simpa using hb (by simpa using hl))
        simp [List.takeWhile_cons, h0, this]
  have := key ((cs T).drop p.toNat) (q - p).toNat (by rw [List.length_drop, cs_length]; omega) (fun i hi => by
      have := h3 (p + i) (by omega) (by omega)
      rw [inS_one] at this
      have := of_decide_eq_true this
      unfold ch at this
      rw [List.getD_eq_getElem?_getD, List.getElem?_drop, ← List.getD_eq_getElem?_getD]
      rwa [show (p + (i : Int)).toNat = p.toNat + i by omega] at this) (fun hl => by
      rw [List.length_drop, cs_length] at hl
      have := hs (by omega)
      rw [inS_one] at this
      have := of_decide_eq_false this
      unfold ch at this
      rw [List.getD_eq_getElem?_getD, List.getElem?_drop, ← List.getD_eq_getElem?_getD]
      rwa [show q.toNat = p.toNat + (q - p).toNat by omega] at this)
  unfold rl
  rw [this]; omega
theorem run_of_f :
    Below A₀ base outer h₀ → Fr h₀ L s.heap m → (heapK w.params).In h₀ → News h₀ L s.heap ((x, instObj 194 dx) :: (dx, scanD w.params T p t1 t2 t3 t4) :: rest) → Top viewV LO mean mg mb h₀ →
    x ≠ dx → (∀ q ∈ rest, q.1 ≠ dx) → 0 ≤ p → p ≤ T.length → T.length ≤ 1000 → dp + 1 < recursionLimit → un + 8 < cLine →
    (∀ t t' h' tk', Fr h₀ L h' m → News h₀ L h' ((x, instObj 194 dx) :: (dx, scanD w.params T (p + rl T signs p) t1 t2 t3 t') :: rest) → Q (.str (sl T p (p + rl T signs p)) t) { s with heap := h', toks := tk' }) →
    wpAny (model Challenge.rw_sj0097_01.row.prog w) (ktrTop dp un gd cn (fnScope c1 c2 c3 c4) L a ccd cl outer) (call (.ref 142) [.ref x, .str signs t5]) Q E s := by
  intro B F X N Tp h1 h2 hp hpT hT hd hu ret
  refine run_of_c B F X N Tp h1 h2 hp hpT hT hd hu fun q t t' h' tk' hr hs F' N' => ?_
  have e := run_rl hp hr hs
  subst e
  exact ret t t' h' tk' F' N'

/-- a reader's answer: the item, where the scanner stands, the rest kept -/
def Reads (w : World) (h₀ : Heap) (L : Addr) (m : Str → Option Value) (x dx : Addr) (T : Str) (t1 t2 t3 : Tok) (rest : List (Addr × Obj)) (s : Shared) (item : Dat) (q : Int) (Q : Value → Shared → Prop) : Prop :=
  ∀ v tl t' h' tk', Fr h₀ L h' m → News h₀ L h' (tl ++ ((x, instObj 194 dx) :: (dx, scanD w.params T q t1 t2 t3 t') :: rest)) → DatIn tl v item → (∀ r ∈ tl, ∀ b ∈ ((x, instObj 194 dx) :: (dx, scanD w.params T q t1 t2 t3 t') :: rest), b.1 < r.1) → Q v { s with heap := h', toks := tk' }
theorem want_c {figures : Str} {news : List (Addr × Obj)} {spot : Int} :
    Below A₀ base outer h₀ → Fr h₀ L s.heap m → (heapK w.params).In h₀ → News h₀ L s.heap news → Top viewV LO mean mg mb h₀ → figures.length ≤ 1000 → dp + 1 < recursionLimit → un + 8 < cLine →
    (∀ h' tk', Fr h₀ L h' m → News h₀ L h' news → Q .none { s with heap := h', toks := tk' }) →
    wpAny (model Challenge.rw_sj0097_01.row.prog w) (ktrTop dp un gd cn (fnScope c1 c2 c3 c4) L a ccd cl outer) (call (.ref 100) [.str figures t5, .int spot t6]) Q E s := by
  k_with_none
  k_with "subscriptTail" => (k_here; (with_reducible show wpAny _ _ (subscriptTail _ _ (Value.str _ _) (Value.int _ _)) _ _ _); (refine item_one (by omega) (by omega) (by omega) ?_))
  k_with "compareOp NotIn str str" => refine notIn_strS ?_
  k_with "compareOp In str str" => refine in_strS ?_
  k_with "exec Raise some none" => refine exRaise (C := 69) rfl ?_
  k_with "RaisedAt" => (k_here; k_dflt (refine' raisedAt ?k1z9 ?k2z9 ?k3z9 ?k4z9 ?k5z9 ?k6z9 ?_; (case k1z9 => k_asm); (case k2z9 => k_asm); (case k3z9 => k_asm); (case k4z9 => rfl); (case k5z9 => k_is); (case k6z9 => k_is)))
  k_with "leaving ref" => (k_here; k_dflt (refine' leaveD' ?k1z9 ?k2z9 ?k3z9 ?k4z9 ?k5z9 ?_; (case k1z9 => assumption); (case k2z9 => k_asm); (case k3z9 => k_asm); (case k4z9 => rfl); (case k5z9 => assumption)); intro h' R' U'; (try dsimp only))
  k_with "leaving ref" => (k_here; k_dflt (refine' leave_onD ?k1z9 ?k2z9 ?k3z9 ?k4z9 ?_; (case k3z9 => assumption); (case k1z9 => assumption); (case k4z9 => assumption); (case k2z9 => assumption)); intro h' R' U'; (try dsimp only))
  k_with "call ref" => (k_here; (with_reducible show wpAny _ _ (call (Value.ref 69) _) _ _ _); k_dflt (refine' mkSF ?k1z9 ?k2z9 ?k3z9 ?k4z9 ?k5z9 ?k6z9 ?kdz9 ?kuz9 ?_; (case k1z9 => k_asm); (case k2z9 => k_asm); (case k3z9 => k_asm); (case k4z9 => k_asm); (case k5z9 => k_asm); (case k6z9 => rfl); (case kdz9 => ktr_room); (case kuz9 => ktr_units)); intro e9 de9 te9 k9 l9 h9 tk9 F9 N9 n9; (try dsimp only))
  k_with "call ref" => (k_here; (with_reducible show wpAny _ _ (call (Value.ref 128) _) _ _ _); k_dflt (refine' sign_c ?k1z9 ?k2z9 ?k3z9 ?k4z9 ?k5z9 ?k6z9 ?k7z9 ?k8z9 ?k9z9 ?kdz9 ?kuz9 ?_; (case k1z9 => k_asm); (case k2z9 => k_asm); (case k3z9 => k_asm); (case k4z9 => k_asm); (case k5z9 => k_asm); (case k6z9 => k_asm); (case k7z9 => k_asm); (case k8z9 => omega); (case k9z9 => omega); (case kdz9 => ktr_room); (case kuz9 => ktr_units)); intro t9 h9 tk9 F9 N9; (try dsimp only))
  k_fill
  intro B F X N Tp hf hd hu ret
  refine wpAny_call ?_
  k_dflt k_enter
  k_steps
  all_goals exact ret _ _ (by k_asm) (by k_asm)
end
end Mine
end
-- part W5
section
namespace Mine
theorem freshW5 : True := by
  w_top off
  trivial
end Mine
open PySem PySem.W PySem.Calls PyProof.Rows
set_option maxRecDepth 100000
set_option maxHeartbeats 8000000
namespace Mine
section
variable {w : World} {mean : ExcName → Option Value} {mg mb : Str → Option Value} {dp un : Nat} {gd : Option (List Code)} {cn : Str} {c1 : List (Str × NameKind)} {c2 c3 : Bool} {c4 : List (Str × Const)} {a : Addr} {ccd : Value} {cl : List (Str × Addr)} {outer : List Env} {A₀ : Around} {base h₀ : Heap} {L : Addr} {m : Str → Option Value} {s : Shared} {Q E : Value → Shared → Prop}
  {x dx : Addr} {T : Str} {p : Int} {t1 t2 t3 t4 t5 t6 t7 : Tok} {rest : List (Addr × Obj)} {signs what : Str} {begin_ : Int}

def dr (T : Str) (c : Int) : List Nat := (cs T).drop c.toNat
theorem dr_cons {T : Str} {c : Int} (h0 : 0 ≤ c) (h1 : c < T.length) : dr T c = ch T c :: dr T (c + 1) := by
  unfold dr ch
  have h : c.toNat < (cs T).length := by rw [cs_length]; lia
  rw [List.drop_eq_getElem_cons h, show (c + 1).toNat = c.toNat + 1 by lia, List.getD_eq_getElem?_getD, List.getElem?_eq_getElem h]
  rfl
theorem dr_nil {T : Str} {c : Int} (h1 : T.length ≤ c) : dr T c = [] := by
  unfold dr
  exact List.drop_eq_nil_of_le (by rw [cs_length]; lia)
def BL : List Nat := [32, 9, 13, 10]
def pastL : Bool → List Nat → Nat
  | _, [] => 0
  | true, c :: l => 1 + pastL (decide (c ≠ 10 ∧ c ≠ 13)) l
  | false, c :: l => if c = 59 then 1 + pastL true l else if c ∈ BL then 1 + pastL false l else 0
def pastT (T : Str) (r : Bool) (c : Int) : Int := c + pastL r (dr T c)
theorem past_end {T : Str} {r : Bool} {c : Int} (h : T.length ≤ c) : pastT T r c = c := by
  unfold pastT; rw [dr_nil h]; cases r <;> simp [pastL]
theorem past_semi {T : Str} {c : Int} (h0 : 0 ≤ c) (h1 : c < T.length) (h : ch T c = 59) : pastT T false c = pastT T true c := by
  unfold pastT; rw [dr_cons h0 h1, h]; simp [pastL]
theorem past_in {T : Str} {c : Int} (h0 : 0 ≤ c) (h1 : c < T.length) (h : ch T c ≠ 10 ∧ ch T c ≠ 13) : pastT T true c = pastT T true (c + 1) := by
  unfold pastT; rw [dr_cons h0 h1]; simp only [pastL]; rw [decide_eq_true h]; lia
theorem past_out {T : Str} {c : Int} (h0 : 0 ≤ c) (h1 : c < T.length) (h : ch T c = 10 ∨ ch T c = 13) : pastT T true c = pastT T false c := by
  unfold pastT; rw [dr_cons h0 h1]; simp only [pastL]; rcases h with h | h <;> rw [h] <;> simp [BL]
theorem past_blank {T : Str} {c : Int} (h0 : 0 ≤ c) (h1 : c < T.length) (h : ch T c ∈ BL) (h' : ch T c ≠ 59) : pastT T false c = pastT T false (c + 1) := by
  unfold pastT; rw [dr_cons h0 h1]; simp only [pastL]; rw [if_neg h', if_pos h]; lia
theorem past_here {T : Str} {c : Int} (h0 : 0 ≤ c) (h1 : c < T.length) (h : ch T c ∉ BL) (h' : ch T c ≠ 59) : pastT T false c = c := by
  unfold pastT; rw [dr_cons h0 h1]; simp only [pastL]; rw [if_neg h', if_neg h]; simp
theorem in_past {c : Nat} {x : Str} (h : inS (one c) x = true) : c ∈ cs x := by rw [inS_one] at h; exact of_decide_eq_true h
theorem notIn_past {c : Nat} {x : Str} (h : inS (one c) x = false) : c ∉ cs x := by rw [inS_one] at h; exact of_decide_eq_false h
theorem wWhile1 {σ : Type} {prog : Program} {w : World} {A : Around} {E : Value → Shared → Prop} {Q : Flow → Shared → Prop} {s : Shared} {env : Env} {h₀ : Heap} {L : Addr} {m : Str → Option Value} {news : List (Addr × Obj)} {test : Expr} {body : List Stmt} {pos : Pos}
    (nm : Str) (val : σ → Option Value) (Led : σ → List (Addr × Obj)) (P : σ → Prop) (μ : σ → Nat) (c₀ : σ) (F : Fr h₀ L s.heap m) (N : News h₀ L s.heap news) (hv : m nm = val c₀) (hl : ∀ q ∈ Led c₀, q ∈ news) (hp : P c₀)
    (turn : ∀ c h₁ tk₁, P c → Fr h₀ L h₁ (fun y => if y = nm then val c else m y) → News h₀ L h₁ (Led c) →
      wpAny (model prog w) A (isTrue test env (eval test env)) (fun b s₂ =>
        if b = true then wpAny (model prog w) A (execs body env) (WPost h₀ L s (fun c y => if y = nm then val c else m y) Led P μ Q c) E s₂ else Q .next s₂) E { s with heap := h₁, toks := tk₁ })
    (hE : PassesOwn (model prog w) A env E := by passes_own) :
    wpAny (model prog w) A (exec (.While test body [] pos) env) Q E s :=
  wWhile (fun c y => if y = nm then val c else m y) Led P μ c₀ F N (fun y => by by_cases h : y = nm; (subst h; rw [if_pos rfl, hv]); rw [if_neg h]) hl hp turn hE
theorem over1 {m : Str → Option Value} {nm : Str} {a b : Option Value} (y : Str) : (if y = nm then a else if y = nm then b else m y) = (if y = nm then a else m y) := by split <;> rfl
theorem one_ne {c : Nat} {d : Nat} (h : (one c == one d) = false) : c ≠ d := fun e => by subst e; simp at h
theorem one_is {c : Nat} {d : Nat} (h : (one c == one d) = true) : c = d := by have := eq_of_beq h; unfold one at this; injection this with h; simpa using h
theorem str59 : Str.ofString ";" = one 59 := by decide
theorem semi_is {T : Str} {c : Int} (h : (one (ch T c) == Str.ofString ";") = true) : ch T c = 59 := one_is (str59 ▸ h)
theorem semi_no {T : Str} {c : Int} (h : (one (ch T c) == Str.ofString ";") = false) : ch T c ≠ 59 := one_ne (str59 ▸ h)
def stopL : List Str := [Str.ofString "", Str.ofString "\n", Str.ofString "\r"]
theorem stop_go {T : Str} {d : Int} (hd : d ≤ T.length) (h : (stopL.any fun x => x == signS T d) = false) : d < T.length ∧ ch T d ≠ 10 ∧ ch T d ≠ 13 := by
  simp only [stopL, List.any_cons, List.any_nil, Bool.or_false, Bool.or_eq_false_iff] at h
  obtain ⟨h1, h2, h3⟩ := h
  by_cases hl : d < T.length
  · rw [signS, if_pos hl] at h2 h3
    refine ⟨hl, fun e => ?_, fun e => ?_⟩
    · rw [e] at h2; revert h2; decide
    · rw [e] at h3; revert h3; decide
  · rw [signS, if_neg hl] at h1; simp at h1
theorem stop_is {T : Str} {d : Int} (h : (stopL.any fun x => x == signS T d) = true) : T.length ≤ d ∨ (d < T.length ∧ (ch T d = 10 ∨ ch T d = 13)) := by
  by_cases hl : d < T.length
  · right; refine ⟨hl, ?_⟩
    simp only [stopL, List.any_cons, List.any_nil, Bool.or_false, Bool.or_eq_true] at h
    rw [signS, if_pos hl] at h
    rcases h with h | h | h
    · have := eq_of_beq h; rw [show Str.ofString "" = ⟨#[]⟩ by decide] at this; unfold one at this; injection this with h; simp at h
    · left; have := eq_of_beq h; rw [show Str.ofString "\n" = ⟨#[10]⟩ by decide] at this; unfold one at this; injection this with h; simp at h; exact h.symm
    · right; have := eq_of_beq h; rw [show Str.ofString "\r" = ⟨#[13]⟩ by decide] at this; unfold one at this; injection this with h; simp at h; exact h.symm
  · left; lia
theorem skipA {T : Str} {p c d : Int} (hp : 0 ≤ p) (h0 : p ≤ c) (h1 : c < T.length) (hs : (one (ch T c) == Str.ofString ";") = true) (hc : c ≤ d) (hd : d ≤ T.length) (ha : (stopL.any fun x => x == signS T d) = true) (hq : pastT T true d = pastT T false p) :
    (p ≤ d ∧ d ≤ T.length ∧ pastT T false d = pastT T false p) ∧ c < d := by
  rcases stop_is ha with h | ⟨h, h'⟩
  · refine ⟨⟨by lia, hd, ?_⟩, by lia⟩
    rw [past_end h] at hq ⊢; exact hq
  · refine ⟨⟨by lia, hd, ?_⟩, ?_⟩
    · rw [← past_out (by lia) h h']; exact hq
    · rcases Int.lt_or_le c d with z | z
      · exact z
      · obtain rfl : c = d := by lia
        rw [semi_is hs] at h'; lia
theorem skipB {T : Str} {p c d : Int} (hp : 0 ≤ p) (h0 : p ≤ c) (hc : c ≤ d) (hd : d ≤ T.length) (ha : ([Str.ofString "", Str.ofString "\n", Str.ofString "\r"].any fun x => x == signS T d) = false) (hq : pastT T true d = pastT T false p) :
    (c ≤ d + 1 ∧ d + 1 ≤ T.length ∧ pastT T true (d + 1) = pastT T false p) ∧ d < T.length := by
  obtain ⟨h, h'⟩ := stop_go hd ha
  exact ⟨⟨by lia, by lia, by rw [← past_in (by lia) h h']; exact hq⟩, h⟩
theorem skipC {T : Str} {p c : Int} (hp : 0 ≤ p) (h0 : p ≤ c) (h1 : c < T.length) (hs : (one (ch T c) == Str.ofString ";") = false) (hb : inS (one (ch T c)) (Str.ofString " \t\r\n") = true) (hq : pastT T false c = pastT T false p) :
    (p ≤ c + 1 ∧ c + 1 ≤ T.length ∧ pastT T false (c + 1) = pastT T false p) :=
  ⟨by lia, by lia, by rw [← past_blank (by lia) h1 (in_past hb) (semi_no hs)]; exact hq⟩
theorem skipD {T : Str} {p c : Int} (hp : 0 ≤ p) (h0 : p ≤ c) (h1 : c < T.length) (hs : (one (ch T c) == Str.ofString ";") = false) (hb : inS (one (ch T c)) (Str.ofString " \t\r\n") = false) (hq : pastT T false c = pastT T false p) :
    c = pastT T false p := by rw [← hq]; exact (past_here (by lia) h1 (notIn_past hb) (semi_no hs)).symm
theorem skipE {T : Str} {p c : Int} (h1 : ¬ c < T.length) (hc : c ≤ T.length) (hq : pastT T false c = pastT T false p) :
    c = pastT T false p := by rw [← hq]; exact (past_end (by lia)).symm
theorem skipF {T : Str} {p c : Int} (hp : 0 ≤ p) (h0 : p ≤ c) (h1 : c < T.length) (hs : (one (ch T c) == Str.ofString ";") = true) (hq : pastT T false c = pastT T false p) : pastT T true c = pastT T false p := by
  rw [← hq]; exact (past_semi (by lia) h1 (semi_is hs)).symm
theorem skip_c :
    Below A₀ base outer h₀ → Fr h₀ L s.heap m → (heapK w.params).In h₀ → News h₀ L s.heap ((x, instObj 194 dx) :: (dx, scanD w.params T p t1 t2 t3 t4) :: rest) → Top viewV LO mean mg mb h₀ →
    x ≠ dx → (∀ q ∈ rest, q.1 ≠ dx) → 0 ≤ p → p ≤ T.length → T.length ≤ 1000 → dp + 2 < recursionLimit → un + 16 < cLine →
    (∀ t h' tk', Fr h₀ L h' m → News h₀ L h' ((x, instObj 194 dx) :: (dx, scanD w.params T (pastT T false p) t1 t2 t3 t) :: rest) → Q .none { s with heap := h', toks := tk' }) →
    wpAny (model Challenge.rw_sj0097_01.row.prog w) (ktrTop dp un gd cn (fnScope c1 c2 c3 c4) L a ccd cl outer) (call (.ref 135) [.ref x]) Q E s := by
  k_with_none
  k_with "subscriptTail" => (k_here; (with_reducible show wpAny _ _ (subscriptTail _ _ (Value.str _ _) (Value.int _ _)) _ _ _); (refine item_one (by lia) (by lia) (by lia) ?_))
  k_with "compareOp NotIn str str" => refine notIn_strS ?_
  k_with "compareOp In str str" => refine in_strS ?_
  k_with "exec Raise some none" => refine exRaise (C := 69) rfl ?_
  k_with "RaisedAt" => (k_here; k_dflt (refine' raisedAt ?k1z9 ?k2z9 ?k3z9 ?k4z9 ?k5z9 ?k6z9 ?_; (case k1z9 => k_asm); (case k2z9 => k_asm); (case k3z9 => k_asm); (case k4z9 => rfl); (case k5z9 => k_is); (case k6z9 => k_is)))
  k_with "leaving ref" => (k_here; k_dflt (refine' leaveD' ?k1z9 ?k2z9 ?k3z9 ?k4z9 ?k5z9 ?_; (case k1z9 => assumption); (case k2z9 => k_asm); (case k3z9 => k_asm); (case k4z9 => rfl); (case k5z9 => assumption)); intro h' R' U'; (try dsimp only))
  k_with "leaving ref" => (k_here; k_dflt (refine' leave_onD ?k1z9 ?k2z9 ?k3z9 ?k4z9 ?_; (case k3z9 => assumption); (case k1z9 => assumption); (case k4z9 => assumption); (case k2z9 => assumption)); intro h' R' U'; (try dsimp only))
  k_with "call ref" => (k_here; (with_reducible show wpAny _ _ (call (Value.ref 69) _) _ _ _); k_dflt (refine' mkSF ?k1z9 ?k2z9 ?k3z9 ?k4z9 ?k5z9 ?k6z9 ?kdz9 ?kuz9 ?_; (case k1z9 => k_asm); (case k2z9 => k_asm); (case k3z9 => k_asm); (case k4z9 => k_asm); (case k5z9 => k_asm); (case k6z9 => rfl); (case kdz9 => ktr_room); (case kuz9 => ktr_units)); intro e9 de9 te9 k9 l9 h9 tk9 F9 N9 n9; (try dsimp only))
  k_with "call ref" => (k_here; (with_reducible show wpAny _ _ (call (Value.ref 128) _) _ _ _); k_dflt (refine' sign_c ?k1z9 ?k2z9 ?k3z9 ?k4z9 ?k5z9 ?k6z9 ?k7z9 ?k8z9 ?k9z9 ?kdz9 ?kuz9 ?_; (case k1z9 => k_asm); (case k2z9 => k_asm); (case k3z9 => k_asm); (case k4z9 => k_asm); (case k5z9 => k_asm); (case k6z9 => k_asm); (case k7z9 => k_asm); (case k8z9 => lia); (case k9z9 => lia); (case kdz9 => ktr_room); (case kuz9 => ktr_units)); intro t9 h9 tk9 F9 N9; (try dsimp only))
  k_with "exec While Compare cons nil" => (first
    | (refine' wWhile1 (σ := Int × Tok × Option Value) (Str.ofString "sign") (fun c => c.2.2) (fun c => ((x, instObj 194 dx) :: (dx, scanD w.params T c.1 t1 t2 t3 c.2.1) :: rest)) (fun c => p ≤ c.1 ∧ c.1 ≤ T.length ∧ pastT T false c.1 = pastT T false p) (fun c => (T.length - c.1).toNat) (p, t4, none) ?kF ?kN ?km ?kL ?kP ?_; (case kF => k_asm); (case kN => k_asm); (case km => with_unfolding_all rfl); (case kL => kqd_sub); (case kP => exact ⟨Int.le_refl _, hpT, rfl⟩); rintro ⟨c, ct, sg⟩ h' tk' hc F' N'; obtain ⟨hc1, hc2, hc3⟩ := hc; dsimp only at hc1 hc2 hc3 N' F')
    | (refine' wWhileC (σ := Int × Tok) (fun d => ((x, instObj 194 dx) :: (dx, scanD w.params T d.1 t1 t2 t3 d.2) :: rest)) (fun d => c ≤ d.1 ∧ d.1 ≤ T.length ∧ pastT T true d.1 = pastT T false p) (fun d => (T.length - d.1).toNat) (c, ct) ?kF ?kN ?kL ?kP ?_; (case kF => k_asm); (case kN => k_asm); (case kL => kqd_sub); (case kP => exact ⟨Int.le_refl _, hc2, skipF hp hc1 (by assumption) (by assumption) hc3⟩); rintro ⟨d, dt⟩ h' tk' hd F' N'; obtain ⟨hd1, hd2, hd3⟩ := hd; dsimp only at hd1 hd2 hd3 N'))
  k_fill
  intro B F X N Tp h1 h2 hp hpT hT hd hu ret
  refine wpAny_call ?_
  k_dflt k_enter
  k_steps
  all_goals (try dsimp only [WPost])
  k_steps
  all_goals first
    | exact wEnd (d, dt, _) (by k_asm) (by k_asm) (by intro y; by_cases hy : y = Str.ofString "sign"; (subst hy; rfl); simp only [if_neg hy]) (by kqd_sub) (skipA hp hc1 (by assumption) (by assumption) hd1 hd2 (by assumption) hd3).1 (by have := (skipA hp hc1 (by assumption) (by assumption) hd1 hd2 (by assumption) hd3).2; dsimp only; lia)
    | exact wEnd (d + 1, _) (by k_asm) (by k_asm) (fun _ => rfl) (by kqd_sub) (skipB hp hc1 hd1 hd2 (by assumption) hd3).1 (by have := (skipB hp hc1 hd1 hd2 (by assumption) hd3).2; dsimp only; lia)
    | exact wEnd (c + 1, _, _) (by k_asm) (by k_asm) (by intro y; by_cases hy : y = Str.ofString "sign"; (subst hy; rfl); simp only [if_neg hy]) (by kqd_sub) (skipC hp hc1 (by assumption) (by assumption) (by assumption) hc3) (by dsimp only; lia)
    | (rw [← skipD hp hc1 (by assumption) (by assumption) (by assumption) hc3] at ret; exact ret _ _ _ (by k_asm) (by k_asm))
    | (rw [← skipE (by assumption) hc2 hc3] at ret; exact ret _ _ _ (by k_asm) (by k_asm))
end
end Mine
end
-- part WF
section
namespace Mine
theorem freshWF : True := by
  w_top off
  trivial
end Mine
open PySem PySem.W PySem.Calls PyProof.Rows
set_option maxRecDepth 100000
set_option maxHeartbeats 8000000
namespace Mine
/-- a for by a state c: the frame's map (all but the loop's own name), the ledger, what holds after i turns -/
def FEnd {σ : Type} (h₀ : Heap) (L : Addr) (s : Shared) (x : Str) (ms : σ → Str → Option Value) (Led : σ → List (Addr × Obj)) (P : Nat → σ → Prop) (own : List (Addr × Obj)) (i : Nat) (s₃ : Shared) : Prop :=
  ∃ (c' : σ) (h' : Heap) (tk : Nat) (m' : Str → Option Value) (news' : List (Addr × Obj)), s₃ = { s with heap := h', toks := tk } ∧ Fr h₀ L h' m' ∧ News h₀ L h' news' ∧ (∀ y, y ≠ x → m' y = ms c' y) ∧ (∀ q ∈ Led c', q ∈ news') ∧ (∀ q ∈ own, q ∈ news') ∧ OwnOff own ((Led c').map (·.1)) ∧ P (i + 1) c'
def FPost {σ : Type} (h₀ : Heap) (L : Addr) (s : Shared) (x : Str) (ms : σ → Str → Option Value) (Led : σ → List (Addr × Obj)) (P : Nat → σ → Prop) (own : List (Addr × Obj)) (i : Nat) (Q : Flow → Shared → Prop) (f : Flow) (s₃ : Shared) : Prop :=
  match f with
  | .ret v => Q (.ret v) s₃
  | .brk => Q .next s₃
  | _ => FEnd h₀ L s x ms Led P own i s₃
theorem fEnd {σ : Type} {h₀ : Heap} {L : Addr} {s : Shared} {x : Str} {ms : σ → Str → Option Value} {Led : σ → List (Addr × Obj)} {P : Nat → σ → Prop} {own : List (Addr × Obj)} {i : Nat} {h' : Heap} {tk : Nat} {m' : Str → Option Value} {news' : List (Addr × Obj)} (c' : σ)
    (F : Fr h₀ L h' m') (N : News h₀ L h' news') (hm : ∀ y, y ≠ x → m' y = ms c' y) (hl : ∀ q ∈ Led c', q ∈ news') (ho : ∀ q ∈ own, q ∈ news') (ha : OwnOff own ((Led c').map (·.1))) (hp : P (i + 1) c') : FEnd h₀ L s x ms Led P own i { s with heap := h', toks := tk } := ⟨c', h', tk, m', news', rfl, F, N, hm, hl, ho, ha, hp⟩
theorem set1 {m : Str → Option Value} {n1 : Str} {a : Option Value} (h : m n1 = a) (y : Str) : m y = (if y = n1 then a else m y) := by
  by_cases e : y = n1
  · rw [if_pos e, e, h]
  · rw [if_neg e]
theorem set2 {m : Str → Option Value} {n1 n2 : Str} {a b : Option Value} (h1 : m n1 = a) (h2 : m n2 = b) (y : Str) : m y = (if y = n1 then a else if y = n2 then b else m y) := by
  rw [← set1 h2]; exact set1 h1 y
theorem set3 {m : Str → Option Value} {n1 n2 n3 : Str} {a b c : Option Value} (h1 : m n1 = a) (h2 : m n2 = b) (h3 : m n3 = c) (y : Str) : m y = (if y = n1 then a else if y = n2 then b else if y = n3 then c else m y) := by
  rw [← set1 h3]; exact set2 h1 h2 y
/-- a while of which the frame changes -/
theorem wWhileM {σ : Type} {prog : Program} {w : World} {A : Around} {E : Value → Shared → Prop} {Q : Flow → Shared → Prop} {s : Shared} {env : Env} {h₀ : Heap} {L : Addr} {m : Str → Option Value} {news : List (Addr × Obj)} {test : Expr} {body : List Stmt} {pos : Pos}
    (ms : (Str → Option Value) → σ → Str → Option Value) (Led : σ → List (Addr × Obj)) (P : σ → Prop) (μ : σ → Nat) (c₀ : σ) (F : Fr h₀ L s.heap m) (N : News h₀ L s.heap news) (hm : ∀ y, m y = ms m c₀ y) (hl : ∀ q ∈ Led c₀, q ∈ news) (hp : P c₀)
    (turn : ∀ c h₁ tk₁, P c → Fr h₀ L h₁ (ms m c) → News h₀ L h₁ (Led c) →
      wpAny (model prog w) A (isTrue test env (eval test env)) (fun b s₂ =>
        if b = true then wpAny (model prog w) A (execs body env) (WPost h₀ L s (ms m) Led P μ Q c) E s₂ else Q .next s₂) E { s with heap := h₁, toks := tk₁ })
    (hE : PassesOwn (model prog w) A env E := by passes_own) :
    wpAny (model prog w) A (exec (.While test body [] pos) env) Q E s :=
  wWhile (ms m) Led P μ c₀ F N hm hl hp turn hE
section
variable {prog : Program} {w : World} {A : Around} {E : Value → Shared → Prop} {s : Shared} {env : Env} {h₀ : Heap} {x : Str} {body : List Stmt} {Q : Flow → Shared → Prop}
theorem wFor {σ : Type} {I : Addr} {fp wr : List Addr} {n : Nat} {PV : Nat → Value → Prop} {St : Nat → Heap → Prop} {m₀ : Str → Option Value} {news : List (Addr × Obj)}
    (ms : σ → Str → Option Value) (Led : σ → List (Addr × Obj)) (P : Nat → σ → Prop) (c₀ : σ)
    (W : Walks prog w A I fp wr n PV St) (hfw : ∀ a ∈ fp, a ∈ wr) (hwf : ∀ b ∈ wr, b ∈ fp) (hob : ∀ i h, St i h → ∀ b ∈ wr, ∃ o, h.get? b = some o) (hLf : env.locals ∉ fp) (hwr : ∀ b ∈ wr, h₀.get? b = none) (hnw : ∀ p ∈ Led c₀, p.1 ∉ wr) (hst : St 0 s.heap)
    (F : Fr h₀ env.locals s.heap m₀) (N : News h₀ env.locals s.heap (Led c₀)) (hm : ∀ y, y ≠ x → m₀ y = ms c₀ y) (hp : P 0 c₀)
    (turn : ∀ i c v h tk own, i < n → PV i v → P i c → OwnOff own ((Led c).map (·.1)) → Fr h₀ env.locals h (fun y => if y = x then some v else ms c y) → News h₀ env.locals h (Led c ++ own) →
      wpAny (model prog w) A (execs body env) (FPost h₀ env.locals s x ms Led P own i Q) E { s with heap := h, toks := tk })
    (done : ∀ c u h tk, P n c → Fr h₀ env.locals h (fun y => if y = x then u else ms c y) → News h₀ env.locals h (Led c) → Q .next { s with heap := h, toks := tk }) :
    LoopAtV prog w A h₀ env x body Q E (.ref I) s := by
  refine kdr_loop (fun i m nx => ∃ c, nx = Led c ∧ P i c ∧ ∀ y, y ≠ x → m y = ms c y) W hfw hwf hob hLf hwr hnw hst F N ⟨c₀, rfl, hp, hm⟩ ?_ ?_
  · rintro i v m₁ nx h tk own hi hv hoff ⟨c, rfl, hc, hmc⟩ F₁ N₁
    have e : (fun y => if y = x then some v else m₁ y) = (fun y => if y = x then some v else ms c y) := funext fun y => by
      by_cases hy : y = x
      · rw [if_pos hy, if_pos hy]
      · rw [if_neg hy, if_neg hy, hmc y hy]
    rw [e] at F₁
    refine wpAny_mono (turn i c v h tk own hi hv hc hoff F₁ N₁) (fun f s₃ h₃ => ?_) fun _ _ x => x
    have fin : FEnd h₀ env.locals s x ms Led P own i s₃ → InvEndG h₀ env.locals (fun m nx => ∃ c, nx = Led c ∧ P (i + 1) c ∧ ∀ y, y ≠ x → m y = ms c y) own { s with heap := h, toks := tk } s₃ := by
      rintro ⟨c', h', tk', m', news', rfl, F', N', e1, e2, e3, e4, e5⟩
      exact InvEndG.intro F' N' ⟨c', rfl, e5, e1⟩ e4 e2 e3
    cases f with
    | ret v => exact h₃
    | brk => exact h₃
    | next => exact fin h₃
    | cont => exact fin h₃
  · rintro m₁ nx h tk ⟨c, rfl, hc, hmc⟩ F₁ N₁
    have e : m₁ = (fun y => if y = x then m₁ x else ms c y) := funext fun y => by
      by_cases hy : y = x
      · rw [if_pos hy, hy]
      · rw [if_neg hy, hmc y hy]
    rw [e] at F₁
    exact done c _ h tk hc F₁ N₁
theorem wForStr {σ : Type} {xt : Str} {tx : Tok} {m₀ : Str → Option Value} {news : List (Addr × Obj)}
    (ms : (Str → Option Value) → σ → Str → Option Value) (Led : σ → List (Addr × Obj)) (P : Nat → σ → Prop) (c₀ : σ)
    (hh : A.handled = none) (F : Fr h₀ env.locals s.heap m₀) (N : News h₀ env.locals s.heap news) (hl : ∀ q ∈ Led c₀, q ∈ news) (hm : ∀ y, y ≠ x → m₀ y = ms m₀ c₀ y) (hp : P 0 c₀)
    (turn : ∀ i c ch t h tk own, i < xt.length → (cs xt)[i]? = some ch → P i c → OwnOff own ((Led c).map (·.1)) → Fr h₀ env.locals h (fun y => if y = x then some (.str (one ch) t) else ms m₀ c y) → News h₀ env.locals h (Led c ++ own) →
      wpAny (model prog w) A (execs body env) (FPost h₀ env.locals s x (ms m₀) Led P own i Q) E { s with heap := h, toks := tk })
    (done : ∀ c u h tk, P xt.length c → Fr h₀ env.locals h (fun y => if y = x then u else ms m₀ c y) → News h₀ env.locals h (Led c) → Q .next { s with heap := h, toks := tk }) :
    wpAny (model prog w) A (pyIter (.str xt tx)) (fun it s₂ => LoopAtV prog w A h₀ env x body Q E it s₂) E s := by
  have key : ∀ (cls : String) (o : Obj), Walks prog w A s.heap.objs.size [s.heap.objs.size] [s.heap.objs.size] xt.cps.size (SignAt xt) (fun i h => h.IsStrIter s.heap.objs.size cls xt tx i) → (s.heap.push o).IsStrIter s.heap.objs.size cls xt tx 0 →
      LoopAtV prog w A h₀ env x body Q E (.ref s.heap.objs.size) { s with heap := s.heap.push o } := by
    intro cls o W hst
    refine wFor (m₀ := m₀) (news := news) (ms m₀) Led P c₀ W (fun _ h => h) (fun _ h => h) ?_ ?_ ?_ ?_ hst (F.push _) (fun p hp => ⟨Heap.get?_push_of_some _ (N p (hl p hp)).1, (N p (hl p hp)).2⟩) hm hp ?_ done
    · intro i h hi b hb
      rw [List.mem_singleton.mp hb]
      obtain ⟨it, h1, _⟩ := hi
      exact ⟨it, h1⟩
    · intro hm
      exact absurd F.ns.lt ((List.mem_singleton.mp hm) ▸ Nat.lt_irrefl _)
    · intro b hb
      rw [List.mem_singleton.mp hb]
      exact next_is_new F
    · intro p hp hI
      exact absurd (Heap.lt_size (N p (hl p hp)).1) ((List.mem_singleton.mp hI) ▸ Nat.lt_irrefl _)
    · rintro i c v h tk own hi ⟨ch, u, hc, rfl⟩ hP hoff F₁ N₁
      exact turn i c ch u h tk own hi (by unfold cs; rw [Array.getElem?_toList]; exact hc) hP hoff F₁ N₁
  cases ha : xt.cps.all (· < 128)
  · exact wpAny_pyIter_wide ha (key _ _ (Walks.strWide hh _ xt tx) ⟨_, Heap.get?_push_size _ rfl, rfl, rfl⟩)
  · exact wpAny_pyIter_ascii ha (key _ _ (Walks.strAscii hh _ xt tx) ⟨_, Heap.get?_push_size _ rfl, rfl, rfl⟩)
theorem wForRange {σ : Type} {r : Addr} {a₀ b₀ : Int} {t₀ u₀ v₀ : Tok} (n : Nat) {m₀ : Str → Option Value} {news : List (Addr × Obj)}
    (ms : (Str → Option Value) → σ → Str → Option Value) (Led : σ → List (Addr × Obj)) (P : Nat → σ → Prop) (c₀ : σ)
    (hh : A.handled = none) (hr : IsRange s.heap r a₀ b₀ 1 t₀ u₀ v₀) (hsmall : Builtin.Range.small a₀ b₀ 1 = true) (hsz : Builtin.Range.rangeSize a₀ b₀ 1 = (n : Int)) (F : Fr h₀ env.locals s.heap m₀) (N : News h₀ env.locals s.heap news) (hl : ∀ q ∈ Led c₀, q ∈ news) (hm : ∀ y, y ≠ x → m₀ y = ms m₀ c₀ y) (hp : P 0 c₀)
    (turn : ∀ (i : Nat) c t h tk own, i < n → P i c → OwnOff own ((Led c).map (·.1)) → Fr h₀ env.locals h (fun y => if y = x then some (.int (a₀ + i) t) else ms m₀ c y) → News h₀ env.locals h (Led c ++ own) →
      wpAny (model prog w) A (execs body env) (FPost h₀ env.locals s x (ms m₀) Led P own i Q) E { s with heap := h, toks := tk })
    (done : ∀ c u h tk, P n c → Fr h₀ env.locals h (fun y => if y = x then u else ms m₀ c y) → News h₀ env.locals h (Led c) → Q .next { s with heap := h, toks := tk }) :
    wpAny (model prog w) A (pyIter (.ref r)) (fun it s₂ => LoopAtV prog w A h₀ env x body Q E it s₂) E s := by
  refine wpAny_pyIter_range hr hsmall ?_
  have W : Walks prog w A s.heap.objs.size [s.heap.objs.size] [s.heap.objs.size] n (fun i v => i < n ∧ ∃ t, v = .int (a₀ + i * 1) t)
      (fun i h => IsRangeIter h s.heap.objs.size (a₀ + (i : Nat) * 1) ((n : Int) - (i : Nat)) 1) := (Walks.range hh _ a₀ 1 n).bound
  refine wFor (m₀ := m₀) (news := news) (ms m₀) Led P c₀ W (fun _ h => h) (fun _ h => h) ?_ ?_ ?_ ?_ (by show IsRangeIter _ _ _ _ _; rw [hsz]; simpa using Heap.get?_push_size _ rfl) (F.push _) (fun p hp => ⟨Heap.get?_push_of_some _ (N p (hl p hp)).1, (N p (hl p hp)).2⟩) hm hp ?_ done
  · intro i h hi b hb
    rw [List.mem_singleton.mp hb]
    exact ⟨_, hi⟩
  · intro hm
    exact absurd F.ns.lt ((List.mem_singleton.mp hm) ▸ Nat.lt_irrefl _)
  · intro b hb
    rw [List.mem_singleton.mp hb]
    exact next_is_new F
  · intro p hp hI
    exact absurd (Heap.lt_size (N p (hl p hp)).1) ((List.mem_singleton.mp hI) ▸ Nat.lt_irrefl _)
  · rintro i c v h tk own hi ⟨_, t, rfl⟩ hP hoff F₁ N₁
    have e1 : a₀ + (i : Int) * 1 = a₀ + (i : Int) := by omega
    rw [e1] at F₁
    exact turn i c t h tk own hi hP hoff F₁ N₁
end
end Mine
end
-- part W8
section
namespace Mine
theorem freshW8 : True := by
  w_top off
  trivial
end Mine
open PySem PySem.W PySem.Calls PyProof.Rows
set_option maxRecDepth 100000
set_option maxHeartbeats 8000000
namespace Mine
section
variable {w : World} {mean : ExcName → Option Value} {mg mb : Str → Option Value} {dp un : Nat} {gd : Option (List Code)} {cn : Str} {c1 : List (Str × NameKind)} {c2 c3 : Bool} {c4 : List (Str × Const)} {a : Addr} {ccd : Value} {cl : List (Str × Addr)} {outer : List Env} {A₀ : Around} {base h₀ : Heap} {L : Addr} {m : Str → Option Value} {s : Shared} {Q E : Value → Shared → Prop}
  {x dx : Addr} {T : Str} {p : Int} {t1 t2 t3 t4 t5 t6 t7 : Tok} {rest : List (Addr × Obj)} {signs what : Str} {begin_ : Int}

theorem over2 {m : Str → Option Value} {n1 n2 : Str} {a b c : Option Value} (h : n1 ≠ n2) (y : Str) : (if y = n1 then a else if y = n2 then b else if y = n1 then c else m y) = (if y = n1 then a else if y = n2 then b else m y) := by
  by_cases h1 : y = n1
  · simp [h1]
  · simp [h1]
def HEX : Str := Str.ofString "0123456789abcdefABCDEF"
def valL (b : Int) (l : List Nat) : Int := l.foldl (fun f c => f * b + Txt.find HEX (one c)) 0
theorem valL_snoc (b : Int) (l : List Nat) (c : Nat) : valL b (l ++ [c]) = valL b l * b + Txt.find HEX (one c) := by simp [valL, List.foldl_append]
theorem take_snoc {l : List Nat} {i : Nat} {c : Nat} (h : l[i]? = some c) : l.take (i + 1) = l.take i ++ [c] := by simp [List.take_add_one, h]
theorem value_c {D : Str} {b : Int} {news : List (Addr × Obj)} :
    Below A₀ base outer h₀ → Fr h₀ L s.heap m → (heapK w.params).In h₀ → News h₀ L s.heap news → Top viewV LO mean mg mb h₀ → D.length ≤ 1000 → Builtin.Int.intBits b ≤ 64 → dp + 1 < recursionLimit → un + 8 < cLine →
    (∀ t h' tk', Fr h₀ L h' m → News h₀ L h' news → Q (.int (valL b (cs (Txt.lower D))) t) { s with heap := h', toks := tk' }) →
    wpAny (model Challenge.rw_sj0097_01.row.prog w) (ktrTop dp un gd cn (fnScope c1 c2 c3 c4) L a ccd cl outer) (call (.ref 107) [.str D t5, .int b t6]) Q E s := by
  k_with_none
  k_with "subscriptTail" => (k_here; (with_reducible show wpAny _ _ (subscriptTail _ _ (Value.str _ _) (Value.int _ _)) _ _ _); (refine item_one (by omega) (by omega) (by omega) ?_))
  k_with "compareOp NotIn str str" => refine notIn_strS ?_
  k_with "compareOp In str str" => refine in_strS ?_
  k_with "exec Raise some none" => refine exRaise (C := 69) rfl ?_
  k_with "RaisedAt" => (k_here; k_dflt (refine' raisedAt ?k1z9 ?k2z9 ?k3z9 ?k4z9 ?k5z9 ?k6z9 ?_; (case k1z9 => k_asm); (case k2z9 => k_asm); (case k3z9 => k_asm); (case k4z9 => rfl); (case k5z9 => k_is); (case k6z9 => k_is)))
  k_with "leaving ref" => (k_here; k_dflt (refine' leaveD' ?k1z9 ?k2z9 ?k3z9 ?k4z9 ?k5z9 ?_; (case k1z9 => assumption); (case k2z9 => k_asm); (case k3z9 => k_asm); (case k4z9 => rfl); (case k5z9 => assumption)); intro h' R' U'; (try dsimp only))
  k_with "leaving ref" => (k_here; k_dflt (refine' leave_onD ?k1z9 ?k2z9 ?k3z9 ?k4z9 ?_; (case k3z9 => assumption); (case k1z9 => assumption); (case k4z9 => assumption); (case k2z9 => assumption)); intro h' R' U'; (try dsimp only))
  k_with "call ref" => (k_here; (with_reducible show wpAny _ _ (call (Value.ref 69) _) _ _ _); k_dflt (refine' mkSF ?k1z9 ?k2z9 ?k3z9 ?k4z9 ?k5z9 ?k6z9 ?kdz9 ?kuz9 ?_; (case k1z9 => k_asm); (case k2z9 => k_asm); (case k3z9 => k_asm); (case k4z9 => k_asm); (case k5z9 => k_asm); (case k6z9 => rfl); (case kdz9 => ktr_room); (case kuz9 => ktr_units)); intro e9 de9 te9 k9 l9 h9 tk9 F9 N9 n9; (try dsimp only))
  k_with "pyIter str" => (rename Fr _ _ _ _ => lF; rename News _ _ _ _ => lN; refine' wForStr (σ := Int × Tok) (fun m c y => if y = Str.ofString "found" then some (.int c.1 c.2) else m y) (fun _ => news) (fun i c => c.1 = valL b ((cs (Txt.lower D)).take i)) (0, _) ?kh lF lN ?kl ?km ?kp ?_ ?_; (case kh => rfl); (case kl => exact fun _ h => h); (case km => (intro y hy0; by_cases hy1 : y = Str.ofString "found"; (subst hy1; rfl); simp only [if_neg hy0, if_neg hy1])); (case kp => rfl); (rintro i ⟨c, ct⟩ ch t h' tk own hi hch hc off F' N'; dsimp only at hc F' N'); rotate_left; (rintro ⟨c, ct⟩ u h' tk hc F' N'; dsimp only at hc F' N'); rotate_left)
  k_fill
  intro B F X N Tp hD hb hd hu ret
  refine wpAny_call ?_
  k_dflt k_enter
  k_steps
  all_goals first
    | (dsimp only [FPost]; refine fEnd (_, _) (by k_asm) (by k_asm) (by (intro y hy0; by_cases hy1 : y = Str.ofString "found"; (subst hy1; rfl); simp only [if_neg hy0, if_neg hy1])) (by kqd_sub) (by kqd_sub) off ?_; dsimp only; rw [take_snoc hch, valL_snoc, ← hc]; rfl)
    | (rw [List.take_of_length_le (by rw [cs_length]; exact Nat.le_refl _)] at hc; subst hc; exact ret _ _ _ (by k_asm) (by k_asm))
    | fail
end
end Mine
end
-- part W9
section
namespace Mine
theorem freshW9 : True := by
  w_top off
  trivial
end Mine
open PySem PySem.W PySem.Calls PyProof.Rows
set_option maxRecDepth 100000
set_option maxHeartbeats 8000000
namespace Mine
section
variable {w : World} {mean : ExcName → Option Value} {mg mb : Str → Option Value} {dp un : Nat} {gd : Option (List Code)} {cn : Str} {c1 : List (Str × NameKind)} {c2 c3 : Bool} {c4 : List (Str × Const)} {a : Addr} {ccd : Value} {cl : List (Str × Addr)} {outer : List Env} {A₀ : Around} {base h₀ : Heap} {L : Addr} {m : Str → Option Value} {s : Shared} {Q E : Value → Shared → Prop}
  {x dx : Addr} {T : Str} {p : Int} {t1 t2 t3 t4 t5 t6 t7 : Tok} {rest : List (Addr × Obj)} {signs what : Str} {begin_ : Int}

theorem gcd_turn {a b : Int} {G : Nat} (ha : 0 ≤ a) (hb : 0 ≤ b) (hG : Int.gcd a b = G) (hne : b ≠ 0) : (0 ≤ b ∧ 0 ≤ a.fmod b ∧ Int.gcd b (a.fmod b) = G) ∧ (a.fmod b).toNat < b.toNat := by
  obtain ⟨x, rfl⟩ := Int.eq_ofNat_of_zero_le ha
  obtain ⟨y, rfl⟩ := Int.eq_ofNat_of_zero_le hb
  rw [Int.fmod_eq_emod_of_nonneg _ hb, ← Int.natCast_emod]
  have hy : 0 < y := by omega
  have := Nat.mod_lt x hy
  refine ⟨⟨hb, by omega, ?_⟩, by omega⟩
  rw [← hG]
  show Nat.gcd y (x % y) = Nat.gcd x y
  rw [Nat.gcd_comm x y, Nat.gcd_comm y (x % y)]
  exact (Nat.gcd_rec y x).symm
theorem gcd_end {a : Int} {G : Nat} (ha : 0 ≤ a) (hG : Int.gcd a 0 = G) : a = G := by
  obtain ⟨x, rfl⟩ := Int.eq_ofNat_of_zero_le ha
  rw [← hG]; simp
theorem gcd_abs (u v : Int) : 0 ≤ (if u < 0 then -u else u) ∧ 0 ≤ (if v < 0 then -v else v) ∧ Int.gcd (if u < 0 then -u else u) (if v < 0 then -v else v) = Int.gcd u v := by
  refine ⟨by split <;> omega, by split <;> omega, ?_⟩
  split <;> split <;> simp [Int.gcd]
theorem gcd_c {u v : Int} {news : List (Addr × Obj)} :
    Below A₀ base outer h₀ → Fr h₀ L s.heap m → (heapK w.params).In h₀ → News h₀ L s.heap news → Top viewV LO mean mg mb h₀ → dp + 1 < recursionLimit → un + 8 < cLine →
    (∀ t h' tk', Fr h₀ L h' m → News h₀ L h' news → Q (.int (Int.gcd u v) t) { s with heap := h', toks := tk' }) →
    wpAny (model Challenge.rw_sj0097_01.row.prog w) (ktrTop dp un gd cn (fnScope c1 c2 c3 c4) L a ccd cl outer) (call (.ref 78) [.int u t5, .int v t6]) Q E s := by
  k_with_none
  k_with "subscriptTail" => (k_here; (with_reducible show wpAny _ _ (subscriptTail _ _ (Value.str _ _) (Value.int _ _)) _ _ _); (refine item_one (by omega) (by omega) (by omega) ?_))
  k_with "compareOp NotIn str str" => refine notIn_strS ?_
  k_with "compareOp In str str" => refine in_strS ?_
  k_with "exec Raise some none" => refine exRaise (C := 69) rfl ?_
  k_with "RaisedAt" => (k_here; k_dflt (refine' raisedAt ?k1z9 ?k2z9 ?k3z9 ?k4z9 ?k5z9 ?k6z9 ?_; (case k1z9 => k_asm); (case k2z9 => k_asm); (case k3z9 => k_asm); (case k4z9 => rfl); (case k5z9 => k_is); (case k6z9 => k_is)))
  k_with "leaving ref" => (k_here; k_dflt (refine' leaveD' ?k1z9 ?k2z9 ?k3z9 ?k4z9 ?k5z9 ?_; (case k1z9 => assumption); (case k2z9 => k_asm); (case k3z9 => k_asm); (case k4z9 => rfl); (case k5z9 => assumption)); intro h' R' U'; (try dsimp only))
  k_with "leaving ref" => (k_here; k_dflt (refine' leave_onD ?k1z9 ?k2z9 ?k3z9 ?k4z9 ?_; (case k3z9 => assumption); (case k1z9 => assumption); (case k4z9 => assumption); (case k2z9 => assumption)); intro h' R' U'; (try dsimp only))
  k_with "call ref" => (k_here; (with_reducible show wpAny _ _ (call (Value.ref 69) _) _ _ _); k_dflt (refine' mkSF ?k1z9 ?k2z9 ?k3z9 ?k4z9 ?k5z9 ?k6z9 ?kdz9 ?kuz9 ?_; (case k1z9 => k_asm); (case k2z9 => k_asm); (case k3z9 => k_asm); (case k4z9 => k_asm); (case k5z9 => k_asm); (case k6z9 => rfl); (case kdz9 => ktr_room); (case kuz9 => ktr_units)); intro e9 de9 te9 k9 l9 h9 tk9 F9 N9 n9; (try dsimp only))
  k_with "exec While Compare cons nil" => (rename Fr _ _ _ _ => lF; rename News _ _ _ _ => lN; refine' wWhileM (σ := Int × Tok × Int × Tok) (fun m c y => if y = Str.ofString "a" then some (.int c.1 c.2.1) else if y = Str.ofString "b" then some (.int c.2.2.1 c.2.2.2) else m y) (fun _ => news) (fun c => 0 ≤ c.1 ∧ 0 ≤ c.2.2.1 ∧ Int.gcd c.1 c.2.2.1 = Int.gcd u v) (fun c => c.2.2.1.toNat) (if u < 0 then -u else u, _, if v < 0 then -v else v, _) lF lN ?km ?kl ?kp ?_; (case km => (intro y; by_cases hy1 : y = Str.ofString "a"; (subst hy1; rfl); by_cases hy2 : y = Str.ofString "b"; (subst hy2; rfl); simp only [if_neg hy1, if_neg hy2])); (case kl => kqd_sub); (case kp => exact gcd_abs u v); (rintro ⟨c, ct, d, dt⟩ h' tk hc F' N'; dsimp only at hc F' N'; obtain ⟨hc1, hc2, hc3⟩ := hc))
  k_fill
  intro B F X N Tp hd hu ret
  refine wpAny_call ?_
  k_dflt k_enter
  k_steps
  all_goals (try dsimp only [WPost])
  all_goals first
    | (refine wEnd (_, _, _, _) (by k_asm) (by k_asm) (by (intro y; by_cases hy1 : y = Str.ofString "a"; (subst hy1; rfl); by_cases hy2 : y = Str.ofString "b"; (subst hy2; rfl); simp only [if_neg hy1, if_neg hy2])) (by kqd_sub) ?_ ?_; exact (gcd_turn hc1 hc2 hc3 (by assumption)).1; exact (gcd_turn hc1 hc2 hc3 (by assumption)).2)
    | (rw [gcd_end hc1 (by first | assumption | (subst d; exact hc3))] ; exact ret _ _ _ (by k_asm) (by k_asm))
    | fail
end
end Mine
end
-- part W10
section
namespace Mine
theorem freshW10 : True := by
  w_top off
  trivial
end Mine
open PySem PySem.W PySem.Calls PyProof.Rows
set_option maxRecDepth 100000
set_option maxHeartbeats 8000000
namespace Mine
open PySem.NumText
section
variable {w : World} {mean : ExcName → Option Value} {mg mb : Str → Option Value} {dp un : Nat} {gd : Option (List Code)} {cn : Str} {c1 : List (Str × NameKind)} {c2 c3 : Bool} {c4 : List (Str × Const)} {a : Addr} {ccd : Value} {cl : List (Str × Addr)} {outer : List Env} {A₀ : Around} {base h₀ : Heap} {L : Addr} {m : Str → Option Value} {s : Shared} {Q E : Value → Shared → Prop}
  {x dx : Addr} {T : Str} {p : Int} {t1 t2 t3 t4 t5 t6 t7 : Tok} {rest : List (Addr × Obj)} {signs what : Str} {begin_ : Int}

theorem lt_all {r : Addr} {l : List (Addr × Obj)} (h : AllLt r l) : ∀ b ∈ l, b.1 < r := by
  intro b hb
  induction l with
  | nil => cases hb
  | cons c l ih => rcases List.mem_cons.mp hb with rfl | h2; exact h.1; exact ih h.2 h2
theorem lt_one {r : Addr} {o : Obj} {l : List (Addr × Obj)} (h : AllLt r l) : ∀ q ∈ [(r, o)], ∀ b ∈ l, b.1 < q.1 := by
  intro q hq b hb
  obtain rfl := List.mem_singleton.mp hq
  exact lt_all h b hb
theorem lt_one' {r : Addr} {o : Obj} {l : List (Addr × Obj)} (h : ∀ p ∈ l, p.1 < r) : ∀ q ∈ [(r, o)], ∀ b ∈ l, b.1 < q.1 := by
  intro q hq b hb
  obtain rfl := List.mem_singleton.mp hq
  exact h b hb
theorem log2_of {v : Int} {n : Nat} (h : v.natAbs < 2 ^ n) : v.natAbs.log2 ≤ n := by
  rcases Nat.eq_zero_or_pos v.natAbs with z | z
  · rw [z]; simp
  · exact Nat.le_of_lt ((Nat.log2_lt (by omega)).mpr h)
theorem gcd_facts {u v : Int} (h : 0 < v) (hl : v.natAbs.log2 < 9000) : ((Int.gcd u v : Nat) : Int) ≠ 0 ∧ ((Int.gcd u v : Nat) : Int).natAbs.log2 < 9000 := by
  have hd : Int.gcd u v ≤ v.natAbs := Nat.le_of_dvd (by omega) (Nat.gcd_dvd_right _ _)
  have hp : 0 < Int.gcd u v := Nat.gcd_pos_of_pos_right _ (by omega)
  refine ⟨by omega, ?_⟩
  rw [Int.natAbs_natCast]
  exact (Nat.log2_lt (by omega)).mpr (Nat.lt_of_le_of_lt hd ((Nat.log2_lt (by omega)).mp hl))
theorem ratio_c {u v : Int} {news : List (Addr × Obj)} :
    Below A₀ base outer h₀ → Fr h₀ L s.heap m → (heapK w.params).In h₀ → News h₀ L s.heap news → Top viewV LO mean mg mb h₀ → 0 < v → v.natAbs.log2 < 9000 → dp + 2 < recursionLimit → un + 16 < cLine →
    (∀ val tl h' tk', Fr h₀ L h' m → News h₀ L h' (tl ++ news) → DatIn tl val (.tuple [.int (u.fdiv (Int.gcd u v)), .int (v.fdiv (Int.gcd u v))]) → (∀ r ∈ tl, ∀ b ∈ news, b.1 < r.1) → Q val { s with heap := h', toks := tk' }) →
    wpAny (model Challenge.rw_sj0097_01.row.prog w) (ktrTop dp un gd cn (fnScope c1 c2 c3 c4) L a ccd cl outer) (call (.ref 85) [.int u t5, .int v t6]) Q E s := by
  k_with_none
  k_with "subscriptTail" => (k_here; (with_reducible show wpAny _ _ (subscriptTail _ _ (Value.str _ _) (Value.int _ _)) _ _ _); (refine item_one (by omega) (by omega) (by omega) ?_))
  k_with "compareOp NotIn str str" => refine notIn_strS ?_
  k_with "compareOp In str str" => refine in_strS ?_
  k_with "exec Raise some none" => refine exRaise (C := 69) rfl ?_
  k_with "RaisedAt" => (k_here; k_dflt (refine' raisedAt ?k1z9 ?k2z9 ?k3z9 ?k4z9 ?k5z9 ?k6z9 ?_; (case k1z9 => k_asm); (case k2z9 => k_asm); (case k3z9 => k_asm); (case k4z9 => rfl); (case k5z9 => k_is); (case k6z9 => k_is)))
  k_with "leaving ref" => (k_here; k_dflt (refine' leaveD' ?k1z9 ?k2z9 ?k3z9 ?k4z9 ?k5z9 ?_; (case k1z9 => assumption); (case k2z9 => k_asm); (case k3z9 => k_asm); (case k4z9 => rfl); (case k5z9 => assumption)); intro h' R' U'; (try dsimp only))
  k_with "leaving ref" => (k_here; k_dflt (refine' leave_onD ?k1z9 ?k2z9 ?k3z9 ?k4z9 ?_; (case k3z9 => assumption); (case k1z9 => assumption); (case k4z9 => assumption); (case k2z9 => assumption)); intro h' R' U'; (try dsimp only))
  k_with "call ref" => (k_here; (with_reducible show wpAny _ _ (call (Value.ref 69) _) _ _ _); k_dflt (refine' mkSF ?k1z9 ?k2z9 ?k3z9 ?k4z9 ?k5z9 ?k6z9 ?kdz9 ?kuz9 ?_; (case k1z9 => k_asm); (case k2z9 => k_asm); (case k3z9 => k_asm); (case k4z9 => k_asm); (case k5z9 => k_asm); (case k6z9 => rfl); (case kdz9 => ktr_room); (case kuz9 => ktr_units)); intro e9 de9 te9 k9 l9 h9 tk9 F9 N9 n9; (try dsimp only))
  k_with "call ref" => (k_here; (with_reducible show wpAny _ _ (call (Value.ref 78) _) _ _ _); k_dflt (refine' gcd_c ?k1z9 ?k2z9 ?k3z9 ?k4z9 ?k5z9 ?kdz9 ?kuz9 ?_; (case k1z9 => k_asm); (case k2z9 => k_asm); (case k3z9 => k_asm); (case k4z9 => k_asm); (case k5z9 => k_asm); (case kdz9 => ktr_room); (case kuz9 => ktr_units)); intro t9 h9 tk9 F9 N9; (try dsimp only))
  k_with "binaryOp FloorDiv int int" => (k_here; refine floordiv_int (by assumption) ?_ (Or.inl (PyProof.noPylong_of_log2 (by assumption))))
  k_fill
  intro B F X N Tp hv hl hd hu ret
  obtain ⟨hg1, hg2⟩ := gcd_facts (u := u) hv hl
  refine wpAny_call ?_
  k_dflt k_enter
  k_steps
  all_goals first
    | exact absurd (show v = 0 by assumption) (by omega)
    | exact ret _ [(_, _)] _ _ (by k_asm) (by k_asm) (.tuple (.head _) (.cons (.int _ _) (.cons (.int _ _) .nil))) (lt_one' (by assumption))
theorem ten_bits (k : Nat) (hk : k ≤ 600) : (10 ^ k : Int).natAbs.log2 < 9000 ∧ Builtin.Int.intBits (10 ^ k : Int) ≤ 9001 := by
  have h : (10 ^ k : Int).natAbs = 10 ^ k := by rw [Int.natAbs_pow]; rfl
  have h1 : (10 : Nat) ^ k ≤ 10 ^ 600 := Nat.pow_le_pow_right (by decide) hk
  have h2 : (10 : Nat) ^ 600 < 2 ^ 9000 := by decide +kernel
  have h3 : ((10 : Nat) ^ k).log2 < 9000 := (Nat.log2_lt (by have : 0 < (10 : Nat) ^ k := Nat.pow_pos (by decide); omega)).mpr (Nat.lt_of_le_of_lt h1 h2)
  refine ⟨by rw [h]; exact h3, ?_⟩
  unfold Builtin.Int.intBits
  rw [h]; split <;> omega
theorem digits_lt {l : List Nat} (h : AllDigits l) : digitsVal l < 10 ^ l.length := by
  have key : ∀ (l : List Nat) (a : Nat), AllDigits l → l.foldl (fun acc c => acc * 10 + (c - 48)) a < (a + 1) * 10 ^ l.length := by
    intro l
    induction l with
    | nil => intro a _; simp
    | cons c l ih =>
      intro a h
      have h1 := h.head
      have := ih (a * 10 + (c - 48)) h.tail
      rw [List.foldl_cons, List.length_cons, Nat.pow_succ]
      refine Nat.lt_of_lt_of_le this ?_
      rw [Nat.mul_comm (10 ^ l.length) 10, ← Nat.mul_assoc]
      exact Nat.mul_le_mul_right _ (by omega)
  have := key l 0 h
  unfold digitsVal
  omega
theorem digits_bits {l : List Nat} (h : AllDigits l) (hl : l.length ≤ 600) : Builtin.Int.intBits ((digitsVal l : Nat) : Int) ≤ 9001 := by
  have h0 := digits_lt h
  have h1 : (10 : Nat) ^ l.length ≤ 10 ^ 600 := Nat.pow_le_pow_right (by decide) hl
  have h2 : (10 : Nat) ^ 600 < 2 ^ 9000 := by decide +kernel
  unfold Builtin.Int.intBits
  rw [Int.natAbs_natCast]
  split
  · omega
  · rename_i hz
    have hz' : digitsVal l ≠ 0 := fun e => hz (by rw [e]; rfl)
    have := (Nat.log2_lt hz').mpr (Nat.lt_trans (Nat.lt_of_lt_of_le h0 h1) h2)
    omega
def decTop (a b : Str) : Int := (digitsVal (cs a) : Int) * 10 ^ (b.length : Int).toNat + digitsVal (cs b)
theorem rod_c {u v : Str} {news : List (Addr × Obj)} :
    Below A₀ base outer h₀ → Fr h₀ L s.heap m → (heapK w.params).In h₀ → News h₀ L s.heap news → Top viewV LO mean mg mb h₀ → AllDigits (cs u) → AllDigits (cs v) → cs u ≠ [] → cs v ≠ [] → u.length ≤ 600 → v.length ≤ 600 → dp + 3 < recursionLimit → un + 24 < cLine →
    (∀ val tl h' tk', Fr h₀ L h' m → News h₀ L h' (tl ++ news) → DatIn tl val (.tuple [.int ((decTop u v).fdiv (Int.gcd (decTop u v) ((10 : Int) ^ (v.length : Int).toNat))), .int (((10 : Int) ^ (v.length : Int).toNat).fdiv (Int.gcd (decTop u v) ((10 : Int) ^ (v.length : Int).toNat)))]) → (∀ r ∈ tl, ∀ b ∈ news, b.1 < r.1) → Q val { s with heap := h', toks := tk' }) →
    wpAny (model Challenge.rw_sj0097_01.row.prog w) (ktrTop dp un gd cn (fnScope c1 c2 c3 c4) L a ccd cl outer) (call (.ref 92) [.str u t5, .str v t6]) Q E s := by
  k_with_none
  k_with "subscriptTail" => (k_here; (with_reducible show wpAny _ _ (subscriptTail _ _ (Value.str _ _) (Value.int _ _)) _ _ _); (refine item_one (by omega) (by omega) (by omega) ?_))
  k_with "compareOp NotIn str str" => refine notIn_strS ?_
  k_with "compareOp In str str" => refine in_strS ?_
  k_with "exec Raise some none" => refine exRaise (C := 69) rfl ?_
  k_with "RaisedAt" => (k_here; k_dflt (refine' raisedAt ?k1z9 ?k2z9 ?k3z9 ?k4z9 ?k5z9 ?k6z9 ?_; (case k1z9 => k_asm); (case k2z9 => k_asm); (case k3z9 => k_asm); (case k4z9 => rfl); (case k5z9 => k_is); (case k6z9 => k_is)))
  k_with "leaving ref" => (k_here; k_dflt (refine' leaveD' ?k1z9 ?k2z9 ?k3z9 ?k4z9 ?k5z9 ?_; (case k1z9 => assumption); (case k2z9 => k_asm); (case k3z9 => k_asm); (case k4z9 => rfl); (case k5z9 => assumption)); intro h' R' U'; (try dsimp only))
  k_with "leaving ref" => (k_here; k_dflt (refine' leave_onD ?k1z9 ?k2z9 ?k3z9 ?k4z9 ?_; (case k3z9 => assumption); (case k1z9 => assumption); (case k4z9 => assumption); (case k2z9 => assumption)); intro h' R' U'; (try dsimp only))
  k_with "call ref" => (k_here; (with_reducible show wpAny _ _ (call (Value.ref 69) _) _ _ _); k_dflt (refine' mkSF ?k1z9 ?k2z9 ?k3z9 ?k4z9 ?k5z9 ?k6z9 ?kdz9 ?kuz9 ?_; (case k1z9 => k_asm); (case k2z9 => k_asm); (case k3z9 => k_asm); (case k4z9 => k_asm); (case k5z9 => k_asm); (case k6z9 => rfl); (case kdz9 => ktr_room); (case kuz9 => ktr_units)); intro e9 de9 te9 k9 l9 h9 tk9 F9 N9 n9; (try dsimp only))
  k_with "call ref" => (k_here; (with_reducible show wpAny _ _ (call (Value.ref 78) _) _ _ _); k_dflt (refine' gcd_c ?k1z9 ?k2z9 ?k3z9 ?k4z9 ?k5z9 ?kdz9 ?kuz9 ?_; (case k1z9 => k_asm); (case k2z9 => k_asm); (case k3z9 => k_asm); (case k4z9 => k_asm); (case k5z9 => k_asm); (case kdz9 => ktr_room); (case kuz9 => ktr_units)); intro t9 h9 tk9 F9 N9; (try dsimp only))
  k_with "binaryOp FloorDiv int int" => (k_here; refine floordiv_int (by assumption) ?_ (Or.inl (PyProof.noPylong_of_log2 (by assumption))))
  k_with "call ref" => (k_here; (with_reducible show wpAny _ _ (call (Value.ref 85) _) _ _ _); k_dflt (refine' ratio_c ?k1z9 ?k2z9 ?k3z9 ?k4z9 ?k5z9 ?k6z9 ?k7z9 ?kdz9 ?kuz9 ?_; (case k1z9 => k_asm); (case k2z9 => k_asm); (case k3z9 => k_asm); (case k4z9 => k_asm); (case k5z9 => k_asm); (case k6z9 => assumption); (case k7z9 => assumption); (case kdz9 => ktr_room); (case kuz9 => ktr_units)); intro v9 tl9 h9 tk9 F9 N9 D9 lt9; (try dsimp only))
  k_with "binaryOp Pow int int" => (k_here; refine pow_int_small (by omega) (by omega) (by decide) ?_)
  k_with "call type:int" => (k_here; (with_reducible show wpAny _ _ (call (Value.type "int") [Value.str _ _]) _ _ _); refine KIN.call_text (by assumption) (by omega) ?_)
  k_with "binaryOp Mult int int" => (k_here; refine mul_int ?_ (by assumption))
  k_fill
  intro B F X N Tp du dv nu nv lu lv hd hu ret
  have e1 : PySem.intText? u = some ((digitsVal (cs u) : Nat) : Int) := intText_digits du nu (by omega)
  have e2 : PySem.intText? v = some ((digitsVal (cs v) : Nat) : Int) := intText_digits dv nv (by omega)
  have e3 : (0 : Int) < 10 ^ (v.length : Int).toNat := Int.pow_pos (by decide)
  have e4 := (ten_bits (v.length : Int).toNat (by omega)).1
  have e5 : IntMulOk ((digitsVal (cs u) : Nat) : Int) ((10 : Int) ^ (v.length : Int).toNat) := IntMulOk.of_le (digits_bits du (by rw [cs_length]; exact lu)) (ten_bits (v.length : Int).toNat (by omega)).2 (by decide)
  refine wpAny_call ?_
  k_dflt k_enter
  k_steps
  all_goals exact ret _ _ _ _ (by k_asm) (by k_asm) (by assumption) (by assumption)
end
end Mine
end
-- part W6
section
namespace Mine
theorem freshW6 : True := by
  w_top off
  trivial
end Mine
open PySem PySem.W PySem.Calls PyProof.Rows
set_option maxRecDepth 100000
set_option maxHeartbeats 8000000
namespace Mine
section
variable {w : World} {mean : ExcName → Option Value} {mg mb : Str → Option Value} {dp un : Nat} {gd : Option (List Code)} {cn : Str} {c1 : List (Str × NameKind)} {c2 c3 : Bool} {c4 : List (Str × Const)} {a : Addr} {ccd : Value} {cl : List (Str × Addr)} {outer : List Env} {A₀ : Around} {base h₀ : Heap} {L : Addr} {m : Str → Option Value} {s : Shared} {Q E : Value → Shared → Prop}
  {x dx : Addr} {T : Str} {p : Int} {t1 t2 t3 t4 t5 t6 t7 : Tok} {rest : List (Addr × Obj)} {signs what : Str} {begin_ : Int}

theorem ff {b : Bool} (h : b = false) : ¬ b = true := by rw [h]; exact Bool.false_ne_true
theorem lt1 {r : Addr} {o : Obj} {o1 o2 : Obj} (h : x < r ∧ dx < r ∧ AllLt r rest) : ∀ q ∈ [(r, o)], ∀ b ∈ (x, o1) :: (dx, o2) :: rest, b.1 < q.1 := by
  intro q hq b hb
  obtain rfl := List.mem_singleton.mp hq
  rcases List.mem_cons.mp hb with rfl | hb
  · exact h.1
  rcases List.mem_cons.mp hb with rfl | hb
  · exact h.2.1
  · have : ∀ l : List (Addr × Obj), AllLt r l → b ∈ l → b.1 < r := by
      intro l
      induction l with
      | nil => intro _ h; cases h
      | cons c l ih => intro h1 h2; rcases List.mem_cons.mp h2 with rfl | h2; exact h1.1; exact ih h1.2 h2
    exact this _ h.2.2 hb
def DIGITS : Str := Str.ofString "0123456789"
def keyF (T : Str) (p : Int) : Except Int (Dat × Int) :=
  let q := p + 1 + rl T SIMPLE (p + 1)
  let name := sl T (p + 1) q
  if name == Str.ofString "" then .error p else if inS (Txt.item name 0) DIGITS then .error p else .ok (.tuple [.str (Str.ofString "key"), .str name], q)
theorem key_c :
    Below A₀ base outer h₀ → Fr h₀ L s.heap m → (heapK w.params).In h₀ → News h₀ L s.heap ((x, instObj 194 dx) :: (dx, scanD w.params T p t1 t2 t3 t4) :: rest) → Top viewV LO mean mg mb h₀ →
    x ≠ dx → (∀ q ∈ rest, q.1 ≠ dx) → 0 ≤ p → p ≤ T.length → T.length ≤ 1000 → p < T.length → dp + 7 < recursionLimit → un + 60 < cLine →
    (∀ item q, keyF T p = .ok (item, q) → Reads w h₀ L m x dx T t1 t2 t3 rest s item q Q) → (∀ f, keyF T p = .error f → RaisesTo w.params base h₀ L m (envX cn (fnScope c1 c2 c3 c4) L a ccd cl :: outer) f rest s E) →
    wpAny (model Challenge.rw_sj0097_01.row.prog w) (ktrTop dp un gd cn (fnScope c1 c2 c3 c4) L a ccd cl outer) (call (.ref 170) [.ref x]) Q E s := by
  k_with_none
  k_with "subscriptTail" => (k_here; (with_reducible show wpAny _ _ (subscriptTail _ _ (Value.str _ _) (Value.int _ _)) _ _ _); (refine item_one (by omega) (by omega) (by omega) ?_))
  k_with "compareOp NotIn str str" => refine notIn_strS ?_
  k_with "compareOp In str str" => refine in_strS ?_
  k_with "exec Raise some none" => refine exRaise (C := 69) rfl ?_
  k_with "RaisedAt" => (k_here; k_dflt (refine' raisedAt ?k1z9 ?k2z9 ?k3z9 ?k4z9 ?k5z9 ?k6z9 ?_; (case k1z9 => k_asm); (case k2z9 => k_asm); (case k3z9 => k_asm); (case k4z9 => rfl); (case k5z9 => k_is); (case k6z9 => k_is)))
  k_with "leaving ref" => (k_here; k_dflt (refine' leaveD' ?k1z9 ?k2z9 ?k3z9 ?k4z9 ?k5z9 ?_; (case k1z9 => assumption); (case k2z9 => k_asm); (case k3z9 => k_asm); (case k4z9 => rfl); (case k5z9 => assumption)); intro h' R' U'; (try dsimp only))
  k_with "leaving ref" => (k_here; k_dflt (refine' leave_onD ?k1z9 ?k2z9 ?k3z9 ?k4z9 ?_; (case k3z9 => assumption); (case k1z9 => assumption); (case k4z9 => assumption); (case k2z9 => assumption)); intro h' R' U'; (try dsimp only))
  k_with "call ref" => (k_here; (with_reducible show wpAny _ _ (call (Value.ref 69) _) _ _ _); k_dflt (refine' mkSF ?k1z9 ?k2z9 ?k3z9 ?k4z9 ?k5z9 ?k6z9 ?kdz9 ?kuz9 ?_; (case k1z9 => k_asm); (case k2z9 => k_asm); (case k3z9 => k_asm); (case k4z9 => k_asm); (case k5z9 => k_asm); (case k6z9 => rfl); (case kdz9 => ktr_room); (case kuz9 => ktr_units)); intro e9 de9 te9 k9 l9 h9 tk9 F9 N9 n9; (try dsimp only))
  k_with "call ref" => (k_here; (with_reducible show wpAny _ _ (call (Value.ref 128) _) _ _ _); k_dflt (refine' sign_c ?k1z9 ?k2z9 ?k3z9 ?k4z9 ?k5z9 ?k6z9 ?k7z9 ?k8z9 ?k9z9 ?kdz9 ?kuz9 ?_; (case k1z9 => k_asm); (case k2z9 => k_asm); (case k3z9 => k_asm); (case k4z9 => k_asm); (case k5z9 => k_asm); (case k6z9 => k_asm); (case k7z9 => k_asm); (case k8z9 => omega); (case k9z9 => omega); (case kdz9 => ktr_room); (case kuz9 => ktr_units)); intro t9 h9 tk9 F9 N9; (try dsimp only))
  k_with "call ref" => (k_here; (with_reducible show wpAny _ _ (call (Value.ref 142) _) _ _ _); k_dflt (refine' run_of_f ?k1z9 ?k2z9 ?k3z9 ?k4z9 ?k5z9 ?k6z9 ?k7z9 ?k8z9 ?k9z9 ?k10z9 ?kdz9 ?kuz9 ?_; (case k1z9 => k_asm); (case k2z9 => k_asm); (case k3z9 => k_asm); (case k4z9 => k_asm); (case k5z9 => k_asm); (case k6z9 => k_asm); (case k7z9 => k_asm); (case k8z9 => omega); (case k9z9 => omega); (case k10z9 => omega); (case kdz9 => ktr_room); (case kuz9 => ktr_units)); intro t9 t9' h9 tk9 F9 N9; (try dsimp only))
  k_fill
  intro B F X N Tp h1 h2 hp hpT hT hpl hd hu ret rai
  refine wpAny_call ?_
  k_dflt k_enter
  k_steps
  all_goals first
    | exact rai _ (by unfold keyF; dsimp only; rw [if_pos (by assumption)]) _ _ _ _ _ _ _ _ _ _ (by assumption) (by assumption) (RaisedD.sub (by assumption) (by kqd_sub))
    | exact rai _ (by unfold keyF; dsimp only; rw [if_neg (ff (by assumption))]; rw [if_pos (by assumption)]) _ _ _ _ _ _ _ _ _ _ (by assumption) (by assumption) (RaisedD.sub (by assumption) (by kqd_sub))
    | exact ret _ _ (by unfold keyF; dsimp only; rw [if_neg (ff (by assumption))]; rw [if_neg (ff (by assumption))]) _ [(_, _)] _ _ _ (by k_asm) (by k_asm) (.tuple (.head _) (.cons (.str _ _) (.cons (.str _ _) .nil))) (lt1 (by assumption))
end
end Mine
end
-- part W7
section
namespace Mine
theorem freshW7 : True := by
  w_top off
  trivial
end Mine
open PySem PySem.W PySem.Calls PyProof.Rows
set_option maxRecDepth 100000
set_option maxHeartbeats 8000000
namespace Mine
section
variable {w : World} {mean : ExcName → Option Value} {mg mb : Str → Option Value} {dp un : Nat} {gd : Option (List Code)} {cn : Str} {c1 : List (Str × NameKind)} {c2 c3 : Bool} {c4 : List (Str × Const)} {a : Addr} {ccd : Value} {cl : List (Str × Addr)} {outer : List Env} {A₀ : Around} {base h₀ : Heap} {L : Addr} {m : Str → Option Value} {s : Shared} {Q E : Value → Shared → Prop}
  {x dx : Addr} {T : Str} {p : Int} {t1 t2 t3 t4 t5 t6 t7 : Tok} {rest : List (Addr × Obj)} {signs what : Str} {begin_ : Int}

theorem in_fragTup {prog : Program} {A : Around} {K : Frag} {t : Addr} {d : Option Addr} {items : Array Value} {n : Nat} {sl : Array (Option Value)} {ys : List Str} {y : Str} {u : Tok} {Q : Value → Shared → Prop} (F : Fr h₀ L s.heap m) (X : K.In h₀) (hk : K.lookup t = some { cls := .type "tuple", dict := d, data := .seq items n, slots := sl }) (hi : StrsAre items.toList ys)
    (h : Q (.bool (ys.any (· == y))) s) : wpAny (model prog w) A (compareOp .In (.str y u) (.ref t)) Q E s :=
  in_tuple_strs ⟨_, (X.keeps F.keep) _ _ hk, rfl, _, rfl⟩ hi h
def RES : List Str := [Str.ofString "!", Str.ofString "_", Str.ofString "as", Str.ofString "BINARY", Str.ofString "DECIMAL", Str.ofString "exists", Str.ofString "forall", Str.ofString "HEXADECIMAL", Str.ofString "let", Str.ofString "match", Str.ofString "NUMERAL", Str.ofString "par", Str.ofString "STRING"]
def quotedF (T : Str) (p : Int) : Except Int (Dat × Int) :=
  let bar := Txt.find3 T (Str.ofString "|") (p + 1)
  if bar < 0 then .error p else
  let name := Txt.slice T (some (p + 1)) (some bar)
  let slash := Txt.find name (Str.ofString "\\")
  if 0 ≤ slash then .error (p + 1 + slash) else
  if RES.any (fun x => x == name) then .ok (.tuple [.str (Str.ofString "sym"), .str (Str.ofString "|" ++ name ++ Str.ofString "|")], bar + 1)
  else .ok (.tuple [.str (Str.ofString "sym"), .str name], bar + 1)
theorem quoted_c :
    Below A₀ base outer h₀ → Fr h₀ L s.heap m → (heapK w.params).In h₀ → News h₀ L s.heap ((x, instObj 194 dx) :: (dx, scanD w.params T p t1 t2 t3 t4) :: rest) → Top viewV LO mean mg mb h₀ →
    x ≠ dx → (∀ q ∈ rest, q.1 ≠ dx) → 0 ≤ p → p ≤ T.length → T.length ≤ 1000 → p < T.length → dp + 7 < recursionLimit → un + 60 < cLine →
    (∀ item q, quotedF T p = .ok (item, q) → Reads w h₀ L m x dx T t1 t2 t3 rest s item q Q) → (∀ f, quotedF T p = .error f → RaisesTo w.params base h₀ L m (envX cn (fnScope c1 c2 c3 c4) L a ccd cl :: outer) f rest s E) →
    wpAny (model Challenge.rw_sj0097_01.row.prog w) (ktrTop dp un gd cn (fnScope c1 c2 c3 c4) L a ccd cl outer) (call (.ref 163) [.ref x]) Q E s := by
  k_with_none
  k_with "subscriptTail" => (k_here; (with_reducible show wpAny _ _ (subscriptTail _ _ (Value.str _ _) (Value.int _ _)) _ _ _); (refine item_one (by omega) (by omega) (by omega) ?_))
  k_with "compareOp NotIn str str" => refine notIn_strS ?_
  k_with "compareOp In str str" => refine in_strS ?_
  k_with "exec Raise some none" => refine exRaise (C := 69) rfl ?_
  k_with "RaisedAt" => (k_here; k_dflt (refine' raisedAt ?k1z9 ?k2z9 ?k3z9 ?k4z9 ?k5z9 ?k6z9 ?_; (case k1z9 => k_asm); (case k2z9 => k_asm); (case k3z9 => k_asm); (case k4z9 => rfl); (case k5z9 => k_is); (case k6z9 => k_is)))
  k_with "leaving ref" => (k_here; k_dflt (refine' leaveD' ?k1z9 ?k2z9 ?k3z9 ?k4z9 ?k5z9 ?_; (case k1z9 => assumption); (case k2z9 => k_asm); (case k3z9 => k_asm); (case k4z9 => rfl); (case k5z9 => assumption)); intro h' R' U'; (try dsimp only))
  k_with "leaving ref" => (k_here; k_dflt (refine' leave_onD ?k1z9 ?k2z9 ?k3z9 ?k4z9 ?_; (case k3z9 => assumption); (case k1z9 => assumption); (case k4z9 => assumption); (case k2z9 => assumption)); intro h' R' U'; (try dsimp only))
  k_with "call ref" => (k_here; (with_reducible show wpAny _ _ (call (Value.ref 69) _) _ _ _); k_dflt (refine' mkSF ?k1z9 ?k2z9 ?k3z9 ?k4z9 ?k5z9 ?k6z9 ?kdz9 ?kuz9 ?_; (case k1z9 => k_asm); (case k2z9 => k_asm); (case k3z9 => k_asm); (case k4z9 => k_asm); (case k5z9 => k_asm); (case k6z9 => rfl); (case kdz9 => ktr_room); (case kuz9 => ktr_units)); intro e9 de9 te9 k9 l9 h9 tk9 F9 N9 n9; (try dsimp only))
  k_with "call ref" => (k_here; (with_reducible show wpAny _ _ (call (Value.ref 128) _) _ _ _); k_dflt (refine' sign_c ?k1z9 ?k2z9 ?k3z9 ?k4z9 ?k5z9 ?k6z9 ?k7z9 ?k8z9 ?k9z9 ?kdz9 ?kuz9 ?_; (case k1z9 => k_asm); (case k2z9 => k_asm); (case k3z9 => k_asm); (case k4z9 => k_asm); (case k5z9 => k_asm); (case k6z9 => k_asm); (case k7z9 => k_asm); (case k8z9 => omega); (case k9z9 => omega); (case kdz9 => ktr_room); (case kuz9 => ktr_units)); intro t9 h9 tk9 F9 N9; (try dsimp only))
  k_with "call ref" => (k_here; (with_reducible show wpAny _ _ (call (Value.ref 142) _) _ _ _); k_dflt (refine' run_of_f ?k1z9 ?k2z9 ?k3z9 ?k4z9 ?k5z9 ?k6z9 ?k7z9 ?k8z9 ?k9z9 ?k10z9 ?kdz9 ?kuz9 ?_; (case k1z9 => k_asm); (case k2z9 => k_asm); (case k3z9 => k_asm); (case k4z9 => k_asm); (case k5z9 => k_asm); (case k6z9 => k_asm); (case k7z9 => k_asm); (case k8z9 => omega); (case k9z9 => omega); (case k10z9 => omega); (case kdz9 => ktr_room); (case kuz9 => ktr_units)); intro t9 t9' h9 tk9 F9 N9; (try dsimp only))
  k_with "compareOp In str ref" => (k_here; (with_reducible show wpAny _ _ (compareOp CmpOp.In (Value.str _ _) (Value.ref 93)) _ _ _); (refine' in_fragTup ?k1z9 ?k2z9 ?k3z9 ?k4z9 ?_; (case k1z9 => k_asm); (case k2z9 => k_asm); (case k3z9 => with_unfolding_all rfl); (case k4z9 => kde_strs)))
  k_fill
  intro B F X N Tp h1 h2 hp hpT hT hpl hd hu ret rai
  refine wpAny_call ?_
  k_dflt k_enter
  k_steps
  all_goals first
    | exact rai _ (by unfold quotedF; dsimp only; rw [if_pos (by assumption)]) _ _ _ _ _ _ _ _ _ _ (by assumption) (by assumption) (RaisedD.sub (by assumption) (by kqd_sub))
    | exact rai _ (by unfold quotedF; dsimp only; rw [if_neg (by assumption)]; rw [if_pos (by assumption)]) _ _ _ _ _ _ _ _ _ _ (by assumption) (by assumption) (RaisedD.sub (by assumption) (by kqd_sub))
    | exact ret _ _ (by unfold quotedF; dsimp only; rw [if_neg (by assumption)]; rw [if_neg (by assumption)]; rw [if_pos (by assumption)]) _ [(_, _)] _ _ _ (by k_asm) (by k_asm) (.tuple (.head _) (.cons (.str _ _) (.cons (.str _ _) .nil))) (lt1 (by assumption))
    | exact ret _ _ (by unfold quotedF; dsimp only; rw [if_neg (by assumption)]; rw [if_neg (by assumption)]; rw [if_neg (ff (by assumption))]) _ [(_, _)] _ _ _ (by k_asm) (by k_asm) (.tuple (.head _) (.cons (.str _ _) (.cons (.str _ _) .nil))) (lt1 (by assumption))
    | fail
end
end Mine
end
-- part TX2
section
namespace Mine
theorem freshTX2 : True := by
  w_top off
  trivial
end Mine
open PySem PySem.W PySem.Calls PyProof.Rows PySem.NumText
set_option maxRecDepth 100000
namespace Mine
theorem slice_cs (T : Str) {a b : Int} (ha : 0 ≤ a) (hab : a ≤ b) (hb : b ≤ T.length) : cs (Txt.slice T (some a) (some b)) = ((cs T).drop a.toNat).take (b - a).toNat := by
  have h : Txt.slice T (some a) (some b) = ⟨((T.cps.toList.drop a.toNat).take (b - a).toNat).toArray⟩ := StrLaws.sliceText_plain (x := T) ⟨ha, hab, by rw [show T.cps.toList.length = T.length from cs_length T]; exact hb⟩
  rw [h]; rfl
theorem slice_clip (T : Str) {a b : Int} (ha : 0 ≤ a) (hb : 0 ≤ b) : Txt.slice T (some a) (some b) = Txt.slice T (some (min a T.length)) (some (min b T.length)) := by
  have e : Builtin.Str.strSliceIndices (some a) (some b) 1 T.length = Builtin.Str.strSliceIndices (some (min a T.length)) (some (min b T.length)) 1 T.length := by
    unfold Builtin.Str.strSliceIndices
    simp only [show ((1 : Int) > 0) = True from by simp, if_true]
    rw [if_neg (show ¬ a < 0 by (first | lia | omega)), if_neg (show ¬ b < 0 by (first | lia | omega)), if_neg (show ¬ min a T.length < 0 by (first | lia | omega)), if_neg (show ¬ min b T.length < 0 by (first | lia | omega))]
    congr 1 <;> (first | lia | omega)
  unfold Txt.slice
  rw [e]
theorem kind_len {T : Str} {p : Int} (hp : 0 ≤ p) (hpl : p < T.length) (h : ([Str.ofString "b", Str.ofString "x"].any fun y => y == Txt.slice T (some (p + 1)) (some (p + 2))) = true) : p + 2 ≤ T.length := by
  rcases Int.lt_or_le T.length (p + 2) with z | z
  · rw [slice_clip T (by (first | lia | omega)) (by (first | lia | omega))] at h
    have e1 : min (p + 1) (T.length : Int) = T.length := by (first | lia | omega)
    have e2 : min (p + 2) (T.length : Int) = T.length := by (first | lia | omega)
    rw [e1, e2] at h
    have e := slice_cs T (a := T.length) (b := T.length) (by (first | lia | omega)) (Int.le_refl _) (Int.le_refl _)
    rw [List.drop_eq_nil_of_le (by rw [cs_length]; (first | lia | omega)), List.take_nil] at e
    have e' : Txt.slice T (some (T.length : Int)) (some (T.length : Int)) = ⟨#[]⟩ := Str.ext' (by apply Array.toList_inj.mp; exact e)
    rw [e'] at h
    exact absurd h (by decide)
  · exact z
theorem takeWhile_take {α : Type} (f : α → Bool) (l : List α) : l.take (l.takeWhile f).length = l.takeWhile f := (List.prefix_iff_eq_take.mp (List.takeWhile_prefix f)).symm
theorem cs_sl (T S : Str) {p : Int} (h0 : 0 ≤ p) (h1 : p ≤ T.length) : cs (sl T p (p + rl T S p)) = ((cs T).drop p.toNat).takeWhile fun c => decide (c ∈ cs S) := by
  unfold sl
  rw [slice_cs T h0 (by (first | lia | omega)) (rl_le T S h0 h1)]
  rw [show (p + (rl T S p : Int) - p).toNat = rl T S p by (first | lia | omega)]
  exact takeWhile_take _ _
theorem digits_cs : cs DIGITS = [48, 49, 50, 51, 52, 53, 54, 55, 56, 57] := by decide +kernel
theorem takeWhile_mem {α : Type} {f : α → Bool} {l : List α} {c : α} (h : c ∈ l.takeWhile f) : f c = true := by
  induction l with
  | nil => cases h
  | cons a l ih =>
    rw [List.takeWhile_cons] at h
    split at h
    · rcases List.mem_cons.mp h with rfl | h
      · assumption
      · exact ih h
    · cases h
theorem all_digits (T : Str) {p : Int} (h0 : 0 ≤ p) (h1 : p ≤ T.length) : AllDigits (cs (sl T p (p + rl T DIGITS p))) := by
  intro c hc
  rw [cs_sl T DIGITS h0 h1] at hc
  have h : c ∈ cs DIGITS := of_decide_eq_true (takeWhile_mem (f := fun c => decide (c ∈ cs DIGITS)) hc)
  rw [digits_cs] at h
  simp at h
  (first | lia | omega)
theorem ne_digits {T : Str} {p : Int} (h0 : 0 ≤ p) (h1 : p < T.length) (h : inS (one (ch T p)) DIGITS = true) : cs (sl T p (p + rl T DIGITS p)) ≠ [] := by
  rw [cs_sl T DIGITS h0 (by (first | lia | omega))]
  have e : (cs T).drop p.toNat = ch T p :: dr T (p + 1) := dr_cons h0 h1
  rw [e, List.takeWhile_cons, if_pos (by rw [inS_one] at h; exact h)]
  simp
theorem ne_cs {x : Str} (h : (x == Str.ofString "") = false) : cs x ≠ [] := by
  intro e
  have : x = Str.ofString "" := Str.ext' (by apply Array.toList_inj.mp; rw [show x.cps.toList = [] from e]; decide)
  rw [this] at h; simp at h
theorem sl_le (T : Str) (p q : Int) : (sl T p q).length ≤ T.length := Txt.slice_le T _ _
theorem dot_lt {T : Str} {q : Int} (h : (signS T q != Str.ofString ".") = false) : q + 1 ≤ T.length := by
  unfold signS at h
  split at h
  · (first | lia | omega)
  · exact absurd h (by decide)
theorem newsTail {h₀ h : Heap} {L : Addr} {q : Addr × Obj} {l : List (Addr × Obj)} (N : News h₀ L h (q :: l)) : News h₀ L h l := fun r hr => N r (.tail _ hr)
end Mine
end
-- part W13
section
namespace Mine
theorem freshW13 : True := by
  w_top off
  trivial
end Mine
open PySem PySem.W PySem.Calls PyProof.Rows
set_option maxRecDepth 100000
set_option maxHeartbeats 8000000
namespace Mine
section
variable {w : World} {mean : ExcName → Option Value} {mg mb : Str → Option Value} {dp un : Nat} {gd : Option (List Code)} {cn : Str} {c1 : List (Str × NameKind)} {c2 c3 : Bool} {c4 : List (Str × Const)} {a : Addr} {ccd : Value} {cl : List (Str × Addr)} {outer : List Env} {A₀ : Around} {base h₀ : Heap} {L : Addr} {m : Str → Option Value} {s : Shared} {Q E : Value → Shared → Prop}
  {x dx : Addr} {T : Str} {p : Int} {t1 t2 t3 t4 t5 t6 t7 : Tok} {rest : List (Addr × Obj)} {signs what : Str} {begin_ : Int}

theorem sl_rl (T signs : Str) {p : Int} (h0 : 0 ≤ p) (h1 : p ≤ T.length) : (sl T p (p + rl T signs p)).length = rl T signs p := by
  rw [← cs_length, cs_sl T signs h0 h1]; rfl
theorem run_of_g :
    Below A₀ base outer h₀ → Fr h₀ L s.heap m → (heapK w.params).In h₀ → News h₀ L s.heap ((x, instObj 194 dx) :: (dx, scanD w.params T p t1 t2 t3 t4) :: rest) → Top viewV LO mean mg mb h₀ →
    x ≠ dx → (∀ q ∈ rest, q.1 ≠ dx) → 0 ≤ p → p ≤ T.length → T.length ≤ 1000 → dp + 1 < recursionLimit → un + 8 < cLine →
    (∀ t t' h' tk', p + rl T signs p ≤ T.length → (sl T p (p + rl T signs p)).length = rl T signs p → Fr h₀ L h' m → News h₀ L h' ((x, instObj 194 dx) :: (dx, scanD w.params T (p + rl T signs p) t1 t2 t3 t') :: rest) → Q (.str (sl T p (p + rl T signs p)) t) { s with heap := h', toks := tk' }) →
    wpAny (model Challenge.rw_sj0097_01.row.prog w) (ktrTop dp un gd cn (fnScope c1 c2 c3 c4) L a ccd cl outer) (call (.ref 142) [.ref x, .str signs t5]) Q E s := by
  intro B F X N Tp h1 h2 hp hpT hT hd hu ret
  exact run_of_f B F X N Tp h1 h2 hp hpT hT hd hu fun t t' h' tk' F' N' => ret t t' h' tk' (rl_le T signs hp hpT) (sl_rl T signs hp hpT) F' N'
end
end Mine
end
-- part W11
section
namespace Mine
theorem freshW11 : True := by
  w_top off
  trivial
end Mine
open PySem PySem.W PySem.Calls PyProof.Rows
set_option maxRecDepth 100000
set_option maxHeartbeats 8000000
namespace Mine
open PySem.NumText
section
variable {w : World} {mean : ExcName → Option Value} {mg mb : Str → Option Value} {dp un : Nat} {gd : Option (List Code)} {cn : Str} {c1 : List (Str × NameKind)} {c2 c3 : Bool} {c4 : List (Str × Const)} {a : Addr} {ccd : Value} {cl : List (Str × Addr)} {outer : List Env} {A₀ : Around} {base h₀ : Heap} {L : Addr} {m : Str → Option Value} {s : Shared} {Q E : Value → Shared → Prop}
  {x dx : Addr} {T : Str} {p : Int} {t1 t2 t3 t4 t5 t6 t7 : Tok} {rest : List (Addr × Obj)} {signs what : Str} {begin_ : Int}

def bitsF (T : Str) (p : Int) : Except Int (Dat × Int) :=
  let kind := Txt.slice T (some (p + 1)) (some (p + 2))
  if ([Str.ofString "b", Str.ofString "x"].any fun y => y == kind) then
    if kind == Str.ofString "b" then
      let q := p + 2 + rl T (Str.ofString "01") (p + 2)
      let digits := sl T (p + 2) q
      if digits == Str.ofString "" then .error p else
      if runsIn T q then .error p else .ok (.tuple [.str (Str.ofString "bits"), .int (valL 2 (cs (Txt.lower digits))), .int digits.length], q)
    else
      let q := p + 2 + rl T HEX (p + 2)
      let digits := sl T (p + 2) q
      if digits == Str.ofString "" then .error p else
      if runsIn T q then .error p else .ok (.tuple [.str (Str.ofString "bits"), .int (valL 16 (cs (Txt.lower digits))), .int (4 * digits.length)], q)
  else .error p
theorem bits_c :
    Below A₀ base outer h₀ → Fr h₀ L s.heap m → (heapK w.params).In h₀ → News h₀ L s.heap ((x, instObj 194 dx) :: (dx, scanD w.params T p t1 t2 t3 t4) :: rest) → Top viewV LO mean mg mb h₀ →
    x ≠ dx → (∀ q ∈ rest, q.1 ≠ dx) → 0 ≤ p → p ≤ T.length → T.length ≤ 600 → p < T.length → dp + 8 < recursionLimit → un + 70 < cLine →
    (∀ item q, bitsF T p = .ok (item, q) → Reads w h₀ L m x dx T t1 t2 t3 rest s item q Q) → (∀ f, bitsF T p = .error f → RaisesTo w.params base h₀ L m (envX cn (fnScope c1 c2 c3 c4) L a ccd cl :: outer) f rest s E) →
    wpAny (model Challenge.rw_sj0097_01.row.prog w) (ktrTop dp un gd cn (fnScope c1 c2 c3 c4) L a ccd cl outer) (call (.ref 177) [.ref x]) Q E s := by
  k_with_none
  k_with "subscriptTail" => (k_here; (with_reducible show wpAny _ _ (subscriptTail _ _ (Value.str _ _) (Value.int _ _)) _ _ _); (refine item_one (by omega) (by omega) (by omega) ?_))
  k_with "compareOp NotIn str str" => refine notIn_strS ?_
  k_with "compareOp In str str" => refine in_strS ?_
  k_with "exec Raise some none" => refine exRaise (C := 69) rfl ?_
  k_with "RaisedAt" => (k_here; k_dflt (refine' raisedAt ?k1z9 ?k2z9 ?k3z9 ?k4z9 ?k5z9 ?k6z9 ?_; (case k1z9 => k_asm); (case k2z9 => k_asm); (case k3z9 => k_asm); (case k4z9 => rfl); (case k5z9 => k_is); (case k6z9 => k_is)))
  k_with "leaving ref" => (k_here; k_dflt (refine' leaveD' ?k1z9 ?k2z9 ?k3z9 ?k4z9 ?k5z9 ?_; (case k1z9 => assumption); (case k2z9 => k_asm); (case k3z9 => k_asm); (case k4z9 => rfl); (case k5z9 => assumption)); intro h' R' U'; (try dsimp only))
  k_with "leaving ref" => (k_here; k_dflt (refine' leave_onD ?k1z9 ?k2z9 ?k3z9 ?k4z9 ?_; (case k3z9 => assumption); (case k1z9 => assumption); (case k4z9 => assumption); (case k2z9 => assumption)); intro h' R' U'; (try dsimp only))
  k_with "call ref" => (k_here; (with_reducible show wpAny _ _ (call (Value.ref 69) _) _ _ _); k_dflt (refine' mkSF ?k1z9 ?k2z9 ?k3z9 ?k4z9 ?k5z9 ?k6z9 ?kdz9 ?kuz9 ?_; (case k1z9 => k_asm); (case k2z9 => k_asm); (case k3z9 => k_asm); (case k4z9 => k_asm); (case k5z9 => k_asm); (case k6z9 => rfl); (case kdz9 => ktr_room); (case kuz9 => ktr_units)); intro e9 de9 te9 k9 l9 h9 tk9 F9 N9 n9; (try dsimp only))
  k_with "call ref" => (k_here; (with_reducible show wpAny _ _ (call (Value.ref 128) _) _ _ _); k_dflt (refine' sign_c ?k1z9 ?k2z9 ?k3z9 ?k4z9 ?k5z9 ?k6z9 ?k7z9 ?k8z9 ?k9z9 ?kdz9 ?kuz9 ?_; (case k1z9 => k_asm); (case k2z9 => k_asm); (case k3z9 => k_asm); (case k4z9 => k_asm); (case k5z9 => k_asm); (case k6z9 => k_asm); (case k7z9 => k_asm); (case k8z9 => omega); (case k9z9 => omega); (case kdz9 => ktr_room); (case kuz9 => ktr_units)); intro t9 h9 tk9 F9 N9; (try dsimp only))
  k_with "call ref" => (k_here; (with_reducible show wpAny _ _ (call (Value.ref 142) _) _ _ _); k_dflt (refine' run_of_g ?k1z9 ?k2z9 ?k3z9 ?k4z9 ?k5z9 ?k6z9 ?k7z9 ?k8z9 ?k9z9 ?k10z9 ?kdz9 ?kuz9 ?_; (case k1z9 => k_asm); (case k2z9 => k_asm); (case k3z9 => k_asm); (case k4z9 => k_asm); (case k5z9 => k_asm); (case k6z9 => k_asm); (case k7z9 => k_asm); (case k8z9 => omega); (case k9z9 => first | omega | exact kind_len (by assumption) (by assumption) (by assumption)); (case k10z9 => omega); (case kdz9 => ktr_room); (case kuz9 => ktr_units)); intro t9 t9' h9 tk9 z9 zz9 F9 N9; (try dsimp only))
  k_with "call ref" => (k_here; (with_reducible show wpAny _ _ (call (Value.ref 149) _) _ _ _); k_dflt (refine' ends_c ?k1z9 ?k2z9 ?k3z9 ?k4z9 ?k5z9 ?k6z9 ?k7z9 ?k8z9 ?k9z9 ?k10z9 ?m0z9 ?kdz9 ?kuz9 ?_ ?_; (case k1z9 => k_asm); (case k2z9 => k_asm); (case k3z9 => k_asm); (case k4z9 => k_asm); (case k5z9 => k_asm); (case k6z9 => k_asm); (case k7z9 => k_asm); (case k8z9 => omega); (case k9z9 => omega); (case k10z9 => omega); (case m0z9 => decide); (case kdz9 => ktr_room); (case kuz9 => ktr_units)); (intro r9 h9 tk9 F9 N9; (try dsimp only)); rotate_left; (intro r9; unfold RaisesTo; intro e9 de9 w9 t9 u9 k9 l9 h9 tk9 G9 F9 U9 R9; (try dsimp only)); rotate_left)
  k_with "call ref" => (k_here; (with_reducible show wpAny _ _ (call (Value.ref 107) _) _ _ _); k_dflt (refine' value_c ?k1z9 ?k2z9 ?k3z9 ?k4z9 ?k5z9 ?k6z9 ?k7z9 ?kdz9 ?kuz9 ?_; (case k1z9 => k_asm); (case k2z9 => k_asm); (case k3z9 => k_asm); (case k4z9 => k_asm); (case k5z9 => k_asm); (case k6z9 => exact Nat.le_trans (sl_le _ _ _) (by omega)); (case k7z9 => decide); (case kdz9 => ktr_room); (case kuz9 => ktr_units)); intro t9 h9 tk9 F9 N9; (try dsimp only))
  k_with "compareOp NotIn str ref" => (k_here; (with_reducible show wpAny _ _ (compareOp CmpOp.NotIn (Value.str _ _) (Value.ref _)) _ _ _); (with_unfolding_all refine' notin_tuple_strs ?k1z9 ?k2z9 ?_; (case k1z9 => exact News.isTup (by k_asm) (by news_mem)); (case k2z9 => kde_strs)); (rename News _ _ _ _ => nn9); (replace nn9 := newsTail nn9))
  k_fill
  intro B F X N Tp h1 h2 hp hpT hT hpl hd hu ret rai
  refine wpAny_call ?_
  k_dflt k_enter
  k_steps
  all_goals first
    | exact rai _ (by unfold bitsF; dsimp only; rw [if_neg (ff (by assumption))]) _ _ _ _ _ _ _ _ _ _ (by assumption) (by assumption) (RaisedD.sub (by assumption) (by kqd_sub))
    | exact rai _ (by unfold bitsF; dsimp only; rw [if_pos (by assumption)]; rw [if_pos (by assumption)]; rw [if_pos (by assumption)]) _ _ _ _ _ _ _ _ _ _ (by assumption) (by assumption) (RaisedD.sub (by assumption) (by kqd_sub))
    | exact rai _ (by unfold bitsF; dsimp only; rw [if_pos (by assumption)]; rw [if_neg (ff (by assumption))]; rw [if_pos (by assumption)]) _ _ _ _ _ _ _ _ _ _ (by assumption) (by assumption) (RaisedD.sub (by assumption) (by kqd_sub))
    | exact rai _ (by unfold bitsF; dsimp only; rw [if_pos (by assumption)]; rw [if_pos (by assumption)]; rw [if_neg (ff (by assumption))]; rw [if_pos (by assumption)]) _ _ _ _ _ _ _ _ _ _ (by assumption) (by assumption) (RaisedD.sub (by assumption) (by kqd_sub))
    | exact rai _ (by unfold bitsF; dsimp only; rw [if_pos (by assumption)]; rw [if_neg (ff (by assumption))]; rw [if_neg (ff (by assumption))]; rw [if_pos (by assumption)]) _ _ _ _ _ _ _ _ _ _ (by assumption) (by assumption) (RaisedD.sub (by assumption) (by kqd_sub))
    | exact ret _ _ (by unfold bitsF; dsimp only; rw [if_pos (by assumption)]; rw [if_pos (by assumption)]; rw [if_neg (ff (by assumption))]; rw [if_neg (ff (by assumption))]) _ [(_, _)] _ _ _ (by k_asm) (by k_asm) (.tuple (.head _) (.cons (.str _ _) (.cons (.int _ _) (.cons (.int _ _) .nil)))) (lt1 (by assumption))
    | exact ret _ _ (by unfold bitsF; dsimp only; rw [if_pos (by assumption)]; rw [if_neg (ff (by assumption))]; rw [if_neg (ff (by assumption))]; rw [if_neg (ff (by assumption))]) _ [(_, _)] _ _ _ (by k_asm) (by k_asm) (.tuple (.head _) (.cons (.str _ _) (.cons (.int _ _) (.cons (.int _ _) .nil)))) (lt1 (by assumption))
    | fail
end
end Mine
end
-- part W12
section
namespace Mine
theorem freshW12 : True := by
  w_top off
  trivial
end Mine
open PySem PySem.W PySem.Calls PyProof.Rows
set_option maxRecDepth 100000
set_option maxHeartbeats 8000000
namespace Mine
open PySem.NumText
section
variable {w : World} {mean : ExcName → Option Value} {mg mb : Str → Option Value} {dp un : Nat} {gd : Option (List Code)} {cn : Str} {c1 : List (Str × NameKind)} {c2 c3 : Bool} {c4 : List (Str × Const)} {a : Addr} {ccd : Value} {cl : List (Str × Addr)} {outer : List Env} {A₀ : Around} {base h₀ : Heap} {L : Addr} {m : Str → Option Value} {s : Shared} {Q E : Value → Shared → Prop}
  {x dx : Addr} {T : Str} {p : Int} {t1 t2 t3 t4 t5 t6 t7 : Tok} {rest : List (Addr × Obj)} {signs what : Str} {begin_ : Int}

theorem newsApp {h' : Heap} {q : Addr × Obj} {tl led : List (Addr × Obj)} (N : News h₀ L h' (q :: (tl ++ led))) : News h₀ L h' ((q :: tl) ++ led) := N
theorem lt2 {D : Addr} {o : Obj} {tl led : List (Addr × Obj)} (h1 : ∀ p ∈ tl ++ led, p.1 < D) (h2 : ∀ r ∈ tl, ∀ b ∈ led, b.1 < r.1) : ∀ r ∈ (D, o) :: tl, ∀ b ∈ led, b.1 < r.1 := by
  intro r hr b hb
  rcases List.mem_cons.mp hr with rfl | hr
  · exact h1 b (List.mem_append.mpr (.inr hb))
  · exact h2 r hr b hb
def decD (whole part : Str) : Dat := .tuple [.int ((decTop whole part).fdiv (Int.gcd (decTop whole part) ((10 : Int) ^ (part.length : Int).toNat))), .int (((10 : Int) ^ (part.length : Int).toNat).fdiv (Int.gcd (decTop whole part) ((10 : Int) ^ (part.length : Int).toNat)))]
def numR (T : Str) (p q : Int) (whole : Str) : Except Int (Dat × Int) :=
  if (signS T q != Str.ofString ".") then
    if runsIn T q then .error p else .ok (.tuple [.str (Str.ofString "num"), .int (digitsVal (cs whole) : Nat)], q)
  else
    let q2 := q + 1 + rl T DIGITS (q + 1)
    let part := sl T (q + 1) q2
    if part == Str.ofString "" then .error p else
    if runsIn T q2 then .error p else .ok (.tuple [.str (Str.ofString "dec"), decD whole part], q2)
def numF (T : Str) (p : Int) : Except Int (Dat × Int) :=
  let q := p + rl T DIGITS p
  let whole := sl T p q
  if 1 < (whole.length : Int) then if Txt.item whole 0 == Str.ofString "0" then .error p else numR T p q whole else numR T p q whole
theorem num_c :
    Below A₀ base outer h₀ → Fr h₀ L s.heap m → (heapK w.params).In h₀ → News h₀ L s.heap ((x, instObj 194 dx) :: (dx, scanD w.params T p t1 t2 t3 t4) :: rest) → Top viewV LO mean mg mb h₀ →
    x ≠ dx → (∀ q ∈ rest, q.1 ≠ dx) → 0 ≤ p → p ≤ T.length → T.length ≤ 600 → p < T.length → inS (one (ch T p)) DIGITS = true → dp + 8 < recursionLimit → un + 70 < cLine →
    (∀ item q, numF T p = .ok (item, q) → Reads w h₀ L m x dx T t1 t2 t3 rest s item q Q) → (∀ f, numF T p = .error f → RaisesTo w.params base h₀ L m (envX cn (fnScope c1 c2 c3 c4) L a ccd cl :: outer) f rest s E) →
    wpAny (model Challenge.rw_sj0097_01.row.prog w) (ktrTop dp un gd cn (fnScope c1 c2 c3 c4) L a ccd cl outer) (call (.ref 184) [.ref x]) Q E s := by
  k_with_none
  k_with "subscriptTail" => (k_here; (with_reducible show wpAny _ _ (subscriptTail _ _ (Value.str _ _) (Value.int _ _)) _ _ _); (refine item_one (by lia) (by lia) (by lia) ?_))
  k_with "compareOp NotIn str str" => refine notIn_strS ?_
  k_with "compareOp In str str" => refine in_strS ?_
  k_with "exec Raise some none" => refine exRaise (C := 69) rfl ?_
  k_with "RaisedAt" => (k_here; k_dflt (refine' raisedAt ?k1z9 ?k2z9 ?k3z9 ?k4z9 ?k5z9 ?k6z9 ?_; (case k1z9 => k_asm); (case k2z9 => k_asm); (case k3z9 => k_asm); (case k4z9 => rfl); (case k5z9 => k_is); (case k6z9 => k_is)))
  k_with "leaving ref" => (k_here; k_dflt (refine' leaveD' ?k1z9 ?k2z9 ?k3z9 ?k4z9 ?k5z9 ?_; (case k1z9 => assumption); (case k2z9 => k_asm); (case k3z9 => k_asm); (case k4z9 => rfl); (case k5z9 => assumption)); intro h' R' U'; (try dsimp only))
  k_with "leaving ref" => (k_here; k_dflt (refine' leave_onD ?k1z9 ?k2z9 ?k3z9 ?k4z9 ?_; (case k3z9 => assumption); (case k1z9 => assumption); (case k4z9 => assumption); (case k2z9 => assumption)); intro h' R' U'; (try dsimp only))
  k_with "call ref" => (k_here; (with_reducible show wpAny _ _ (call (Value.ref 69) _) _ _ _); k_dflt (refine' mkSF ?k1z9 ?k2z9 ?k3z9 ?k4z9 ?k5z9 ?k6z9 ?kdz9 ?kuz9 ?_; (case k1z9 => k_asm); (case k2z9 => k_asm); (case k3z9 => k_asm); (case k4z9 => k_asm); (case k5z9 => k_asm); (case k6z9 => rfl); (case kdz9 => ktr_room); (case kuz9 => ktr_units)); intro e9 de9 te9 k9 l9 h9 tk9 F9 N9 n9; (try dsimp only))
  k_with "call ref" => (k_here; (with_reducible show wpAny _ _ (call (Value.ref 128) _) _ _ _); k_dflt (refine' sign_c ?k1z9 ?k2z9 ?k3z9 ?k4z9 ?k5z9 ?k6z9 ?k7z9 ?k8z9 ?k9z9 ?kdz9 ?kuz9 ?_; (case k1z9 => k_asm); (case k2z9 => k_asm); (case k3z9 => k_asm); (case k4z9 => k_asm); (case k5z9 => k_asm); (case k6z9 => k_asm); (case k7z9 => k_asm); (case k8z9 => lia); (case k9z9 => lia); (case kdz9 => ktr_room); (case kuz9 => ktr_units)); intro t9 h9 tk9 F9 N9; (try dsimp only))
  k_with "call ref" => (k_here; (with_reducible show wpAny _ _ (call (Value.ref 142) _) _ _ _); k_dflt (refine' run_of_g ?k1z9 ?k2z9 ?k3z9 ?k4z9 ?k5z9 ?k6z9 ?k7z9 ?k8z9 ?k9z9 ?k10z9 ?kdz9 ?kuz9 ?_; (case k1z9 => k_asm); (case k2z9 => k_asm); (case k3z9 => k_asm); (case k4z9 => k_asm); (case k5z9 => k_asm); (case k6z9 => k_asm); (case k7z9 => k_asm); (case k8z9 => lia); (case k9z9 => first | lia | exact dot_lt (by assumption)); (case k10z9 => lia); (case kdz9 => ktr_room); (case kuz9 => ktr_units)); intro t9 t9' h9 tk9 z9 zz9 F9 N9; (try dsimp only))
  k_with "call ref" => (k_here; (with_reducible show wpAny _ _ (call (Value.ref 149) _) _ _ _); k_dflt (refine' ends_c ?k1z9 ?k2z9 ?k3z9 ?k4z9 ?k5z9 ?k6z9 ?k7z9 ?k8z9 ?k9z9 ?k10z9 ?m0z9 ?kdz9 ?kuz9 ?_ ?_; (case k1z9 => k_asm); (case k2z9 => k_asm); (case k3z9 => k_asm); (case k4z9 => k_asm); (case k5z9 => k_asm); (case k6z9 => k_asm); (case k7z9 => k_asm); (case k8z9 => lia); (case k9z9 => lia); (case k10z9 => lia); (case m0z9 => decide); (case kdz9 => ktr_room); (case kuz9 => ktr_units)); (intro r9 h9 tk9 F9 N9; (try dsimp only)); rotate_left; (intro r9; unfold RaisesTo; intro e9 de9 w9 t9 u9 k9 l9 h9 tk9 G9 F9 U9 R9; (try dsimp only)); rotate_left)
  k_with "call ref" => (k_here; (with_reducible show wpAny _ _ (call (Value.ref 100) _) _ _ _); k_dflt (refine' want_c ?k1z9 ?k2z9 ?k3z9 ?k4z9 ?k5z9 ?k6z9 ?kdz9 ?kuz9 ?_; (case k1z9 => k_asm); (case k2z9 => k_asm); (case k3z9 => k_asm); (case k4z9 => k_asm); (case k5z9 => k_asm); (case k6z9 => first | lia | assumption); (case kdz9 => ktr_room); (case kuz9 => ktr_units)); intro h9 tk9 F9 N9; (try dsimp only))
  k_with "call ref" => (k_here; (with_reducible show wpAny _ _ (call (Value.ref 92) _) _ _ _); k_dflt (refine' rod_c ?k1z9 ?k2z9 ?k3z9 ?k4z9 ?k5z9 ?k6z9 ?k7z9 ?k8z9 ?k9z9 ?m1z9 ?m2z9 ?kdz9 ?kuz9 ?_; (case k1z9 => k_asm); (case k2z9 => k_asm); (case k3z9 => k_asm); (case k4z9 => k_asm); (case k5z9 => k_asm); (case k6z9 => exact all_digits _ (by lia) (by lia)); (case k7z9 => exact all_digits _ (by lia) (by lia)); (case k8z9 => assumption); (case k9z9 => exact ne_cs (by assumption)); (case m1z9 => lia); (case m2z9 => lia); (case kdz9 => ktr_room); (case kuz9 => ktr_units)); intro v9 tl9 h9 tk9 F9 N9 D9 lt9; (try dsimp only))
  k_with "call type:int" => (k_here; (with_reducible show wpAny _ _ (call (Value.type "int") [Value.str _ _]) _ _ _); refine KIN.call_text (by assumption) (by lia) ?_)
  k_fill
  intro B F X N Tp h1 h2 hp hpT hT hpl hdig hd hu ret rai
  have hne := ne_digits hp hpl hdig
  have hint : PySem.intText? (sl T p (p + rl T DIGITS p)) = some ((digitsVal (cs (sl T p (p + rl T DIGITS p))) : Nat) : Int) := intText_digits (all_digits T hp hpT) hne (Nat.le_trans (sl_le _ _ _) (by lia))
  refine wpAny_call ?_
  k_dflt k_enter
  k_steps
  all_goals first
    | exact rai _ (by unfold numF; dsimp only [DIGITS]; rw [if_pos (by with_reducible assumption)]; rw [if_pos (by with_reducible assumption)]) _ _ _ _ _ _ _ _ _ _ (by assumption) (by assumption) (RaisedD.sub (by assumption) (by kqd_sub))
    | exact ret _ _ (by unfold numF; dsimp only [DIGITS]; rw [if_pos (by with_reducible assumption)]; rw [if_neg (ff (by with_reducible assumption))]; unfold numR; dsimp only [DIGITS]; rw [if_pos (by with_reducible assumption)]; rw [if_neg (ff (by with_reducible assumption))]) _ [(_, _)] _ _ _ (by k_asm) (by k_asm) (.tuple (.head _) (.cons (.str _ _) (.cons (.int _ _) .nil))) (lt1 (by assumption))
    | exact rai _ (by unfold numF; dsimp only [DIGITS]; rw [if_pos (by with_reducible assumption)]; rw [if_neg (ff (by with_reducible assumption))]; unfold numR; dsimp only [DIGITS]; rw [if_pos (by with_reducible assumption)]; rw [if_pos (by with_reducible assumption)]) _ _ _ _ _ _ _ _ _ _ (by assumption) (by assumption) (RaisedD.sub (by assumption) (by kqd_sub))
    | exact rai _ (by unfold numF; dsimp only [DIGITS]; rw [if_pos (by with_reducible assumption)]; rw [if_neg (ff (by with_reducible assumption))]; unfold numR; dsimp only [DIGITS]; rw [if_neg (ff (by with_reducible assumption))]; rw [if_pos (by with_reducible assumption)]) _ _ _ _ _ _ _ _ _ _ (by assumption) (by assumption) (RaisedD.sub (by assumption) (by kqd_sub))
    | exact ret _ _ (by unfold numF; dsimp only [DIGITS]; rw [if_pos (by with_reducible assumption)]; rw [if_neg (ff (by with_reducible assumption))]; unfold numR; dsimp only [DIGITS]; rw [if_neg (ff (by with_reducible assumption))]; rw [if_neg (ff (by with_reducible assumption))]; rw [if_neg (ff (by with_reducible assumption))]) _ _ _ _ _ (by k_asm) (newsApp (by k_asm)) (.tuple (.head _) (.cons (.str _ _) (.cons (DatIn.mono (fun _ h => List.Mem.tail _ h) (by assumption)) .nil))) (lt2 (by assumption) (by assumption))
    | exact rai _ (by unfold numF; dsimp only [DIGITS]; rw [if_pos (by with_reducible assumption)]; rw [if_neg (ff (by with_reducible assumption))]; unfold numR; dsimp only [DIGITS]; rw [if_neg (ff (by with_reducible assumption))]; rw [if_neg (ff (by with_reducible assumption))]; rw [if_pos (by with_reducible assumption)]) _ _ _ _ _ _ _ _ _ _ (by assumption) (by assumption) (RaisedD.sub (by assumption) (by kqd_sub))
    | exact ret _ _ (by unfold numF; dsimp only [DIGITS]; rw [if_neg (by with_reducible assumption)]; unfold numR; dsimp only [DIGITS]; rw [if_pos (by with_reducible assumption)]; rw [if_neg (ff (by with_reducible assumption))]) _ [(_, _)] _ _ _ (by k_asm) (by k_asm) (.tuple (.head _) (.cons (.str _ _) (.cons (.int _ _) .nil))) (lt1 (by assumption))
    | exact rai _ (by unfold numF; dsimp only [DIGITS]; rw [if_neg (by with_reducible assumption)]; unfold numR; dsimp only [DIGITS]; rw [if_pos (by with_reducible assumption)]; rw [if_pos (by with_reducible assumption)]) _ _ _ _ _ _ _ _ _ _ (by assumption) (by assumption) (RaisedD.sub (by assumption) (by kqd_sub))
    | exact rai _ (by unfold numF; dsimp only [DIGITS]; rw [if_neg (by with_reducible assumption)]; unfold numR; dsimp only [DIGITS]; rw [if_neg (ff (by with_reducible assumption))]; rw [if_pos (by with_reducible assumption)]) _ _ _ _ _ _ _ _ _ _ (by assumption) (by assumption) (RaisedD.sub (by assumption) (by kqd_sub))
    | exact ret _ _ (by unfold numF; dsimp only [DIGITS]; rw [if_neg (by with_reducible assumption)]; unfold numR; dsimp only [DIGITS]; rw [if_neg (ff (by with_reducible assumption))]; rw [if_neg (ff (by with_reducible assumption))]; rw [if_neg (ff (by with_reducible assumption))]) _ _ _ _ _ (by k_asm) (newsApp (by k_asm)) (.tuple (.head _) (.cons (.str _ _) (.cons (DatIn.mono (fun _ h => List.Mem.tail _ h) (by assumption)) .nil))) (lt2 (by assumption) (by assumption))
    | exact rai _ (by unfold numF; dsimp only [DIGITS]; rw [if_neg (by with_reducible assumption)]; unfold numR; dsimp only [DIGITS]; rw [if_neg (ff (by with_reducible assumption))]; rw [if_neg (ff (by with_reducible assumption))]; rw [if_pos (by with_reducible assumption)]) _ _ _ _ _ _ _ _ _ _ (by assumption) (by assumption) (RaisedD.sub (by assumption) (by kqd_sub))
    | skip
end
end Mine
end
-- part W14
section
namespace Mine
theorem freshW14 : True := by
  w_top off
  trivial
end Mine
open PySem PySem.W PySem.Calls PyProof.Rows
set_option maxRecDepth 100000
set_option maxHeartbeats 8000000
namespace Mine
open PySem.NumText
section
variable {w : World} {mean : ExcName → Option Value} {mg mb : Str → Option Value} {dp un : Nat} {gd : Option (List Code)} {cn : Str} {c1 : List (Str × NameKind)} {c2 c3 : Bool} {c4 : List (Str × Const)} {a : Addr} {ccd : Value} {cl : List (Str × Addr)} {outer : List Env} {A₀ : Around} {base h₀ : Heap} {L : Addr} {m : Str → Option Value} {s : Shared} {Q E : Value → Shared → Prop}
  {x dx : Addr} {T : Str} {p : Int} {t1 t2 t3 t4 t5 t6 t7 : Tok} {rest : List (Addr × Obj)} {signs what : Str} {begin_ : Int}

def strG (T : Str) (p : Int) : Nat → Int → List Str → Except Int (Dat × Int)
  | 0, _, _ => .error p
  | n + 1, c, ps =>
    let quote := Txt.find3 T (Str.ofString "\"") c
    if quote < 0 then .error p else
    let ps' := ps ++ [Txt.slice T (some c) (some quote)]
    if (signS T (quote + 1) != (Str.ofString "\"")) then .ok (.tuple [.str (Str.ofString "str"), .str (Txt.join (Str.ofString "") ps')], quote + 1)
    else strG T p n (quote + 2) (ps' ++ [(Str.ofString "\"")])
structure StS where
  n : Nat
  c : Int
  ct : Tok
  ps : List Str
  vs : Array Value
  cap : Nat
  q : Option Value
def strLed (P : Params) {l x dx : Addr} {rest : List (Addr × Obj)} (_ : x < l ∧ dx < l ∧ AllLt l rest) (T : Str) (t1 t2 t3 : Tok) (c : StS) : List (Addr × Obj) := (x, instObj 194 dx) :: (dx, scanD P T c.c t1 t2 t3 c.ct) :: (l, listOf c.vs c.cap) :: rest
def strP (T : Str) (p : Int) (R : Except Int (Dat × Int)) (c : StS) : Prop := 0 ≤ c.c ∧ c.c ≤ T.length ∧ T.length - c.c < c.n ∧ StrsAre c.vs.toList c.ps ∧ ((c.ps.map (·.length)).sum + c.ps.length : Nat) ≤ 2 * c.c ∧ strG T p c.n c.c c.ps = R
theorem strP0 {T : Str} {p : Int} {t : Tok} {q : Option Value} (hp : 0 ≤ p) (hpl : p < T.length) : strP T p (strG T p (T.length + 1) (p + 1) []) ⟨T.length + 1, p + 1, t, [], #[], 0, q⟩ :=
  ⟨show 0 ≤ p + 1 by lia, show p + 1 ≤ T.length by lia, show (T.length : Int) - (p + 1) < ((T.length + 1 : Nat) : Int) by lia, .nil, show ((([] : List Str).map (·.length)).sum + ([] : List Str).length : Nat) ≤ 2 * (p + 1) by simp; lia, rfl⟩
theorem strsAre_length {vs : List Value} {ps : List Str} (h : StrsAre vs ps) : vs.length = ps.length := by
  induction h with
  | nil => rfl
  | cons _ _ _ ih => simp [ih]
theorem sz_le {n : Nat} (h : n ≤ 3000) : n ≤ sizeLine := Nat.le_trans h (by decide)
theorem ne_of_all {l : Addr} {rest : List (Addr × Obj)} (h : AllLt l rest) : ∀ q ∈ rest, q.1 ≠ l := fun q hq e => absurd (lt_all h q hq) (by rw [e]; exact Nat.lt_irrefl _)
theorem nex_cons {l dx : Addr} {o : Obj} {rest : List (Addr × Obj)} (h : dx < l) (h2 : ∀ q ∈ rest, q.1 ≠ dx) : ∀ q ∈ (l, o) :: rest, q.1 ≠ dx := by
  intro q hq
  rcases List.mem_cons.mp hq with rfl | hq
  · exact fun e => absurd h (by rw [show l = dx from e]; exact Nat.lt_irrefl _)
  · exact h2 q hq
theorem strsAre_push {vs : Array Value} {ps : List Str} {y : Str} {t : Tok} (h : StrsAre vs.toList ps) : StrsAre (vs.push (.str y t)).toList (ps ++ [y]) := by
  rw [Array.toList_push]
  generalize vs.toList = l at h
  induction h with
  | nil => exact .cons _ _ .nil
  | cons z u _ ih => exact .cons z u ih
theorem joinW {T : Str} {c : Int} {ps : List Str} {y : Str} (h5 : (((ps.map (·.length)).sum + ps.length : Nat) : Int) ≤ 2 * c) (h2 : c ≤ T.length) (hy : y.length ≤ T.length) (hT : T.length ≤ 600) : ((ps ++ [y]).map (·.length)).sum + (ps ++ [y]).length ≤ 1048576 := by
  simp only [List.map_append, List.sum_append, List.length_append, List.map_cons, List.map_nil, List.sum_cons, List.sum_nil, List.length_cons, List.length_nil]
  lia
theorem str_un {T : Str} {p c : Int} {n : Nat} {ps : List Str} (hc2 : c ≤ T.length) (hc3 : T.length - c < n) : ∃ k, n = k + 1 ∧ strG T p n c ps = (if Txt.find3 T (Str.ofString "\"") c < 0 then .error p else
    if (signS T (Txt.find3 T (Str.ofString "\"") c + 1) != (Str.ofString "\"")) then .ok (.tuple [.str (Str.ofString "str"), .str (Txt.join (Str.ofString "") (ps ++ [Txt.slice T (some c) (some (Txt.find3 T (Str.ofString "\"") c))]))], Txt.find3 T (Str.ofString "\"") c + 1)
    else strG T p k (Txt.find3 T (Str.ofString "\"") c + 2) (ps ++ [Txt.slice T (some c) (some (Txt.find3 T (Str.ofString "\"") c))] ++ [(Str.ofString "\"")])) := by
  cases n with
  | zero => lia
  | succ k => exact ⟨k, rfl, rfl⟩
theorem strE {T : Str} {p c : Int} {n : Nat} {ps : List Str} {R : Except Int (Dat × Int)} (hc2 : c ≤ T.length) (hc3 : T.length - c < n) (h6 : strG T p n c ps = R) (h : Txt.find3 T (Str.ofString "\"") c < 0) : R = .error p := by
  obtain ⟨k, _, e⟩ := str_un (p := p) (ps := ps) hc2 hc3
  rw [← h6, e, if_pos h]
theorem strK {T : Str} {p c : Int} {n : Nat} {ps : List Str} {R : Except Int (Dat × Int)} (hc2 : c ≤ T.length) (hc3 : T.length - c < n) (h6 : strG T p n c ps = R) (h : ¬ Txt.find3 T (Str.ofString "\"") c < 0) (h1 : Txt.find3 T (Str.ofString "\"") c + 1 < T.length) (h2 : (one (ch T (Txt.find3 T (Str.ofString "\"") c + 1)) != Str.ofString "\"") = true) : R = .ok (.tuple [.str (Str.ofString "str"), .str (Txt.join (Str.ofString "") (ps ++ [Txt.slice T (some c) (some (Txt.find3 T (Str.ofString "\"") c))]))], Txt.find3 T (Str.ofString "\"") c + 1) := by
  obtain ⟨k, _, e⟩ := str_un (p := p) (ps := ps) hc2 hc3
  rw [← h6, e, if_neg h, if_pos (by rw [signS, if_pos h1]; exact h2)]
theorem strK' {T : Str} {p c : Int} {n : Nat} {ps : List Str} {R : Except Int (Dat × Int)} (hc2 : c ≤ T.length) (hc3 : T.length - c < n) (h6 : strG T p n c ps = R) (h : ¬ Txt.find3 T (Str.ofString "\"") c < 0) (h1 : ¬ Txt.find3 T (Str.ofString "\"") c + 1 < T.length) : R = .ok (.tuple [.str (Str.ofString "str"), .str (Txt.join (Str.ofString "") (ps ++ [Txt.slice T (some c) (some (Txt.find3 T (Str.ofString "\"") c))]))], Txt.find3 T (Str.ofString "\"") c + 1) := by
  obtain ⟨k, _, e⟩ := str_un (p := p) (ps := ps) hc2 hc3
  rw [← h6, e, if_neg h, if_pos (by rw [signS, if_neg h1]; decide)]
theorem find_ge {T : Str} {c : Int} (h0 : 0 ≤ c) (hc : c ≤ T.length) (h : ¬ Txt.find3 T (Str.ofString "\"") c < 0) : c ≤ Txt.find3 T (Str.ofString "\"") c ∧ Txt.find3 T (Str.ofString "\"") c < T.length := by
  have e : Str.ofString "\"" = ⟨#[34]⟩ := by decide
  rw [e] at h ⊢
  have hf : (fromIndex T.length c : Int) = c := by
    unfold fromIndex
    lia
  rcases StrLaws.find3_spec T 34 c with ⟨h1, _⟩ | ⟨k, h1, h2, h3, _⟩
  · rw [h1] at h; lia
  · rw [h1]; lia
theorem strN {T : Str} {p c : Int} {n : Nat} {ps : List Str} {R : Except Int (Dat × Int)} {vs : Array Value} {cap : Nat} {q : Option Value} {u1 u2 u3 : Tok} (hc1 : 0 ≤ c) (hc2 : c ≤ T.length) (hc3 : T.length - c < n) (h4 : StrsAre vs.toList ps) (h5 : (((ps.map (·.length)).sum + ps.length : Nat) : Int) ≤ 2 * c) (h6 : strG T p n c ps = R) (h : ¬ Txt.find3 T (Str.ofString "\"") c < 0) (h1 : Txt.find3 T (Str.ofString "\"") c + 1 < T.length) (h2 : (one (ch T (Txt.find3 T (Str.ofString "\"") c + 1)) != Str.ofString "\"") = false) :
    strP T p R ⟨n - 1, Txt.find3 T (Str.ofString "\"") c + 1 + 1, u1, ps ++ [Txt.slice T (some c) (some (Txt.find3 T (Str.ofString "\"") c))] ++ [(Str.ofString "\"")], (vs.push (.str (Txt.slice T (some c) (some (Txt.find3 T (Str.ofString "\"") c))) u2)).push (.str (Str.ofString "\"") u3), cap, q⟩ := by
  obtain ⟨k, rfl, e⟩ := str_un (p := p) (ps := ps) hc2 hc3
  obtain ⟨f1, f2⟩ := find_ge hc1 hc2 h
  have hl : (Txt.slice T (some c) (some (Txt.find3 T (Str.ofString "\"") c))).length = (Txt.find3 T (Str.ofString "\"") c - c).toNat := by
    rw [← cs_length, slice_cs T hc1 f1 (by lia), List.length_take, List.length_drop, cs_length]
    lia
  refine ⟨?_, ?_, ?_, strsAre_push (strsAre_push h4), ?_, ?_⟩
  · dsimp only; lia
  · dsimp only; lia
  · dsimp only; lia
  · dsimp only
    simp only [List.map_append, List.sum_append, List.length_append, List.map_cons, List.map_nil, List.sum_cons, List.sum_nil, List.length_cons, List.length_nil]
    rw [hl, show (Str.ofString "\"").length = 1 by decide]
    lia
  · rw [← h6, e, if_neg h, if_neg (by rw [signS, if_pos h1]; exact ff h2)]
    dsimp only
    rw [show Txt.find3 T (Str.ofString "\"") c + 1 + 1 = Txt.find3 T (Str.ofString "\"") c + 2 by lia]
    rfl
theorem newsDrop4 {h' : Heap} {q a b c : Addr × Obj} {l : List (Addr × Obj)} (N : News h₀ L h' (q :: a :: b :: c :: l)) : News h₀ L h' ([q] ++ a :: b :: l) := fun r hr => N r (by
  rcases List.mem_cons.mp hr with rfl | hr
  · exact .head _
  rcases List.mem_cons.mp hr with rfl | hr
  · exact .tail _ (.head _)
  rcases List.mem_cons.mp hr with rfl | hr
  · exact .tail _ (.tail _ (.head _))
  · exact .tail _ (.tail _ (.tail _ (.tail _ hr))))
theorem lt4 {r l : Addr} {o o1 o2 : Obj} (h : x < r ∧ dx < r ∧ l < r ∧ AllLt r rest) : ∀ q ∈ [(r, o)], ∀ b ∈ (x, o1) :: (dx, o2) :: rest, b.1 < q.1 := lt1 ⟨h.1, h.2.1, h.2.2.2⟩
theorem string_c :
    Below A₀ base outer h₀ → Fr h₀ L s.heap m → (heapK w.params).In h₀ → News h₀ L s.heap ((x, instObj 194 dx) :: (dx, scanD w.params T p t1 t2 t3 t4) :: rest) → Top viewV LO mean mg mb h₀ →
    x ≠ dx → (∀ q ∈ rest, q.1 ≠ dx) → 0 ≤ p → p ≤ T.length → T.length ≤ 600 → p < T.length → dp + 8 < recursionLimit → un + 70 < cLine →
    (∀ item q, (fun T p => strG T p (T.length + 1) (p + 1) []) T p = .ok (item, q) → Reads w h₀ L m x dx T t1 t2 t3 rest s item q Q) → (∀ f, (fun T p => strG T p (T.length + 1) (p + 1) []) T p = .error f → RaisesTo w.params base h₀ L m (envX cn (fnScope c1 c2 c3 c4) L a ccd cl :: outer) f rest s E) →
    wpAny (model Challenge.rw_sj0097_01.row.prog w) (ktrTop dp un gd cn (fnScope c1 c2 c3 c4) L a ccd cl outer) (call (.ref 156) [.ref x]) Q E s := by
  k_with_none
  k_with "subscriptTail" => (k_here; (with_reducible show wpAny _ _ (subscriptTail _ _ (Value.str _ _) (Value.int _ _)) _ _ _); (refine item_one (by lia) (by lia) (by lia) ?_))
  k_with "compareOp NotIn str str" => refine notIn_strS ?_
  k_with "compareOp In str str" => refine in_strS ?_
  k_with "exec Raise some none" => refine exRaise (C := 69) rfl ?_
  k_with "RaisedAt" => (k_here; k_dflt (refine' raisedAt ?k1z9 ?k2z9 ?k3z9 ?k4z9 ?k5z9 ?k6z9 ?_; (case k1z9 => k_asm); (case k2z9 => k_asm); (case k3z9 => k_asm); (case k4z9 => rfl); (case k5z9 => k_is); (case k6z9 => k_is)))
  k_with "leaving ref" => (k_here; k_dflt (refine' leaveD' ?k1z9 ?k2z9 ?k3z9 ?k4z9 ?k5z9 ?_; (case k1z9 => assumption); (case k2z9 => k_asm); (case k3z9 => k_asm); (case k4z9 => rfl); (case k5z9 => assumption)); intro h' R' U'; (try dsimp only))
  k_with "leaving ref" => (k_here; k_dflt (refine' leave_onD ?k1z9 ?k2z9 ?k3z9 ?k4z9 ?_; (case k3z9 => assumption); (case k1z9 => assumption); (case k4z9 => assumption); (case k2z9 => assumption)); intro h' R' U'; (try dsimp only))
  k_with "call ref" => (k_here; (with_reducible show wpAny _ _ (call (Value.ref 69) _) _ _ _); k_dflt (refine' mkSF ?k1z9 ?k2z9 ?k3z9 ?k4z9 ?k5z9 ?k6z9 ?kdz9 ?kuz9 ?_; (case k1z9 => k_asm); (case k2z9 => k_asm); (case k3z9 => k_asm); (case k4z9 => k_asm); (case k5z9 => k_asm); (case k6z9 => rfl); (case kdz9 => ktr_room); (case kuz9 => ktr_units)); intro e9 de9 te9 k9 l9 h9 tk9 F9 N9 n9; (try dsimp only))
  k_with "call ref" => (k_here; (with_reducible show wpAny _ _ (call (Value.ref 128) _) _ _ _); k_dflt (refine' sign_c ?k1z9 ?k2z9 ?k3z9 ?k4z9 ?k5z9 ?k6z9 ?k7z9 ?k8z9 ?k9z9 ?kdz9 ?kuz9 ?_; (case k1z9 => k_asm); (case k2z9 => k_asm); (case k3z9 => k_asm); (case k4z9 => k_asm); (case k5z9 => k_asm); (case k6z9 => k_asm); (case k7z9 => k_asm); (case k8z9 => lia); (case k9z9 => lia); (case kdz9 => ktr_room); (case kuz9 => ktr_units)); intro t9 h9 tk9 F9 N9; (try dsimp only))
  k_with "call builtin:str.join" => (k_here; (with_reducible show wpAny _ _ (call (Value.builtin "str.join") [Value.str _ _, Value.ref _]) _ _ _); refine join_listW (News.isList (by k_asm) (by news_mem)) (strsAre_push (by assumption)) (by decide) (joinW (by assumption) (by assumption) (by assumption) (by assumption)) ?_; intro t9 k9)
  k_with "call builtin:list.append" => (k_here; (with_reducible show wpAny _ _ (call (Value.builtin _) [Value.ref _, _]) _ _ _); k_dflt (refine' append_K ?k1z9 ?k2z9 ?k3z9 ?_ ?zz9; (case k1z9 => k_asm); (case k2z9 => k_asm); (case k3z9 => k_upd); (case zz9 => (refine sz_le ?_; (try simp only [Array.size_push]); lia)); k_whole); intro h' F' N'; (try k_sweep))
  k_with "exec While Constant cons nil" => (rename Fr _ _ _ _ => lF; rename News _ _ _ _ => lN; rename _ ∧ _ ∧ AllLt _ _ => l1; (have l2 := l1); (obtain ⟨l3, l4, l5⟩ := l2); (have l6 := ne_of_all l5); refine' wWhileM (σ := StS) (fun m c y => if y = Str.ofString "quote" then c.q else m y) (strLed w.params l1 T t1 t2 t3) (strP T p (strG T p (T.length + 1) (p + 1) [])) (fun c => c.n) ⟨T.length + 1, p + 1, _, [], #[], 0, none⟩ lF lN ?km ?kl ?kp ?_; (case km => (intro y; by_cases hy1 : y = Str.ofString "quote"; (subst hy1; rfl); simp only [if_neg hy1])); (case kl => (dsimp only [strLed]; kqd_sub)); (case kp => exact strP0 (by assumption) (by assumption)); rintro ⟨n, c, ct, ps, vs, cap, q⟩ h' tk' hc F' N'; dsimp only [strLed] at N'; dsimp only at F'; obtain ⟨hc1, hc2, hc3, hc4, hc5, hc6⟩ := hc; dsimp only at hc1 hc2 hc3 hc4 hc5 hc6; (have hc7 := strsAre_length hc4); (simp only [Array.length_toList] at hc7); (have hc8 := nex_cons (o := listOf vs cap) l4 h2); (have hc9 : vs.size ≤ 2000 := by lia))
  k_fill
  intro B F X N Tp h1 h2 hp hpT hT hpl hd hu ret rai
  refine wpAny_call ?_
  k_dflt k_enter
  k_steps
  all_goals (try dsimp only [WPost])
  k_steps
  all_goals first
    | exact rai _ (strE hc2 hc3 hc6 (by with_reducible assumption)) _ _ _ _ _ _ _ _ _ _ (by assumption) (by assumption) (RaisedD.sub (by assumption) (by kqd_sub))
    | exact ret _ _ (strK hc2 hc3 hc6 (by with_reducible assumption) (by with_reducible assumption) (by with_reducible assumption)) _ [(_, _)] _ _ _ (by k_asm) (newsDrop4 (by k_asm)) (.tuple (.head _) (.cons (.str _ _) (.cons (.str _ _) .nil))) (lt4 (by assumption))
    | exact ret _ _ (strK' hc2 hc3 hc6 (by with_reducible assumption) (by with_reducible assumption)) _ [(_, _)] _ _ _ (by k_asm) (newsDrop4 (by k_asm)) (.tuple (.head _) (.cons (.str _ _) (.cons (.str _ _) .nil))) (lt4 (by assumption))
    | exact wEnd (⟨n - 1, _, _, _, _, _, _⟩ : StS) (by k_asm) (by k_asm) (by (intro y; by_cases hy1 : y = Str.ofString "quote"; (subst hy1; rfl); simp only [if_neg hy1])) (by dsimp only [strLed]; kqd_sub) (strN hc1 hc2 hc3 hc4 hc5 hc6 (by with_reducible assumption) (by with_reducible assumption) (by with_reducible assumption)) (by dsimp only; lia)
end
end Mine
end
-- part W15
section
namespace Mine
theorem freshW15 : True := by
  w_top off
  trivial
end Mine
open PySem PySem.W PySem.Calls PyProof.Rows
set_option maxRecDepth 100000
set_option maxHeartbeats 8000000
namespace Mine
open PySem.NumText
section
variable {w : World} {mean : ExcName → Option Value} {mg mb : Str → Option Value} {dp un : Nat} {gd : Option (List Code)} {cn : Str} {c1 : List (Str × NameKind)} {c2 c3 : Bool} {c4 : List (Str × Const)} {a : Addr} {ccd : Value} {cl : List (Str × Addr)} {outer : List Env} {A₀ : Around} {base h₀ : Heap} {L : Addr} {m : Str → Option Value} {s : Shared} {Q E : Value → Shared → Prop}
  {x dx : Addr} {T : Str} {p : Int} {t1 t2 t3 t4 t5 t6 t7 : Tok} {rest : List (Addr × Obj)} {signs what : Str} {begin_ : Int}

theorem sign_lt {T : Str} {p : Int} (h : (signS T p == Str.ofString "") = false) : p < T.length := by
  unfold signS at h
  split at h
  · assumption
  · exact absurd h (by decide)
theorem sign_dig {T : Str} {p : Int} (h : (signS T p == Str.ofString "") = false) (h2 : inS (signS T p) DIGITS = true) : inS (one (ch T p)) DIGITS = true := by
  rw [signS, if_pos (sign_lt h)] at h2; exact h2
def readF (T : Str) (p : Int) : Except Int (Dat × Int) :=
  if signS T p == Str.ofString "" then .error p else
  if signS T p == Str.ofString "\"" then strG T p (T.length + 1) (p + 1) [] else
  if signS T p == Str.ofString "|" then quotedF T p else
  if signS T p == Str.ofString ":" then keyF T p else
  if signS T p == Str.ofString "#" then bitsF T p else
  if inS (signS T p) (Str.ofString "0123456789") then numF T p else
  if inS (signS T p) (Str.ofString "abcdefghijklmnopqrstuvwxyzABCDEFGHIJKLMNOPQRSTUVWXYZ0123456789~!@$%^&*_-+=<>.?/") then .ok (.tuple [.str (Str.ofString "sym"), .str (sl T p (p + rl T SIMPLE p))], p + rl T SIMPLE p)
  else .error p

theorem word_c :
    Below A₀ base outer h₀ → Fr h₀ L s.heap m → (heapK w.params).In h₀ → News h₀ L s.heap ((x, instObj 194 dx) :: (dx, scanD w.params T p t1 t2 t3 t4) :: rest) → Top viewV LO mean mg mb h₀ →
    x ≠ dx → (∀ q ∈ rest, q.1 ≠ dx) → 0 ≤ p → p ≤ T.length → T.length ≤ 600 → dp + 10 < recursionLimit → un + 90 < cLine →
    (∀ item q, readF T p = .ok (item, q) → Reads w h₀ L m x dx T t1 t2 t3 rest s item q Q) → (∀ f, readF T p = .error f → RaisesTo w.params base h₀ L m (envX cn (fnScope c1 c2 c3 c4) L a ccd cl :: outer) f rest s E) →
    wpAny (model Challenge.rw_sj0097_01.row.prog w) (ktrTop dp un gd cn (fnScope c1 c2 c3 c4) L a ccd cl outer) (call (.ref 191) [.ref x]) Q E s := by
  k_with_none
  k_with "subscriptTail" => (k_here; (with_reducible show wpAny _ _ (subscriptTail _ _ (Value.str _ _) (Value.int _ _)) _ _ _); (refine item_one (by omega) (by omega) (by omega) ?_))
  k_with "compareOp NotIn str str" => refine notIn_strS ?_
  k_with "compareOp In str str" => refine in_strS ?_
  k_with "exec Raise some none" => refine exRaise (C := 69) rfl ?_
  k_with "RaisedAt" => (k_here; k_dflt (refine' raisedAt ?k1z9 ?k2z9 ?k3z9 ?k4z9 ?k5z9 ?k6z9 ?_; (case k1z9 => k_asm); (case k2z9 => k_asm); (case k3z9 => k_asm); (case k4z9 => rfl); (case k5z9 => k_is); (case k6z9 => k_is)))
  k_with "leaving ref" => (k_here; k_dflt (refine' leaveD' ?k1z9 ?k2z9 ?k3z9 ?k4z9 ?k5z9 ?_; (case k1z9 => assumption); (case k2z9 => k_asm); (case k3z9 => k_asm); (case k4z9 => rfl); (case k5z9 => assumption)); intro h' R' U'; (try dsimp only))
  k_with "leaving ref" => (k_here; k_dflt (refine' leave_onD ?k1z9 ?k2z9 ?k3z9 ?k4z9 ?_; (case k3z9 => assumption); (case k1z9 => assumption); (case k4z9 => assumption); (case k2z9 => assumption)); intro h' R' U'; (try dsimp only))
  k_with "call ref" => (k_here; (with_reducible show wpAny _ _ (call (Value.ref 69) _) _ _ _); k_dflt (refine' mkSF ?k1z9 ?k2z9 ?k3z9 ?k4z9 ?k5z9 ?k6z9 ?kdz9 ?kuz9 ?_; (case k1z9 => k_asm); (case k2z9 => k_asm); (case k3z9 => k_asm); (case k4z9 => k_asm); (case k5z9 => k_asm); (case k6z9 => rfl); (case kdz9 => ktr_room); (case kuz9 => ktr_units)); intro e9 de9 te9 k9 l9 h9 tk9 F9 N9 n9; (try dsimp only))
  k_with "call ref" => (k_here; (with_reducible show wpAny _ _ (call (Value.ref 128) _) _ _ _); k_dflt (refine' sign_c ?k1z9 ?k2z9 ?k3z9 ?k4z9 ?k5z9 ?k6z9 ?k7z9 ?k8z9 ?k9z9 ?kdz9 ?kuz9 ?_; (case k1z9 => k_asm); (case k2z9 => k_asm); (case k3z9 => k_asm); (case k4z9 => k_asm); (case k5z9 => k_asm); (case k6z9 => k_asm); (case k7z9 => k_asm); (case k8z9 => omega); (case k9z9 => omega); (case kdz9 => ktr_room); (case kuz9 => ktr_units)); intro t9 h9 tk9 F9 N9; (try dsimp only))
  k_with "call ref" => (k_here; (with_reducible show wpAny _ _ (call (Value.ref 142) _) _ _ _); k_dflt (refine' run_of_g ?k1z9 ?k2z9 ?k3z9 ?k4z9 ?k5z9 ?k6z9 ?k7z9 ?k8z9 ?k9z9 ?k10z9 ?kdz9 ?kuz9 ?_; (case k1z9 => k_asm); (case k2z9 => k_asm); (case k3z9 => k_asm); (case k4z9 => k_asm); (case k5z9 => k_asm); (case k6z9 => k_asm); (case k7z9 => k_asm); (case k8z9 => omega); (case k9z9 => omega); (case k10z9 => omega); (case kdz9 => ktr_room); (case kuz9 => ktr_units)); intro t9 t9' h9 tk9 z9 zz9 F9 N9; (try dsimp only))
  k_with "call ref" => (k_here; (with_reducible show wpAny _ _ (call (Value.ref 156) _) _ _ _); k_dflt (refine' string_c ?k1z9 ?k2z9 ?k3z9 ?k4z9 ?k5z9 ?k6z9 ?k7z9 ?k8z9 ?k9z9 ?k10z9 ?m0z9 ?kdz9 ?kuz9 ?_ ?_; (case k1z9 => k_asm); (case k2z9 => k_asm); (case k3z9 => k_asm); (case k4z9 => k_asm); (case k5z9 => k_asm); (case k6z9 => k_asm); (case k7z9 => k_asm); (case k8z9 => omega); (case k9z9 => omega); (case k10z9 => omega); (case m0z9 => exact sign_lt (by assumption)); (case kdz9 => ktr_room); (case kuz9 => ktr_units)); (intro i9 q9 e9; unfold Reads; intro v9 tl9 t9 h9 tk9 F9 N9 D9 lt9; (try dsimp only)); rotate_left; (intro f9 e9; unfold RaisesTo; intro e9 de9 w9 t9 u9 k9 l9 h9 tk9 G9 F9 U9 R9; (try dsimp only)); rotate_left)
  k_with "call ref" => (k_here; (with_reducible show wpAny _ _ (call (Value.ref 163) _) _ _ _); k_dflt (refine' quoted_c ?k1z9 ?k2z9 ?k3z9 ?k4z9 ?k5z9 ?k6z9 ?k7z9 ?k8z9 ?k9z9 ?k10z9 ?m0z9 ?kdz9 ?kuz9 ?_ ?_; (case k1z9 => k_asm); (case k2z9 => k_asm); (case k3z9 => k_asm); (case k4z9 => k_asm); (case k5z9 => k_asm); (case k6z9 => k_asm); (case k7z9 => k_asm); (case k8z9 => omega); (case k9z9 => omega); (case k10z9 => omega); (case m0z9 => exact sign_lt (by assumption)); (case kdz9 => ktr_room); (case kuz9 => ktr_units)); (intro i9 q9 e9; unfold Reads; intro v9 tl9 t9 h9 tk9 F9 N9 D9 lt9; (try dsimp only)); rotate_left; (intro f9 e9; unfold RaisesTo; intro e9 de9 w9 t9 u9 k9 l9 h9 tk9 G9 F9 U9 R9; (try dsimp only)); rotate_left)
  k_with "call ref" => (k_here; (with_reducible show wpAny _ _ (call (Value.ref 170) _) _ _ _); k_dflt (refine' key_c ?k1z9 ?k2z9 ?k3z9 ?k4z9 ?k5z9 ?k6z9 ?k7z9 ?k8z9 ?k9z9 ?k10z9 ?m0z9 ?kdz9 ?kuz9 ?_ ?_; (case k1z9 => k_asm); (case k2z9 => k_asm); (case k3z9 => k_asm); (case k4z9 => k_asm); (case k5z9 => k_asm); (case k6z9 => k_asm); (case k7z9 => k_asm); (case k8z9 => omega); (case k9z9 => omega); (case k10z9 => omega); (case m0z9 => exact sign_lt (by assumption)); (case kdz9 => ktr_room); (case kuz9 => ktr_units)); (intro i9 q9 e9; unfold Reads; intro v9 tl9 t9 h9 tk9 F9 N9 D9 lt9; (try dsimp only)); rotate_left; (intro f9 e9; unfold RaisesTo; intro e9 de9 w9 t9 u9 k9 l9 h9 tk9 G9 F9 U9 R9; (try dsimp only)); rotate_left)
  k_with "call ref" => (k_here; (with_reducible show wpAny _ _ (call (Value.ref 177) _) _ _ _); k_dflt (refine' bits_c ?k1z9 ?k2z9 ?k3z9 ?k4z9 ?k5z9 ?k6z9 ?k7z9 ?k8z9 ?k9z9 ?k10z9 ?m0z9 ?kdz9 ?kuz9 ?_ ?_; (case k1z9 => k_asm); (case k2z9 => k_asm); (case k3z9 => k_asm); (case k4z9 => k_asm); (case k5z9 => k_asm); (case k6z9 => k_asm); (case k7z9 => k_asm); (case k8z9 => omega); (case k9z9 => omega); (case k10z9 => omega); (case m0z9 => exact sign_lt (by assumption)); (case kdz9 => ktr_room); (case kuz9 => ktr_units)); (intro i9 q9 e9; unfold Reads; intro v9 tl9 t9 h9 tk9 F9 N9 D9 lt9; (try dsimp only)); rotate_left; (intro f9 e9; unfold RaisesTo; intro e9 de9 w9 t9 u9 k9 l9 h9 tk9 G9 F9 U9 R9; (try dsimp only)); rotate_left)
  k_with "call ref" => (k_here; (with_reducible show wpAny _ _ (call (Value.ref 184) _) _ _ _); k_dflt (refine' num_c ?k1z9 ?k2z9 ?k3z9 ?k4z9 ?k5z9 ?k6z9 ?k7z9 ?k8z9 ?k9z9 ?k10z9 ?m0z9 ?m1z9 ?kdz9 ?kuz9 ?_ ?_; (case k1z9 => k_asm); (case k2z9 => k_asm); (case k3z9 => k_asm); (case k4z9 => k_asm); (case k5z9 => k_asm); (case k6z9 => k_asm); (case k7z9 => k_asm); (case k8z9 => omega); (case k9z9 => omega); (case k10z9 => omega); (case m0z9 => exact sign_lt (by assumption)); (case m1z9 => exact sign_dig (by assumption) (by assumption)); (case kdz9 => ktr_room); (case kuz9 => ktr_units)); (intro i9 q9 e9; unfold Reads; intro v9 tl9 t9 h9 tk9 F9 N9 D9 lt9; (try dsimp only)); rotate_left; (intro f9 e9; unfold RaisesTo; intro e9 de9 w9 t9 u9 k9 l9 h9 tk9 G9 F9 U9 R9; (try dsimp only)); rotate_left)
  k_fill
  intro B F X N Tp h1 h2 hp hpT hT hd hu ret rai
  have sl9 := sign_len T p
  refine wpAny_call ?_
  k_dflt k_enter
  k_steps
  all_goals first
    | exact rai _ (by unfold readF; dsimp only [DIGITS, SIMPLE]; rw [if_pos (by with_reducible assumption)]) _ _ _ _ _ _ _ _ _ _ (by assumption) (by assumption) (RaisedD.sub (by assumption) (by kqd_sub))
    | exact ret _ _ (by unfold readF; dsimp only [DIGITS, SIMPLE]; rw [if_neg (ff (by with_reducible assumption))]; rw [if_pos (by with_reducible assumption)]; first | (with_reducible assumption) | assumption) _ _ _ _ _ (by k_asm) (by k_asm) (by assumption) (by assumption)
    | exact rai _ (by unfold readF; dsimp only [DIGITS, SIMPLE]; rw [if_neg (ff (by with_reducible assumption))]; rw [if_pos (by with_reducible assumption)]; first | (with_reducible assumption) | assumption) _ _ _ _ _ _ _ _ _ _ (by assumption) (by assumption) (RaisedD.sub (by assumption) (by kqd_sub))
    | exact ret _ _ (by unfold readF; dsimp only [DIGITS, SIMPLE]; rw [if_neg (ff (by with_reducible assumption))]; rw [if_neg (ff (by with_reducible assumption))]; rw [if_pos (by with_reducible assumption)]; first | (with_reducible assumption) | assumption) _ _ _ _ _ (by k_asm) (by k_asm) (by assumption) (by assumption)
    | exact rai _ (by unfold readF; dsimp only [DIGITS, SIMPLE]; rw [if_neg (ff (by with_reducible assumption))]; rw [if_neg (ff (by with_reducible assumption))]; rw [if_pos (by with_reducible assumption)]; first | (with_reducible assumption) | assumption) _ _ _ _ _ _ _ _ _ _ (by assumption) (by assumption) (RaisedD.sub (by assumption) (by kqd_sub))
    | exact ret _ _ (by unfold readF; dsimp only [DIGITS, SIMPLE]; rw [if_neg (ff (by with_reducible assumption))]; rw [if_neg (ff (by with_reducible assumption))]; rw [if_neg (ff (by with_reducible assumption))]; rw [if_pos (by with_reducible assumption)]; first | (with_reducible assumption) | assumption) _ _ _ _ _ (by k_asm) (by k_asm) (by assumption) (by assumption)
    | exact rai _ (by unfold readF; dsimp only [DIGITS, SIMPLE]; rw [if_neg (ff (by with_reducible assumption))]; rw [if_neg (ff (by with_reducible assumption))]; rw [if_neg (ff (by with_reducible assumption))]; rw [if_pos (by with_reducible assumption)]; first | (with_reducible assumption) | assumption) _ _ _ _ _ _ _ _ _ _ (by assumption) (by assumption) (RaisedD.sub (by assumption) (by kqd_sub))
    | exact ret _ _ (by unfold readF; dsimp only [DIGITS, SIMPLE]; rw [if_neg (ff (by with_reducible assumption))]; rw [if_neg (ff (by with_reducible assumption))]; rw [if_neg (ff (by with_reducible assumption))]; rw [if_neg (ff (by with_reducible assumption))]; rw [if_pos (by with_reducible assumption)]; first | (with_reducible assumption) | assumption) _ _ _ _ _ (by k_asm) (by k_asm) (by assumption) (by assumption)
    | exact rai _ (by unfold readF; dsimp only [DIGITS, SIMPLE]; rw [if_neg (ff (by with_reducible assumption))]; rw [if_neg (ff (by with_reducible assumption))]; rw [if_neg (ff (by with_reducible assumption))]; rw [if_neg (ff (by with_reducible assumption))]; rw [if_pos (by with_reducible assumption)]; first | (with_reducible assumption) | assumption) _ _ _ _ _ _ _ _ _ _ (by assumption) (by assumption) (RaisedD.sub (by assumption) (by kqd_sub))
    | exact ret _ _ (by unfold readF; dsimp only [DIGITS, SIMPLE]; rw [if_neg (ff (by with_reducible assumption))]; rw [if_neg (ff (by with_reducible assumption))]; rw [if_neg (ff (by with_reducible assumption))]; rw [if_neg (ff (by with_reducible assumption))]; rw [if_neg (ff (by with_reducible assumption))]; rw [if_pos (by with_reducible assumption)]; first | (with_reducible assumption) | assumption) _ _ _ _ _ (by k_asm) (by k_asm) (by assumption) (by assumption)
    | exact rai _ (by unfold readF; dsimp only [DIGITS, SIMPLE]; rw [if_neg (ff (by with_reducible assumption))]; rw [if_neg (ff (by with_reducible assumption))]; rw [if_neg (ff (by with_reducible assumption))]; rw [if_neg (ff (by with_reducible assumption))]; rw [if_neg (ff (by with_reducible assumption))]; rw [if_pos (by with_reducible assumption)]; first | (with_reducible assumption) | assumption) _ _ _ _ _ _ _ _ _ _ (by assumption) (by assumption) (RaisedD.sub (by assumption) (by kqd_sub))
    | exact ret _ _ (by unfold readF; dsimp only [DIGITS, SIMPLE]; rw [if_neg (ff (by with_reducible assumption))]; rw [if_neg (ff (by with_reducible assumption))]; rw [if_neg (ff (by with_reducible assumption))]; rw [if_neg (ff (by with_reducible assumption))]; rw [if_neg (ff (by with_reducible assumption))]; rw [if_neg (ff (by with_reducible assumption))]; rw [if_pos (by with_reducible assumption)]) _ [(_, _)] _ _ _ (by k_asm) (by k_asm) (.tuple (.head _) (.cons (.str _ _) (.cons (.str _ _) .nil))) (lt1 (by assumption))
    | exact rai _ (by unfold readF; dsimp only [DIGITS, SIMPLE]; rw [if_neg (ff (by with_reducible assumption))]; rw [if_neg (ff (by with_reducible assumption))]; rw [if_neg (ff (by with_reducible assumption))]; rw [if_neg (ff (by with_reducible assumption))]; rw [if_neg (ff (by with_reducible assumption))]; rw [if_neg (ff (by with_reducible assumption))]; rw [if_neg (ff (by with_reducible assumption))]) _ _ _ _ _ _ _ _ _ _ (by assumption) (by assumption) (RaisedD.sub (by assumption) (by kqd_sub))
end
end Mine
end
-- part W16
section
namespace Mine
theorem freshW16 : True := by
  w_top off
  trivial
end Mine
open PySem PySem.W PySem.Calls PyProof.Rows
set_option maxRecDepth 100000
set_option maxHeartbeats 8000000
namespace Mine
section
variable {w : World} {mean : ExcName → Option Value} {mg mb : Str → Option Value} {dp un : Nat} {gd : Option (List Code)} {cn : Str} {c1 : List (Str × NameKind)} {c2 c3 : Bool} {c4 : List (Str × Const)} {a : Addr} {ccd : Value} {cl : List (Str × Addr)} {outer : List Env} {A₀ : Around} {base h₀ : Heap} {L : Addr} {m : Str → Option Value} {s : Shared} {Q E : Value → Shared → Prop}
  {x dx : Addr} {T : Str} {p : Int} {t1 t2 t3 t4 t5 t6 t7 : Tok} {rest : List (Addr × Obj)} {signs what : Str} {begin_ : Int}

def KL : List Str := [Str.ofString "0", Str.ofString "1", Str.ofString "23456789", Str.ofString ".", Str.ofString "b", Str.ofString "x", Str.ofString "acdefABCDEF", Str.ofString "ghijklmnopqrstuvwyzGHIJKLMNOPQRSTUVWXYZ~!@$%^&*_-+=<>?/", Str.ofString "\"", Str.ofString "|", Str.ofString ":", Str.ofString "#", Str.ofString "\\"]
def colI (c : Nat) : Nat := KL.findIdx fun s => inS (one c) s
def columnF (T : Str) (p : Int) : Int := if p = T.length then 14 else colI (ch T p)
theorem column_hit {T : Str} {p : Int} {i : Nat} (hp : 0 ≤ p) (hpT : p ≤ T.length) (hne : p ≠ T.length) (hi : i < 13) (hc : ∀ j, j < i → inS (Txt.item T p) (KL.getD j Str.empty) = false) (h : inS (Txt.item T p) (KL.getD (0 + (i : Int)).toNat Str.empty) = true) : (0 : Int) + i = columnF T p := by
  have hi' : i < KL.length := hi
  rw [columnF, if_neg hne, colI]
  rw [item_is hp (by omega)] at hc h
  rw [show (0 + (i : Int)).toNat = i by omega, List.getD_eq_getElem?_getD, List.getElem?_eq_getElem hi'] at h
  rw [(List.findIdx_eq hi').mpr ⟨h, fun j hj => by
    have := hc j hj
    rw [List.getD_eq_getElem?_getD, List.getElem?_eq_getElem (by omega)] at this
    exact this⟩]
  omega
theorem column_next {x : Str} {i : Nat} (hc : ∀ j, j < i → inS x (KL.getD j Str.empty) = false) (h : inS x (KL.getD (0 + (i : Int)).toNat Str.empty) = false) : ∀ j, j < i + 1 → inS x (KL.getD j Str.empty) = false := by
  intro j hj
  rcases Nat.lt_succ_iff_lt_or_eq.mp hj with z | z
  · exact hc j z
  · rw [z]; rw [show (0 + (i : Int)).toNat = i by omega] at h; exact h
theorem column_miss {T : Str} {p : Int} (hp : 0 ≤ p) (hpT : p ≤ T.length) (hne : p ≠ T.length) (hc : ∀ j, j < 13 → inS (Txt.item T p) (KL.getD j Str.empty) = false) : (13 : Int) = columnF T p := by
  rw [columnF, if_neg hne, colI]
  rw [item_is hp (by omega)] at hc
  rw [List.findIdx_eq_length.mpr]
  · rfl
  · intro s hs
    obtain ⟨j, hj, rfl⟩ := List.getElem_of_mem hs
    have := hc j hj
    rw [List.getD_eq_getElem?_getD, List.getElem?_eq_getElem hj] at this
    exact this
theorem column_c {news : List (Addr × Obj)} :
    Below A₀ base outer h₀ → Fr h₀ L s.heap m → (heapK w.params).In h₀ → News h₀ L s.heap news → Top viewV LO mean mg mb h₀ → 0 ≤ p → p ≤ T.length → T.length ≤ 600 → dp + 3 < recursionLimit → un + 24 < cLine →
    (∀ t h' tk', Fr h₀ L h' m → News h₀ L h' news → Q (.int (columnF T p) t) { s with heap := h', toks := tk' }) →
    wpAny (model Challenge.rw_sj0097_01.row.prog w) (ktrTop dp un gd cn (fnScope c1 c2 c3 c4) L a ccd cl outer) (call (.ref 241) [.str T t5, .int p t6]) Q E s := by
  k_with_none
  k_with "subscriptTail" => (k_here; (with_reducible show wpAny _ _ (subscriptTail _ _ (Value.str _ _) (Value.int _ _)) _ _ _); (refine item_one (by omega) (by omega) (by omega) ?_))
  k_with "compareOp NotIn str str" => refine notIn_strS ?_
  k_with "compareOp In str str" => refine in_strS ?_
  k_with "exec Raise some none" => refine exRaise (C := 69) rfl ?_
  k_with "RaisedAt" => (k_here; k_dflt (refine' raisedAt ?k1z9 ?k2z9 ?k3z9 ?k4z9 ?k5z9 ?k6z9 ?_; (case k1z9 => k_asm); (case k2z9 => k_asm); (case k3z9 => k_asm); (case k4z9 => rfl); (case k5z9 => k_is); (case k6z9 => k_is)))
  k_with "leaving ref" => (k_here; k_dflt (refine' leaveD' ?k1z9 ?k2z9 ?k3z9 ?k4z9 ?k5z9 ?_; (case k1z9 => assumption); (case k2z9 => k_asm); (case k3z9 => k_asm); (case k4z9 => rfl); (case k5z9 => assumption)); intro h' R' U'; (try dsimp only))
  k_with "leaving ref" => (k_here; k_dflt (refine' leave_onD ?k1z9 ?k2z9 ?k3z9 ?k4z9 ?_; (case k3z9 => assumption); (case k1z9 => assumption); (case k4z9 => assumption); (case k2z9 => assumption)); intro h' R' U'; (try dsimp only))
  k_with "call ref" => (k_here; (with_reducible show wpAny _ _ (call (Value.ref 69) _) _ _ _); k_dflt (refine' mkSF ?k1z9 ?k2z9 ?k3z9 ?k4z9 ?k5z9 ?k6z9 ?kdz9 ?kuz9 ?_; (case k1z9 => k_asm); (case k2z9 => k_asm); (case k3z9 => k_asm); (case k4z9 => k_asm); (case k5z9 => k_asm); (case k6z9 => rfl); (case kdz9 => ktr_room); (case kuz9 => ktr_units)); intro e9 de9 te9 k9 l9 h9 tk9 F9 N9 n9; (try dsimp only))
  k_with "pyIter ref" => (rename Fr _ _ _ _ => lF; rename News _ _ _ _ => lN; rename IsRange _ _ _ _ _ _ _ _ => rg; with_unfolding_all refine' wForRange (σ := Unit) 13 (fun m _ y => m y) (fun _ => news) (fun i _ => ∀ j, j < i → inS (Txt.item T p) (KL.getD j Str.empty) = false) (()) ?kh rg ?ks ?kz lF lN ?kl ?km ?kp ?_ ?_; (case kh => rfl); (case ks => decide); (case kz => decide); (case kl => kqd_sub); (case km => exact fun _ _ => rfl); (case kp => exact fun j h => absurd h (Nat.not_lt_zero _)); (rintro i _ t h' tk own hi hc off F' N'; dsimp only at hc F' N'); rotate_left; (rintro _ u h' tk hc F' N'; dsimp only at hc F' N'); rotate_left)
  k_fill
  intro B F X N Tp hp hpT hT hd hu ret
  refine wpAny_call ?_
  k_dflt k_enter
  k_steps
  all_goals (try dsimp only [FPost])
  k_steps
  all_goals first
    | (rw [show columnF T p = 14 from if_pos (by assumption)] at ret; exact ret _ _ _ (by k_asm) (by k_asm))
    | (rw [← column_hit hp hpT (by assumption) hi hc (by assumption)] at ret; exact ret _ _ _ (by k_asm) (cb_drop (by assumption) (by kqd_sub)))
    | (rw [← column_miss hp hpT (by assumption) hc] at ret; exact ret _ _ _ (by k_asm) (by k_asm))
    | exact fEnd () (by k_asm) (by k_asm) (fun y hy => if_neg hy) (by kqd_sub) (by kqd_sub) off (column_next hc (by assumption))
    | fail
end
end Mine
end
-- part TX3
section
namespace Mine
theorem freshTX3 : True := by
  w_top off
  trivial
end Mine
open PySem PySem.W PySem.Calls PyProof.Rows
set_option maxRecDepth 100000
namespace Mine
theorem rev_idx (n : Nat) : Builtin.Str.strSliceIndices none none (-1) n = (List.range n).map fun k => n - 1 - k := by
  unfold Builtin.Str.strSliceIndices sliceRange
  simp only [show ¬ ((-1 : Int) > 0) by decide, if_false]
  have e : ((if (n : Int) - 1 > -1 then ((n : Int) - 1 - -1 - -1 - 1) / - -1 else 0) : Int).toNat = n := by
    split
    · rw [show (- -1 : Int) = 1 by decide, Int.ediv_one]; lia
    · simp; lia
  rw [e]
  refine List.map_congr_left fun k hk => ?_
  have := List.mem_range.mp hk
  lia
theorem filterMap_all {f : Nat → Option Nat} {g : Nat → Nat} : ∀ {l : List Nat}, (∀ k ∈ l, f k = some (g k)) → l.filterMap f = l.map g
  | [], _ => rfl
  | a :: l, h => by
    rw [List.filterMap_cons, h a (.head _), List.map_cons, filterMap_all fun k hk => h k (.tail _ hk)]
theorem rev_pick (l : List Nat) : ((List.range l.length).map fun k => l.length - 1 - k).filterMap (l[·]?) = l.reverse := by
  rw [filterMap_all (g := fun k => l.getD k 0), List.map_map]
  · refine List.ext_getElem (by simp) fun i h1 h2 => ?_
    have hi : i < l.length := by simpa using h2
    rw [List.getElem_map, List.getElem_range, List.getElem_reverse]
    show l.getD (l.length - 1 - i) 0 = _
    rw [List.getD_eq_getElem?_getD, List.getElem?_eq_getElem (by lia)]
    rfl
  · intro k hk
    obtain ⟨j, hj, rfl⟩ := List.mem_map.mp hk
    have := List.mem_range.mp hj
    rw [List.getD_eq_getElem?_getD, List.getElem?_eq_getElem (by lia)]
    rfl
theorem cs_rev (D : Str) (t : Tok) : cs (Txt.sliceBy D none none (-1, t)) = (cs D).reverse := by
  unfold Txt.sliceBy slicePicked
  simp only [Option.map_some, Option.map_none, Option.getD_some]
  rw [if_neg (by simp)]
  show List.filterMap (fun x => D.cps[x]?) (Builtin.Str.strSliceIndices none none (-1) D.length) = _
  rw [rev_idx]
  have h := rev_pick (cs D)
  rw [cs_length] at h
  rw [← h]
  congr 1
  funext k
  unfold cs
  rw [Array.getElem?_toList]
end Mine
end
-- part W17
section
namespace Mine
theorem freshW17 : True := by
  w_top off
  trivial
end Mine
open PySem PySem.W PySem.Calls PyProof.Rows
set_option maxRecDepth 100000
set_option maxHeartbeats 8000000
namespace Mine
section
variable {w : World} {mean : ExcName → Option Value} {mg mb : Str → Option Value} {dp un : Nat} {gd : Option (List Code)} {cn : Str} {c1 : List (Str × NameKind)} {c2 c3 : Bool} {c4 : List (Str × Const)} {a : Addr} {ccd : Value} {cl : List (Str × Addr)} {outer : List Env} {A₀ : Around} {base h₀ : Heap} {L : Addr} {m : Str → Option Value} {s : Shared} {Q E : Value → Shared → Prop}
  {x dx : Addr} {T : Str} {p : Int} {t1 t2 t3 t4 t5 t6 t7 : Tok} {rest : List (Addr × Obj)} {signs what : Str} {begin_ : Int}

theorem place_bits (x : Str) : Builtin.Int.intBits (Txt.find HEX x) ≤ 64 := intBits_le_64 (by have := fact_find HEX x; rw [show HEX.length = 22 by decide] at this; omega) (by have := fact_find HEX x; rw [show HEX.length = 22 by decide] at this; omega)
theorem place_bits6 (x : Str) : Builtin.Int.intBits (Txt.find HEX x - 6) ≤ 64 := intBits_le_64 (by have := fact_find HEX x; rw [show HEX.length = 22 by decide] at this; omega) (by have := fact_find HEX x; rw [show HEX.length = 22 by decide] at this; omega)
def placeF (c : Nat) : Int := if Txt.find HEX (one c) < 16 then Txt.find HEX (one c) else Txt.find HEX (one c) - 6
def worthS (b : Int) (l : List Nat) : Int × Int := l.foldl (fun q c => (q.1 + q.2 * placeF c, q.2 * b)) (0, 1)
def worthF (b : Int) (l : List Nat) : Int := (worthS b l.reverse).1
theorem worthN {b : Int} {l : List Nat} {i : Nat} {ch : Nat} {wv sv : Int} (h : l[i]? = some ch) (hc : (wv, sv) = worthS b (l.take i)) : worthS b (l.take (i + 1)) = (wv + sv * placeF ch, sv * b) := by
  rw [take_snoc h, worthS, List.foldl_append]
  rw [show List.foldl (fun q c => (q.1 + q.2 * placeF c, q.2 * b)) ((0 : Int), (1 : Int)) (l.take i) = (wv, sv) from hc.symm]
  rfl
theorem worthA {b : Int} {l : List Nat} {i : Nat} {ch : Nat} {wv sv : Int} (h : l[i]? = some ch) (hc : (wv, sv) = worthS b (l.take i)) (hp : Txt.find HEX (one ch) < 16) : (wv + sv * Txt.find HEX (one ch), sv * b) = worthS b (l.take (i + 1)) := by
  rw [worthN h hc, placeF, if_pos hp]
theorem worthB {b : Int} {l : List Nat} {i : Nat} {ch : Nat} {wv sv : Int} (h : l[i]? = some ch) (hc : (wv, sv) = worthS b (l.take i)) (hp : ¬ Txt.find HEX (one ch) < 16) : (wv + sv * (Txt.find HEX (one ch) - 6), sv * b) = worthS b (l.take (i + 1)) := by
  rw [worthN h hc, placeF, if_neg hp]
theorem worthE {b : Int} {D : Str} {t : Tok} {wv sv : Int} (hc : (wv, sv) = worthS b ((cs D).reverse.take (Txt.sliceBy D none none (-1, t)).length)) : wv = worthF b (cs D) := by
  rw [← cs_length, cs_rev, List.take_of_length_le (Nat.le_refl _)] at hc
  rw [worthF, ← hc]
theorem worth_c {D : Str} {b : Int} {news : List (Addr × Obj)} :
    Below A₀ base outer h₀ → Fr h₀ L s.heap m → (heapK w.params).In h₀ → News h₀ L s.heap news → Top viewV LO mean mg mb h₀ → D.length ≤ 1300 → Builtin.Int.intBits b ≤ 64 → dp + 1 < recursionLimit → un + 8 < cLine →
    (∀ t h' tk', Fr h₀ L h' m → News h₀ L h' news → Q (.int (worthF b (cs D)) t) { s with heap := h', toks := tk' }) →
    wpAny (model Challenge.rw_sj0097_01.row.prog w) (ktrTop dp un gd cn (fnScope c1 c2 c3 c4) L a ccd cl outer) (call (.ref 248) [.str D t5, .int b t6]) Q E s := by
  k_with_none
  k_with "subscriptTail" => (k_here; (with_reducible show wpAny _ _ (subscriptTail _ _ (Value.str _ _) (Value.int _ _)) _ _ _); (refine item_one (by omega) (by omega) (by omega) ?_))
  k_with "compareOp NotIn str str" => refine notIn_strS ?_
  k_with "compareOp In str str" => refine in_strS ?_
  k_with "exec Raise some none" => refine exRaise (C := 69) rfl ?_
  k_with "RaisedAt" => (k_here; k_dflt (refine' raisedAt ?k1z9 ?k2z9 ?k3z9 ?k4z9 ?k5z9 ?k6z9 ?_; (case k1z9 => k_asm); (case k2z9 => k_asm); (case k3z9 => k_asm); (case k4z9 => rfl); (case k5z9 => k_is); (case k6z9 => k_is)))
  k_with "leaving ref" => (k_here; k_dflt (refine' leaveD' ?k1z9 ?k2z9 ?k3z9 ?k4z9 ?k5z9 ?_; (case k1z9 => assumption); (case k2z9 => k_asm); (case k3z9 => k_asm); (case k4z9 => rfl); (case k5z9 => assumption)); intro h' R' U'; (try dsimp only))
  k_with "leaving ref" => (k_here; k_dflt (refine' leave_onD ?k1z9 ?k2z9 ?k3z9 ?k4z9 ?_; (case k3z9 => assumption); (case k1z9 => assumption); (case k4z9 => assumption); (case k2z9 => assumption)); intro h' R' U'; (try dsimp only))
  k_with "call ref" => (k_here; (with_reducible show wpAny _ _ (call (Value.ref 69) _) _ _ _); k_dflt (refine' mkSF ?k1z9 ?k2z9 ?k3z9 ?k4z9 ?k5z9 ?k6z9 ?kdz9 ?kuz9 ?_; (case k1z9 => k_asm); (case k2z9 => k_asm); (case k3z9 => k_asm); (case k4z9 => k_asm); (case k5z9 => k_asm); (case k6z9 => rfl); (case kdz9 => ktr_room); (case kuz9 => ktr_units)); intro e9 de9 te9 k9 l9 h9 tk9 F9 N9 n9; (try dsimp only))
  k_with "binaryOp Mult int int" => (k_here; refine mul_int ?_ (by first | exact IntMulOk.of_right (by assumption) | exact IntMulOk.of_right (place_bits _) | exact IntMulOk.of_right (place_bits6 _)))
  k_with "exec For Name Subscript cons nil" => (rename Fr _ _ _ _ => lF9; with_unfolding_all refine' For_invVF lF9 ?k1 ?k2 ?_; (case k1 => exact rfl); (case k2 => exact rfl))
  k_with "pyIter str" => (refine' wForStr (σ := Int × Tok × Int × Tok × Option Value) (fun m c y => if y = Str.ofString "worth" then some (.int c.1 c.2.1) else if y = Str.ofString "scale" then some (.int c.2.2.1 c.2.2.2.1) else if y = Str.ofString "place" then c.2.2.2.2 else m y) (fun _ => news) (fun i c => (c.1, c.2.2.1) = worthS b ((cs D).reverse.take i)) ((0, _, 1, _, none)) ?kh ?kF ?kN ?kl ?km ?kp ?_ ?_; (case kh => rfl); (case kF => k_asm); (case kN => k_asm); (case kl => kqd_sub); (case km => (intro y hy0; by_cases hy1 : y = Str.ofString "worth"; (subst hy1; rfl); by_cases hy2 : y = Str.ofString "scale"; (subst hy2; rfl); by_cases hy3 : y = Str.ofString "place"; (subst hy3; rfl); simp only [if_neg hy0, if_neg hy1, if_neg hy2, if_neg hy3])); (case kp => rfl); (rintro i ⟨wv, wt, sv, st, pl⟩ ch t h' tk own hi hch hc off F' N'; dsimp only at hc F' N'); rotate_left; (rintro ⟨wv, wt, sv, st, pl⟩ u h' tk hc F' N'; dsimp only at hc F' N'); rotate_left)
  k_fill
  intro B F X N Tp hD hb hd hu ret
  refine wpAny_call ?_
  k_dflt k_enter
  k_steps
  all_goals (try dsimp only [FPost])
  k_steps
  all_goals first
    | (refine fEnd (_, _, _, _, _) (by k_asm) (by k_asm) (by (intro y hy0; by_cases hy1 : y = Str.ofString "worth"; (subst hy1; rfl); by_cases hy2 : y = Str.ofString "scale"; (subst hy2; rfl); by_cases hy3 : y = Str.ofString "place"; (subst hy3; rfl); simp only [if_neg hy0, if_neg hy1, if_neg hy2, if_neg hy3])) (by kqd_sub) (by kqd_sub) off ?_; dsimp only; rw [cs_rev] at hch; first | exact worthA hch hc (by assumption) | exact worthB hch hc (by assumption))
    | (rw [← worthE hc] at ret; exact ret _ _ _ (by k_asm) (by k_asm))
end
end Mine
end
-- part TX4
section
namespace Mine
theorem freshTX4 : True := by
  w_top off
  trivial
end Mine
open PySem PySem.W PySem.Calls PyProof.Rows
set_option maxRecDepth 100000
namespace Mine
def DecInv (t0 b0 : Int) (i : Nat) (t b : Int) : Prop := (∃ d, 0 < d ∧ t0 = t * d ∧ b0 = b * d) ∧ 0 < b ∧ (1 ≤ i → ¬ (2 ∣ t ∧ 2 ∣ b)) ∧ (2 ≤ i → ¬ (5 ∣ t ∧ 5 ∣ b))
def PrimeAt (i : Nat) (q : Int) : Prop := (i = 0 ∧ q = 2) ∨ (i = 1 ∧ q = 5)
theorem primeAt_of {t1 t2 : Tok} {i : Nat} {v : Value} (h : (#[Value.int 2 t1, Value.int 5 t2] : Array Value)[i]? = some v) : ∃ q t, v = .int q t ∧ PrimeAt i q := by
  rcases i with _ | _ | i
  · have e : v = .int 2 t1 := by simpa using h.symm
    exact ⟨2, t1, e, .inl ⟨rfl, rfl⟩⟩
  · have e : v = .int 5 t2 := by simpa using h.symm
    exact ⟨5, t2, e, .inr ⟨rfl, rfl⟩⟩
  · simp at h
theorem PrimeAt.ne {i : Nat} {q : Int} (h : PrimeAt i q) : q ≠ 0 := by rcases h with ⟨_, rfl⟩ | ⟨_, rfl⟩ <;> decide
theorem PrimeAt.log {i : Nat} {q : Int} (h : PrimeAt i q) : q.natAbs.log2 < 9000 := by rcases h with ⟨_, rfl⟩ | ⟨_, rfl⟩ <;> decide
theorem PrimeAt.two {i : Nat} {q : Int} (h : PrimeAt i q) : 2 ≤ q := by rcases h with ⟨_, rfl⟩ | ⟨_, rfl⟩ <;> decide
theorem dec0 (t0 b0 : Int) (h : 0 < b0) : DecInv t0 b0 0 t0 b0 := ⟨⟨1, by decide, by lia, by lia⟩, h, fun h => absurd h (by decide), fun h => absurd h (by decide)⟩
theorem fmod_dvd {t q : Int} (h : t.fmod q = 0) : t = t.fdiv q * q := by
  have := Int.fmod_add_mul_fdiv t q
  rw [h, Int.zero_add, Int.mul_comm] at this
  exact this.symm
theorem decStep {t0 b0 t b q : Int} {i : Nat} (D : DecInv t0 b0 i t b) (hq : PrimeAt i q) (h1 : t.fmod q = 0) (h2 : b.fmod q = 0) : DecInv t0 b0 i (t.fdiv q) (b.fdiv q) ∧ (b.fdiv q).toNat < b.toNat := by
  obtain ⟨⟨d, hd, e1, e2⟩, hb, n2, n5⟩ := D
  have f1 := fmod_dvd h1
  have f2 := fmod_dvd h2
  have hq2 := hq.two
  have hb' : 0 < b.fdiv q := by
    rcases Int.lt_or_le 0 (b.fdiv q) with z | z
    · exact z
    · have : b.fdiv q * q ≤ 0 := Int.mul_nonpos_of_nonpos_of_nonneg z (by lia)
      lia
  have hlt : b.fdiv q < b := by
    have : b.fdiv q * 2 ≤ b.fdiv q * q := Int.mul_le_mul_of_nonneg_left hq2 (by lia)
    lia
  refine ⟨⟨⟨q * d, Int.mul_pos (by lia) hd, ?_, ?_⟩, hb', fun h => ?_, fun h => ?_⟩, by lia⟩
  · rw [← Int.mul_assoc, ← f1]; exact e1
  · rw [← Int.mul_assoc, ← f2]; exact e2
  · intro ⟨a1, a2⟩
    exact n2 h ⟨by rw [f1]; exact Int.dvd_mul_of_dvd_left a1 , by rw [f2]; exact Int.dvd_mul_of_dvd_left a2⟩
  · intro ⟨a1, a2⟩
    exact n5 h ⟨by rw [f1]; exact Int.dvd_mul_of_dvd_left a1, by rw [f2]; exact Int.dvd_mul_of_dvd_left a2⟩
theorem decOut {t0 b0 t b q : Int} {i : Nat} (D : DecInv t0 b0 i t b) (hq : PrimeAt i q) (h : ¬ (t.fmod q = 0 ∧ b.fmod q = 0)) : DecInv t0 b0 (i + 1) t b := by
  obtain ⟨e, hb, n2, n5⟩ := D
  have key : ¬ (q ∣ t ∧ q ∣ b) := fun ⟨a1, a2⟩ => h ⟨Int.fmod_eq_zero_of_dvd a1, Int.fmod_eq_zero_of_dvd a2⟩
  refine ⟨e, hb, fun _ => ?_, fun _ => ?_⟩
  · rcases hq with ⟨rfl, rfl⟩ | ⟨rfl, rfl⟩
    · exact key
    · exact n2 (by decide)
  · rcases hq with ⟨rfl, rfl⟩ | ⟨rfl, rfl⟩
    · lia
    · exact key
theorem decEnd {t0 b0 t b : Int} {k : Nat} (D : DecInv t0 b0 2 t b) (hb0 : b0 = 10 ^ k) : t = t0.fdiv (Int.gcd t0 b0) ∧ b = b0.fdiv (Int.gcd t0 b0) := by
  obtain ⟨⟨d, hd, e1, e2⟩, hb, n2, n5⟩ := D
  have n2 := n2 (by decide)
  have n5 := n5 (by decide)
  have hg : Int.gcd t b = 1 := by
    have d1 : (Int.gcd t b : Int) ∣ t := Int.gcd_dvd_left ..
    have d2 : (Int.gcd t b : Int) ∣ b := Int.gcd_dvd_right ..
    have c (p : Nat) (hp : p = 2 ∨ p = 5) : Nat.Coprime (Int.gcd t b) p := by
      have h1 : ¬ p ∣ Int.gcd t b := fun z => by
        have z' : (p : Int) ∣ (Int.gcd t b : Int) := Int.natCast_dvd_natCast.mpr z
        rcases hp with rfl | rfl
        · exact n2 ⟨Int.dvd_trans z' d1, Int.dvd_trans z' d2⟩
        · exact n5 ⟨Int.dvd_trans z' d1, Int.dvd_trans z' d2⟩
      have h2 : Nat.gcd (Int.gcd t b) p ∣ p := Nat.gcd_dvd_right ..
      have h3 : Nat.gcd (Int.gcd t b) p ∣ Int.gcd t b := Nat.gcd_dvd_left ..
      have h4 : Nat.gcd (Int.gcd t b) p ≤ p := Nat.le_of_dvd (by lia) h2
      rcases hp with rfl | rfl
      · have : Nat.gcd (Int.gcd t b) 2 = 0 ∨ Nat.gcd (Int.gcd t b) 2 = 1 ∨ Nat.gcd (Int.gcd t b) 2 = 2 := by lia
        rcases this with z | z | z
        · rw [z] at h2; exact absurd h2 (by decide)
        · exact z
        · rw [z] at h3; exact absurd h3 h1
      · have : Nat.gcd (Int.gcd t b) 5 = 0 ∨ Nat.gcd (Int.gcd t b) 5 = 1 ∨ Nat.gcd (Int.gcd t b) 5 = 2 ∨ Nat.gcd (Int.gcd t b) 5 = 3 ∨ Nat.gcd (Int.gcd t b) 5 = 4 ∨ Nat.gcd (Int.gcd t b) 5 = 5 := by lia
        rcases this with z | z | z | z | z | z
        · rw [z] at h2; exact absurd h2 (by decide)
        · exact z
        · rw [z] at h2; exact absurd h2 (by decide)
        · rw [z] at h2; exact absurd h2 (by decide)
        · rw [z] at h2; exact absurd h2 (by decide)
        · rw [z] at h3; exact absurd h3 h1
    have h10 : Nat.Coprime (Int.gcd t b) (10 ^ k) := by
      have : Nat.Coprime (Int.gcd t b) (2 * 5) := Nat.Coprime.mul_right (c 2 (.inl rfl)) (c 5 (.inr rfl))
      exact Nat.Coprime.pow_right k this
    refine Nat.Coprime.eq_one_of_dvd h10 ?_
    have : (Int.gcd t b : Int) ∣ 10 ^ k := by rw [← hb0, e2]; exact Int.dvd_mul_of_dvd_left d2
    have h := Int.natAbs_dvd_natAbs.mpr this
    rw [Int.natAbs_natCast, Int.natAbs_pow] at h
    exact h
  have hgd : Int.gcd t0 b0 = d.natAbs := by
    rw [e1, e2, Int.gcd_mul_right, hg, Nat.one_mul]
  have hdn : ((d.natAbs : Nat) : Int) = d := by lia
  rw [hgd, hdn]
  refine ⟨?_, ?_⟩
  · rw [e1, Int.mul_fdiv_cancel _ (by lia)]
  · rw [e2, Int.mul_fdiv_cancel _ (by lia)]
end Mine
end
-- part WF2
section
namespace Mine
theorem freshWF2 : True := by
  w_top off
  trivial
end Mine
open PySem PySem.W PySem.Calls PyProof.Rows
set_option maxRecDepth 100000
set_option maxHeartbeats 8000000
namespace Mine
section
variable {prog : Program} {w : World} {A : Around} {E : Value → Shared → Prop} {s : Shared} {env : Env} {h₀ : Heap} {x : Str} {body : List Stmt} {Q : Flow → Shared → Prop}
/-- a for over a tuple of the call's own, the rest of the ledger constant -/
theorem wForTup {σ : Type} {l : Addr} {items : Array Value} {nn : Nat} {m₀ : Str → Option Value} {nw : List (Addr × Obj)}
    (ms : (Str → Option Value) → σ → Str → Option Value) (P : Nat → σ → Prop) (c₀ : σ)
    (hh : A.handled = none) (F : Fr h₀ env.locals s.heap m₀) (N : News h₀ env.locals s.heap ((l, { cls := .type "tuple", data := .seq items nn }) :: nw)) (hne : ∀ p ∈ nw, p.1 ≠ l) (hm : ∀ y, y ≠ x → m₀ y = ms m₀ c₀ y) (hp : P 0 c₀)
    (turn : ∀ i c v h tk own, items[i]? = some v → P i c → OwnOff own (nw.map (·.1)) → Fr h₀ env.locals h (fun y => if y = x then some v else ms m₀ c y) → News h₀ env.locals h (nw ++ own) →
      wpAny (model prog w) A (execs body env) (FPost h₀ env.locals s x (ms m₀) (fun _ => nw) P own i Q) E { s with heap := h, toks := tk })
    (done : ∀ c u h tk, P items.size c → Fr h₀ env.locals h (fun y => if y = x then u else ms m₀ c y) → News h₀ env.locals h nw → Q .next { s with heap := h, toks := tk }) :
    wpAny (model prog w) A (pyIter (.ref l)) (fun it s₂ => LoopAtV prog w A h₀ env x body Q E it s₂) E s := by
  have hT : s.heap.IsTuple l items := ⟨_, (N _ (.head _)).1, rfl, _, rfl⟩
  refine wpAny_pyIter_tuple hT ?_
  have hlI : l ≠ s.heap.objs.size := fun e => absurd (Heap.lt_size (N _ (.head _)).1) (e ▸ Nat.lt_irrefl _)
  have hltI : ∀ p ∈ nw, p.1 ≠ s.heap.objs.size := fun p hp e => absurd (Heap.lt_size (N p (.tail _ hp)).1) (e ▸ Nat.lt_irrefl _)
  have W : Walks prog w A s.heap.objs.size [s.heap.objs.size, l] [s.heap.objs.size] items.size (fun i v => items[i]? = some v) (fun i h => h.IsTupleIter s.heap.objs.size l i ∧ h.IsTuple l items) := Walks.tuple hh _ _ hlI items
  have hLl : env.locals ≠ l := fun e => (N _ (.head _)).2.1 e.symm
  refine ⟨_, _, _, _, _, _, m₀, nw, fun i m nx => ∃ c, nx = nw ∧ P i c ∧ ∀ y, y ≠ x → m y = ms m₀ c y, rfl, W, ?_, ?_, ?_, ⟨⟨_, Heap.get?_push_size _ rfl, rfl, rfl⟩, hT.push _⟩, F.push _, (fun p hp => ⟨Heap.get?_push_of_some _ (N p (.tail _ hp)).1, (N p (.tail _ hp)).2⟩), ⟨c₀, rfl, hp, hm⟩, ?_, ?_⟩
  · intro hm
    rcases List.mem_cons.mp hm with z | hm
    · exact absurd F.ns.lt (z ▸ Nat.lt_irrefl _)
    · exact hLl (List.mem_singleton.mp hm)
  · intro b hb
    rw [List.mem_singleton.mp hb]
    exact next_is_new F
  · intro p hp hI
    exact hltI p hp (List.mem_singleton.mp hI)
  · rintro i v m₁ news₁ s₁ own ⟨hh', tk', rfl⟩ hin hP ⟨c, rfl, hc, hmc⟩ hoff hown _ hmem hst' F₁ N₁
    have hsep : OwnOff own (news₁.map (·.1)) := by
      intro p hp b hb e
      obtain ⟨q, hq, rfl⟩ := List.mem_map.mp hb
      rcases List.mem_cons.mp (hown p hp) with z | z
      · exact hltI q hq (by rw [← z]; exact e.symm)
      · exact hne q hq (by rw [← List.mem_singleton.mp z]; exact e.symm)
    have N₂ : News h₀ env.locals hh' (news₁ ++ own) := fun p hp => N₁ p ((List.mem_append.mp hp).elim (fun h => List.mem_append.mpr (.inr h)) fun h => List.mem_append.mpr (.inl h))
    have e : (fun y => if y = x then some v else m₁ y) = (fun y => if y = x then some v else ms m₀ c y) := funext fun y => by
      by_cases hy : y = x
      · rw [if_pos hy, if_pos hy]
      · rw [if_neg hy, if_neg hy, hmc y hy]
    rw [e] at F₁
    refine wpAny_mono (turn i c v hh' tk' own hP hc hsep F₁ N₂) (fun f s₂ p => ?_) fun _ _ e => e
    have fin : FEnd h₀ env.locals s x (ms m₀) (fun _ => news₁) P own i s₂ → LoopStepU h₀ env.locals [s.heap.objs.size] own (fun m nx => ∃ c, nx = news₁ ∧ P (i + 1) c ∧ ∀ y, y ≠ x → m y = ms m₀ c y) { s with heap := hh', toks := tk' } .next s₂ := by
      rintro ⟨c', h', tk, m', news', rfl, F', N', e1, e2, e3, e4, e5⟩
      exact ⟨rfl, h', tk, m', news₁, rfl, F', fun p hp => N' p ((List.mem_append.mp hp).elim (e3 p) (e2 p)), fun p hp hq => hltI p hp (List.mem_singleton.mp hq), c', rfl, e5, e1⟩
    cases f with
    | ret v => exact .ret p
    | brk => exact .brk p
    | next => exact .next (fin p)
    | cont => exact .cont (fin p)
  · rintro h' tk m' news' F' N' _ ⟨c, rfl, hc, hmc⟩
    have e : m' = (fun y => if y = x then m' x else ms m₀ c y) := funext fun y => by
      by_cases hy : y = x
      · rw [if_pos hy, hy]
      · rw [if_neg hy, hmc y hy]
    rw [e] at F'
    exact done c _ h' tk hc F' N'
end
end Mine
end
-- part W18
section
namespace Mine
theorem freshW18 : True := by
  w_top off
  trivial
end Mine
open PySem PySem.W PySem.Calls PyProof.Rows
set_option maxRecDepth 100000
set_option maxHeartbeats 8000000
namespace Mine
section
variable {w : World} {mean : ExcName → Option Value} {mg mb : Str → Option Value} {dp un : Nat} {gd : Option (List Code)} {cn : Str} {c1 : List (Str × NameKind)} {c2 c3 : Bool} {c4 : List (Str × Const)} {a : Addr} {ccd : Value} {cl : List (Str × Addr)} {outer : List Env} {A₀ : Around} {base h₀ : Heap} {L : Addr} {m : Str → Option Value} {s : Shared} {Q E : Value → Shared → Prop}
  {x dx : Addr} {T : Str} {p : Int} {t1 t2 t3 t4 t5 t6 t7 : Tok} {rest : List (Addr × Obj)} {signs what : Str} {begin_ : Int}

theorem find_bound (x : Str) (c : Nat) : -1 ≤ Txt.find x (one c) ∧ Txt.find x (one c) + 1 ≤ x.length := by
  rw [find_is_find3]
  rcases StrLaws.find3_spec x c 0 with ⟨h1, _⟩ | ⟨k, h1, h2, h3, _⟩
  · unfold one; rw [h1]; lia
  · unfold one; rw [h1]; lia
def topF (kept : Str) : Int := worthF 10 (cs (Txt.slice kept none (some (Txt.find kept (Str.ofString "."))) ++ Txt.slice kept (some (Txt.find kept (Str.ofString ".") + 1)) none))
def botF (kept : Str) : Int := 10 ^ ((kept.length : Int) - Txt.find kept (Str.ofString ".") - 1).toNat
theorem bot_pos (kept : Str) : 0 < botF kept := Int.pow_pos (by decide)
def madeF (st kept : Str) : Dat :=
  if st == Str.ofString "Y" then .tuple [.str (Str.ofString "sym"), .str kept] else
  if st == Str.ofString "E" then (if RES.any (fun x => x == kept) then .tuple [.str (Str.ofString "sym"), .str (Str.ofString "|" ++ kept ++ Str.ofString "|")] else .tuple [.str (Str.ofString "sym"), .str kept]) else
  if st == Str.ofString "Q" then .tuple [.str (Str.ofString "str"), .str kept] else
  if st == Str.ofString "J" then .tuple [.str (Str.ofString "key"), .str kept] else
  if st == Str.ofString "I" then .tuple [.str (Str.ofString "bits"), .int (worthF 2 (cs kept)), .int kept.length] else
  if st == Str.ofString "H" then .tuple [.str (Str.ofString "bits"), .int (worthF 16 (cs kept)), .int (4 * kept.length)] else
  if st != Str.ofString "D" then .tuple [.str (Str.ofString "num"), .int (worthF 10 (cs kept))] else
  .tuple [.str (Str.ofString "dec"), .tuple [.int ((topF kept).fdiv (Int.gcd (topF kept) (botF kept))), .int ((botF kept).fdiv (Int.gcd (topF kept) (botF kept)))]]
theorem madeD {st kept : Str} {c e : Int} (h1 : (st == Str.ofString "Y") = false) (h2 : (st == Str.ofString "E") = false) (h3 : (st == Str.ofString "Q") = false) (h4 : (st == Str.ofString "J") = false) (h5 : (st == Str.ofString "I") = false) (h6 : (st == Str.ofString "H") = false) (h7 : (st != Str.ofString "D") = false) (hc : DecInv (topF kept) (botF kept) 2 c e) : madeF st kept = .tuple [.str (Str.ofString "dec"), .tuple [.int c, .int e]] := by
  obtain ⟨e1, e2⟩ := decEnd hc rfl
  unfold madeF
  rw [if_neg (ff h1), if_neg (ff h2), if_neg (ff h3), if_neg (ff h4), if_neg (ff h5), if_neg (ff h6), if_neg (ff h7), ← e1, ← e2]
theorem ltD {r1 r2 : Addr} {o1 o2 : Obj} {l : List (Addr × Obj)} (h1 : r2 < r1 ∧ AllLt r1 l) (h2 : ∀ p ∈ l, p.1 < r2) : ∀ q ∈ [(r1, o1), (r2, o2)], ∀ b ∈ l, b.1 < q.1 := by
  intro q hq b hb
  rcases List.mem_cons.mp hq with rfl | hq
  · exact lt_all h1.2 b hb
  · obtain rfl := List.mem_singleton.mp hq
    exact h2 b hb
theorem ne_of_lt {l : Addr} {nw : List (Addr × Obj)} (h : ∀ p ∈ nw, p.1 < l) : ∀ p ∈ nw, p.1 ≠ l := fun p hp e => absurd (h p hp) (by rw [e]; exact Nat.lt_irrefl _)
theorem newsDrop2 {h' : Heap} {q a : Addr × Obj} {l : List (Addr × Obj)} (N : News h₀ L h' (q :: a :: l)) : News h₀ L h' (q :: l) := fun r hr => N r (by
  rcases List.mem_cons.mp hr with rfl | hr
  · exact .head _
  · exact .tail _ (.tail _ hr))
theorem made_c {st kept : Str} {news : List (Addr × Obj)} :
    Below A₀ base outer h₀ → Fr h₀ L s.heap m → (heapK w.params).In h₀ → News h₀ L s.heap news → Top viewV LO mean mg mb h₀ → kept.length ≤ 600 → dp + 3 < recursionLimit → un + 24 < cLine →
    (∀ d, madeF st kept = d → ∀ val tl h' tk', Fr h₀ L h' m → News h₀ L h' (tl ++ news) → DatIn tl val d → (∀ r ∈ tl, ∀ b ∈ news, b.1 < r.1) → Q val { s with heap := h', toks := tk' }) →
    wpAny (model Challenge.rw_sj0097_01.row.prog w) (ktrTop dp un gd cn (fnScope c1 c2 c3 c4) L a ccd cl outer) (call (.ref 255) [.str st t5, .str kept t6]) Q E s := by
  k_with_none
  k_with "subscriptTail" => (k_here; (with_reducible show wpAny _ _ (subscriptTail _ _ (Value.str _ _) (Value.int _ _)) _ _ _); (refine item_one (by lia) (by lia) (by lia) ?_))
  k_with "compareOp NotIn str str" => refine notIn_strS ?_
  k_with "compareOp In str str" => refine in_strS ?_
  k_with "exec Raise some none" => refine exRaise (C := 69) rfl ?_
  k_with "RaisedAt" => (k_here; k_dflt (refine' raisedAt ?k1z9 ?k2z9 ?k3z9 ?k4z9 ?k5z9 ?k6z9 ?_; (case k1z9 => k_asm); (case k2z9 => k_asm); (case k3z9 => k_asm); (case k4z9 => rfl); (case k5z9 => k_is); (case k6z9 => k_is)))
  k_with "leaving ref" => (k_here; k_dflt (refine' leaveD' ?k1z9 ?k2z9 ?k3z9 ?k4z9 ?k5z9 ?_; (case k1z9 => assumption); (case k2z9 => k_asm); (case k3z9 => k_asm); (case k4z9 => rfl); (case k5z9 => assumption)); intro h' R' U'; (try dsimp only))
  k_with "leaving ref" => (k_here; k_dflt (refine' leave_onD ?k1z9 ?k2z9 ?k3z9 ?k4z9 ?_; (case k3z9 => assumption); (case k1z9 => assumption); (case k4z9 => assumption); (case k2z9 => assumption)); intro h' R' U'; (try dsimp only))
  k_with "call ref" => (k_here; (with_reducible show wpAny _ _ (call (Value.ref 69) _) _ _ _); k_dflt (refine' mkSF ?k1z9 ?k2z9 ?k3z9 ?k4z9 ?k5z9 ?k6z9 ?kdz9 ?kuz9 ?_; (case k1z9 => k_asm); (case k2z9 => k_asm); (case k3z9 => k_asm); (case k4z9 => k_asm); (case k5z9 => k_asm); (case k6z9 => rfl); (case kdz9 => ktr_room); (case kuz9 => ktr_units)); intro e9 de9 te9 k9 l9 h9 tk9 F9 N9 n9; (try dsimp only))
  k_with "call ref" => (k_here; (with_reducible show wpAny _ _ (call (Value.ref 248) _) _ _ _); k_dflt (refine' worth_c ?k1z9 ?k2z9 ?k3z9 ?k4z9 ?k5z9 ?k6z9 ?k7z9 ?kdz9 ?kuz9 ?_; (case k1z9 => k_asm); (case k2z9 => k_asm); (case k3z9 => k_asm); (case k4z9 => k_asm); (case k5z9 => k_asm); (case k6z9 => first | lia | (rw [Str.length_append]; lia)); (case k7z9 => decide); (case kdz9 => ktr_room); (case kuz9 => ktr_units)); intro t9 h9 tk9 F9 N9; (try dsimp only))
  k_with "binaryOp Pow int int" => (k_here; refine pow_int_small (by lia) (by lia) (by decide) ?_)
  k_with "binaryOp FloorDiv int int" => (k_here; refine floordiv_int (by assumption) ?_ (Or.inl (PyProof.noPylong_of_log2 (by assumption))))
  k_with "binaryOp Mod int int" => (k_here; refine mod_int' (by assumption) ?_)
  k_with "exec For Name Tuple cons nil" => (k_here; (rename Fr _ _ _ _ => lF9); with_unfolding_all refine' For_invVF lF9 ?k1z9 ?k2z9 ?_; (case k1z9 => exact rfl); (case k2z9 => exact rfl))
  
  k_with "pyIter ref" => ((with_unfolding_all (refine' wForTup (σ := Int × Tok × Int × Tok) (fun m c y => if y = Str.ofString "top" then some (.int c.1 c.2.1) else if y = Str.ofString "bottom" then some (.int c.2.2.1 c.2.2.2) else m y) (fun i c => DecInv (topF kept) (botF kept) i c.1 c.2.2.1) (topF kept, _, botF kept, _) ?kh ?kF ?kN ?ke ?km ?kp ?_ ?_; (case kh => with_unfolding_all rfl); (case kF => with_unfolding_all assumption); (case kN => with_unfolding_all exact newsDrop2 (by assumption)); (case ke => with_unfolding_all exact ne_of_lt (lt_all (And.right (by assumption)))); (case km => (intro y hy0; by_cases hy1 : y = Str.ofString "top"; (subst hy1; rfl); by_cases hy2 : y = Str.ofString "bottom"; (subst hy2; rfl); simp only [if_neg hy0, if_neg hy1, if_neg hy2])); (case kp => exact dec0 _ _ (bot_pos kept)))); (rintro i ⟨c, ct, e, et⟩ v h' tk own hv hc off F' N'; dsimp only at hc F' N'; obtain ⟨q, tq, rfl, hq⟩ := primeAt_of hv; (have hq0 := hq.ne); (have hq1 := hq.log)); rotate_left; (rintro ⟨c, ct, e, et⟩ u h' tk hc F' N'; dsimp only at hc F' N'); rotate_left)
  k_with "exec While BoolOp cons nil" => (refine' wWhileM (σ := Int × Tok × Int × Tok) (fun m c y => if y = Str.ofString "top" then some (.int c.1 c.2.1) else if y = Str.ofString "bottom" then some (.int c.2.2.1 c.2.2.2) else m y) (fun _ => news ++ own) (fun c => DecInv (topF kept) (botF kept) i c.1 c.2.2.1) (fun c => c.2.2.1.toNat) (c, ct, e, et) ?kF ?kN ?km ?kl ?kp ?_; (case kF => k_asm); (case kN => k_asm); (case km => (intro y; by_cases hy1 : y = Str.ofString "top"; (subst hy1; rfl); by_cases hy2 : y = Str.ofString "bottom"; (subst hy2; rfl); simp only [if_neg hy1, if_neg hy2])); (case kl => kqd_sub); (case kp => exact hc); (rintro ⟨f, ft, g, gt⟩ h' tk hf F' N'; dsimp only at hf F' N'))
  k_fill
  intro B F X N Tp hk hd hu ret
  have fb := find_bound kept 46
  rw [show one 46 = Str.ofString "." by decide] at fb
  refine wpAny_call ?_
  k_dflt k_enter
  k_steps
  all_goals (try dsimp only [WPost, FPost])
  k_steps
  all_goals first
    | exact ret _ (by unfold madeF; (try dsimp only); rw [if_pos (by with_reducible assumption)]) _ [(_, _)] _ _ (by k_asm) (by k_asm) (.tuple (.head _) (.cons (.str _ _) (.cons (.str _ _) .nil))) (by first | exact lt_one' (by assumption) | exact lt_one (by assumption))
    | exact ret _ (by unfold madeF; (try dsimp only); rw [if_neg (ff (by with_reducible assumption))]; rw [if_pos (by with_reducible assumption)]; rw [if_pos (by assumption)]) _ [(_, _)] _ _ (by k_asm) (newsDrop2 (by k_asm)) (.tuple (.head _) (.cons (.str _ _) (.cons (.str _ _) .nil))) (lt_one (And.right (by assumption)))
    | exact ret _ (by unfold madeF; (try dsimp only); rw [if_neg (ff (by with_reducible assumption))]; rw [if_pos (by with_reducible assumption)]; rw [if_neg (ff (by assumption))]) _ [(_, _)] _ _ (by k_asm) (newsDrop2 (by k_asm)) (.tuple (.head _) (.cons (.str _ _) (.cons (.str _ _) .nil))) (lt_one (And.right (by assumption)))
    | exact ret _ (by unfold madeF; (try dsimp only); rw [if_neg (ff (by with_reducible assumption))]; rw [if_neg (ff (by with_reducible assumption))]; rw [if_pos (by with_reducible assumption)]) _ [(_, _)] _ _ (by k_asm) (by k_asm) (.tuple (.head _) (.cons (.str _ _) (.cons (.str _ _) .nil))) (by first | exact lt_one' (by assumption) | exact lt_one (by assumption))
    | exact ret _ (by unfold madeF; (try dsimp only); rw [if_neg (ff (by with_reducible assumption))]; rw [if_neg (ff (by with_reducible assumption))]; rw [if_neg (ff (by with_reducible assumption))]; rw [if_pos (by with_reducible assumption)]) _ [(_, _)] _ _ (by k_asm) (by k_asm) (.tuple (.head _) (.cons (.str _ _) (.cons (.str _ _) .nil))) (by first | exact lt_one' (by assumption) | exact lt_one (by assumption))
    | exact ret _ (by unfold madeF; (try dsimp only); rw [if_neg (ff (by with_reducible assumption))]; rw [if_neg (ff (by with_reducible assumption))]; rw [if_neg (ff (by with_reducible assumption))]; rw [if_neg (ff (by with_reducible assumption))]; rw [if_pos (by with_reducible assumption)]) _ [(_, _)] _ _ (by k_asm) (by k_asm) (.tuple (.head _) (.cons (.str _ _) (.cons (.int _ _) (.cons (.int _ _) .nil)))) (by first | exact lt_one' (by assumption) | exact lt_one (by assumption))
    | exact ret _ (by unfold madeF; (try dsimp only); rw [if_neg (ff (by with_reducible assumption))]; rw [if_neg (ff (by with_reducible assumption))]; rw [if_neg (ff (by with_reducible assumption))]; rw [if_neg (ff (by with_reducible assumption))]; rw [if_neg (ff (by with_reducible assumption))]; rw [if_pos (by with_reducible assumption)]) _ [(_, _)] _ _ (by k_asm) (by k_asm) (.tuple (.head _) (.cons (.str _ _) (.cons (.int _ _) (.cons (.int _ _) .nil)))) (by first | exact lt_one' (by assumption) | exact lt_one (by assumption))
    | exact ret _ (by unfold madeF; (try dsimp only); rw [if_neg (ff (by with_reducible assumption))]; rw [if_neg (ff (by with_reducible assumption))]; rw [if_neg (ff (by with_reducible assumption))]; rw [if_neg (ff (by with_reducible assumption))]; rw [if_neg (ff (by with_reducible assumption))]; rw [if_neg (ff (by with_reducible assumption))]; rw [if_pos (by with_reducible assumption)]) _ [(_, _)] _ _ (by k_asm) (by k_asm) (.tuple (.head _) (.cons (.str _ _) (.cons (.int _ _) .nil))) (by first | exact lt_one' (by assumption) | exact lt_one (by assumption))
    | exact ret _ (madeD (by with_reducible assumption) (by with_reducible assumption) (by with_reducible assumption) (by with_reducible assumption) (by with_reducible assumption) (by with_reducible assumption) (by with_reducible assumption) hc) _ [(_, _), (_, _)] _ _ (by k_asm) (by k_asm) (.tuple (.head _) (.cons (.str _ _) (.cons (.tuple (.tail _ (.head _)) (.cons (.int _ _) (.cons (.int _ _) .nil))) .nil))) (ltD (by assumption) (by assumption))
    | (refine wEnd (_, _, _, _) (by k_asm) (by k_asm) (by (intro y; by_cases hy1 : y = Str.ofString "top"; (subst hy1; rfl); by_cases hy2 : y = Str.ofString "bottom"; (subst hy2; rfl); simp only [if_neg hy1, if_neg hy2])) (by kqd_sub) ?_ ?_; exact (decStep hf hq (by with_reducible assumption) (by with_reducible assumption)).1; exact (decStep hf hq (by with_reducible assumption) (by with_reducible assumption)).2)
    | (refine fEnd (f, ft, g, gt) (by k_asm) (by k_asm) (by (intro y hy0; by_cases hy1 : y = Str.ofString "top"; (subst hy1; rfl); by_cases hy2 : y = Str.ofString "bottom"; (subst hy2; rfl); simp only [if_neg hy0, if_neg hy1, if_neg hy2])) (by kqd_sub) (by kqd_sub) off ?_; first | exact decOut hf hq (fun z => absurd z.1 (by with_reducible assumption)) | exact decOut hf hq (fun z => absurd z.2 (by with_reducible assumption)))
end
end Mine
end
-- part W20
section
namespace Mine
theorem freshW20 : True := by
  w_top off
  trivial
end Mine
open PySem PySem.W PySem.Calls PyProof.Rows
set_option maxRecDepth 100000
set_option maxHeartbeats 8000000
namespace Mine
section
variable {w : World} {mean : ExcName → Option Value} {mg mb : Str → Option Value} {dp un : Nat} {gd : Option (List Code)} {cn : Str} {c1 : List (Str × NameKind)} {c2 c3 : Bool} {c4 : List (Str × Const)} {a : Addr} {ccd : Value} {cl : List (Str × Addr)} {outer : List Env} {A₀ : Around} {base h₀ : Heap} {L : Addr} {m : Str → Option Value} {s : Shared} {Q E : Value → Shared → Prop}
  {x dx : Addr} {T : Str} {p : Int} {t1 t2 t3 t4 t5 t6 t7 : Tok} {rest : List (Addr × Obj)} {signs what : Str} {begin_ : Int}

theorem pA {T : Str} {p R : Int} {i : Nat} {c : Bool} (hp : 0 ≤ p) (hi : i < (T.length - p).toNat) (hc : pastT T c (p + i) = R) (h : c = true) : pastT T (!inS (Txt.item T (p + i)) (Str.ofString "\n\r")) (p + (i + 1 : Nat)) = R := by
  subst h
  rw [← hc, item_is (by lia) (by lia), inS_one]
  unfold pastT
  rw [dr_cons (c := p + i) (by lia) (by lia)]
  have e : (decide (ch T (p + i) ∈ cs (Str.ofString "\n\r"))) = !decide (ch T (p + i) ≠ 10 ∧ ch T (p + i) ≠ 13) := by
    rw [show cs (Str.ofString "\n\r") = [10, 13] by decide]
    by_cases h1 : ch T (p + i) = 10 <;> by_cases h2 : ch T (p + i) = 13 <;> simp [h1, h2]
  rw [e, Bool.not_not]
  simp only [pastL]
  rw [show p + ((i + 1 : Nat) : Int) = p + i + 1 by lia]
  lia
theorem item_semi {T : Str} {q : Int} (h0 : 0 ≤ q) (h1 : q < T.length) (h : (Txt.item T q == Str.ofString ";") = true) : ch T q = 59 := by rw [item_is h0 h1] at h; exact semi_is h
theorem item_nosemi {T : Str} {q : Int} (h0 : 0 ≤ q) (h1 : q < T.length) (h : (Txt.item T q == Str.ofString ";") = false) : ch T q ≠ 59 := by rw [item_is h0 h1] at h; exact semi_no h
theorem pB {T : Str} {p R : Int} {i : Nat} {c : Bool} (hp : 0 ≤ p) (hi : i < (T.length - p).toNat) (hc : pastT T c (p + i) = R) (h : c = false) (h2 : (Txt.item T (p + i) == Str.ofString ";") = true) : pastT T true (p + (i + 1 : Nat)) = R := by
  subst h
  have e := item_semi (by lia) (by lia) h2
  rw [← hc, past_semi (by lia) (by lia) e, past_in (c := p + i) (by lia) (by lia) (by lia)]
  rw [show p + ((i + 1 : Nat) : Int) = p + i + 1 by lia]
theorem pC {T : Str} {p R : Int} {i : Nat} {c : Bool} (hp : 0 ≤ p) (hi : i < (T.length - p).toNat) (hc : pastT T c (p + i) = R) (h : c = false) (h2 : (Txt.item T (p + i) == Str.ofString ";") = false) (h3 : inS (Txt.item T (p + i)) (Str.ofString " \t\r\n") = true) : pastT T c (p + (i + 1 : Nat)) = R := by
  subst h
  have e := item_nosemi (by lia) (by lia) h2
  rw [item_is (by lia) (by lia)] at h3
  rw [← hc, past_blank (by lia) (by lia) (in_past h3) e]
  rw [show p + ((i + 1 : Nat) : Int) = p + i + 1 by lia]
theorem pD {T : Str} {p R : Int} {i : Nat} {c : Bool} (hp : 0 ≤ p) (hi : i < (T.length - p).toNat) (hc : pastT T c (p + i) = R) (h : c = false) (h2 : (Txt.item T (p + i) == Str.ofString ";") = false) (h3 : inS (Txt.item T (p + i)) (Str.ofString " \t\r\n") = false) : p + i = R := by
  subst h
  have e := item_nosemi (by lia) (by lia) h2
  rw [item_is (by lia) (by lia)] at h3
  rw [← hc]; exact (past_here (by lia) (by lia) (notIn_past h3) e).symm
theorem pE {T : Str} {p R : Int} {c : Bool} (hp : 0 ≤ p) (hpT : p ≤ T.length) (hc : pastT T c (p + (T.length - p).toNat) = R) : (T.length : Int) = R := by
  rw [← hc, past_end (by lia)]; lia
theorem past_c {news : List (Addr × Obj)} :
    Below A₀ base outer h₀ → Fr h₀ L s.heap m → (heapK w.params).In h₀ → News h₀ L s.heap news → Top viewV LO mean mg mb h₀ → 0 ≤ p → p ≤ T.length → T.length ≤ 600 → dp + 3 < recursionLimit → un + 24 < cLine →
    (∀ t h' tk', Fr h₀ L h' m → News h₀ L h' news → Q (.int (pastT T false p) t) { s with heap := h', toks := tk' }) →
    wpAny (model Challenge.rw_sj0097_01.row.prog w) (ktrTop dp un gd cn (fnScope c1 c2 c3 c4) L a ccd cl outer) (call (.ref 269) [.str T t5, .int p t6]) Q E s := by
  k_with_none
  k_with "subscriptTail" => (k_here; (with_reducible show wpAny _ _ (subscriptTail _ _ (Value.str _ _) (Value.int _ _)) _ _ _); (refine item_one (by lia) (by lia) (by lia) ?_))
  k_with "compareOp NotIn str str" => refine notIn_strS ?_
  k_with "compareOp In str str" => refine in_strS ?_
  k_with "exec Raise some none" => refine exRaise (C := 69) rfl ?_
  k_with "RaisedAt" => (k_here; k_dflt (refine' raisedAt ?k1z9 ?k2z9 ?k3z9 ?k4z9 ?k5z9 ?k6z9 ?_; (case k1z9 => k_asm); (case k2z9 => k_asm); (case k3z9 => k_asm); (case k4z9 => rfl); (case k5z9 => k_is); (case k6z9 => k_is)))
  k_with "leaving ref" => (k_here; k_dflt (refine' leaveD' ?k1z9 ?k2z9 ?k3z9 ?k4z9 ?k5z9 ?_; (case k1z9 => assumption); (case k2z9 => k_asm); (case k3z9 => k_asm); (case k4z9 => rfl); (case k5z9 => assumption)); intro h' R' U'; (try dsimp only))
  k_with "leaving ref" => (k_here; k_dflt (refine' leave_onD ?k1z9 ?k2z9 ?k3z9 ?k4z9 ?_; (case k3z9 => assumption); (case k1z9 => assumption); (case k4z9 => assumption); (case k2z9 => assumption)); intro h' R' U'; (try dsimp only))
  k_with "call ref" => (k_here; (with_reducible show wpAny _ _ (call (Value.ref 69) _) _ _ _); k_dflt (refine' mkSF ?k1z9 ?k2z9 ?k3z9 ?k4z9 ?k5z9 ?k6z9 ?kdz9 ?kuz9 ?_; (case k1z9 => k_asm); (case k2z9 => k_asm); (case k3z9 => k_asm); (case k4z9 => k_asm); (case k5z9 => k_asm); (case k6z9 => rfl); (case kdz9 => ktr_room); (case kuz9 => ktr_units)); intro e9 de9 te9 k9 l9 h9 tk9 F9 N9 n9; (try dsimp only))
  k_with "pyIter ref" => (rename Fr _ _ _ _ => lF; rename News _ _ _ _ => lN; rename IsRange _ _ _ _ _ _ _ _ => rg; with_unfolding_all refine' wForRange (σ := Bool × Option Value) (T.length - p).toNat (fun m c y => if y = Str.ofString "is_remark" then some (.bool c.1) else if y = Str.ofString "sign" then c.2 else m y) (fun _ => news) (fun i c => pastT T c.1 (p + i) = pastT T false p) ((false, none)) ?kh rg ?ks ?kz lF lN ?kl ?km ?kp ?_ ?_; (case kh => rfl); (case ks => exact small_one (by lia) (by lia) (by lia) (by lia)); (case kz => exact rangeSize_nat _ _); (case kl => kqd_sub); (case km => (intro y hy0; by_cases hy1 : y = Str.ofString "is_remark"; (subst hy1; rfl); by_cases hy2 : y = Str.ofString "sign"; (subst hy2; rfl); simp only [if_neg hy0, if_neg hy1, if_neg hy2])); (case kp => (show pastT T false (p + (0 : Nat)) = pastT T false p; rw [show p + ((0 : Nat) : Int) = p by lia])); (rintro i ⟨c, sg⟩ t h' tk own hi hc off F' N'; dsimp only at hc F' N'); rotate_left; (rintro ⟨c, sg⟩ u h' tk hc F' N'; dsimp only at hc F' N'); rotate_left)
  k_fill
  intro B F X N Tp hp hpT hT hd hu ret
  refine wpAny_call ?_
  k_dflt k_enter
  k_steps
  all_goals (try dsimp only [FPost])
  k_steps
  all_goals first
    | (refine fEnd (_, _) (by k_asm) (by k_asm) (by (intro y hy0; by_cases hy1 : y = Str.ofString "is_remark"; (subst hy1; rfl); by_cases hy2 : y = Str.ofString "sign"; (subst hy2; rfl); simp only [if_neg hy0, if_neg hy1, if_neg hy2])) (by kqd_sub) (by kqd_sub) off ?_; first | exact pA hp hi hc (by assumption) | exact pB hp hi hc (by assumption) (by assumption) | exact pC hp hi hc (by assumption) (by assumption) (by assumption))
    | (rw [← pD hp hi hc (by assumption) (by assumption) (by assumption)] at ret; exact ret _ _ _ (by k_asm) (cb_drop (by assumption) (by kqd_sub)))
    | (rw [← pE hp hpT hc] at ret; exact ret _ _ _ (by k_asm) (by k_asm))
    | skip
end
end Mine
end
-- part TD
section
namespace Mine
theorem freshTD : True := by
  w_top off
  trivial
end Mine
open PySem PySem.W PySem.Calls PyProof.Rows Builtin
set_option maxRecDepth 100000
set_option maxHeartbeats 8000000
namespace Mine
/-- a dict's pairs of texts -/
def TabOf : List (Str × Value) → List (Str × Str) → Prop
  | [], [] => True
  | (k, v) :: r, (k', x) :: r' => k = k' ∧ (∃ t, v = .str x t) ∧ TabOf r r'
  | _, _ => False
def StrGives (x : Str) (p : Sem Value) : Prop := ∀ (M : Model) (A : Around) (E : Value → Shared → Prop) (s : Shared) (Q : Value → Shared → Prop), Q (.str x s.toks) { s with toks := s.toks + 1 } → wpAny M A p Q E s
def StrPairs : List (Sem Value × Sem Value) → List (Str × Str) → Prop
  | [], [] => True
  | (p, q) :: r, (k, x) :: r' => StrGives k p ∧ StrGives x q ∧ StrPairs r r'
  | _, _ => False
theorem storeLong {prog : Program} {w : World} {A : Around} {E : Value → Shared → Prop} {d : Addr} : ∀ (ps : List (Sem Value × Sem Value)) (tab : List (Str × Str)) (acc : List (Str × Value)) (s : Shared) (Q : PUnit → Shared → Prop), StrPairs ps tab → s.heap.DictOf (PySem.strKind prog w) d acc → acc.length + tab.length ≤ 100 →
    (∀ kvs h' tk, TabOf kvs tab → h'.DictOf (PySem.strKind prog w) d (merged acc kvs) → Heap.SameBut d s.heap h' → Q PUnit.unit { s with heap := h', toks := tk }) →
    wpAny (model prog w) A (forIn ps PUnit.unit fun (x : Sem Value × Sem Value) (_ : PUnit) => (do let kv ← x.1; let vv ← holding [kv] x.2; holding [kv, vv] (dictSet d kv vv); pure (ForInStep.yield PUnit.unit) : Sem (ForInStep PUnit))) Q E s
  | [], [], acc, s, Q, _, hm, _, hQ => by
    rw [List.forIn_nil]
    exact wpAny_pure (hQ [] s.heap s.toks trivial (by simpa [merged] using hm) (Heap.SameBut.refl _ _))
  | (p, q) :: ps, (k, x) :: tab, acc, s, Q, hc, hm, hsz, hQ => by
    obtain ⟨h1, h2, hc'⟩ := hc
    rw [List.length_cons] at hsz
    rw [List.forIn_cons]
    refine _root_.PySem.wpAny_bind (_root_.PySem.wpAny_bind (h1 _ _ _ _ _ ?_))
    refine _root_.PySem.wpAny_bind (wpAny_holding (h2 _ _ _ _ _ ?_))
    refine _root_.PySem.wpAny_bind (wpAny_holding (wpAny_dictSet_pairs (knd := PySem.strKind prog w) (hsz := by rw [sizeLine_eq]; omega) (strKind_is _ _ _ _) hm fun h₁ hm₁ hs₁ => wpAny_pure ?_))
    refine storeLong ps tab (stored acc k (.str x (s.toks + 1))) _ Q hc' hm₁ (by have e := stored_length_le acc k (.str x (s.toks + 1)); omega) fun kvs h' tk ht hm' hs' => ?_
    exact hQ ((k, .str x (s.toks + 1)) :: kvs) h' tk ⟨rfl, ⟨_, rfl⟩, ht⟩ (by simpa [merged] using hm') (hs₁.trans hs')
  | [], _ :: _, _, _, _, hc, _, _, _ => hc.elim
  | _ :: _, [], _, _, _, hc, _, _, _ => hc.elim

theorem mergeOne {prog : Program} {w : World} {A : Around} {E : Value → Shared → Prop} {s : Shared} {d a : Addr} {acc : List (Str × Value)} {k : Str} {v : Value} {Q : Unit → Shared → Prop}
    (hda : d ≠ a) (haS : (a == sysModules) = false) (hd : s.heap.DictOf (PySem.strKind prog w) d acc) (hacc : acc ≠ []) (ha : s.heap.DictOf (PySem.strKind prog w) a [(k, v)]) (hnew : k ∉ acc.map (·.1)) (hsz : acc.length ≤ 100)
    (hQ : ∀ h', h'.DictOf (PySem.strKind prog w) d (acc ++ [(k, v)]) → Heap.SameBut d s.heap h' → Q () { s with heap := h' }) : wpAny (model prog w) A (mergeMapping d (.ref a) false) Q E s := by
  obtain ⟨od, esd, epd, hod, hcd, hdd, hkd, hpd, hnd⟩ := hd
  have haD := ha
  obtain ⟨oa, esa, epa, hoa, hca, hda', hka, hpa, hna⟩ := ha
  obtain ⟨e, rfl⟩ : ∃ e, esa = #[e] := by
    have hl := hpa.length
    clear hoa hda' hka hna hnd hpd hkd haD hQ hod hcd hdd hca hnew hsz hacc
    obtain ⟨l⟩ := esa
    cases l with
    | nil => simp at hl
    | cons e t =>
      cases t with
      | nil => exact ⟨e, rfl⟩
      | cons _ _ => simp at hl
  obtain ⟨hek, hev⟩ : (PySem.strKind prog w).is k e.key = true ∧ e.val = v := by
    cases hpa with
    | cons h1 h2 _ => exact ⟨h1, h2⟩
  obtain ⟨k', hk', hh'⟩ := hka e (by simp)
  have ek : k' = k := (PySem.strKind prog w).inj _ _ _ hk' hek
  subst ek
  have hne : esd.isEmpty = false := by
    have hl := hpd.length
    obtain ⟨l⟩ := esd
    cases l with
    | nil => exact absurd (List.length_eq_zero_iff.mp hl.symm) hacc
    | cons _ _ => rfl
  have hes : esd.size ≤ sizeLine := by
    have e1 := hpd.length
    have e2 : esd.toList.length = esd.size := by simp
    rw [sizeLine_eq]; omega
  have hidx : (esd.findIdx? fun e => (PySem.strKind prog w).is k' e.key) = acc.findIdx? fun kv => decide (kv.1 = k') := by
    rw [← hpd.findIdx k']; obtain ⟨l⟩ := esd; simp
  have hany : ¬ (acc.any fun kv => decide (kv.1 = k')) = true := by
    rw [List.any_eq_true]; rintro ⟨kv, hkv, he⟩
    exact hnew (List.mem_map.mpr ⟨kv, hkv, of_decide_eq_true he⟩)
  have hnone : (esd.findIdx? fun e => (PySem.strKind prog w).is k' e.key) = none := by
    rw [hidx, List.findIdx?_eq_none_iff]
    intro kv hkv
    exact decide_eq_false fun z => hnew (List.mem_map.mpr ⟨kv, hkv, z⟩)
  unfold mergeMapping
  refine _root_.PySem.wpAny_bind (wpAny_isInstance haD.typeIs isSubtype_dict_dict ?_)
  simp only [if_true]
  refine _root_.PySem.wpAny_bind (wpAny_specialOf haD.typeIs F.slot_dict_iter.lookup ?_)
  refine _root_.PySem.wpAny_bind (wpAny_pure ?_)
  simp only [beq_self_eq_true]
  rw [if_neg (by rw [haS]; exact Bool.false_ne_true)]
  refine _root_.PySem.wpAny_bind (wpAny_dictEntries hod hdd ?_)
  rw [if_neg (by rw [hne]; exact Bool.false_ne_true)]
  refine _root_.PySem.wpAny_bind (wpAny_dictEntries hoa hda' ?_)
  refine _root_.PySem.wpAny_bind (wpAny_dictEpoch hoa hda' ?_)
  show wpAny _ _ (forIn (List.range 1) PUnit.unit _ >>= _) _ _ _
  rw [show List.range 1 = [0] by decide, List.forIn_cons]
  refine _root_.PySem.wpAny_bind (_root_.PySem.wpAny_bind ?_)
  refine _root_.PySem.wpAny_bind (wpAny_dictEntries hoa hda' ?_)
  show wpAny _ _ (holding [e.key, e.val] _ >>= _) _ _ _
  refine _root_.PySem.wpAny_bind (wpAny_holding ?_)
  rw [if_neg Bool.false_ne_true]
  show wpAny _ _ (dictFind d e.key e.hash >>= fun r => match r with | some i => updateDict d (·.modify i fun x => { x with val := e.val }) | none => updateDictKeys d (·.push ⟨e.hash, e.key, e.val⟩)) _ _ _
  rw [hh', hev]
  refine _root_.PySem.wpAny_bind (wpAny_dictFind_of hek hod hdd hkd ?_)
  rw [hnone]
  refine wpAny_updateDictKeys (hz := hes) hod hdd ?_
  have hs' : Heap.SameBut d s.heap (s.heap.update d (Obj.mapDictKeys (·.push ⟨(PySem.strKind prog w).hash k', e.key, v⟩))) := Heap.SameBut.update ..
  have hoa' : (s.heap.update d (Obj.mapDictKeys (·.push ⟨(PySem.strKind prog w).hash k', e.key, v⟩))).get? a = some oa := by rw [Heap.get?_update_ne _ _ _ _ (Ne.symm hda)]; exact hoa
  refine _root_.PySem.wpAny_bind (wpAny_dictEpoch hoa' hda' ?_)
  rw [if_neg (by simp)]
  refine wpAny_pure ?_
  dsimp only
  rw [List.forIn_nil]
  refine wpAny_pure ?_
  refine wpAny_pure ?_
  refine hQ _ ⟨_, _, epd + 1, Heap.get?_update_self _ hod (Obj.isFreed_of_dict (Obj.data_mapDictKeys hdd _)), hcd.mapDictKeys _, Obj.data_mapDictKeys hdd _, hkd.push hek _, ?_, ?_⟩ hs'
  · have := hpd.append hek ((PySem.strKind prog w).hash k') v
    obtain ⟨l⟩ := esd
    simpa using this
  · rw [List.map_append, List.nodup_append]
    refine ⟨hnd, by simp, ?_⟩
    intro a ha b hb
    simp only [List.map_cons, List.map_nil, List.mem_singleton] at hb
    subst hb
    exact fun e => hnew (e ▸ ha)
end Mine
end
-- part TD2
section
namespace Mine
theorem freshTD2 : True := by
  w_top off
  trivial
end Mine
open PySem PySem.W PySem.Calls PyProof.Rows Builtin
set_option maxRecDepth 100000
set_option maxHeartbeats 8000000
namespace Mine
theorem forIn_gatherT (f : (Option (Sem Value) × Sem Value) → (Option Addr × List (Sem Value × Sem Value)) → Sem (ForInStep (Option Addr × List (Sem Value × Sem Value))))
    (hf : ∀ (p : Sem Value × Sem Value) (run : List (Sem Value × Sem Value)), run.length + 1 < 17 → f (some p.1, p.2) (none, run) = pure (.yield (none, run ++ [p]))) (tl : List (Option (Sem Value) × Sem Value)) :
    ∀ (items run : List (Sem Value × Sem Value)), run.length + items.length < 17 → forIn (items.map (fun p => (some p.1, p.2)) ++ tl) ((none : Option Addr), run) f = forIn tl ((none : Option Addr), run ++ items) f
  | [], run, _ => by simp
  | p :: rest, run, h => by
    rw [List.map_cons, List.cons_append, List.forIn_cons, hf p run (by simp at h; lia), pure_bind]
    have := forIn_gatherT f hf tl rest (run ++ [p]) (by simp at h ⊢; lia)
    simpa using this
theorem longDisplay (ps : List (Sem Value × Sem Value)) (p17 p18 : Sem Value × Sem Value) (h : ps.length = 16) :
    dictDisplay ((ps ++ [p17, p18]).map fun p => (some p.1, p.2)) = (do
      let d ← subDict (ps ++ [p17])
      let sub ← holding [.ref d] (subDict [p18])
      (holding [.ref d, .ref sub] (mergeMapping d (.ref sub) false)).onRaise fun x => do let _ ← holding [.ref d, x] (runValue (.builtin "proto.let_go" {}))
      pure (.ref d)) := by
  unfold dictDisplay
  dsimp only
  rw [List.map_append, forIn_gatherT _ (fun p run h => by
    have hne : ((run ++ [(p.1, p.2)]).length == 17) = false := by simp; lia
    simp only [hne, Bool.false_eq_true, if_false]) _ ps [] (by simp; lia)]
  simp [h]
theorem TabOf.length : ∀ {kvs : List (Str × Value)} {tab : List (Str × Str)}, TabOf kvs tab → kvs.length = tab.length
  | [], [], _ => rfl
  | (_, _) :: _, (_, _) :: _, h => by rw [List.length_cons, List.length_cons, TabOf.length h.2.2]
  | [], _ :: _, h => h.elim
  | (_, _) :: _, [], h => h.elim
theorem TabOf.keys : ∀ {kvs : List (Str × Value)} {tab : List (Str × Str)}, TabOf kvs tab → kvs.map (·.1) = tab.map (·.1)
  | [], [], _ => rfl
  | (_, _) :: _, (_, _) :: _, h => by rw [List.map_cons, List.map_cons, TabOf.keys h.2.2, h.1]
  | [], _ :: _, h => h.elim
  | (_, _) :: _, [], h => h.elim
theorem TabOf.append : ∀ {kvs : List (Str × Value)} {tab : List (Str × Str)} {kvs' : List (Str × Value)} {tab' : List (Str × Str)}, TabOf kvs tab → TabOf kvs' tab' → TabOf (kvs ++ kvs') (tab ++ tab')
  | [], [], _, _, _, h => h
  | (_, _) :: _, (_, _) :: _, _, _, h, h' => ⟨h.1, h.2.1, h.2.2.append h'⟩
  | [], _ :: _, _, _, h, _ => h.elim
  | (_, _) :: _, [], _, _, h, _ => h.elim
def tabAt : List (Str × Str) → Str → Option Str
  | [], _ => none
  | (k, x) :: r, q => if k = q then some x else tabAt r q
theorem TabOf.at : ∀ {kvs : List (Str × Value)} {tab : List (Str × Str)} {q x : Str}, TabOf kvs tab → tabAt tab q = some x → ∃ t, valueAt kvs q = some (.str x t)
  | [], [], _, _, _, h => by cases h
  | (k, v) :: r, (k', y) :: r', q, x, h, e => by
    obtain ⟨rfl, ⟨t, rfl⟩, h⟩ := h
    unfold tabAt at e
    unfold valueAt
    rw [List.find?_cons]
    by_cases hk : k = q
    · rw [if_pos hk] at e
      cases e
      refine ⟨t, ?_⟩
      simp [hk]
    · rw [if_neg hk] at e
      obtain ⟨t, ht⟩ := h.at e
      refine ⟨t, ?_⟩
      simp only [hk, decide_false]
      exact ht
  | [], _ :: _, _, _, h, _ => h.elim
  | (_, _) :: _, [], _, _, h, _ => h.elim
def TabObj (prog : Program) (w : World) (tab : List (Str × Str)) (o : Obj) : Prop := ∃ kvs, o.IsDictOf (PySem.strKind prog w) kvs ∧ TabOf kvs tab
theorem subLong {prog : Program} {w : World} {A : Around} {E : Value → Shared → Prop} {s : Shared} {ps : List (Sem Value × Sem Value)} {tab : List (Str × Str)} {Q : Addr → Shared → Prop} (hp : StrPairs ps tab) (hl : 15 < ps.length) (ht : tab.length ≤ 100) (hn : (tab.map (·.1)).Nodup)
    (h : ∀ kvs h' tk, TabOf kvs tab → h'.DictOf (PySem.strKind prog w) s.heap.objs.size kvs → Heap.SameBut s.heap.objs.size (s.heap.push { cls := .type "dict", data := .dict #[] }) h' → Q s.heap.objs.size { s with heap := h', toks := tk }) :
    wpAny (model prog w) A (subDict ps) Q E s := by
  unfold subDict
  refine _root_.PySem.wpAny_bind (wpAny_alloc ?_)
  refine _root_.PySem.wpAny_bind (wpAny_holding ?_)
  rw [if_neg (by lia)]
  refine _root_.PySem.wpAny_bind (wpAny_rule ?_)
  refine _root_.PySem.wpAny_bind (storeLong (prog := prog) (w := w) ps tab [] _ _ hp (Heap.DictOf.new _) (by simpa using ht) fun kvs h' tk htab hm hs => wpAny_pure ?_)
  rw [merged_nil_of_nodup _ (by rw [htab.keys]; exact hn)] at hm
  exact wpAny_pure (h kvs h' tk htab hm hs)
theorem subOne {prog : Program} {w : World} {A : Around} {E : Value → Shared → Prop} {s : Shared} {p q : Sem Value} {k x : Str} {Q : Addr → Shared → Prop} (hp : StrGives k p) (hq : StrGives x q)
    (h : ∀ t h' tk, h'.DictOf (PySem.strKind prog w) s.heap.objs.size [(k, .str x t)] → Heap.SameBut s.heap.objs.size (s.heap.push { cls := .type "dict", data := .dict #[] }) h' → Q s.heap.objs.size { s with heap := h', toks := tk }) :
    wpAny (model prog w) A (subDict [(p, q)]) Q E s := by
  refine wpAny_subDict (knd := PySem.strKind prog w) (Nat.le_of_ble_eq_true rfl) ?_
  refine evalPairs_cons (hp _ _ _ _ _ (hq _ _ _ _ _ (evalPairs_nil ?_)))
  refine ⟨[(k, .str x (s.toks + 1))], ⟨strKind_is _ _ _ _, rfl, trivial⟩, Heap.DictOf.new _, fun h' hm hs => ?_⟩
  rw [merged_nil_of_nodup _ (by simp)] at hm
  exact h _ h' _ hm hs
theorem tabMade {prog : Program} {w : World} {A : Around} {E : Value → Shared → Prop} {s : Shared} {env : Env} {h₀ : Heap} {L : Addr} {m : Str → Option Value} {news : List (Addr × Obj)} {keys : List (Option Expr)} {values : List Expr} {pos : Pos} {Q : Value → Shared → Prop}
    (ps : List (Sem Value × Sem Value)) (p17 p18 : Sem Value × Sem Value) (tab : List (Str × Str)) (k x : Str)
    (hz : (evalEachOpt keys env).zip ((evalEach values env).map fun v => do let x ← v; standAt pos; pure x) = (ps ++ [p17, p18]).map fun p => (some p.1, p.2)) (h16 : ps.length = 16)
    (h17 : StrPairs (ps ++ [p17]) tab) (h18 : StrGives k p18.1) (h18' : StrGives x p18.2) (hn : ((tab ++ [(k, x)]).map (·.1)).Nodup) (hne : tab ≠ []) (ht : tab.length ≤ 20)
    (F : Fr h₀ L s.heap m) (N : News h₀ L s.heap news) (hbig : h₀.NoLimit)
    (h : ∀ d o h' tk, Fr h₀ L h' m → News h₀ L h' ((d, o) :: news) → (∀ p ∈ news, p.1 < d) → TabObj prog w (tab ++ [(k, x)]) o → Q (.ref d) { s with heap := h', toks := tk }) :
    wpAny (model prog w) A (eval (.Dict keys values pos) env) Q E s := by
  rw [arm_eval_Dict, hz, longDisplay ps p17 p18 h16]
  have hn' : (tab.map (·.1)).Nodup := by rw [List.map_append] at hn; exact (List.nodup_append.mp hn).1
  have hk : k ∉ tab.map (·.1) := by
    rw [List.map_append] at hn
    intro z
    exact (List.nodup_append.mp hn).2.2 k z k (by simp) rfl
  refine _root_.PySem.wpAny_bind (wpAny_standAt ?_)
  refine _root_.PySem.wpAny_bind (subLong h17 (by rw [List.length_append]; simp; lia) (by lia) hn' fun kvs h₁ tk₁ htab hm₁ hs₁ => ?_)
  have F₀ := F.push { cls := .type "dict", data := .dict #[] }
  have N₀ := News.push F N { cls := .type "dict", data := .dict #[] }
  have hlt : ∀ p ∈ news, p.1 < s.heap.objs.size := fun p hp => Heap.lt_size (N p hp).1
  have hd₀ := N₀ _ (.head _)
  have F₁ := F₀.change hs₁ hd₀.2.1 hd₀.2.2
  obtain ⟨o₁, ho₁, hd₁⟩ := Heap.dictOf_iff.mp hm₁
  have N₁ : News h₀ L h₁ ((s.heap.objs.size, o₁) :: news) := News.setIn (own := []) N₀ (fun _ h => nomatch h) (fun p hp => Nat.ne_of_lt (hlt p hp)) hs₁ ho₁
  refine _root_.PySem.wpAny_bind (wpAny_holding (subOne h18 h18' fun t h₂ tk₂ hm₂ hs₂ => ?_))
  dsimp only at hm₂ hs₂ ⊢
  have F₁' := F₁.push { cls := .type "dict", data := .dict #[] }
  have N₁' := News.push F₁ N₁ { cls := .type "dict", data := .dict #[] }
  have hlt₁ : ∀ p ∈ (s.heap.objs.size, o₁) :: news, p.1 < h₁.objs.size := fun p hp => Heap.lt_size (N₁ p hp).1
  have hd₁' := N₁' _ (.head _)
  have F₂ := F₁'.change hs₂ hd₁'.2.1 hd₁'.2.2
  obtain ⟨o₂, ho₂, hd₂⟩ := Heap.dictOf_iff.mp hm₂
  have N₂ : News h₀ L h₂ ((h₁.objs.size, o₂) :: (s.heap.objs.size, o₁) :: news) := News.setIn (own := []) N₁' (fun _ h => nomatch h) (fun p hp => Nat.ne_of_lt (hlt₁ p hp)) hs₂ ho₂
  have hne12 : s.heap.objs.size ≠ h₁.objs.size := Nat.ne_of_lt (hlt₁ _ (.head _))
  refine _root_.PySem.wpAny_bind (wpAny_onRaise (wpAny_holding (mergeOne (acc := kvs) (k := k) (v := .str x t) hne12 (F₁.notModules (modules_low hbig)) (Heap.dictOf_iff.mpr ⟨o₁, (N₂ _ (.tail _ (.head _))).1, hd₁⟩) ?_ hm₂ (by rw [htab.keys]; exact hk) (by rw [htab.length]; lia) fun h₃ hm₃ hs₃ => ?_)))
  · intro e
    have := htab.length
    rw [e] at this
    exact hne (List.length_eq_zero_iff.mp this.symm)
  have hd₃ := N₂ _ (.tail _ (.head _))
  have F₃ := F₂.change hs₃ hd₃.2.1 hd₃.2.2
  obtain ⟨o₃, ho₃, hd₃'⟩ := Heap.dictOf_iff.mp hm₃
  have N₂' : News h₀ L h₂ ((s.heap.objs.size, o₁) :: news) := fun p hp => N₂ p (.tail _ hp)
  have N₃ : News h₀ L h₃ ((s.heap.objs.size, o₃) :: news) := News.setIn (own := []) N₂' (fun _ h => nomatch h) (fun p hp => Nat.ne_of_lt (hlt p hp)) hs₃ ho₃
  exact wpAny_pure (h _ _ _ _ F₃ N₃ hlt ⟨_, hd₃', htab.append ⟨rfl, ⟨t, rfl⟩, trivial⟩⟩)
theorem strGives_const (x : Str) (k : Nat) (pos : Pos) (env : Env) : StrGives x (eval (.Constant (.str x) k pos) env) := fun _ _ _ _ _ h => wpAny_Constant_str h
theorem strGives_at {x : Str} {p : Sem Value} (pos : Pos) (h : StrGives x p) : StrGives x (do let v ← p; standAt pos; pure v) := fun _ _ _ _ _ q => _root_.PySem.wpAny_bind (h _ _ _ _ _ (_root_.PySem.wpAny_bind (wpAny_standAt (wpAny_pure q))))
theorem tabItem {prog : Program} {w : World} {A : Around} {E : Value → Shared → Prop} {s : Shared} {h₀ : Heap} {L d : Addr} {news : List (Addr × Obj)} {o : Obj} {tab : List (Str × Str)} {k x : Str} {u : Tok} {value slice : PySem.Expr} {Q : Value → Shared → Prop} (N : News h₀ L s.heap ((d, o) :: news)) (hd : TabObj prog w tab o) (hx : tabAt tab k = some x)
    (h : ∀ t tk, News h₀ L s.heap news → Q (.str x t) { s with toks := tk })
    (hs : subscripted slice false (.ref d) (.str k u) = operate [.ref d, .str k u] (getItem (.ref d) (.str k u)) := by with_unfolding_all rfl) :
    wpAny (model prog w) A (subscriptTail value slice (.ref d) (.str k u)) Q E s := by
  obtain ⟨kvs, hk, ht⟩ := hd
  obtain ⟨t, hv⟩ := ht.at hx
  have hD : s.heap.DictOf (PySem.strKind prog w) d kvs := Heap.dictOf_iff.mpr ⟨o, (N _ (.head _)).1, hk⟩
  exact tail_any hD.typeIs slot_dict_getitem.lookup (wpAny_getItem_of (strKind_is _ _ _ _) hD.mapOf hv (h _ _ fun p hp => N p (.tail _ hp))) hs
theorem snoc2 {α : Type} {l : List α} (h : l.length = 18) : ∃ (ps : List α) (a b : α), l = ps ++ [a, b] ∧ ps.length = 16 := by
  refine ⟨l.take 16, l[16], l[17], ?_, by rw [List.length_take]; lia⟩
  conv => lhs; rw [← List.take_append_drop 16 l]
  congr 1
  rw [List.drop_eq_getElem_cons (by lia), List.drop_eq_getElem_cons (by lia), List.drop_eq_nil_of_le (by lia)]
theorem strPairs_snoc : ∀ {ps : List (Sem Value × Sem Value)} {b : Sem Value × Sem Value} {tab : List (Str × Str)}, StrPairs (ps ++ [b]) tab → ∃ t k x, tab = t ++ [(k, x)] ∧ StrPairs ps t ∧ StrGives k b.1 ∧ StrGives x b.2
  | [], (_, _), [(k, x)], h => ⟨[], k, x, rfl, trivial, h.1, h.2.1⟩
  | (_, _) :: ps, b, (k', x') :: tab, h => by
    obtain ⟨h1, h2, h⟩ := h
    obtain ⟨t, k, x, rfl, h3, h4⟩ := strPairs_snoc h
    exact ⟨(k', x') :: t, k, x, rfl, ⟨h1, h2, h3⟩, h4⟩
  | [], (_, _), [], h => h.elim
  | [], (_, _), (_, _) :: _ :: _, h => h.2.2.elim
  | (_, _) :: _, _, [], h => h.elim
theorem StrPairs.length : ∀ {ps : List (Sem Value × Sem Value)} {tab : List (Str × Str)}, StrPairs ps tab → ps.length = tab.length
  | [], [], _ => rfl
  | (_, _) :: _, (_, _) :: _, h => by rw [List.length_cons, List.length_cons, StrPairs.length h.2.2]
  | [], _ :: _, h => h.elim
  | (_, _) :: _, [], h => h.elim
theorem tabMade2 {prog : Program} {w : World} {A : Around} {E : Value → Shared → Prop} {s : Shared} {env : Env} {h₀ : Heap} {L : Addr} {m : Str → Option Value} {news : List (Addr × Obj)} {keys : List (Option Expr)} {values : List Expr} {pos : Pos} {Q : Value → Shared → Prop}
    (tab : List (Str × Str)) (hall : keys.all (·.isSome) = true) (hl : keys.length = values.length) (h18 : keys.length = 18)
    (hp : StrPairs (pairTrees keys values env pos) tab) (hn : (tab.map (·.1)).Nodup)
    (F : Fr h₀ L s.heap m) (N : News h₀ L s.heap news) (hbig : h₀.NoLimit)
    (h : ∀ d o h' tk, Fr h₀ L h' m → News h₀ L h' ((d, o) :: news) → (∀ p ∈ news, p.1 < d) → TabObj prog w tab o → Q (.ref d) { s with heap := h', toks := tk }) :
    wpAny (model prog w) A (eval (.Dict keys values pos) env) Q E s := by
  have hz := zip_pairTrees keys values env pos hall hl
  have hlen := pairTrees_length keys values env pos hall hl
  obtain ⟨ps, a, b, e, h16⟩ := snoc2 (hlen.trans h18)
  rw [e] at hz hp
  rw [show ps ++ [a, b] = (ps ++ [a]) ++ [b] by simp] at hp
  obtain ⟨t, k, x, rfl, hp, h1, h2⟩ := strPairs_snoc hp
  have hL := hp.length
  rw [List.length_append, h16] at hL
  simp only [List.length_cons, List.length_nil] at hL
  exact tabMade ps a b t k x hz h16 hp h1 h2 hn (by intro z; rw [z] at hL; simp at hL) (by lia) F N hbig h
def strTab : List (Option Expr) → List Expr → List (Str × Str)
  | some (.Constant (.str k) _ _) :: ks, .Constant (.str v) _ _ :: vs => (k, v) :: strTab ks vs
  | _, _ => []
def strOk : List (Option Expr) → List Expr → Bool
  | some (.Constant (.str _) _ _) :: ks, .Constant (.str _) _ _ :: vs => strOk ks vs
  | [], [] => true
  | _, _ => false
theorem strPairs_ok {env : Env} {pos : Pos} : ∀ (keys : List (Option Expr)) (values : List Expr), strOk keys values = true → StrPairs (pairTrees keys values env pos) (strTab keys values) := by
  intro keys values
  fun_induction strOk keys values with
  | case1 k _ _ ks v _ _ vs ih =>
    intro h
    exact ⟨strGives_const _ _ _ _, strGives_at _ (strGives_const _ _ _ _), ih h⟩
  | case2 => intro _; exact trivial
  | case3 => intro h; cases h
theorem strOk_all : ∀ (keys : List (Option Expr)) (values : List Expr), strOk keys values = true → keys.all (·.isSome) = true ∧ keys.length = values.length := by
  intro keys values
  fun_induction strOk keys values with
  | case1 k _ _ ks v _ _ vs ih =>
    intro h
    obtain ⟨h1, h2⟩ := ih h
    refine ⟨by simpa using h1, by simp [h2]⟩
  | case2 => intro _; exact ⟨rfl, rfl⟩
  | case3 => intro h; cases h
theorem tabMade3 {prog : Program} {w : World} {A : Around} {E : Value → Shared → Prop} {s : Shared} {env : Env} {h₀ : Heap} {L : Addr} {m : Str → Option Value} {news : List (Addr × Obj)} {keys : List (Option Expr)} {values : List Expr} {pos : Pos} {Q : Value → Shared → Prop}
    (tab : List (Str × Str)) (hok : strOk keys values = true) (ht : strTab keys values = tab) (h18 : keys.length = 18) (hn : (tab.map (·.1)).Nodup)
    (F : Fr h₀ L s.heap m) (N : News h₀ L s.heap news) (hbig : h₀.NoLimit)
    (h : ∀ d o h' tk, Fr h₀ L h' m → News h₀ L h' ((d, o) :: news) → (∀ p ∈ news, p.1 < d) → TabObj prog w tab o → Q (.ref d) { s with heap := h', toks := tk }) :
    wpAny (model prog w) A (eval (.Dict keys values pos) env) Q E s := by
  subst ht
  exact tabMade2 _ (strOk_all _ _ hok).1 (strOk_all _ _ hok).2 h18 (strPairs_ok _ _ hok) hn F N hbig h
end Mine
end
-- part W19a
section
namespace Mine
theorem freshW19a : True := by
  w_top off
  trivial
end Mine
open PySem PySem.W PySem.Calls PyProof.Rows
set_option maxRecDepth 100000
set_option maxHeartbeats 8000000
namespace Mine
section
variable {w : World} {mean : ExcName → Option Value} {mg mb : Str → Option Value} {dp un : Nat} {gd : Option (List Code)} {cn : Str} {c1 : List (Str × NameKind)} {c2 c3 : Bool} {c4 : List (Str × Const)} {a : Addr} {ccd : Value} {cl : List (Str × Addr)} {outer : List Env} {A₀ : Around} {base h₀ : Heap} {L : Addr} {m : Str → Option Value} {s : Shared} {Q E : Value → Shared → Prop}
  {x dx : Addr} {T : Str} {p : Int} {t1 t2 t3 t4 t5 t6 t7 : Tok} {rest : List (Addr × Obj)} {signs what : Str} {begin_ : Int}

def TAB : List (Str × Str) := [(Str.ofString "S", Str.ofString "ZNNYYYYYTBKG!!!"), (Str.ofString "Y", Str.ofString "YYYYYYYY======="), (Str.ofString "Z", Str.ofString "!!!P!!!!======="), (Str.ofString "N", Str.ofString "NNNP!!!!======="), (Str.ofString "P", Str.ofString "DDD!!!!!!!!!!!!"), (Str.ofString "D", Str.ofString "DDD!!!!!======="), (Str.ofString "T", Str.ofString "TTTTTTTTQTTTTT!"), (Str.ofString "Q", Str.ofString "========T======"), (Str.ofString "B", Str.ofString "BBBBBBBBBEBBWB!"), (Str.ofString "W", Str.ofString "WWWWWWWWW%WWWW!"), (Str.ofString "E", Str.ofString "==============="), (Str.ofString "K", Str.ofString "!!!JJJJJ!!!!!!!"), (Str.ofString "J", Str.ofString "JJJJJJJJ======="), (Str.ofString "G", Str.ofString "!!!!CX!!!!!!!!!"), (Str.ofString "C", Str.ofString "II!!!!!!!!!!!!!"), (Str.ofString "I", Str.ofString "II!!!!!!======="), (Str.ofString "X", Str.ofString "HHH!H!H!!!!!!!!"), (Str.ofString "H", Str.ofString "HHH!H!H!=======")]
theorem tabNodup : (TAB.map (·.1)).Nodup := by decide +kernel
theorem tab_c {news : List (Addr × Obj)} :
    Below A₀ base outer h₀ → Fr h₀ L s.heap m → (heapK w.params).In h₀ → News h₀ L s.heap news → Top viewV LO mean mg mb h₀ → dp + 3 < recursionLimit → un + 24 < cLine →
    (∀ d o h' tk', Fr h₀ L h' m → News h₀ L h' ((d, o) :: news) → (∀ p ∈ news, p.1 < d) → TabObj Challenge.rw_sj0097_01.row.prog w TAB o → Q (.ref d) { s with heap := h', toks := tk' }) →
    wpAny (model Challenge.rw_sj0097_01.row.prog w) (ktrTop dp un gd cn (fnScope c1 c2 c3 c4) L a ccd cl outer) (call (.ref 227) []) Q E s := by
  k_with_none
  k_with "eval Dict" => (refine' tabMade3 TAB ?ko ?kt ?kn ?kd ?kF ?kN ?kb ?_; (case ko => with_unfolding_all exact rfl); (case kt => with_unfolding_all exact rfl); (case kn => with_unfolding_all exact rfl); (case kd => exact tabNodup); (case kF => k_asm); (case kN => k_asm); (case kb => exact Top.nolimit (by k_asm)); intro d9 o9 h9 tk9 F9 N9 l9 z9)
  k_fill
  intro B F X N Tp hd hu ret
  refine wpAny_call ?_
  k_dflt k_enter
  k_steps
  all_goals exact ret _ _ _ _ (by k_asm) (by k_asm) (by assumption) (by assumption)
end
end Mine
end
-- part W19
section
namespace Mine
theorem freshW19 : True := by
  w_top off
  trivial
end Mine
open PySem PySem.W PySem.Calls PyProof.Rows
set_option maxRecDepth 100000
set_option maxHeartbeats 8000000
namespace Mine
section
variable {w : World} {mean : ExcName → Option Value} {mg mb : Str → Option Value} {dp un : Nat} {gd : Option (List Code)} {cn : Str} {c1 : List (Str × NameKind)} {c2 c3 : Bool} {c4 : List (Str × Const)} {a : Addr} {ccd : Value} {cl : List (Str × Addr)} {outer : List Env} {A₀ : Around} {base h₀ : Heap} {L : Addr} {m : Str → Option Value} {s : Shared} {Q E : Value → Shared → Prop}
  {x dx : Addr} {T : Str} {p : Int} {t1 t2 t3 t4 t5 t6 t7 : Tok} {rest : List (Addr × Obj)} {signs what : Str} {begin_ : Int}

def rowAt (st : Str) : Str := (tabAt TAB st).getD Str.empty
def OkSt (st : Str) : Prop := st ∈ TAB.map (·.1)
theorem row_all : ∀ st ∈ TAB.map (·.1), tabAt TAB st = some (rowAt st) ∧ (rowAt st).length = 15 := by decide +kernel
theorem tab_row {st : Str} (h : OkSt st) : tabAt TAB st = some (rowAt st) := (row_all st h).1
theorem row_len {st : Str} (h : OkSt st) : (rowAt st).length = 15 := (row_all st h).2
theorem row_few {st : Str} (h : OkSt st) : (rowAt st).length ≤ 4000 := by rw [row_len h]; lia
theorem colI_le (c : Nat) : colI c ≤ 13 := by
  have := List.findIdx_le_length (xs := KL) (p := fun s => inS (one c) s)
  exact this
theorem col_0 {T : Str} {q : Int} : 0 ≤ columnF T q := by unfold columnF; split <;> lia
theorem col_le {T : Str} {q : Int} : columnF T q ≤ 14 := by unfold columnF; have := colI_le (ch T q); split <;> lia
theorem col_lt {T st : Str} {q : Int} (h : OkSt st) : columnF T q < (rowAt st).length := by rw [row_len h]; have := col_le (T := T) (q := q); lia
abbrev fresh (T st : Str) (q : Int) : Str := one (ch (rowAt st) (columnF T q))
def frB (st : Str) (k : Nat) : Bool :=
  let f := one ((cs (rowAt st)).getD k 0)
  f == Str.ofString "=" || f == Str.ofString "!" || (decide (k < 14) && (f == Str.ofString "%" || (TAB.map (·.1)).any fun z => z == f))
theorem frB_all : (TAB.map (·.1)).all (fun st => (List.range 15).all fun k => frB st k) = true := by decide +kernel
theorem fresh_all (st : Str) (hs : st ∈ TAB.map (·.1)) (k : Nat) (hk : k < 15) (h1 : (one ((cs (rowAt st)).getD k 0) == Str.ofString "=") = false) (h2 : (one ((cs (rowAt st)).getD k 0) == Str.ofString "!") = false) : k < 14 ∧ ((one ((cs (rowAt st)).getD k 0) == Str.ofString "%") = false → one ((cs (rowAt st)).getD k 0) ∈ TAB.map (·.1)) := by
  have h := List.all_eq_true.mp (List.all_eq_true.mp frB_all st hs) k (List.mem_range.mpr hk)
  unfold frB at h
  dsimp only at h
  rw [h1, h2, Bool.false_or, Bool.false_or, Bool.and_eq_true] at h
  refine ⟨of_decide_eq_true h.1, fun h3 => ?_⟩
  have h4 := h.2
  rw [h3, Bool.false_or, List.any_eq_true] at h4
  obtain ⟨z, hz, e⟩ := h4
  rw [eq_of_beq e] at hz
  exact hz
theorem notEnd {T st : Str} {q : Int} (h : OkSt st) (hq : q ≤ T.length) (h1 : (one (ch (rowAt st) (columnF T q)) == Str.ofString "=") = false) (h2 : (one (ch (rowAt st) (columnF T q)) == Str.ofString "!") = false) : q < T.length := by
  rcases Int.lt_or_le q T.length with z | z
  · exact z
  · have e : columnF T q = 14 := if_pos (by lia)
    have := (fresh_all st h 14 (by decide) (by rw [ch, e] at h1; exact h1) (by rw [ch, e] at h2; exact h2)).1
    lia
theorem okFresh {T st : Str} {q : Int} (h : OkSt st) (h1 : (one (ch (rowAt st) (columnF T q)) == Str.ofString "=") = false) (h2 : (one (ch (rowAt st) (columnF T q)) == Str.ofString "!") = false) (h3 : (one (ch (rowAt st) (columnF T q)) == Str.ofString "%") = false) : OkSt (one (ch (rowAt st) (columnF T q))) := by
  have a := col_0 (T := T) (q := q)
  have b := col_le (T := T) (q := q)
  exact (fresh_all st h (columnF T q).toNat (by lia) h1 h2).2 h3


def keeps (st f : Str) : Bool := inS f (Str.ofString "YZNPDJIH") || (f == Str.ofString "T" && st != Str.ofString "S") || (f == Str.ofString "B" && st == Str.ofString "B")
def slashB (st f : Str) : Bool := f == Str.ofString "W" && st == Str.ofString "B"
theorem keepA {st f : Str} (h : inS f (Str.ofString "YZNPDJIH") = true) : true = keeps st f := by unfold keeps; rw [h]; rfl
theorem kp2 {st f : Str} (h : (f == Str.ofString "T") = true) (h' : (st != Str.ofString "S") = true) : true = keeps st f := by unfold keeps; rw [h, h']; cases inS f (Str.ofString "YZNPDJIH") <;> rfl
theorem kp3 {st f : Str} (h : (f == Str.ofString "B") = true) (h' : (st == Str.ofString "B") = true) : true = keeps st f := by unfold keeps; rw [h, h']; cases inS f (Str.ofString "YZNPDJIH") <;> cases (f == Str.ofString "T") <;> cases (st != Str.ofString "S") <;> rfl
theorem kp4 {st f : Str} (h0 : inS f (Str.ofString "YZNPDJIH") = false) (h : (f == Str.ofString "T") = false ∨ (st != Str.ofString "S") = false) (h' : (f == Str.ofString "B") = false ∨ (st == Str.ofString "B") = false) : false = keeps st f := by
  unfold keeps; rw [h0]
  rcases h with h | h <;> rcases h' with h' | h' <;> rw [h, h'] <;> simp
theorem sl1 {st f : Str} (h : (f == Str.ofString "W") = true) (h' : (st == Str.ofString "B") = true) : true = slashB st f := by unfold slashB; rw [h, h']; rfl
theorem sl2 {st f : Str} (h : (f == Str.ofString "W") = false ∨ (st == Str.ofString "B") = false) : false = slashB st f := by unfold slashB; rcases h with h | h <;> rw [h] <;> simp
theorem cutB {prog : Program} {w : World} {A : Around} {E : Value → Shared → Prop} {s : Shared} {Q : Bool → Shared → Prop} (b : Bool) {m : Sem Bool} (h1 : wpAny (model prog w) A m (fun v s₂ => v = b ∧ ∃ tk, s₂ = { s with toks := tk }) E s) (h2 : ∀ tk, Q b { s with toks := tk }) : wpAny (model prog w) A m Q E s :=
  wpAny_mono h1 (fun v s₂ h => by obtain ⟨rfl, tk, rfl⟩ := h; exact h2 tk) fun _ _ x => x
def wordL (T : Str) (p0 : Int) : Nat → Int → Str → Str → Int → Except Int (Dat × Int)
  | 0, _, _, _, _ => .error (-3)
  | n + 1, q, st, kept, slash =>
    if fresh T st q == Str.ofString "=" then .ok (madeF st kept, q)
    else if fresh T st q == Str.ofString "!" then .error p0
    else if fresh T st q == Str.ofString "%" then .error slash
    else wordL T p0 n (q + 1) (fresh T st q) (if keeps st (fresh T st q) then kept ++ one (ch T q) else kept) (if slashB st (fresh T st q) then q else slash)
def wordF (T : Str) (p : Int) : Except Int (Dat × Int) := wordL T p (T.length + 1 - p).toNat p (Str.ofString "S") (Str.ofString "") p
theorem wStep {T : Str} {p0 q sh : Int} {n i : Nat} {st kp : Str} (hi : i < n) : wordL T p0 (n - i) q st kp sh = wordL T p0 (n - (i + 1) + 1) q st kp sh := by rw [show n - (i + 1) + 1 = n - i by lia]
theorem wA {T : Str} {p sh : Int} {n i : Nat} {st kp : Str} {R : Except Int (Dat × Int)} (hi : i < n) (hc : wordL T p (n - i) (p + i) st kp sh = R) (h : (one (ch (rowAt st) (columnF T (p + i))) == Str.ofString "=") = true) : R = .ok (madeF st kp, p + i) := by
  rw [← hc, wStep hi, wordL, if_pos h]
theorem wB {T : Str} {p sh : Int} {n i : Nat} {st kp : Str} {R : Except Int (Dat × Int)} (hi : i < n) (hc : wordL T p (n - i) (p + i) st kp sh = R) (h1 : (one (ch (rowAt st) (columnF T (p + i))) == Str.ofString "=") = false) (h : (one (ch (rowAt st) (columnF T (p + i))) == Str.ofString "!") = true) : R = .error p := by
  rw [← hc, wStep hi, wordL, if_neg (ff h1), if_pos h]
theorem wC {T : Str} {p sh : Int} {n i : Nat} {st kp : Str} {R : Except Int (Dat × Int)} (hi : i < n) (hc : wordL T p (n - i) (p + i) st kp sh = R) (h1 : (one (ch (rowAt st) (columnF T (p + i))) == Str.ofString "=") = false) (h2 : (one (ch (rowAt st) (columnF T (p + i))) == Str.ofString "!") = false) (h : (one (ch (rowAt st) (columnF T (p + i))) == Str.ofString "%") = true) : R = .error sh := by
  rw [← hc, wStep hi, wordL, if_neg (ff h1), if_neg (ff h2), if_pos h]
theorem wD {T : Str} {p sh : Int} {n i : Nat} {st kp : Str} {R : Except Int (Dat × Int)} {b1 b2 : Bool} (hi : i < n) (hc : wordL T p (n - i) (p + i) st kp sh = R) (h1 : (one (ch (rowAt st) (columnF T (p + i))) == Str.ofString "=") = false) (h2 : (one (ch (rowAt st) (columnF T (p + i))) == Str.ofString "!") = false) (h3 : (one (ch (rowAt st) (columnF T (p + i))) == Str.ofString "%") = false)
    (e1 : keeps st (one (ch (rowAt st) (columnF T (p + i)))) = b1) (e2 : slashB st (one (ch (rowAt st) (columnF T (p + i)))) = b2) :
    wordL T p (n - (i + 1)) (p + (i + 1 : Nat)) (one (ch (rowAt st) (columnF T (p + i)))) (if b1 = true then kp ++ one (ch T (p + i)) else kp) (if b2 = true then p + i else sh) = R := by
  rw [← hc, wStep hi, wordL, if_neg (ff h1), if_neg (ff h2), if_neg (ff h3), ← e1, ← e2, show p + ((i + 1 : Nat) : Int) = p + i + 1 by lia]
theorem wE {T : Str} {p sh : Int} {n : Nat} {st kp : Str} {R : Except Int (Dat × Int)} (hc : wordL T p (n - n) (p + n) st kp sh = R) : R = .error (-3) := by
  rw [← hc, Nat.sub_self, wordL]
theorem len1 {kp : Str} {i c : Nat} (h : kp.length ≤ i) : (kp ++ one c).length ≤ i + 1 := by rw [Str.length_append, one_length]; lia
theorem newsRet {h₁ : Heap} {L₁ : Addr} {D : Addr × Obj} {tl news own : List (Addr × Obj)} (N : News h₀ L₁ h₁ (D :: (tl ++ (news ++ own)))) : News h₀ L₁ h₁ (D :: (tl ++ news)) := cb_drop N (by kqd_sub)
theorem ltDD {D : Addr} {tl news own : List (Addr × Obj)} (h1 : ∀ p ∈ tl ++ (news ++ own), p.1 < D) : ∀ p ∈ tl ++ news, p.1 < D := fun p hp => h1 p ((List.mem_append.mp hp).elim (fun h => List.mem_append_left _ h) fun h => List.mem_append_right _ (List.mem_append_left _ h))
theorem ltEE {tl news own : List (Addr × Obj)} (h2 : ∀ r ∈ tl, ∀ b ∈ news ++ own, b.1 < r.1) : ∀ r ∈ tl, ∀ b ∈ news, b.1 < r.1 := fun r hr b hb => h2 r hr b (List.mem_append_left _ hb)
theorem ok0 : OkSt (Str.ofString "S") := by unfold OkSt; decide +kernel
theorem word0 (T : Str) (p : Int) : wordL T p ((T.length + 1 - p).toNat - 0) (p + (0 : Nat)) (Str.ofString "S") (Str.ofString "") p = wordF T p := by rw [Nat.sub_zero, show p + ((0 : Nat) : Int) = p by lia]; rfl
theorem lword_c {news : List (Addr × Obj)} :
    Below A₀ base outer h₀ → Fr h₀ L s.heap m → (heapK w.params).In h₀ → News h₀ L s.heap news → Top viewV LO mean mg mb h₀ → 0 ≤ p → p ≤ T.length → T.length ≤ 600 → dp + 8 < recursionLimit → un + 60 < cLine →
    (∀ f, wordF T p = .error f → ∀ t h' tk', Fr h₀ L h' m → News h₀ L h' news → Q (.int f t) { s with heap := h', toks := tk' }) →
    (∀ d q, wordF T p = .ok (d, q) → ∀ D v t tl h' tk', Fr h₀ L h' m → News h₀ L h' ((D, { cls := .type "tuple", data := Data.seq #[v, .int q t] }) :: (tl ++ news)) → DatIn tl v d → (∀ p ∈ tl ++ news, p.1 < D) → (∀ r ∈ tl, ∀ b ∈ news, b.1 < r.1) → Q (.ref D) { s with heap := h', toks := tk' }) →
    wpAny (model Challenge.rw_sj0097_01.row.prog w) (ktrTop dp un gd cn (fnScope c1 c2 c3 c4) L a ccd cl outer) (call (.ref 262) [.str T t5, .int p t6]) Q E s := by
  k_with_none
  k_with "compareOp NotIn str str" => refine notIn_strS ?_
  k_with "compareOp In str str" => refine in_strS ?_
  k_with "call ref" => (k_here; (with_reducible show wpAny _ _ (call (Value.ref 241) _) _ _ _); k_dflt (refine' column_c ?k1z9 ?k2z9 ?k3z9 ?k4z9 ?k5z9 ?e0z9 ?e1z9 ?e2z9 ?kdz9 ?kuz9 ?_; (case k1z9 => k_asm); (case k2z9 => k_asm); (case k3z9 => k_asm); (case k4z9 => k_asm); (case k5z9 => k_asm); (case e0z9 => lia); (case e1z9 => lia); (case e2z9 => lia); (case kdz9 => ktr_room); (case kuz9 => ktr_units)); intro t9 h9 tk9 F9 N9; (try dsimp only))
  k_with "call ref" => (k_here; (with_reducible show wpAny _ _ (call (Value.ref 227) _) _ _ _); k_dflt (refine' tab_c ?k1z9 ?k2z9 ?k3z9 ?k4z9 ?k5z9  ?kdz9 ?kuz9 ?_; (case k1z9 => k_asm); (case k2z9 => k_asm); (case k3z9 => k_asm); (case k4z9 => k_asm); (case k5z9 => k_asm); (case kdz9 => ktr_room); (case kuz9 => ktr_units)); intro d9 o9 h9 tk9 F9 N9 l9 z9; (try dsimp only))
  k_with "call ref" => (k_here; (with_reducible show wpAny _ _ (call (Value.ref 255) _) _ _ _); k_dflt (refine' made_c ?k1z9 ?k2z9 ?k3z9 ?k4z9 ?k5z9 ?e0z9 ?kdz9 ?kuz9 ?_; (case k1z9 => k_asm); (case k2z9 => k_asm); (case k3z9 => k_asm); (case k4z9 => k_asm); (case k5z9 => k_asm); (case e0z9 => lia); (case kdz9 => ktr_room); (case kuz9 => ktr_units)); intro d9 e9 v9 tl9 h9 tk9 F9 N9 D9 l9; (try dsimp only))
  k_with "subscriptTail Name Name str int" => (k_here; (with_reducible show wpAny _ _ (subscriptTail _ _ (Value.str _ _) (Value.int _ _)) _ _ _); (refine item_one (by lia) (by first | lia | exact notEnd (by assumption) (by lia) (by with_reducible assumption) (by with_reducible assumption)) (by lia) ?_))
  k_with "subscriptTail" => (k_here; (with_reducible show wpAny _ _ (subscriptTail _ _ (Value.str (rowAt _) _) (Value.int (columnF _ _) _)) _ _ _); (refine item_one col_0 (col_lt (by assumption)) (row_few (by assumption)) ?_))
  k_with "subscriptTail" => (k_here; (with_reducible show wpAny _ _ (subscriptTail _ _ (Value.ref _) (Value.str _ _)) _ _ _); (with_unfolding_all refine' tabItem ?k1z9 ?k2z9 ?k3z9 ?_ ?k4z9; (case k1z9 => k_asm); (case k2z9 => assumption); (case k3z9 => exact tab_row (by assumption)); (case k4z9 => with_unfolding_all rfl); intro t9 tk9 N9))
  k_with "binaryOp Add str str" => (k_here; refine' add_str ?_ ?kzz9; (case kzz9 => rw [one_length, sizeLine_eq]; lia); intro _ _)
  k_with "pyIter ref" => (rename Fr _ _ _ _ => lF; rename News _ _ _ _ => lN; rename IsRange _ _ _ _ _ _ _ _ => rg; with_unfolding_all refine' wForRange (σ := Str × Tok × Str × Tok × Int × Tok × Option Value) (T.length + 1 - p).toNat (fun m c y => if y = Str.ofString "state" then some (.str c.1 c.2.1) else if y = Str.ofString "kept" then some (.str c.2.2.1 c.2.2.2.1) else if y = Str.ofString "slash" then some (.int c.2.2.2.2.1 c.2.2.2.2.2.1) else if y = Str.ofString "fresh" then c.2.2.2.2.2.2 else m y) (fun _ => news) (fun i c => wordL T p ((T.length + 1 - p).toNat - i) (p + i) c.1 c.2.2.1 c.2.2.2.2.1 = wordF T p ∧ OkSt c.1 ∧ c.2.2.1.length ≤ i) ((Str.ofString "S", _, Str.ofString "", _, p, _, none)) ?kh rg ?ks ?kz lF lN ?kl ?km ?kp ?_ ?_; (case kh => rfl); (case ks => exact small_one (by lia) (by lia) (by lia) (by lia)); (case kz => exact rangeSize_nat _ _); (case kl => kqd_sub); (case km => (intro y hy0; by_cases hy1 : y = Str.ofString "state"; (subst hy1; rfl); by_cases hy2 : y = Str.ofString "kept"; (subst hy2; rfl); by_cases hy3 : y = Str.ofString "slash"; (subst hy3; rfl); by_cases hy4 : y = Str.ofString "fresh"; (subst hy4; rfl); simp only [if_neg hy0, if_neg hy1, if_neg hy2, if_neg hy3, if_neg hy4])); (case kp => exact ⟨word0 T p, ok0, Nat.le_refl _⟩); (rintro i ⟨st, st1, kp, kp1, sh, sh1, fr⟩ t h' tk own hi hc off F' N'; dsimp only at hc F' N'; (obtain ⟨hc1, hc2, hc3⟩ := hc)); rotate_left; (rintro ⟨st, st1, kp, kp1, sh, sh1, fr⟩ u h' tk hc F' N'; dsimp only at hc F' N'; (obtain ⟨hc1, hc2, hc3⟩ := hc)); rotate_left)
  k_with "isTrue BoolOp" => (first
    | ((with_reducible show wpAny _ _ (isTrue (Expr.BoolOp BoolOp.Or _ _) _ _) _ _ _); refine' cutB (keeps st (one (ch (rowAt st) (columnF T (p + i))))) ?_ ?_; (with_reducible refine isTrue_or ?_); rotate_left; (intro tk9; (try dsimp only)); rotate_left)
    | ((with_reducible show wpAny _ _ (isTrue (Expr.BoolOp BoolOp.And [Expr.Compare _ [CmpOp.Eq] [Expr.Constant (Const.str (Str.ofString "W")) _ _] _, _] _) _ _) _ _ _); refine' cutB (slashB st (one (ch (rowAt st) (columnF T (p + i))))) ?_ ?_; (with_reducible refine isTrue_and ?_); rotate_left; (intro tk9; (try dsimp only)); rotate_left))
  k_fill
  intro B F X N Tp hp hpT hT hd hu rai ret
  refine wpAny_call ?_
  k_dflt k_enter
  k_steps
  all_goals (try dsimp only [FPost])
  k_steps
  all_goals first
    | exact keepA (by with_reducible assumption)
    | exact kp2 (by with_reducible assumption) (by with_reducible assumption)
    | exact kp3 (by with_reducible assumption) (by with_reducible assumption)
    | exact kp4 (by with_reducible assumption) (by first | exact Or.inl (by with_reducible assumption) | exact Or.inr (by with_reducible assumption)) (by first | exact Or.inl (by with_reducible assumption) | exact Or.inr (by with_reducible assumption))
    | exact sl1 (by with_reducible assumption) (by with_reducible assumption)
    | exact sl2 (by first | exact Or.inl (by with_reducible assumption) | exact Or.inr (by with_reducible assumption))
    | (rename madeF _ _ = _ => e8; subst e8; exact ret _ _ (wA hi hc1 (by with_reducible assumption)) _ _ _ _ _ _ (by k_asm) (newsRet (by k_asm)) (by assumption) (ltDD (by assumption)) (ltEE (by assumption)))
    | exact rai _ (wB hi hc1 (by with_reducible assumption) (by with_reducible assumption)) _ _ _ (by k_asm) (cb_drop (by k_asm) (by kqd_sub))
    | exact rai _ (wC hi hc1 (by with_reducible assumption) (by with_reducible assumption) (by with_reducible assumption)) _ _ _ (by k_asm) (cb_drop (by k_asm) (by kqd_sub))
    | exact rai _ (wE hc1) _ _ _ (by k_asm) (by k_asm)
    | (refine fEnd (_, _, _, _, _, _, _) (by k_asm) (by k_asm) (by (intro y hy0; by_cases hy1 : y = Str.ofString "state"; (subst hy1; rfl); by_cases hy2 : y = Str.ofString "kept"; (subst hy2; rfl); by_cases hy3 : y = Str.ofString "slash"; (subst hy3; rfl); by_cases hy4 : y = Str.ofString "fresh"; (subst hy4; rfl); simp only [if_neg hy0, if_neg hy1, if_neg hy2, if_neg hy3, if_neg hy4])) (by kqd_sub) (by kqd_sub) off ?_; (have r9 := wD hi hc1 (by with_reducible assumption) (by with_reducible assumption) (by with_reducible assumption) (by with_reducible assumption) (by with_reducible assumption)); exact ⟨r9, okFresh hc2 (by with_reducible assumption) (by with_reducible assumption) (by with_reducible assumption), by first | exact len1 hc3 | exact Nat.le_succ_of_le hc3⟩)
    | fail
end
end Mine
end
-- part W21
section
namespace Mine
theorem freshW21 : True := by
  w_top off
  trivial
end Mine
open PySem PySem.W PySem.Calls PyProof.Rows
set_option maxRecDepth 100000
set_option maxHeartbeats 8000000
namespace Mine

theorem pastL_le : ∀ (r : Bool) (l : List Nat), pastL r l ≤ l.length
  | _, [] => by simp [pastL]
  | true, c :: l => by have := pastL_le (decide (c ≠ 10 ∧ c ≠ 13)) l; simp only [pastL, List.length_cons]; lia
  | false, c :: l => by
    simp only [pastL, List.length_cons]
    have h1 := pastL_le true l
    have h2 := pastL_le false l
    split
    · lia
    · split <;> lia
theorem past_ge (T : Str) (r : Bool) (c : Int) : c ≤ pastT T r c := by unfold pastT; lia
theorem past_0 {T : Str} {r : Bool} {c : Int} (h : 0 ≤ c) : 0 ≤ pastT T r c := Int.le_trans h (past_ge T r c)
theorem past_T {T : Str} {r : Bool} {c : Int} (h0 : 0 ≤ c) (h : c ≤ T.length) : pastT T r c ≤ T.length := by
  unfold pastT
  have := pastL_le r (dr T c)
  have e : (dr T c).length = T.length - c.toNat := by unfold dr; rw [List.length_drop, cs_length]
  lia
theorem wordL_in {T : Str} {p0 : Int} : ∀ {n : Nat} {q sh r : Int} {st kp : Str} {d : Dat}, wordL T p0 n q st kp sh = .ok (d, r) → q ≤ r ∧ r < q + n
  | 0, _, _, _, _, _, _, h => by simp [wordL] at h
  | n + 1, q, sh, r, st, kp, d, h => by
    rw [wordL] at h
    split at h
    · simp only [Except.ok.injEq, Prod.mk.injEq] at h; lia
    · split at h
      · cases h
      · split at h
        · cases h
        · have := wordL_in h; lia
theorem wordF_in {T : Str} {p r : Int} {d : Dat} (hp : 0 ≤ p) (hT : p ≤ T.length) (h : wordF T p = .ok (d, r)) : 0 ≤ r ∧ r ≤ T.length := by
  have := wordL_in h
  lia
def nextP (T : Str) (b : Bool) (q : Int) : Int := if b = true then pastT T false q else q
def heardL (T : Str) (b : Bool) : Nat → Int → List Dat → List Dat × Int
  | 0, _, ds => (ds, -2)
  | n + 1, q, ds => match wordF T (nextP T b q) with
    | .error f => (ds, f)
    | .ok (d, r) => heardL T b n r (ds ++ [.tuple [d, .int r]])
def heardF (T : Str) (b : Bool) (p : Int) : List Dat × Int := heardL T b (T.length + 2) p []
structure HdS where
  here : Int
  ht : Tok
  ds : List Dat
  vs : Array Value
  cap : Nat
  tl : List (Addr × Obj)
  fd : Option Value
def hdLed {l : Addr} {news : List (Addr × Obj)} (_ : ∀ p ∈ news, p.1 < l) (c : HdS) : List (Addr × Obj) := (l, listOf c.vs c.cap) :: (c.tl ++ news)
def hdP {l : Addr} {news : List (Addr × Obj)} (_ : ∀ p ∈ news, p.1 < l) (T : Str) (b : Bool) (p : Int) (i : Nat) (c : HdS) : Prop :=
  0 ≤ c.here ∧ c.here ≤ T.length ∧ c.vs.size ≤ i ∧ DatAll c.tl c.vs.toList c.ds ∧ (∀ r ∈ c.tl, l < r.1 ∧ ∀ b ∈ news, b.1 < r.1) ∧ heardL T b (T.length + 2 - i) c.here c.ds = heardF T b p
theorem hdStepE {T : Str} {b : Bool} {p q f : Int} {i : Nat} {ds : List Dat} (hi : i < T.length + 2) (h : heardL T b (T.length + 2 - i) q ds = heardF T b p) (e : wordF T (nextP T b q) = .error f) : heardF T b p = (ds, f) := by
  rw [← h, show T.length + 2 - i = T.length + 2 - (i + 1) + 1 by lia, heardL, e]
theorem hdStepN {T : Str} {b : Bool} {p q r : Int} {d : Dat} {i : Nat} {ds : List Dat} (hi : i < T.length + 2) (h : heardL T b (T.length + 2 - i) q ds = heardF T b p) (e : wordF T (nextP T b q) = .ok (d, r)) : heardL T b (T.length + 2 - (i + 1)) r (ds ++ [.tuple [d, .int r]]) = heardF T b p := by
  rw [← h, show T.length + 2 - i = T.length + 2 - (i + 1) + 1 by lia, heardL, e]
theorem hdEnd {T : Str} {b : Bool} {p q : Int} {ds : List Dat} (h : heardL T b (T.length + 2 - (T.length + 2)) q ds = heardF T b p) : heardF T b p = (ds, -2) := by
  rw [← h, Nat.sub_self, heardL]
theorem next_t {T : Str} {b : Bool} {q : Int} (h : b = true) : pastT T false q = nextP T b q := by rw [nextP, if_pos h]
theorem next_f {T : Str} {b : Bool} {q : Int} (h : b = false) : q = nextP T b q := by rw [nextP, if_neg (ff h)]
theorem append_heard {prog : Program} {w : World} {A : Around} {E : Value → Shared → Prop} {s : Shared} {h₀ : Heap} {L D l : Addr} {o : Obj} {m : Str → Option Value} {news tl tl' own : List (Addr × Obj)} {vs : Array Value} {cap : Nat} {x : Value} {Q : Value → Shared → Prop} (F : Fr h₀ L s.heap m)
    (N : News h₀ L s.heap ((D, o) :: (tl' ++ ((l, listOf vs cap) :: (tl ++ news) ++ own)))) (l9 : ∀ p ∈ tl' ++ ((l, listOf vs cap) :: (tl ++ news) ++ own), p.1 < D) (l8 : ∀ r ∈ tl', ∀ b ∈ (l, listOf vs cap) :: (tl ++ news) ++ own, b.1 < r.1)
    (l7 : ∀ r ∈ tl, l < r.1 ∧ ∀ b ∈ news, b.1 < r.1) (l6 : ∀ p ∈ news, p.1 < l) (off : OwnOff own (((l, listOf vs cap) :: (tl ++ news)).map (·.1))) (hz : vs.size ≤ 1000)
    (h : ∀ h', Fr h₀ L h' m → News h₀ L h' ((D, o) :: (tl' ++ ((l, listOf (vs.push x) (cap + 1)) :: (tl ++ news) ++ own))) → Q .none { s with heap := h' }) : wpAny (model prog w) A (call (.builtin "list.append") [.ref l, x]) Q E s := by
  have e : ∀ o', (D, o) :: (tl' ++ ((l, o') :: (tl ++ news) ++ own)) = ((D, o) :: tl') ++ (l, o') :: ((tl ++ news) ++ own) := fun o' => by simp
  rw [e] at N
  have z := N (l, listOf vs cap) (List.mem_append.mpr (.inr (.head _)))
  refine append_at (hsz := by rw [sizeLine_eq]; lia) z.1 fun h' hs ho' => h h' (F.change hs z.2.1 z.2.2) ?_
  rw [e]
  refine news_set N ?_ ?_ hs ho'
  · intro p hp
    rcases List.mem_cons.mp hp with rfl | hp
    · exact Ne.symm (Nat.ne_of_lt (l9 (l, listOf vs cap) (List.mem_append_right _ (.head _))))
    · exact Ne.symm (Nat.ne_of_lt (l8 p hp (l, listOf vs cap) (.head _)))
  · intro p hp
    rcases List.mem_append.mp hp with hp | hp
    · rcases List.mem_append.mp hp with hp | hp
      · exact Ne.symm (Nat.ne_of_lt (l7 p hp).1)
      · exact Nat.ne_of_lt (l6 p hp)
    · intro z
      exact off p hp l (by simp) z
theorem tupHeard {D l : Addr} {tl : List (Addr × Obj)} {vs : Array Value} {cap : Nat} {ds : List Dat} {f : Int} {t : Tok} (h : DatAll tl vs.toList ds) : DatIn ((D, { cls := .type "tuple", data := Data.seq #[.ref l, .int f t] }) :: (l, listOf vs cap) :: tl) (.ref D) (.tuple [.list ds, .int f]) :=
  .tuple (.head _) (.cons (.list (vs := vs.toList) (.tail _ (.head _)) (h.mono fun _ hp => .tail _ (.tail _ hp))) (.cons (.int _ _) .nil))
theorem newsHeard {h₀ h₁ : Heap} {L₁ : Addr} {D l : Addr × Obj} {tl news own : List (Addr × Obj)} (N : News h₀ L₁ h₁ (D :: (l :: (tl ++ news) ++ own))) : News h₀ L₁ h₁ ((D :: l :: tl) ++ news) := cb_drop N (by kqd_sub)
theorem newsHeard0 {h₀ h₁ : Heap} {L₁ : Addr} {D l : Addr × Obj} {tl news : List (Addr × Obj)} (N : News h₀ L₁ h₁ (D :: (l :: (tl ++ news)))) : News h₀ L₁ h₁ ((D :: l :: tl) ++ news) := N
theorem hdNextP {T : Str} {b : Bool} {p q z : Int} {i : Nat} {ds : List Dat} {vs : Array Value} {cap : Nat} {l D : Addr} {tl tl' news own : List (Addr × Obj)} {v : Value} {d : Dat} {t : Tok} {here : Int} {fd : Option Value} (hl : ∀ p ∈ news, p.1 < l) (hi : i < T.length + 2) (hp : 0 ≤ z) (hT : z ≤ T.length) (hz : z = nextP T b here)
    (hc3 : vs.size ≤ i) (hc4 : DatAll tl vs.toList ds) (hc5 : ∀ r ∈ tl, l < r.1 ∧ ∀ b ∈ news, b.1 < r.1) (hc6 : heardL T b (T.length + 2 - i) here ds = heardF T b p) (r9 : wordF T z = .ok (d, q)) (z9 : DatIn tl' v d)
    (l9 : ∀ p ∈ tl' ++ ((l, listOf vs cap) :: (tl ++ news) ++ own), p.1 < D) (l8 : ∀ r ∈ tl', ∀ b ∈ (l, listOf vs cap) :: (tl ++ news) ++ own, b.1 < r.1) :
    hdP hl T b p (i + 1) ⟨q, t, ds ++ [.tuple [d, .int q]], vs.push (.ref D), cap + 1, (D, { cls := .type "tuple", data := Data.seq #[v, .int q t] }) :: (tl' ++ tl), fd⟩ := by
  obtain ⟨a1, a2⟩ := wordF_in hp hT r9
  refine ⟨a1, a2, by simp; lia, ?_, ?_, hdStepN hi hc6 (by rw [← hz]; exact r9)⟩
  · dsimp only
    rw [Array.toList_push]
    exact (hc4.mono fun _ hp => .tail _ (List.mem_append_right _ hp)).append (.cons (.tuple (.head _) (.cons (z9.mono fun _ hp => .tail _ (List.mem_append_left _ hp)) (.cons (.int _ _) .nil))) .nil)
  · intro r hr
    rcases List.mem_cons.mp hr with rfl | hr
    · exact ⟨l9 (l, listOf vs cap) (List.mem_append_right _ (.head _)), fun b hb => l9 b (List.mem_append_right _ (List.mem_append_left _ (.tail _ (List.mem_append_right _ hb))))⟩
    · rcases List.mem_append.mp hr with hr | hr
      · exact ⟨l8 r hr (l, listOf vs cap) (.head _), fun b hb => l8 r hr b (List.mem_append_left _ (.tail _ (List.mem_append_right _ hb)))⟩
      · exact hc5 r hr
theorem hdOff {D l : Addr} {o o2 : Obj} {tl tl' news own : List (Addr × Obj)} {vs : Array Value} {cap : Nat} (off : OwnOff own (((l, listOf vs cap) :: (tl ++ news)).map (·.1))) (l9 : ∀ p ∈ tl' ++ ((l, listOf vs cap) :: (tl ++ news) ++ own), p.1 < D) (l8 : ∀ r ∈ tl', ∀ b ∈ (l, listOf vs cap) :: (tl ++ news) ++ own, b.1 < r.1) :
    OwnOff own (((l, o) :: ((D, o2) :: (tl' ++ tl) ++ news)).map (·.1)) := by
  intro p hp b hb
  have hp' : p ∈ (l, listOf vs cap) :: (tl ++ news) ++ own := List.mem_append_right _ hp
  obtain ⟨r, hr, rfl⟩ := List.mem_map.mp hb
  rcases List.mem_cons.mp hr with rfl | hr
  · exact off p hp _ (by simp)
  rcases List.mem_append.mp hr with hr | hr
  · rcases List.mem_cons.mp hr with rfl | hr
    · exact Nat.ne_of_lt (l9 p (List.mem_append_right _ hp'))
    · rcases List.mem_append.mp hr with hr | hr
      · exact Nat.ne_of_lt (l8 r hr p hp')
      · exact off p hp r.1 (List.mem_map.mpr ⟨r, .tail _ (List.mem_append_left _ hr), rfl⟩)
  · exact off p hp r.1 (List.mem_map.mpr ⟨r, .tail _ (List.mem_append_right _ hr), rfl⟩)
theorem hdSub {l D : Addr} {o : Obj} {tl tl' news own : List (Addr × Obj)} {vs : Array Value} {cap : Nat} {ds : List Dat} {q : Int} {t : Tok} {fd : Option Value} (hl : ∀ p ∈ news, p.1 < l) : ∀ x ∈ hdLed hl ⟨q, t, ds, vs, cap, (D, o) :: (tl' ++ tl), fd⟩, x ∈ (D, o) :: (tl' ++ ((l, listOf vs cap) :: (tl ++ news) ++ own)) := by
  intro x hx
  simp only [hdLed, List.mem_cons, List.mem_append] at hx ⊢
  rcases hx with h | (h | h | h) | h <;> simp [h]
theorem memMid {D q : Addr × Obj} {tl' R own : List (Addr × Obj)} : q ∈ D :: (tl' ++ (q :: R ++ own)) := .tail _ (List.mem_append_right _ (List.mem_append_left _ (.head _)))
section
variable {w : World} {mean : ExcName → Option Value} {mg mb : Str → Option Value} {dp un : Nat} {gd : Option (List Code)} {cn : Str} {c1 : List (Str × NameKind)} {c2 c3 : Bool} {c4 : List (Str × Const)} {a : Addr} {ccd : Value} {cl : List (Str × Addr)} {outer : List Env} {A₀ : Around} {base h₀ : Heap} {L : Addr} {m : Str → Option Value} {s : Shared} {Q E : Value → Shared → Prop}
  {x dx : Addr} {T : Str} {p : Int} {t1 t2 t3 t4 t5 t6 t7 : Tok} {rest : List (Addr × Obj)} {signs what : Str} {begin_ : Int}

theorem heard_c {b : Bool} {news : List (Addr × Obj)} :
    Below A₀ base outer h₀ → Fr h₀ L s.heap m → (heapK w.params).In h₀ → News h₀ L s.heap news → Top viewV LO mean mg mb h₀ → 0 ≤ p → p ≤ T.length → T.length ≤ 600 → dp + 12 < recursionLimit → un + 100 < cLine →
    (∀ ds f, heardF T b p = (ds, f) → ∀ val tl h' tk', Fr h₀ L h' m → News h₀ L h' (tl ++ news) → DatIn tl val (.tuple [.list ds, .int f]) → Q val { s with heap := h', toks := tk' }) →
    wpAny (model Challenge.rw_sj0097_01.row.prog w) (ktrTop dp un gd cn (fnScope c1 c2 c3 c4) L a ccd cl outer) (call (.ref 276) [.str T t5, .int p t6, .bool b]) Q E s := by
  k_with_none
  k_with "call ref" => (k_here; (with_reducible show wpAny _ _ (call (Value.ref 269) _) _ _ _); k_dflt (refine' past_c ?k1z9 ?k2z9 ?k3z9 ?k4z9 ?k5z9 ?e0z9 ?e1z9 ?e2z9 ?kdz9 ?kuz9 ?_; (case k1z9 => k_asm); (case k2z9 => k_asm); (case k3z9 => k_asm); (case k4z9 => k_asm); (case k5z9 => k_asm); (case e0z9 => lia); (case e1z9 => lia); (case e2z9 => lia); (case kdz9 => ktr_room); (case kuz9 => ktr_units)); intro t9 h9 tk9 F9 N9; (try dsimp only))
  k_with "call ref" => (k_here; (with_reducible show wpAny _ _ (call (Value.ref 262) _) _ _ _); k_dflt (refine' lword_c ?k1z9 ?k2z9 ?k3z9 ?k4z9 ?k5z9 ?e0z9 ?e1z9 ?e2z9 ?kdz9 ?kuz9 ?_ ?_; (case k1z9 => k_asm); (case k2z9 => k_asm); (case k3z9 => k_asm); (case k4z9 => k_asm); (case k5z9 => k_asm); (case e0z9 => first | assumption | exact past_0 (by assumption)); (case e1z9 => first | assumption | exact past_T (by assumption) (by assumption)); (case e2z9 => assumption); (case kdz9 => ktr_room); (case kuz9 => ktr_units)); (intro f9 r9 t9 h9 tk9 F9 N9; (try dsimp only)); rotate_left; (intro d9 q9 r9 D9 v9 t9 tl9 h9 tk9 F9 N9 z9 l9 l8; (try dsimp only)); rotate_left)
  k_with "call builtin:list.append" => (k_here; (with_reducible show wpAny _ _ (call (Value.builtin _) [Value.ref _, _]) _ _ _); refine' append_heard ?k1z9 ?k2z9 ?k3z9 ?k4z9 ?k5z9 ?k6z9 ?k7z9 ?k8z9 ?_; (case k1z9 => k_asm); (case k2z9 => k_asm); (case k3z9 => assumption); (case k4z9 => assumption); (case k5z9 => assumption); (case k6z9 => assumption); (case k7z9 => assumption); (case k8z9 => lia); intro h9 F9 N9; (try dsimp only))
  k_with "getMethod ref" => (k_here; (with_reducible show wpAny _ _ (getMethod (Value.ref _) (Str.ofString "append") _) _ _ _); with_unfolding_all refine getMethod_append_N (by assumption) memMid ?_)
  k_with "pyIter ref" => ((rename ∀ p ∈ news, p.1 < _ => hl); (rename Fr _ _ _ _ => lF; rename News _ _ _ _ => lN; rename IsRange _ _ _ _ _ _ _ _ => rg; with_unfolding_all refine' wForRange (σ := HdS) (T.length + 2) (fun m c y => if y = Str.ofString "here" then some (.int c.here c.ht) else if y = Str.ofString "found" then c.fd else m y) (hdLed hl) (hdP hl T b p) (⟨p, _, [], #[], 0, [], none⟩) ?kh rg ?ks ?kz lF lN ?kl ?km ?kp ?_ ?_; (case kh => rfl); (case ks => exact small_one (by lia) (by lia) (by lia) (by lia)); (case kz => (rw [rangeSize_nat]; lia)); (case kl => dsimp only [hdLed]; kqd_sub); (case km => (intro y hy0; by_cases hy1 : y = Str.ofString "here"; (subst hy1; rfl); by_cases hy2 : y = Str.ofString "found"; (subst hy2; rfl); simp only [if_neg hy0, if_neg hy1, if_neg hy2])); (case kp => exact ⟨hp, hpT, Nat.le_refl _, .nil, (fun _ h => nomatch h), rfl⟩); (rintro i ⟨here, ht, ds, vs, cap, tl, fd⟩ t h' tk own hi hc off F' N'; dsimp only at hc F' N'; (dsimp only [hdLed] at N'); (obtain ⟨hc1, hc2, hc3, hc4, hc5, hc6⟩ := hc); dsimp only at hc1 hc2 hc3 hc4 hc5 hc6); rotate_left; (rintro ⟨here, ht, ds, vs, cap, tl, fd⟩ u h' tk hc F' N'; dsimp only at hc F' N'; (dsimp only [hdLed] at N'); (obtain ⟨hc1, hc2, hc3, hc4, hc5, hc6⟩ := hc); dsimp only at hc1 hc2 hc3 hc4 hc5 hc6); rotate_left))
  k_fill
  intro B F X N Tp hp hpT hT hd hu ret
  refine wpAny_call ?_
  k_dflt k_enter
  k_steps
  all_goals (try dsimp only [FPost])
  k_steps
  all_goals first
    | exact ret _ _ (hdStepE hi hc6 (by rw [← next_t (by assumption)]; assumption)) _ _ _ _ (by k_asm) (newsHeard (by k_asm)) (tupHeard hc4)
    | exact ret _ _ (hdStepE hi hc6 (by rw [← next_f (by assumption)]; assumption)) _ _ _ _ (by k_asm) (newsHeard (by k_asm)) (tupHeard hc4)
    | exact ret _ _ (hdEnd hc6) _ _ _ _ (by k_asm) (newsHeard0 (by k_asm)) (tupHeard hc4)
    | (refine fEnd (⟨_, _, _, _, _, _, _⟩ : HdS) (by k_asm) (by k_asm) (by (intro y hy0; by_cases hy1 : y = Str.ofString "here"; (subst hy1; rfl); by_cases hy2 : y = Str.ofString "found"; (subst hy2; rfl); simp only [if_neg hy0, if_neg hy1, if_neg hy2])) (hdSub hl) (by kqd_sub) (hdOff off (by assumption) (by assumption)) (hdNextP hl hi ?_ ?_ ?_ hc3 hc4 hc5 hc6 (by assumption) (by assumption) (by assumption) (by assumption)); (first | exact hc1 | exact past_0 hc1); (first | exact hc2 | exact past_T hc1 hc2); (first | exact next_t (by assumption) | exact next_f (by assumption)))
    | fail
end
end Mine
end
-- part TX5
section
namespace Mine
theorem freshTX5 : True := by
  w_top off
  trivial
end Mine
open PySem PySem.W PySem.Calls PyProof.Rows
set_option maxRecDepth 100000
set_option maxHeartbeats 8000000
namespace Mine
section
variable {prog : Program} {w : World} {A₀ A : Around} {s : Shared} {base h₀ : Heap} {L : Addr} {m : Str → Option Value} {env : Env} {news : List (Addr × Obj)} {K : Frag} {p : Program} {loose : List Str} {mean : ExcName → Option Value} {mg mb : Str → Option Value}
    {R : Result → Shared → Prop} {name qual : Str} {params : Arguments} {body : List Stmt} {scope : Scope} {dV kV doc pm cdv ct oc : Value} {an od : Option Addr} {osl : Array (Option Value)} {f : Addr} {args : Args} {binds : List (Str × Value)}
/-- the leaving of a frame that has caught: the caller's view, its frame's slots turned -/
theorem leaveTurn {g : Heap} (F : Fr h₀ L s.heap m) (FG : Fr h₀ L g m) (hf : env.frame = some L) {v : Value} {s' : Shared} (l : LeaveS0 ([env].filterMap (·.frame)) h₀ L m g R v s') : R (.ok (.ret v)) s' := by
  obtain ⟨g', L', m', news', T', F', N', k⟩ := l
  obtain ⟨oL, es, ep, hLg, hLd, hLk, hLf⟩ := FG.ns
  have hm : ∀ b, b ∈ [env].filterMap (·.frame) → b = L := fun b hb => by
    obtain ⟨e, he, hb⟩ := List.mem_filterMap.mp hb
    rw [List.mem_singleton.mp he, hf] at hb
    exact (Option.some.inj hb).symm
  obtain ⟨sl, hs⟩ := T'.up hLg
  have up : ∀ b o, h₀.get? b = some o → s'.heap.get? b = some o := fun b o e => F'.keep b o (T'.other b o (FG.keep b o e) fun hb => by
    have z := kts_self FG
    rw [← hm b hb, e] at z
    cases z)
  refine k ⟨⟨_, es, ep, F'.keep _ _ hs, hLd, hLk, hLf⟩, up, F.above⟩ fun q hq => ⟨(N' q hq).1, fun e => ?_, ?_⟩
  · have z := (N' q hq).2.2
    rw [e, hs] at z
    cases z
  · cases e : h₀.get? q.1 with
    | none => rfl
    | some o =>
      obtain ⟨sl', hs'⟩ := T'.up (FG.keep _ _ e)
      have z := (N' q hq).2.2
      rw [hs'] at z
      cases z
theorem code_defX0 (B : Below A₀ base [] h₀) (F : Fr h₀ L s.heap m) (X₀ : K.In h₀) (N : News h₀ L s.heap news) (T : Top p loose mean mg mb h₀) (hA : A.frames = some [env]) (hf : env.frame = some L) (hke : env.scope.kind = .function)
    (ho : K.lookup f = some ⟨oc, od, .func (fnOf name qual params body scope dV kV doc pm an cdv ct), osl⟩) (hcd : codeIn K cdv qual = true) (hroom : A.depth < recursionLimit)
    (hbind : BindsTo s (fnOf name qual params body scope dV kV doc pm an cdv ct) args binds) (hloc : ∀ y ∈ binds, scope.names.lookup y.1 = some .local)
    (h : ∀ g L' h₁, Fr h₀ L g m → Fr g L' h₁ (fun y => binds.reverse.lookup y) → News g L' h₁ news → Below A base [env] g → K.In g → Top p loose mean mg mb g →
      wpAny (model prog w) (A.deeper (envOf qual scope L' f cdv)) (execs body (envOf qual scope L' f cdv))
        (fun fl s' => LeaveS0 ([env].filterMap (·.frame)) h₀ L m g R (match fl with | .ret v => v | _ => .none) s')
        (fun e s' => wpAny (model prog w) (A.deeper (envOf qual scope L' f cdv)) (leaving (envOf qual scope L' f cdv) e) (fun _ s'' => R (.error e) s'') (fun e' s'' => R (.error e') s'') s')
        { s with heap := h₁, toks := s.toks + binds.length })
    (hco : scope.isCoroutine = false) (hgen : scope.isGenerator = false) (hk : scope.kind = .function)
    (hcell : ∀ x ∈ scope.names, x.2 ≠ .cell) : codeAny (model prog w) A (.call (.ref f) args) R s := by
  have X := X₀.keeps F.keep
  obtain ⟨FG, BG, st, _⟩ := groundX (R := R) B F N hA hf hke
  refine codeAny_call_def (fd := fnOf name qual params body scope dV kV doc pm an cdv ct) (body := body) (binds := binds) hroom (X _ _ ho) rfl (T.nolimit.keeps F.keep) (codeRec_of X hcd) rfl hbind hcell hloc (fun h₁ hns hk₁ => ?_) hco hgen hk
  have N₁ : News (hideAll s.heap (news.map (·.1))) s.heap.objs.size h₁ news := fun q hq => ⟨hk₁ _ _ (N q hq).1, Nat.ne_of_lt (Heap.lt_size (N q hq).1), hideAll_none _ (List.mem_map_of_mem hq)⟩
  have F₁ : Fr (hideAll s.heap (news.map (·.1))) s.heap.objs.size h₁ (fun y => binds.reverse.lookup y) := ⟨hns, fun b o e => hk₁ b o (of_hideAll _ e), Nat.le_of_eq (hideAll_size _ _)⟩
  exact wpAny_mono (h _ _ h₁ FG F₁ N₁ BG (X₀.keeps st) (T.keeps st)) (fun fl s' hl => leaveTurn F FG hf hl) fun _ _ y => y
end
end Mine
end
-- part W22
section
namespace Mine
theorem freshW22 : True := by
  w_top off
  trivial
end Mine
open PySem PySem.W PySem.Calls PyProof.Rows
set_option maxRecDepth 100000
set_option maxHeartbeats 8000000
namespace Mine

def toldL (T : Str) (b : Bool) : Nat → Int → List Dat → List Dat × Int
  | 0, _, ds => (ds, -1)
  | n + 1, q, ds => match readF T (nextP T b q) with
    | .error f => (ds, f)
    | .ok (d, r) => toldL T b n r (ds ++ [.tuple [d, .int r]])
def toldF (T : Str) (b : Bool) (p : Int) : List Dat × Int := toldL T b (T.length + 2) p []
structure TdS where
  x : Addr
  dx : Addr
  l : Addr
  t1 : Tok
  t2 : Tok
  t3 : Tok
  t4 : Tok
  sp : Int
  ds : List Dat
  vs : Array Value
  cap : Nat
  tl : List (Addr × Obj)
  it : Option Value
def tdLed (w : World) (T : Str) (news : List (Addr × Obj)) (c : TdS) : List (Addr × Obj) := (c.x, instObj 194 c.dx) :: (c.dx, scanD w.params T c.sp c.t1 c.t2 c.t3 c.t4) :: (c.l, listOf c.vs c.cap) :: (c.tl ++ news)
def tdP (T : Str) (b : Bool) (p : Int) (news : List (Addr × Obj)) (i : Nat) (c : TdS) : Prop :=
  0 ≤ c.sp ∧ c.sp ≤ T.length ∧ c.vs.size ≤ i ∧ DatAll c.tl c.vs.toList c.ds ∧ (∀ r ∈ c.tl, c.l < r.1 ∧ ∀ b ∈ news, b.1 < r.1) ∧ (c.dx < c.x ∧ c.x < c.l ∧ ∀ b ∈ news, b.1 < c.dx) ∧ toldL T b (T.length + 2 - i) c.sp c.ds = toldF T b p
theorem newsFront {h₀ h₁ : Heap} {L₁ : Addr} {x d : Addr × Obj} {tl rest : List (Addr × Obj)} (N : News h₀ L₁ h₁ (tl ++ (x :: d :: rest))) : News h₀ L₁ h₁ (x :: d :: (tl ++ rest)) := cb_drop N (by kqd_sub)
theorem memTold {D x d q : Addr × Obj} {tl' R : List (Addr × Obj)} : q ∈ D :: x :: d :: (tl' ++ (q :: R)) := .tail _ (.tail _ (.tail _ (List.mem_append_right _ (.head _))))
theorem memTold0 {x d : Addr × Obj} {l : Addr} {vs : Array Value} {cap : Nat} {tl' R : List (Addr × Obj)} : (l, listOf vs cap) ∈ x :: d :: (tl' ++ ((l, listOf vs cap) :: R)) := .tail _ (.tail _ (List.mem_append_right _ (.head _)))
theorem lt3 {x dx D : Addr} {l : List (Addr × Obj)} (h : x < D ∧ dx < D ∧ AllLt D l) : x < D ∧ dx < D ∧ ∀ p ∈ l, p.1 < D := ⟨h.1, h.2.1, lt_all h.2.2⟩
theorem append_told {prog : Program} {w : World} {A : Around} {E : Value → Shared → Prop} {s : Shared} {h₀ : Heap} {L D x dx l : Addr} {o o1 o2 : Obj} {m : Str → Option Value} {news tl tl' own : List (Addr × Obj)} {vs : Array Value} {cap : Nat} {v : Value} {Q : Value → Shared → Prop} (F : Fr h₀ L s.heap m)
    (N : News h₀ L s.heap ((D, o) :: (x, o1) :: (dx, o2) :: (tl' ++ ((l, listOf vs cap) :: (tl ++ news ++ own))))) (l9 : x < D ∧ dx < D ∧ ∀ p ∈ tl' ++ ((l, listOf vs cap) :: (tl ++ news ++ own)), p.1 < D) (l8 : ∀ r ∈ tl', ∀ b ∈ (x, o1) :: (dx, o2) :: (l, listOf vs cap) :: (tl ++ news ++ own), b.1 < r.1)
    (l7 : ∀ r ∈ tl, l < r.1 ∧ ∀ b ∈ news, b.1 < r.1) (l6 : dx < x ∧ x < l ∧ ∀ p ∈ news, p.1 < dx) {o3 : Obj} (off : OwnOff own (((x, o1) :: (dx, o3) :: (l, listOf vs cap) :: (tl ++ news)).map (·.1))) (hz : vs.size ≤ 1000)
    (h : ∀ h', Fr h₀ L h' m → News h₀ L h' ((D, o) :: (x, o1) :: (dx, o2) :: (tl' ++ ((l, listOf (vs.push v) (cap + 1)) :: (tl ++ news ++ own)))) → Q .none { s with heap := h' }) : wpAny (model prog w) A (call (.builtin "list.append") [.ref l, v]) Q E s := by
  have e : ∀ o', (D, o) :: (x, o1) :: (dx, o2) :: (tl' ++ ((l, o') :: (tl ++ news ++ own))) = ((D, o) :: (x, o1) :: (dx, o2) :: tl') ++ (l, o') :: (tl ++ news ++ own) := fun o' => by simp
  rw [e] at N
  have z := N (l, listOf vs cap) (List.mem_append.mpr (.inr (.head _)))
  obtain ⟨a1, a2, a3⟩ := l6
  refine append_at (hsz := by rw [sizeLine_eq]; lia) z.1 fun h' hs ho' => h h' (F.change hs z.2.1 z.2.2) ?_
  rw [e]
  refine news_set N ?_ ?_ hs ho'
  · intro p hp
    rcases List.mem_cons.mp hp with rfl | hp
    · exact Ne.symm (Nat.ne_of_lt (l9.2.2 (l, listOf vs cap) (List.mem_append_right _ (.head _))))
    rcases List.mem_cons.mp hp with rfl | hp
    · exact Nat.ne_of_lt a2
    rcases List.mem_cons.mp hp with rfl | hp
    · exact Nat.ne_of_lt (Nat.lt_trans a1 a2)
    · exact Ne.symm (Nat.ne_of_lt (l8 p hp (l, listOf vs cap) (.tail _ (.tail _ (.head _)))))
  · intro p hp
    rcases List.mem_append.mp hp with hp | hp
    · rcases List.mem_append.mp hp with hp | hp
      · exact Ne.symm (Nat.ne_of_lt (l7 p hp).1)
      · exact Nat.ne_of_lt (Nat.lt_trans (a3 p hp) (Nat.lt_trans a1 a2))
    · intro z
      exact off p hp l (by simp) z
theorem sf_spot {P : Params} {what : Str} {spot : Int} {u1 u2 k1 k2 : Tok} : lookIn "spot" (sfD P what spot u1 u2 k1 k2) = some (some (.int spot u2)) := rfl
theorem InstAt.exc1 {h₀ h : Heap} {L e C de : Addr} {news : List (Addr × Obj)} {vs : Array Value} {sl : Array (Option Value)} {od : Obj} (N : News h₀ L h ((e, ⟨.ref C, some de, .fields vs, sl⟩) :: (de, od) :: news)) :
    W.InstAt h e ⟨.ref C, some de, .fields vs, sl⟩ C (some od) := ⟨(N _ (.head _)).1, rfl, rfl, (N _ (.tail _ (.head _))).1⟩
theorem tdStepE {T : Str} {b : Bool} {p q f : Int} {i : Nat} {ds : List Dat} (hi : i < T.length + 2) (h : toldL T b (T.length + 2 - i) q ds = toldF T b p) (e : readF T (nextP T b q) = .error f) : toldF T b p = (ds, f) := by
  rw [← h, show T.length + 2 - i = T.length + 2 - (i + 1) + 1 by lia, toldL, e]
theorem tdStepN {T : Str} {b : Bool} {p q r : Int} {d : Dat} {i : Nat} {ds : List Dat} (hi : i < T.length + 2) (h : toldL T b (T.length + 2 - i) q ds = toldF T b p) (e : readF T (nextP T b q) = .ok (d, r)) : toldL T b (T.length + 2 - (i + 1)) r (ds ++ [.tuple [d, .int r]]) = toldF T b p := by
  rw [← h, show T.length + 2 - i = T.length + 2 - (i + 1) + 1 by lia, toldL, e]
theorem tdEnd {T : Str} {b : Bool} {p q : Int} {ds : List Dat} (h : toldL T b (T.length + 2 - (T.length + 2)) q ds = toldF T b p) : toldF T b p = (ds, -1) := by
  rw [← h, Nat.sub_self, toldL]
theorem newsToldE {h₀ h₁ : Heap} {L₁ : Addr} {D e de l : Addr × Obj} {tl news own : List (Addr × Obj)} (N : News h₀ L₁ h₁ (D :: e :: de :: l :: (tl ++ news ++ own))) : News h₀ L₁ h₁ ((D :: l :: tl) ++ news) := cb_drop N (by kqd_sub)
theorem newsToldN {h₀ h₁ : Heap} {L₁ : Addr} {D e de l : Addr × Obj} {tl news : List (Addr × Obj)} (N : News h₀ L₁ h₁ (D :: e :: de :: l :: (tl ++ news))) : News h₀ L₁ h₁ ((D :: l :: tl) ++ news) := cb_drop N (by kqd_sub)
theorem tdNextP {T : Str} {b : Bool} {p q z : Int} {i : Nat} {ds : List Dat} {vs : Array Value} {cap : Nat} {l D x dx : Addr} {o1 o2 o3 : Obj} {tl tl' news own : List (Addr × Obj)} {v : Value} {d : Dat} {t t1 t2 t3 t4 : Tok} {here : Int} {it : Option Value}
    (hin : ∀ (z : Int) (d : Dat) (q : Int), 0 ≤ z → z ≤ T.length → readF T z = .ok (d, q) → 0 ≤ q ∧ q ≤ T.length) (hi : i < T.length + 2) (hp : 0 ≤ z) (hT : z ≤ T.length) (hz : z = nextP T b here)
    (hc3 : vs.size ≤ i) (hc4 : DatAll tl vs.toList ds) (hc5 : ∀ r ∈ tl, l < r.1 ∧ ∀ b ∈ news, b.1 < r.1) (hc6 : dx < x ∧ x < l ∧ ∀ b ∈ news, b.1 < dx) (hc7 : toldL T b (T.length + 2 - i) here ds = toldF T b p) (r9 : readF T z = .ok (d, q)) (z9 : DatIn tl' v d)
    (l9 : x < D ∧ dx < D ∧ AllLt D (tl' ++ ((l, o3) :: (tl ++ news ++ own)))) (l8 : ∀ r ∈ tl', ∀ b ∈ (x, o1) :: (dx, o2) :: (l, o3) :: (tl ++ news ++ own), b.1 < r.1) :
    tdP T b p news (i + 1) ⟨x, dx, l, t1, t2, t3, t4, q, ds ++ [.tuple [d, .int q]], vs.push (.ref D), cap + 1, (D, { cls := .type "tuple", data := Data.seq #[v, .int q t] }) :: (tl' ++ tl), it⟩ := by
  obtain ⟨a1, a2⟩ := hin _ _ _ hp hT r9
  have l9' := lt_all l9.2.2
  refine ⟨a1, a2, by simp; lia, ?_, ?_, hc6, tdStepN hi hc7 (by rw [← hz]; exact r9)⟩
  · dsimp only
    rw [Array.toList_push]
    exact (hc4.mono fun _ hp => .tail _ (List.mem_append_right _ hp)).append (.cons (.tuple (.head _) (.cons (z9.mono fun _ hp => .tail _ (List.mem_append_left _ hp)) (.cons (.int _ _) .nil))) .nil)
  · intro r hr
    rcases List.mem_cons.mp hr with rfl | hr
    · exact ⟨l9' (l, o3) (List.mem_append_right _ (.head _)), fun b hb => l9' b (List.mem_append_right _ (.tail _ (List.mem_append_left _ (List.mem_append_right _ hb))))⟩
    · rcases List.mem_append.mp hr with hr | hr
      · exact ⟨l8 r hr (l, o3) (.tail _ (.tail _ (.head _))), fun b hb => l8 r hr b (.tail _ (.tail _ (.tail _ (List.mem_append_left _ (List.mem_append_right _ hb)))))⟩
      · exact hc5 r hr
theorem tdOff {D l x dx : Addr} {o1 o2 o2' o3 o4 o5 : Obj} {tl tl' news own : List (Addr × Obj)} (off : OwnOff own (((x, o1) :: (dx, o2) :: (l, o3) :: (tl ++ news)).map (·.1))) (l9 : x < D ∧ dx < D ∧ AllLt D (tl' ++ ((l, o3) :: (tl ++ news ++ own)))) (l8 : ∀ r ∈ tl', ∀ b ∈ (x, o1) :: (dx, o2') :: (l, o3) :: (tl ++ news ++ own), b.1 < r.1) :
    OwnOff own (((x, o1) :: (dx, o2') :: (l, o4) :: ((D, o5) :: (tl' ++ tl) ++ news)).map (·.1)) := by
  intro p hp b hb
  have hp' : p ∈ (l, o3) :: (tl ++ news ++ own) := .tail _ (List.mem_append_right _ hp)
  obtain ⟨r, hr, rfl⟩ := List.mem_map.mp hb
  rcases List.mem_cons.mp hr with rfl | hr
  · exact off p hp _ (by simp)
  rcases List.mem_cons.mp hr with rfl | hr
  · exact off p hp _ (by simp)
  rcases List.mem_cons.mp hr with rfl | hr
  · exact off p hp _ (by simp)
  rcases List.mem_append.mp hr with hr | hr
  · rcases List.mem_cons.mp hr with rfl | hr
    · exact Nat.ne_of_lt (lt_all l9.2.2 p (List.mem_append_right _ hp'))
    · rcases List.mem_append.mp hr with hr | hr
      · exact Nat.ne_of_lt (l8 r hr p (.tail _ (.tail _ hp')))
      · exact off p hp r.1 (List.mem_map.mpr ⟨r, .tail _ (.tail _ (.tail _ (List.mem_append_left _ hr))), rfl⟩)
  · exact off p hp r.1 (List.mem_map.mpr ⟨r, .tail _ (.tail _ (.tail _ (List.mem_append_right _ hr))), rfl⟩)
theorem tdSub {w : World} {T : Str} {l D x dx : Addr} {o : Obj} {tl tl' news own : List (Addr × Obj)} {vs : Array Value} {cap : Nat} {ds : List Dat} {q : Int} {t1 t2 t3 t4 : Tok} {it : Option Value} : ∀ z ∈ tdLed w T news ⟨x, dx, l, t1, t2, t3, t4, q, ds, vs, cap, (D, o) :: (tl' ++ tl), it⟩, z ∈ (D, o) :: (x, instObj 194 dx) :: (dx, scanD w.params T q t1 t2 t3 t4) :: (tl' ++ ((l, listOf vs cap) :: (tl ++ news ++ own))) := by
  intro z hz
  simp only [tdLed, List.mem_cons, List.mem_append] at hz ⊢
  rcases hz with h | h | h | (h | h | h) | h <;> simp [h]
theorem tdRest {x dx l : Addr} {o1 o2 o3 : Obj} {tl news own : List (Addr × Obj)} (off : OwnOff own (((x, o1) :: (dx, o2) :: (l, o3) :: (tl ++ news)).map (·.1))) (h5 : ∀ r ∈ tl, l < r.1 ∧ ∀ b ∈ news, b.1 < r.1) (h6 : dx < x ∧ x < l ∧ ∀ b ∈ news, b.1 < dx) : x ≠ dx ∧ ∀ q ∈ (l, o3) :: (tl ++ news ++ own), q.1 ≠ dx := by
  obtain ⟨a1, a2, a3⟩ := h6
  have hl : dx < l := Nat.lt_trans a1 a2
  refine ⟨Ne.symm (Nat.ne_of_lt a1), fun q hq => ?_⟩
  rcases List.mem_cons.mp hq with rfl | hq
  · exact Ne.symm (Nat.ne_of_lt hl)
  rcases List.mem_append.mp hq with hq | hq
  · rcases List.mem_append.mp hq with hq | hq
    · exact Ne.symm (Nat.ne_of_lt (Nat.lt_trans hl (h5 q hq).1))
    · exact Nat.ne_of_lt (a3 q hq)
  · exact off q hq dx (by simp)
section
variable {w : World} {mean : ExcName → Option Value} {mg mb : Str → Option Value} {dp un : Nat} {gd : Option (List Code)} {cn : Str} {c1 : List (Str × NameKind)} {c2 c3 : Bool} {c4 : List (Str × Const)} {a : Addr} {ccd : Value} {cl : List (Str × Addr)} {outer : List Env} {A₀ : Around} {base h₀ : Heap} {L : Addr} {m : Str → Option Value} {s : Shared} {Q E : Value → Shared → Prop}
  {x dx : Addr} {T : Str} {p : Int} {t1 t2 t3 t4 t5 t6 t7 : Tok} {rest : List (Addr × Obj)} {signs what : Str} {begin_ : Int}

theorem told_c {b : Bool} {news : List (Addr × Obj)} :
    Below A₀ h₀ [] h₀ → Fr h₀ L s.heap m → (heapK w.params).In h₀ → News h₀ L s.heap news → Top viewV LO mean mg mb h₀ → 0 ≤ p → p ≤ T.length → T.length ≤ 600 → dp + 14 < recursionLimit → un + 120 < cLine →
    (∀ (z : Int) (d : Dat) (q : Int), 0 ≤ z → z ≤ T.length → readF T z = .ok (d, q) → 0 ≤ q ∧ q ≤ T.length) →
    (∀ ds f, toldF T b p = (ds, f) → ∀ val tl h' tk', Fr h₀ L h' m → News h₀ L h' (tl ++ news) → DatIn tl val (.tuple [.list ds, .int f]) → Q val { s with heap := h', toks := tk' }) →
    wpAny (model Challenge.rw_sj0097_01.row.prog w) (ktrTop dp un gd cn (fnScope c1 c2 c3 c4) L a ccd cl []) (call (.ref 283) [.str T t5, .int p t6, .bool b]) Q E s := by
  k_with_none
  k_with "call ref" => (k_here; (with_reducible show wpAny _ _ (call (Value.ref 135) _) _ _ _); k_dflt (refine' skip_c ?k1z9 ?k2z9 ?k3z9 ?k4z9 ?k5z9 ?k6z9 ?k7z9 ?k8z9 ?k9z9 ?k10z9 ?kdz9 ?kuz9 ?_; (case k1z9 => k_asm); (case k2z9 => k_asm); (case k3z9 => k_asm); (case k4z9 => k_asm); (case k5z9 => k_asm); (case k6z9 => assumption); (case k7z9 => assumption); (case k8z9 => assumption); (case k9z9 => assumption); (case k10z9 => lia); (case kdz9 => ktr_room); (case kuz9 => ktr_units)); intro t9 h9 tk9 F9 N9; (try dsimp only))
  k_with "call ref" => (k_here; (with_reducible show wpAny _ _ (call (Value.ref 191) _) _ _ _); k_dflt (refine' word_c ?k1z9 ?k2z9 ?k3z9 ?k4z9 ?k5z9 ?k6z9 ?k7z9 ?k8z9 ?k9z9 ?k10z9 ?kdz9 ?kuz9 ?_ ?_; (case k1z9 => k_asm); (case k2z9 => k_asm); (case k3z9 => k_asm); (case k4z9 => k_asm); (case k5z9 => k_asm); (case k6z9 => assumption); (case k7z9 => assumption); (case k8z9 => first | assumption | exact past_0 (by assumption)); (case k9z9 => first | assumption | exact past_T (by assumption) (by assumption)); (case k10z9 => lia); (case kdz9 => ktr_room); (case kuz9 => ktr_units)); (intro i9 q9 r9; unfold Reads; intro v9 tl9 t9 h9 tk9 F9 N9 D9 lt9; (replace N9 := newsFront N9); (try dsimp only)); rotate_left; (intro f9 r9; unfold RaisesTo; intro e9 de9 w9 t9 u9 k9 l9 h9 tk9 G9 F9 U9 R9; (try dsimp only)); rotate_left)
  k_with "getMethod ref" => (k_here; (with_reducible show wpAny _ _ (getMethod (Value.ref _) (Str.ofString "append") _) _ _ _); k_dflt (refine' getMethod_append_N ?k1z9 memTold0 ?_; (case k1z9 => with_reducible assumption)))
  k_with "call builtin:list.append" => (k_here; (with_reducible show wpAny _ _ (call (Value.builtin _) [Value.ref _, _]) _ _ _); refine' append_told ?k1z9 ?k2z9 ?k3z9 ?k4z9 ?k5z9 ?k6z9 ?k7z9 ?k8z9 ?_; (case k1z9 => k_asm); (case k2z9 => k_asm); (case k3z9 => first | with_reducible assumption | exact lt3 (by with_reducible assumption)); (case k4z9 => with_reducible assumption); (case k5z9 => with_reducible assumption); (case k6z9 => with_reducible assumption); (case k7z9 => with_reducible assumption); (case k8z9 => lia); intro h9 F9 N9; (try dsimp only))
  k_with "noteFrame ref" => (k_here; k_dflt (refine' caughtD ?Rz9 ?Fz9 ?Kz9 ?Uz9 ?XBz9 ?TBz9 ?exz9 ?qz9 ?_; (case Rz9 => assumption); (case Fz9 => assumption); (case Kz9 => assumption); (case Uz9 => assumption); (case XBz9 => assumption); (case TBz9 => assumption); (case exz9 => k_is); (case qz9 => kts_isx)); intro h9 g9 tk9 vs9 sl9 T9 F9 N9 K9 X9 P9; (try k_lift K9))
  k_with "getAttr ref" => (k_here; (with_reducible show wpAny _ _ (getAttr (Value.ref _) (Str.ofString "spot") _) _ _ _); k_dflt (refine' exGet ?k1z9 ?k2z9 (InstAt.exc1 ?Nz9) ?k4z9 ?k5z9 ?k6z9 (findObj_own ?kaz9 ?kbz9 ?kcz9 sf_spot) ?k8z9 ?_; (case k1z9 => k_asm); (case k2z9 => k_asm); (case Nz9 => k_asm); (case k4z9 => k_is); (case k5z9 => k_is); (case k6z9 => k_is); (case kaz9 => k_is); (case kbz9 => k_is); (case kcz9 => k_is); (case k8z9 => rfl)))
  k_with "pyIter ref" => (rename Fr _ _ _ _ => lF; rename News _ _ _ _ => lN; rename IsRange _ _ _ _ _ _ _ _ => rg; with_unfolding_all refine' wForRange (σ := TdS) (T.length + 2) (fun m c y => if y = Str.ofString "scanner" then some (.ref c.x) else if y = Str.ofString "told" then some (.ref c.l) else if y = Str.ofString "item" then c.it else m y) (tdLed w T news) (tdP T b p news) (⟨_, _, _, _, _, _, _, p, [], #[], 0, [], none⟩) ?kh rg ?ks ?kz lF lN ?kl ?km ?kp ?_ ?_; (case kh => rfl); (case ks => exact small_one (by lia) (by lia) (by lia) (by lia)); (case kz => (rw [rangeSize_nat]; lia)); (case kl => dsimp only [tdLed]; kqd_sub); (case km => (intro y hy0; by_cases hy1 : y = Str.ofString "scanner"; (subst hy1; rfl); by_cases hy2 : y = Str.ofString "told"; (subst hy2; rfl); by_cases hy3 : y = Str.ofString "item"; (subst hy3; rfl); simp only [if_neg hy0, if_neg hy1, if_neg hy2, if_neg hy3])); (case kp => exact ⟨hp, hpT, Nat.le_refl _, .nil, (fun _ h => nomatch h), ⟨by assumption, And.left (by assumption), by assumption⟩, rfl⟩); (rintro i ⟨x, dx, l, t1, t2, t3, t4, sp, ds, vs, cap, tl, it⟩ t h' tk own hi hc off F' N'; dsimp only at hc F' N'; (dsimp only [tdLed] at N'); (dsimp only [tdLed] at off); (try simp only [List.cons_append] at N'); (obtain ⟨hc1, hc2, hc3, hc4, hc5, hc6, hc7⟩ := hc); dsimp only at hc1 hc2 hc3 hc4 hc5 hc6 hc7; obtain ⟨hx, hr⟩ := tdRest off hc5 hc6); rotate_left; (rintro ⟨x, dx, l, t1, t2, t3, t4, sp, ds, vs, cap, tl, it⟩ u h' tk hc F' N'; dsimp only at hc F' N'; (dsimp only [tdLed] at N'); (try simp only [List.cons_append] at N'); (obtain ⟨hc1, hc2, hc3, hc4, hc5, hc6, hc7⟩ := hc); dsimp only at hc1 hc2 hc3 hc4 hc5 hc6 hc7); rotate_left)
  k_fill
  intro B F X N Tp hp hpT hT hd hu hin ret
  refine wpAny_call ?_
  k_dflt (refine' code_defX0 ?k1 ?k2 ?k3 ?k4 ?k5 ?kA ?kf ?kk ?k6 ?k7 ?k8 ?k9 ?kB ?_ ?c2 ?c3 ?c4 ?c5; (case kA => exact rfl); (case kf => exact rfl); (case kk => exact rfl); (case k2 => k_asm); (case k1 => k_asm); (case k3 => k_asm); (case k4 => k_asm); (case k5 => k_asm); (case k6 => k_is); (case k7 => k_is); (case k8 => k_room); (case k9 => first | exact binds_K (by k_in) rfl (by k_is) rfl rfl rfl | exact BindsTo.of_eq rfl); (case kB => exact locs rfl); (case c2 => exact rfl); (case c3 => exact rfl); (case c4 => exact rfl); (case c5 => decide); intro g' L' h' FG' F' N' B' X' T'; (try dsimp only); (try k_lift B'); (try k_fold))
  k_steps
  all_goals (try dsimp only [FPost])
  k_steps
  all_goals first
    | exact ret _ _ (tdStepE hi hc7 (by rw [← next_t (by assumption)]; with_reducible assumption)) _ _ _ _ (by k_asm) (newsToldE (by k_asm)) (tupHeard hc4)
    | exact ret _ _ (tdStepE hi hc7 (by rw [← next_f (by assumption)]; with_reducible assumption)) _ _ _ _ (by k_asm) (newsToldE (by k_asm)) (tupHeard hc4)
    | exact ret _ _ (tdEnd hc7) _ _ _ _ (by k_asm) (newsToldN (by k_asm)) (tupHeard hc4)
    | (refine fEnd (⟨x, dx, l, t1, t2, t3, _, _, _, _, _, _, _⟩ : TdS) (by k_asm) (by k_asm) (by (intro y hy0; by_cases hy1 : y = Str.ofString "scanner"; (subst hy1; rfl); by_cases hy2 : y = Str.ofString "told"; (subst hy2; rfl); by_cases hy3 : y = Str.ofString "item"; (subst hy3; rfl); simp only [if_neg hy0, if_neg hy1, if_neg hy2, if_neg hy3])) tdSub (by kqd_sub) (tdOff off (by with_reducible assumption) (by with_reducible assumption)) (tdNextP hin hi ?_ ?_ ?_ hc3 hc4 hc5 hc6 hc7 (by with_reducible assumption) (by with_reducible assumption) (by with_reducible assumption) (by with_reducible assumption)); (first | exact hc1 | exact past_0 hc1); (first | exact hc2 | exact past_T hc1 hc2); (first | exact next_t (by assumption) | exact next_f (by assumption)))
    | fail
end
end Mine
end
-- part W23
section
namespace Mine
theorem freshW23 : True := by
  w_top off
  trivial
end Mine
open PySem PySem.W PySem.Calls PyProof.Rows
set_option maxRecDepth 100000
set_option maxHeartbeats 8000000
namespace Mine
section
variable {w : World} {mean : ExcName → Option Value} {mg mb : Str → Option Value} {dp un : Nat} {gd : Option (List Code)} {cn : Str} {c1 : List (Str × NameKind)} {c2 c3 : Bool} {c4 : List (Str × Const)} {a : Addr} {ccd : Value} {cl : List (Str × Addr)} {outer : List Env} {A₀ : Around} {base h₀ : Heap} {L : Addr} {m : Str → Option Value} {s : Shared} {Q E : Value → Shared → Prop}
  {x dx : Addr} {T : Str} {p : Int} {t1 t2 t3 t4 t5 t6 t7 : Tok} {rest : List (Addr × Obj)} {signs what : Str} {begin_ : Int}

abbrev feedKV (c : Addr) (k : Int) (t : Tok) : List (Str × Value) := [(Str.ofString "cells", .ref c), (Str.ofString "at", .int k t)]
theorem pick_c {c d : Addr} {o : Obj} {vs : List Value} {ns : List Int} {n : Nat} {k wide : Int} {tk0 tw : Tok} :
    Below A₀ base outer h₀ → Fr h₀ L s.heap m → (heapK w.params).In h₀ → News h₀ L s.heap ((c, listOf vs.toArray n) :: (d, o) :: rest) → Top viewV LO mean mg mb h₀ →
    o.IsDictOf (PySem.strKind Challenge.rw_sj0097_01.row.prog w) (feedKV c k tk0) → IntsAre vs ns → c ≠ d → (∀ q ∈ rest, q.1 ≠ d) → 0 ≤ k → k ≤ 1000 → vs.length ≤ 100 → 0 < wide → wide ≤ 1000 → dp + 3 < recursionLimit → un + 24 < cLine →
    (∀ r o' t t' h' tk', Fr h₀ L h' m → News h₀ L h' ((c, listOf vs.toArray n) :: (d, o') :: rest) → o'.IsDictOf (PySem.strKind Challenge.rw_sj0097_01.row.prog w) (feedKV c (k + 1) t') → 0 ≤ r → r < wide → Q (.int r t) { s with heap := h', toks := tk' }) →
    wpAny (model Challenge.rw_sj0097_01.row.prog w) (ktrTop dp un gd cn (fnScope c1 c2 c3 c4) L a ccd cl outer) (call (.ref 234) [.ref d, .int wide tw]) Q E s := by
  k_with_none
  k_fill
  intro B F X N Tp ho hI hcd hr hk0 hk1 hn hw0 hw1 hd hu ret
  have hl := hI.length
  refine wpAny_call ?_
  k_dflt k_enter
  k_steps
  all_goals first
    | exact ret _ _ _ _ _ _ (by k_asm) (by k_asm) (by assumption) (Int.fmod_nonneg_of_pos _ hw0) (Int.fmod_lt_of_pos _ hw0)
    | fail
theorem pick_u {c d : Addr} {o : Obj} {vs : List Value} {ns : List Int} {n : Nat} {k wide : Int} {tk0 tw : Tok} {news : List (Addr × Obj)} {g : Obj → List (Addr × Obj)} :
    Below A₀ base outer h₀ → Fr h₀ L s.heap m → (heapK w.params).In h₀ → News h₀ L s.heap news → Top viewV LO mean mg mb h₀ → UpdF d o news g → (c, listOf vs.toArray n) ∈ news →
    o.IsDictOf (PySem.strKind Challenge.rw_sj0097_01.row.prog w) (feedKV c k tk0) → IntsAre vs ns → c ≠ d → 0 ≤ k → k ≤ 1000 → vs.length ≤ 100 → 0 < wide → wide ≤ 1000 → dp + 3 < recursionLimit → un + 24 < cLine →
    (∀ r o' t t' h' tk', Fr h₀ L h' m → News h₀ L h' (g o') → o'.IsDictOf (PySem.strKind Challenge.rw_sj0097_01.row.prog w) (feedKV c (k + 1) t') → 0 ≤ r → r < wide → Q (.int r t) { s with heap := h', toks := tk' }) →
    wpAny (model Challenge.rw_sj0097_01.row.prog w) (ktrTop dp un gd cn (fnScope c1 c2 c3 c4) L a ccd cl outer) (call (.ref 234) [.ref d, .int wide tw]) Q E s := by
  intro B F X N Tp U hc ho hI hcd hk0 hk1 hn hw0 hw1 hd hu ret
  obtain ⟨pre, post, e, hg, a1, a2⟩ := U.split
  subst e
  refine pick_c (rest := pre ++ post) (n := n) B F X (cb_drop N ?_) Tp ho hI hcd ?_ hk0 hk1 hn hw0 hw1 hd hu fun r o' t t' h' tk' F' N' ho' r0 r1 => ret r o' t t' h' tk' F' ?_ ho' r0 r1
  · intro q hq
    rcases List.mem_cons.mp hq with rfl | hq
    · exact hc
    rcases List.mem_cons.mp hq with rfl | hq
    · exact List.mem_append_right _ (.head _)
    · exact (List.mem_append.mp hq).elim (fun h => List.mem_append_left _ h) fun h => List.mem_append_right _ (.tail _ h)
  · intro q hq
    exact (List.mem_append.mp hq).elim (a1 q) (a2 q)
  · rw [hg]
    refine cb_drop N' fun q hq => ?_
    rcases List.mem_append.mp hq with hq | hq
    · exact .tail _ (.tail _ (List.mem_append_left _ hq))
    rcases List.mem_cons.mp hq with rfl | hq
    · exact .tail _ (.head _)
    · exact .tail _ (.tail _ (List.mem_append_right _ hq))
end
end Mine
end
-- part CP
section
namespace Mine
theorem freshCP : True := by
  w_top off
  trivial
end Mine
open PySem PySem.W PySem.Calls PyProof.Rows
set_option maxRecDepth 100000
set_option maxHeartbeats 8000000
namespace Mine
section
variable {prog : Program} {w : World} {A : Around} {h₀ : Heap} {L : Addr} {m : Str → Option Value} {env : Env} {elt : Expr} {x : Str} {scope : Scope} {cl : List (Str × Addr)} {s : Shared} {Fin : List Value → List (Addr × Obj) → Prop}
/-- a comprehension over a range by a state c: the ledger, what holds after i turns -/
def CEnd {σ : Type} (Led : σ → List (Addr × Obj)) (J : Nat → σ → List Value → Prop) (i : Nat) (ys : List Value) (y : Value) (news' : List (Addr × Obj)) : Prop := ∃ c', news' = Led c' ∧ J (i + 1) c' (ys ++ [y])
theorem compI {σ : Type} {n : Nat} {a : Int} (Led : σ → List (Addr × Obj)) (J : Nat → σ → List Value → Prop) (c₀ : σ) (h0 : J 0 c₀ [])
    (turn : ∀ i c ys t I oI C oC D m₂ h tk (E' : Value → Shared → Prop), i < n → J i c ys → LCg.NsObj oC m₂ → m₂ x = some (.int (a + (i : Int)) t) → Fr h₀ L h m → News h₀ L h ((I, oI) :: (C, oC) :: (D, LCg.lst ys) :: Led c) → LCg.Off3 I C D (Led c) → ((@Ne Nat I C) ∧ (@Ne Nat I D) ∧ (@Ne Nat C D)) →
      wpAny (model prog w) A (eval elt (compEnvC scope cl C env)) (LCg.CompEnd h₀ L m { s with heap := h, toks := tk } I oI C oC D (LCg.lst ys) (fun _ => True) (CEnd Led J i ys)) E' { s with heap := h, toks := tk })
    (fin : ∀ c ys, J n c ys → Fin ys (Led c)) : LCg.CompRest prog w A h₀ L m env elt x scope cl s (fun _ => True) (fun i v => ∃ t, v = .int (a + (i : Int)) t) Fin n 0 [] (Led c₀) := by
  have key : ∀ (j i : Nat) (c : σ) (ys : List Value), i + j = n → J i c ys → LCg.CompRest prog w A h₀ L m env elt x scope cl s (fun _ => True) (fun i v => ∃ t, v = .int (a + (i : Int)) t) Fin j i ys (Led c) := by
    intro j
    induction j with
    | zero =>
      intro i c ys hi hJ
      have e : i = n := by lia
      subst e
      exact LCg.CompRest.zero (fin c ys hJ)
    | succ j ih =>
      intro i c ys hi hJ
      refine LCg.CompRest.succ ?_
      rintro v I oI C oC D m₂ h tk E' ⟨t, rfl⟩ hC hx F N off ne
      refine wpAny_mono (turn i c ys t I oI C oC D m₂ h tk E' (by lia) hJ hC hx F N off ne) (fun y s₂ hq => ?_) fun _ _ e => e
      obtain ⟨h', tk', nw, e, F', N', off', hS, c', rfl, hJ'⟩ := hq
      exact ⟨h', tk', _, e, F', N', off', hS, ih (i + 1) c' _ (by lia) hJ'⟩
  exact key n 0 c₀ [] (by lia) h0
end
section
open Classical in
theorem tup_ne {prog : Program} {w : World} {A : Around} {E : Value → Shared → Prop} {s : Shared} {h₀ : Heap} {L : Addr} {news n₁ n₂ : List (Addr × Obj)} {va vb : Value} {ds es : List Dat} {Q : Value → Shared → Prop} (N : News h₀ L s.heap news) (Da : DatIn n₁ va (.tuple ds)) (sa : ∀ p ∈ n₁, p ∈ news)
    (Db : DatIn n₂ vb (.tuple es)) (sb : ∀ p ∈ n₂, p ∈ news) (ha : kqdOk 8 (.tuple ds) = true) (hb : kqdOk 8 (.tuple es) = true) (hu : A.units + 64 < cLine) (h : Q (.bool (!decide (ds = es))) s) : wpAny (model prog w) A (compareOp .NotEq va vb) Q E s := by
  obtain ⟨as, ra⟩ := kqd_in N 8 (Da.mono sa) ha
  obtain ⟨bs, rb⟩ := kqd_in N 8 (Db.mono sb) hb
  have la := kqd_lay 8 _ ha
  have lb := kqd_lay 8 _ hb
  have e : PyData.eqv (kqdP (.tuple ds)) (kqdP (.tuple es)) = decide (ds = es) := by
    have q := kqd_eqv 8 (.tuple ds) (.tuple es) 8 ha hb
    rw [Dat.tuple.injEq] at q
    by_cases hq : ds = es
    · rw [decide_eq_true hq]; exact q.mpr hq
    · rw [decide_eq_false hq]; exact Bool.eq_false_iff.mpr fun x => hq (q.mp x)
  cases Da with
  | tuple ma Da => cases Db with
    | tuple mb Db =>
      refine ne_dataH ra rb ?_ ?_ hu (by rw [e]; exact h)
      · unfold SeqAt.shaped; rw [la.1, Bool.true_and]; exact decide_eq_true (Nat.le_trans la.2 (by decide))
      · unfold SeqAt.shaped; rw [lb.1, Bool.true_and]; exact decide_eq_true (Nat.le_trans lb.2 (by decide))
end
end Mine
end
-- part TX6
section
namespace Mine
theorem freshTX6 : True := by
  w_top off
  trivial
end Mine
open PySem PySem.W PySem.Calls PyProof.Rows
namespace Mine
theorem cs_append (a b : Str) : cs (a ++ b) = cs a ++ cs b := by
  show (a.cps ++ b.cps).toList = _
  simp [cs]
theorem cs_joinF (l : List Str) : ∀ (acc : Array Nat), (l.foldl (fun acc p => acc ++ (Str.ofString "").cps ++ p.cps) acc).toList = acc.toList ++ l.flatMap cs := by
  induction l with
  | nil => intro acc; simp
  | cons a l ih => intro acc; rw [List.foldl_cons, ih]; simp [cs, show (Str.ofString "").cps = #[] by decide]
theorem cs_join (l : List Str) : cs (Txt.join (Str.ofString "") l) = l.flatMap cs := by
  unfold Txt.join
  match l with
  | [] => decide
  | a :: l =>
    show (List.foldl (fun acc p => acc ++ (Str.ofString "").cps ++ p.cps) a.cps l).toList = _
    rw [cs_joinF]; rfl
end Mine
end
-- part PL1
section
namespace Mine
theorem freshPL1 : True := by
  w_top off
  trivial
end Mine
open PySem PySem.W PySem.Calls PyProof.Rows
set_option maxRecDepth 100000
namespace Mine
/-- the columns against the classes -/
def colB (c : Nat) : Bool :=
  (decide (c ∈ cs SIMPLE) == decide (colI c ≤ 7)) && (decide (c ∈ cs DIGITS) == decide (colI c ≤ 2)) && (decide (c ∈ cs (Str.ofString "01")) == decide (colI c ≤ 1)) && (decide (c ∈ cs HEX) == (decide (colI c ≤ 2) || decide (colI c = 4) || decide (colI c = 6))) &&
  (decide (c = 34) == decide (colI c = 8)) && (decide (c = 124) == decide (colI c = 9)) && (decide (c = 58) == decide (colI c = 10)) && (decide (c = 35) == decide (colI c = 11)) && (decide (c = 92) == decide (colI c = 12)) &&
  (decide (c = 46) == decide (colI c = 3)) && (decide (c = 98) == decide (colI c = 4)) && (decide (c = 120) == decide (colI c = 5)) && (decide (c = 48) == decide (colI c = 0)) && decide (colI c ≤ 13)
noncomputable def klN : List (List Nat) := [[48], [49], [50, 51, 52, 53, 54, 55, 56, 57], [46], [98], [120], [97, 99, 100, 101, 102, 65, 66, 67, 68, 69, 70], [103, 104, 105, 106, 107, 108, 109, 110, 111, 112, 113, 114, 115, 116, 117, 118, 119, 121, 122, 71, 72, 73, 74, 75, 76, 77, 78, 79, 80, 81, 82, 83, 84, 85, 86, 87, 88, 89, 90, 126, 33, 64, 36, 37, 94, 38, 42, 95, 45, 43, 61, 60, 62, 63, 47], [34], [124], [58], [35], [92]]
noncomputable def simpleN : List Nat := [97, 98, 99, 100, 101, 102, 103, 104, 105, 106, 107, 108, 109, 110, 111, 112, 113, 114, 115, 116, 117, 118, 119, 120, 121, 122, 65, 66, 67, 68, 69, 70, 71, 72, 73, 74, 75, 76, 77, 78, 79, 80, 81, 82, 83, 84, 85, 86, 87, 88, 89, 90, 48, 49, 50, 51, 52, 53, 54, 55, 56, 57, 126, 33, 64, 36, 37, 94, 38, 42, 95, 45, 43, 61, 60, 62, 46, 63, 47]
noncomputable def hexN : List Nat := [48, 49, 50, 51, 52, 53, 54, 55, 56, 57, 97, 98, 99, 100, 101, 102, 65, 66, 67, 68, 69, 70]
theorem klN_is : KL.map cs = klN := by decide +kernel
theorem simpleN_is : cs SIMPLE = simpleN := by decide +kernel
theorem hexN_is : cs HEX = hexN := by decide +kernel
theorem digitsN_is : cs DIGITS = [48, 49, 50, 51, 52, 53, 54, 55, 56, 57] := by decide +kernel
theorem bitsN_is : cs (Str.ofString "01") = [48, 49] := by decide +kernel
theorem colI_N (c : Nat) : colI c = klN.findIdx fun l => l.any fun a => Nat.beq c a := by
  unfold colI
  rw [← klN_is, List.findIdx_map]
  congr 1
  funext s
  rw [inS_one]
  show _ = (cs s).any fun a => Nat.beq c a
  rw [Bool.eq_iff_iff, decide_eq_true_iff, List.any_eq_true]
  exact ⟨fun h => ⟨c, h, Nat.beq_refl c⟩, fun ⟨a, h, e⟩ => by rw [Nat.eq_of_beq_eq_true e]; exact h⟩
noncomputable def colM (c : Nat) : List Nat → Bool := fun l => l.any fun a => Nat.beq c a
theorem colM_is (c : Nat) (l : List Nat) : decide (c ∈ l) = colM c l := by
  unfold colM
  rw [Bool.eq_iff_iff, decide_eq_true_iff, List.any_eq_true]
  exact ⟨fun h => ⟨c, h, Nat.beq_refl c⟩, fun ⟨a, h, e⟩ => by rw [Nat.eq_of_beq_eq_true e]; exact h⟩
/-- the columns' test over a column that is handed in -/
noncomputable def colT (c i : Nat) : Bool :=
  (colM c simpleN == decide (i ≤ 7)) && (colM c [48, 49, 50, 51, 52, 53, 54, 55, 56, 57] == decide (i ≤ 2)) && (colM c [48, 49] == decide (i ≤ 1)) && (colM c hexN == (decide (i ≤ 2) || decide (i = 4) || decide (i = 6))) &&
  (decide (c = 34) == decide (i = 8)) && (decide (c = 124) == decide (i = 9)) && (decide (c = 58) == decide (i = 10)) && (decide (c = 35) == decide (i = 11)) && (decide (c = 92) == decide (i = 12)) &&
  (decide (c = 46) == decide (i = 3)) && (decide (c = 98) == decide (i = 4)) && (decide (c = 120) == decide (i = 5)) && (decide (c = 48) == decide (i = 0)) && decide (i ≤ 13)
theorem colB_T (c : Nat) : colB c = colT c (klN.findIdx (colM c)) := by
  unfold colB colT
  rw [colI_N c, colM_is, colM_is, colM_is, colM_is, simpleN_is, hexN_is, digitsN_is, bitsN_is]
  rfl
theorem colT_low : ((List.range 128).all fun c => colT c (klN.findIdx (colM c))) = true := by decide +kernel
theorem colB_low : (List.range 128).all colB = true := by
  rw [show colB = fun c => colT c (klN.findIdx (colM c)) from funext colB_T]
  exact colT_low
theorem kl_low : KL.all (fun s => (cs s).all (fun c => decide (c < 128))) = true := by decide +kernel
theorem sets_low : ((cs SIMPLE).all (fun c => decide (c < 128)) && (cs DIGITS).all (fun c => decide (c < 128)) && (cs (Str.ofString "01")).all (fun c => decide (c < 128)) && (cs HEX).all (fun c => decide (c < 128))) = true := by decide +kernel
theorem colI_big {c : Nat} (h : 128 ≤ c) : colI c = 13 := by
  unfold colI
  rw [show (13 : Nat) = KL.length from rfl]
  refine List.findIdx_eq_length.mpr fun s hs => ?_
  rw [inS_one]
  refine decide_eq_false fun hc => ?_
  have := of_decide_eq_true (List.all_eq_true.mp (List.all_eq_true.mp kl_low s hs) c hc)
  lia
theorem colB_all (c : Nat) : colB c = true := by
  by_cases h : c < 128
  · exact List.all_eq_true.mp colB_low c (List.mem_range.mpr h)
  · have hb : 128 ≤ c := by lia
    have e := colI_big hb
    have z := sets_low
    simp only [Bool.and_eq_true, List.all_eq_true, decide_eq_true_eq] at z
    obtain ⟨⟨⟨z1, z2⟩, z3⟩, z4⟩ := z
    have n1 : c ∉ cs SIMPLE := fun m => by have := z1 c m; lia
    have n2 : c ∉ cs DIGITS := fun m => by have := z2 c m; lia
    have n3 : c ∉ cs (Str.ofString "01") := fun m => by have := z3 c m; lia
    have n4 : c ∉ cs HEX := fun m => by have := z4 c m; lia
    unfold colB
    rw [e, decide_eq_false n1, decide_eq_false n2, decide_eq_false n3, decide_eq_false n4, decide_eq_false (show ¬ c = 34 by lia), decide_eq_false (show ¬ c = 124 by lia), decide_eq_false (show ¬ c = 58 by lia), decide_eq_false (show ¬ c = 35 by lia), decide_eq_false (show ¬ c = 92 by lia), decide_eq_false (show ¬ c = 46 by lia), decide_eq_false (show ¬ c = 98 by lia), decide_eq_false (show ¬ c = 120 by lia), decide_eq_false (show ¬ c = 48 by lia)]
    rfl
structure ColF (c : Nat) : Prop where
  simple : c ∈ cs SIMPLE ↔ colI c ≤ 7
  digit : c ∈ cs DIGITS ↔ colI c ≤ 2
  bit : c ∈ cs (Str.ofString "01") ↔ colI c ≤ 1
  hex : c ∈ cs HEX ↔ (colI c ≤ 2 ∨ colI c = 4 ∨ colI c = 6)
  quote : c = 34 ↔ colI c = 8
  bar : c = 124 ↔ colI c = 9
  colon : c = 58 ↔ colI c = 10
  hash : c = 35 ↔ colI c = 11
  slash : c = 92 ↔ colI c = 12
  dot : c = 46 ↔ colI c = 3
  b : c = 98 ↔ colI c = 4
  x : c = 120 ↔ colI c = 5
  zero : c = 48 ↔ colI c = 0
  le : colI c ≤ 13
theorem colF (c : Nat) : ColF c := by
  have h := colB_all c
  unfold colB at h
  simp only [Bool.and_eq_true, beq_iff_eq, decide_eq_decide, decide_eq_true_eq] at h
  obtain ⟨⟨⟨⟨⟨⟨⟨⟨⟨⟨⟨⟨⟨h1, h2⟩, h3⟩, h4⟩, h5⟩, h6⟩, h7⟩, h8⟩, h9⟩, h10⟩, h11⟩, h12⟩, h13⟩, h14⟩ := h
  refine ⟨h1, h2, h3, ?_, h5, h6, h7, h8, h9, h10, h11, h12, h13, h14⟩
  rw [← decide_eq_true_iff (p := c ∈ cs HEX), h4]
  simp [or_assoc]
/-- the automaton with its own fuel -/
def WA (T : Str) (p0 q : Int) (st kp : Str) (sh : Int) : Except Int (Dat × Int) := wordL T p0 (T.length + 1 - q).toNat q st kp sh
def nx (st : Str) (k : Nat) : Str := one ((cs (rowAt st)).getD k 0)
theorem fresh_in {T st : Str} {q : Int} (h0 : 0 ≤ q) (h1 : q < T.length) : fresh T st q = nx st (colI (ch T q)) := by
  unfold fresh nx ch
  rw [columnF, if_neg (by lia)]
  rfl
theorem fresh_end {T st : Str} {q : Int} (h1 : q = T.length) : fresh T st q = nx st 14 := by
  unfold fresh nx ch
  rw [columnF, if_pos h1]
  rfl
theorem WA_step {T st kp f : Str} {p0 q sh : Int} (h1 : q ≤ T.length) (hf : fresh T st q = f) : WA T p0 q st kp sh =
    if f == Str.ofString "=" then .ok (madeF st kp, q) else if f == Str.ofString "!" then .error p0 else if f == Str.ofString "%" then .error sh
    else WA T p0 (q + 1) f (if keeps st f then kp ++ one (ch T q) else kp) (if slashB st f then q else sh) := by
  subst hf
  unfold WA
  rw [show (T.length + 1 - q).toNat = (T.length + 1 - (q + 1)).toNat + 1 by lia, wordL]
theorem wordF_WA (T : Str) (p : Int) : wordF T p = WA T p p (Str.ofString "S") (Str.ofString "") p := rfl
theorem sl_cs {T : Str} {a b : Int} (ha : 0 ≤ a) (hab : a ≤ b) (hb : b ≤ T.length) : cs (sl T a b) = ((cs T).drop a.toNat).take (b - a).toNat := slice_cs T ha hab hb
theorem str_ext {x y : Str} (h : cs x = cs y) : x = y := Str.ext' (Array.toList_inj.mp h)
theorem cs_one (c : Nat) : cs (one c) = [c] := rfl
theorem sl_nil {T : Str} {a : Int} (ha : 0 ≤ a) (hb : a ≤ T.length) : sl T a a = Str.ofString "" := str_ext (by rw [sl_cs ha (Int.le_refl _) hb]; simp; rfl)
theorem sl_snoc {T : Str} {a q : Int} (ha : 0 ≤ a) (haq : a ≤ q) (hq : q < T.length) : sl T a q ++ one (ch T q) = sl T a (q + 1) := by
  refine str_ext ?_
  rw [cs_append, sl_cs ha haq (by lia), sl_cs ha (by lia) (by lia), cs_one, show (q + 1 - a).toNat = (q - a).toNat + 1 by lia, List.take_add_one]
  congr 1
  have hl : a.toNat + (q - a).toNat < (cs T).length := by rw [cs_length]; lia
  rw [List.getElem?_drop, List.getElem?_eq_getElem hl]
  unfold ch
  rw [List.getD_eq_getElem?_getD, show q.toNat = a.toNat + (q - a).toNat by lia, List.getElem?_eq_getElem hl]
  rfl
theorem rl_in {T S : Str} {q : Int} (h0 : 0 ≤ q) (h1 : q < T.length) (h : ch T q ∈ cs S) : rl T S q = rl T S (q + 1) + 1 := by
  unfold rl
  have e : (cs T).drop q.toNat = ch T q :: dr T (q + 1) := dr_cons h0 h1
  rw [e, List.takeWhile_cons, if_pos (decide_eq_true h)]
  rfl
theorem rl_out {T S : Str} {q : Int} (h0 : 0 ≤ q) (h1 : q < T.length) (h : ch T q ∉ cs S) : rl T S q = 0 := by
  unfold rl
  have e : (cs T).drop q.toNat = ch T q :: dr T (q + 1) := dr_cons h0 h1
  rw [e, List.takeWhile_cons, if_neg (by simpa using h)]
  rfl
theorem rl_end {T S : Str} {q : Int} (h1 : T.length ≤ q) : rl T S q = 0 := by
  unfold rl
  have e : (cs T).drop q.toNat = [] := dr_nil h1
  rw [e]; rfl
/-- a state's run -/
theorem WA_run {T S st : Str} {p0 a sh : Int} (ha : 0 ≤ a) (hst : ∀ c ∈ cs S, nx st (colI c) = st) (h1 : (st == Str.ofString "=") = false) (h2 : (st == Str.ofString "!") = false) (h3 : (st == Str.ofString "%") = false) (hk : keeps st st = true) (hs : slashB st st = false) :
    ∀ (n : Nat) (q : Int), a ≤ q → q ≤ T.length → (T.length - q).toNat = n → WA T p0 q st (sl T a q) sh = WA T p0 (q + rl T S q) st (sl T a (q + rl T S q)) sh ∧ (q + rl T S q < T.length → ch T (q + rl T S q) ∉ cs S) := by
  intro n
  induction n with
  | zero =>
    intro q haq hq hn
    rw [rl_end (by lia)]
    refine ⟨by simp, fun h => by lia⟩
  | succ n ih =>
    intro q haq hq hn
    have hlt : q < T.length := by lia
    by_cases hc : ch T q ∈ cs S
    · obtain ⟨e1, e2⟩ := ih (q + 1) (by lia) (by lia) (by lia)
      rw [rl_in (by lia) hlt hc]
      have z : q + ((rl T S (q + 1) + 1 : Nat) : Int) = q + 1 + rl T S (q + 1) := by lia
      rw [z]
      refine ⟨?_, e2⟩
      rw [WA_step hq ((fresh_in (by lia) hlt).trans (hst _ hc)), if_neg (ff h1), if_neg (ff h2), if_neg (ff h3), hk, hs, if_pos rfl, if_neg Bool.false_ne_true, sl_snoc ha haq hlt, e1]
    · rw [rl_out (by lia) hlt hc]
      refine ⟨by simp, fun _ => by simpa using hc⟩
end Mine
end
-- part PL2
section
namespace Mine
theorem freshPL2 : True := by
  w_top off
  trivial
end Mine
open PySem PySem.W PySem.Calls PyProof.Rows
set_option maxRecDepth 100000
namespace Mine
def rowChk (st : Str) (f : Nat → Str) : Bool := (List.range 15).all fun k => nx st k == f k
theorem rowChk_at {st : Str} {f : Nat → Str} (h : rowChk st f = true) {k : Nat} (hk : k < 15) : nx st k = f k := eq_of_beq (List.all_eq_true.mp h k (List.mem_range.mpr hk))
def colN (T : Str) (q : Int) : Nat := if q = T.length then 14 else colI (ch T q)
theorem colN_lt (T : Str) (q : Int) : colN T q < 15 := by unfold colN; have := (colF (ch T q)).le; split <;> lia
theorem fresh_N {T st : Str} {q : Int} (h0 : 0 ≤ q) (h1 : q ≤ T.length) : fresh T st q = nx st (colN T q) := by
  unfold colN
  split
  · exact fresh_end (by assumption)
  · exact fresh_in h0 (by lia)
theorem colN_in {T : Str} {q : Int} (h : q < T.length) : colN T q = colI (ch T q) := if_neg (by lia)
theorem colN_end {T : Str} {q : Int} (h : q = T.length) : colN T q = 14 := if_pos h
theorem rowS {k : Nat} (hk : k < 15) : nx (Str.ofString "S") k = if k = 0 then Str.ofString "Z" else if k ≤ 2 then Str.ofString "N" else if k ≤ 7 then Str.ofString "Y" else if k = 8 then Str.ofString "T" else if k = 9 then Str.ofString "B" else if k = 10 then Str.ofString "K" else if k = 11 then Str.ofString "G" else Str.ofString "!" := rowChk_at (f := fun k => if k = 0 then Str.ofString "Z" else if k ≤ 2 then Str.ofString "N" else if k ≤ 7 then Str.ofString "Y" else if k = 8 then Str.ofString "T" else if k = 9 then Str.ofString "B" else if k = 10 then Str.ofString "K" else if k = 11 then Str.ofString "G" else Str.ofString "!") (by decide +kernel) hk
theorem rowY {k : Nat} (hk : k < 15) : nx (Str.ofString "Y") k = if k ≤ 7 then Str.ofString "Y" else Str.ofString "=" := rowChk_at (f := fun k => if k ≤ 7 then Str.ofString "Y" else Str.ofString "=") (by decide +kernel) hk
theorem rowZ {k : Nat} (hk : k < 15) : nx (Str.ofString "Z") k = if k ≤ 2 then Str.ofString "!" else if k = 3 then Str.ofString "P" else if k ≤ 7 then Str.ofString "!" else Str.ofString "=" := rowChk_at (f := fun k => if k ≤ 2 then Str.ofString "!" else if k = 3 then Str.ofString "P" else if k ≤ 7 then Str.ofString "!" else Str.ofString "=") (by decide +kernel) hk
theorem rowN {k : Nat} (hk : k < 15) : nx (Str.ofString "N") k = if k ≤ 2 then Str.ofString "N" else if k = 3 then Str.ofString "P" else if k ≤ 7 then Str.ofString "!" else Str.ofString "=" := rowChk_at (f := fun k => if k ≤ 2 then Str.ofString "N" else if k = 3 then Str.ofString "P" else if k ≤ 7 then Str.ofString "!" else Str.ofString "=") (by decide +kernel) hk
theorem rowP {k : Nat} (hk : k < 15) : nx (Str.ofString "P") k = if k ≤ 2 then Str.ofString "D" else Str.ofString "!" := rowChk_at (f := fun k => if k ≤ 2 then Str.ofString "D" else Str.ofString "!") (by decide +kernel) hk
theorem rowD {k : Nat} (hk : k < 15) : nx (Str.ofString "D") k = if k ≤ 2 then Str.ofString "D" else if k ≤ 7 then Str.ofString "!" else Str.ofString "=" := rowChk_at (f := fun k => if k ≤ 2 then Str.ofString "D" else if k ≤ 7 then Str.ofString "!" else Str.ofString "=") (by decide +kernel) hk
theorem rowT {k : Nat} (hk : k < 15) : nx (Str.ofString "T") k = if k = 8 then Str.ofString "Q" else if k = 14 then Str.ofString "!" else Str.ofString "T" := rowChk_at (f := fun k => if k = 8 then Str.ofString "Q" else if k = 14 then Str.ofString "!" else Str.ofString "T") (by decide +kernel) hk
theorem rowQ {k : Nat} (hk : k < 15) : nx (Str.ofString "Q") k = if k = 8 then Str.ofString "T" else Str.ofString "=" := rowChk_at (f := fun k => if k = 8 then Str.ofString "T" else Str.ofString "=") (by decide +kernel) hk
theorem rowB {k : Nat} (hk : k < 15) : nx (Str.ofString "B") k = if k = 9 then Str.ofString "E" else if k = 12 then Str.ofString "W" else if k = 14 then Str.ofString "!" else Str.ofString "B" := rowChk_at (f := fun k => if k = 9 then Str.ofString "E" else if k = 12 then Str.ofString "W" else if k = 14 then Str.ofString "!" else Str.ofString "B") (by decide +kernel) hk
theorem rowW {k : Nat} (hk : k < 15) : nx (Str.ofString "W") k = if k = 9 then Str.ofString "%" else if k = 14 then Str.ofString "!" else Str.ofString "W" := rowChk_at (f := fun k => if k = 9 then Str.ofString "%" else if k = 14 then Str.ofString "!" else Str.ofString "W") (by decide +kernel) hk
theorem rowE {k : Nat} (hk : k < 15) : nx (Str.ofString "E") k = Str.ofString "=" := rowChk_at (f := fun k => Str.ofString "=") (by decide +kernel) hk
theorem rowK {k : Nat} (hk : k < 15) : nx (Str.ofString "K") k = if k ≤ 2 then Str.ofString "!" else if k ≤ 7 then Str.ofString "J" else Str.ofString "!" := rowChk_at (f := fun k => if k ≤ 2 then Str.ofString "!" else if k ≤ 7 then Str.ofString "J" else Str.ofString "!") (by decide +kernel) hk
theorem rowJ {k : Nat} (hk : k < 15) : nx (Str.ofString "J") k = if k ≤ 7 then Str.ofString "J" else Str.ofString "=" := rowChk_at (f := fun k => if k ≤ 7 then Str.ofString "J" else Str.ofString "=") (by decide +kernel) hk
theorem rowG {k : Nat} (hk : k < 15) : nx (Str.ofString "G") k = if k = 4 then Str.ofString "C" else if k = 5 then Str.ofString "X" else Str.ofString "!" := rowChk_at (f := fun k => if k = 4 then Str.ofString "C" else if k = 5 then Str.ofString "X" else Str.ofString "!") (by decide +kernel) hk
theorem rowC {k : Nat} (hk : k < 15) : nx (Str.ofString "C") k = if k ≤ 1 then Str.ofString "I" else Str.ofString "!" := rowChk_at (f := fun k => if k ≤ 1 then Str.ofString "I" else Str.ofString "!") (by decide +kernel) hk
theorem rowI {k : Nat} (hk : k < 15) : nx (Str.ofString "I") k = if k ≤ 1 then Str.ofString "I" else if k ≤ 7 then Str.ofString "!" else Str.ofString "=" := rowChk_at (f := fun k => if k ≤ 1 then Str.ofString "I" else if k ≤ 7 then Str.ofString "!" else Str.ofString "=") (by decide +kernel) hk
theorem rowX {k : Nat} (hk : k < 15) : nx (Str.ofString "X") k = if k ≤ 2 ∨ k = 4 ∨ k = 6 then Str.ofString "H" else Str.ofString "!" := rowChk_at (f := fun k => if k ≤ 2 ∨ k = 4 ∨ k = 6 then Str.ofString "H" else Str.ofString "!") (by decide +kernel) hk
theorem rowH {k : Nat} (hk : k < 15) : nx (Str.ofString "H") k = if k ≤ 2 ∨ k = 4 ∨ k = 6 then Str.ofString "H" else if k ≤ 7 then Str.ofString "!" else Str.ofString "=" := rowChk_at (f := fun k => if k ≤ 2 ∨ k = 4 ∨ k = 6 then Str.ofString "H" else if k ≤ 7 then Str.ofString "!" else Str.ofString "=") (by decide +kernel) hk

section
variable {T st kp : Str} {p0 q sh : Int}
theorem goOk (h0 : 0 ≤ q) (h1 : q ≤ T.length) (e : nx st (colN T q) = Str.ofString "=") : WA T p0 q st kp sh = .ok (madeF st kp, q) := by
  rw [WA_step h1 ((fresh_N h0 h1).trans e), if_pos (by decide)]
theorem goErr (h0 : 0 ≤ q) (h1 : q ≤ T.length) (e : nx st (colN T q) = Str.ofString "!") : WA T p0 q st kp sh = .error p0 := by
  rw [WA_step h1 ((fresh_N h0 h1).trans e), if_neg (by decide), if_pos (by decide)]
theorem goSl (h0 : 0 ≤ q) (h1 : q ≤ T.length) (e : nx st (colN T q) = Str.ofString "%") : WA T p0 q st kp sh = .error sh := by
  rw [WA_step h1 ((fresh_N h0 h1).trans e), if_neg (by decide), if_neg (by decide), if_pos (by decide)]
theorem goOn {f : Str} {b1 b2 : Bool} (h0 : 0 ≤ q) (h1 : q ≤ T.length) (e : nx st (colN T q) = f) (hf : (f == Str.ofString "=" || f == Str.ofString "!" || f == Str.ofString "%") = false) (k1 : keeps st f = b1) (k2 : slashB st f = b2) :
    WA T p0 q st kp sh = WA T p0 (q + 1) f (if b1 = true then kp ++ one (ch T q) else kp) (if b2 = true then q else sh) := by
  rw [Bool.or_eq_false_iff, Bool.or_eq_false_iff] at hf
  rw [WA_step h1 ((fresh_N h0 h1).trans e), if_neg (ff hf.1.1), if_neg (ff hf.1.2), if_neg (ff hf.2), k1, k2]
end
/-- the sign at a place, when it is one -/
theorem signS_in {T : Str} {q : Int} (h : q < T.length) : signS T q = one (ch T q) := if_pos h
theorem signS_out {T : Str} {q : Int} (h : q = T.length) : signS T q = Str.ofString "" := if_neg (by lia)
theorem runsIn_N {T : Str} {q : Int} (h1 : q ≤ T.length) : runsIn T q = decide (colN T q ≤ 7) := by
  unfold runsIn
  rcases Int.lt_or_le q T.length with h | h
  · rw [signS_in h, colN_in h, if_pos (by rw [bne, one_ne_empty]; rfl), inS_one]
    exact decide_eq_decide.mpr (colF _).simple
  · rw [signS_out (by lia), colN_end (by lia), if_neg (by decide)]; rfl
theorem dot_N {T : Str} {q : Int} (h1 : q ≤ T.length) : (signS T q != Str.ofString ".") = !decide (colN T q = 3) := by
  rcases Int.lt_or_le q T.length with h | h
  · rw [signS_in h, colN_in h, bne, one_eq, show cs (Str.ofString ".") = [46] by decide]
    congr 1
    exact decide_eq_decide.mpr ((by constructor <;> (intro z; first | (rw [List.cons.injEq] at z; exact z.1.symm) | (rw [z])) : ([46] = [ch T q]) ↔ (ch T q = 46)).trans (colF _).dot)
  · rw [signS_out (by lia), colN_end (by lia)]; decide
theorem run_end {T S : Str} {q : Int} (h0 : 0 ≤ q) (h1 : q ≤ T.length) : (q + rl T S q ≤ T.length) := rl_le T S h0 h1
theorem word_sym {T : Str} {p : Int} (h0 : 0 ≤ p) (h1 : p < T.length) (h3 : 3 ≤ colI (ch T p)) (h7 : colI (ch T p) ≤ 7) : wordF T p = .ok (.tuple [.str (Str.ofString "sym"), .str (sl T p (p + rl T SIMPLE p))], p + rl T SIMPLE p) := by
  have hk := colN_in h1
  have hin : ch T p ∈ cs SIMPLE := (colF _).simple.mpr h7
  have e1 : nx (Str.ofString "S") (colN T p) = Str.ofString "Y" := by rw [rowS (colN_lt _ _), hk, if_neg (by lia), if_neg (by lia), if_pos h7]
  rw [wordF_WA, goOn h0 (by lia) e1 (by decide) (show keeps _ _ = true by decide +kernel) (show slashB _ _ = false by decide +kernel), if_pos rfl, if_neg Bool.false_ne_true]
  rw [← sl_nil (T := T) h0 (by lia), sl_snoc h0 (Int.le_refl _) h1]
  obtain ⟨e2, e3⟩ := WA_run (T := T) (S := SIMPLE) (st := Str.ofString "Y") (p0 := p) (sh := p) h0 (fun c hc => by rw [rowY (by have := (colF c).le; lia), if_pos ((colF c).simple.mp hc)]) (by decide) (by decide) (by decide) (by decide +kernel) (by decide +kernel) _ (p + 1) (by lia) (by lia) rfl
  rw [e2]
  have er := rl_in h0 h1 hin
  have hle := run_end (S := SIMPLE) (T := T) (q := p + 1) (by lia) (by lia)
  rw [show p + 1 + (rl T SIMPLE (p + 1) : Int) = p + rl T SIMPLE p by lia] at hle e3 ⊢
  refine goOk (by lia) hle ?_
  rw [rowY (colN_lt _ _), if_neg]
  intro hc
  rcases Int.lt_or_le (p + rl T SIMPLE p) T.length with h | h
  · rw [colN_in h] at hc
    exact e3 h ((colF _).simple.mpr hc)
  · rw [colN_end (by lia)] at hc; lia
end Mine
end
-- part PL3
section
namespace Mine
theorem freshPL3 : True := by
  w_top off
  trivial
end Mine
open PySem PySem.W PySem.Calls PyProof.Rows
set_option maxRecDepth 100000
namespace Mine
theorem one_isP {c d : Nat} {x : Str} {P : Prop} [Decidable P] (hx : cs x = [d]) (h : c = d ↔ P) : (one c == x) = decide P := by
  rw [one_eq, hx]
  refine decide_eq_decide.mpr ⟨fun e => h.mp ?_, fun p => ?_⟩
  · rw [List.cons.injEq] at e; exact e.1.symm
  · rw [h.mpr p]
theorem readF_at {T : Str} {p : Int} (h1 : p < T.length) : readF T p =
    if colI (ch T p) = 8 then strG T p (T.length + 1) (p + 1) [] else if colI (ch T p) = 9 then quotedF T p else if colI (ch T p) = 10 then keyF T p else if colI (ch T p) = 11 then bitsF T p else
    if colI (ch T p) ≤ 2 then numF T p else if colI (ch T p) ≤ 7 then .ok (.tuple [.str (Str.ofString "sym"), .str (sl T p (p + rl T SIMPLE p))], p + rl T SIMPLE p) else .error p := by
  have F := colF (ch T p)
  unfold readF
  rw [signS_in h1, one_ne_empty, one_isP (x := Str.ofString "\"") (by decide) F.quote, one_isP (x := Str.ofString "|") (by decide) F.bar, one_isP (x := Str.ofString ":") (by decide) F.colon, one_isP (x := Str.ofString "#") (by decide) F.hash]
  rw [inS_one, inS_one, show decide (ch T p ∈ cs (Str.ofString "0123456789")) = decide (colI (ch T p) ≤ 2) from decide_eq_decide.mpr F.digit]
  rw [show decide (ch T p ∈ cs (Str.ofString "abcdefghijklmnopqrstuvwxyzABCDEFGHIJKLMNOPQRSTUVWXYZ0123456789~!@$%^&*_-+=<>.?/")) = decide (colI (ch T p) ≤ 7) from decide_eq_decide.mpr F.simple]
  simp only [Bool.false_eq_true, if_false, decide_eq_true_eq]
theorem readF_out {T : Str} {p : Int} (h1 : p = T.length) : readF T p = .error p := by
  unfold readF
  rw [signS_out h1, if_pos (by decide)]
theorem sl_len {T : Str} {a b : Int} (ha : 0 ≤ a) (hab : a ≤ b) (hb : b ≤ T.length) : (sl T a b).length = (b - a).toNat := by
  rw [← cs_length, sl_cs ha hab hb, List.length_take, List.length_drop, cs_length]; lia
theorem sl_empty {T : Str} {a b : Int} (ha : 0 ≤ a) (hab : a ≤ b) (hb : b ≤ T.length) : (sl T a b == Str.ofString "") = decide (a = b) := by
  by_cases h : a = b
  · subst h; rw [sl_nil ha hb, decide_eq_true rfl]; exact beq_self_eq_true _
  · rw [decide_eq_false h]
    refine Bool.eq_false_iff.mpr fun e => ?_
    have := congrArg Str.length (eq_of_beq e)
    rw [sl_len ha hab hb] at this
    have z : (Str.ofString "").length = 0 := by decide
    lia
theorem sl_first {T : Str} {a b : Int} (ha : 0 ≤ a) (hab : a < b) (hb : b ≤ T.length) : Txt.item (sl T a b) 0 = one (ch T a) := by
  rw [item_is (Int.le_refl 0) (by rw [sl_len ha (by lia) hb]; lia)]
  congr 1
  unfold ch
  rw [sl_cs ha (by lia) hb]
  rw [List.getD_eq_getElem?_getD, List.getD_eq_getElem?_getD, List.getElem?_take, if_pos (by simp; lia), List.getElem?_drop]
  simp
theorem word_end {T : Str} {p : Int} (h0 : 0 ≤ p) (h1 : p = T.length) : wordF T p = .error p := by
  rw [wordF_WA]
  exact goErr h0 (by lia) (by rw [rowS (colN_lt _ _), colN_end h1]; rfl)
theorem word_bad {T : Str} {p : Int} (h0 : 0 ≤ p) (h1 : p < T.length) (h : 12 ≤ colI (ch T p)) : wordF T p = .error p := by
  rw [wordF_WA]
  refine goErr h0 (by lia) ?_
  rw [rowS (colN_lt _ _), colN_in h1, if_neg (by lia), if_neg (by lia), if_neg (by lia), if_neg (by lia), if_neg (by lia), if_neg (by lia), if_neg (by lia)]
/-- the run of a state from a place behind its first sign, and the step behind the run -/
theorem run_from {T S st : Str} {p0 a q sh : Int} (ha : 0 ≤ a) (haq : a ≤ q) (hq : q ≤ T.length) (hst : ∀ c ∈ cs S, nx st (colI c) = st) (h1 : (st == Str.ofString "=") = false) (h2 : (st == Str.ofString "!") = false) (h3 : (st == Str.ofString "%") = false) (hk : keeps st st = true) (hs : slashB st st = false) :
    WA T p0 q st (sl T a q) sh = WA T p0 (q + rl T S q) st (sl T a (q + rl T S q)) sh ∧ q + rl T S q ≤ T.length ∧ (q + rl T S q < T.length → ch T (q + rl T S q) ∉ cs S) := by
  obtain ⟨e1, e2⟩ := WA_run (p0 := p0) (sh := sh) ha hst h1 h2 h3 hk hs _ q haq hq rfl
  exact ⟨e1, rl_le T S (by lia) hq, e2⟩
theorem word_key {T : Str} {p : Int} (h0 : 0 ≤ p) (h1 : p < T.length) (h : colI (ch T p) = 10) : wordF T p = keyF T p := by
  have hk := colN_in h1
  have e1 : nx (Str.ofString "S") (colN T p) = Str.ofString "K" := by rw [rowS (colN_lt _ _), hk, h]; rfl
  rw [wordF_WA, goOn h0 (by lia) e1 (by decide) (show keeps _ _ = false by decide +kernel) (show slashB _ _ = false by decide +kernel), if_neg Bool.false_ne_true, if_neg Bool.false_ne_true]
  have hle := rl_le T SIMPLE (p := p + 1) (by lia) (by lia)
  unfold keyF
  dsimp only
  rw [sl_empty (by lia) (by lia) hle]
  by_cases hc : colN T (p + 1) ≤ 7
  · have hlt : p + 1 < T.length := by
      rcases Int.lt_or_le (p + 1) T.length with z | z
      · exact z
      · rw [colN_end (by lia)] at hc; lia
    rw [colN_in hlt] at hc
    have hin := (colF _).simple.mpr hc
    have er := rl_in (S := SIMPLE) (by lia) hlt hin
    rw [if_neg (by rw [decide_eq_false (by lia)]; exact Bool.false_ne_true), sl_first (by lia) (by lia) hle, inS_one, decide_eq_decide.mpr (colF _).digit]
    by_cases h2 : colI (ch T (p + 1)) ≤ 2
    · rw [if_pos (decide_eq_true h2)]
      exact goErr (by lia) (by lia) (by rw [rowK (colN_lt _ _), colN_in hlt, if_pos h2])
    · rw [if_neg (by rw [decide_eq_false h2]; exact Bool.false_ne_true)]
      have e2 : nx (Str.ofString "K") (colN T (p + 1)) = Str.ofString "J" := by rw [rowK (colN_lt _ _), colN_in hlt, if_neg h2, if_pos hc]
      rw [goOn (by lia) (by lia) e2 (by decide) (show keeps _ _ = true by decide +kernel) (show slashB _ _ = false by decide +kernel), if_pos rfl, if_neg Bool.false_ne_true]
      rw [← sl_nil (T := T) (a := p + 1) (by lia) (by lia), sl_snoc (by lia) (Int.le_refl _) hlt]
      obtain ⟨e3, e4, e5⟩ := run_from (T := T) (S := SIMPLE) (st := Str.ofString "J") (p0 := p) (a := p + 1) (q := p + 1 + 1) (sh := p) (by lia) (by lia) (by lia) (fun c hc => by rw [rowJ (by have := (colF c).le; lia), if_pos ((colF c).simple.mp hc)]) (by decide) (by decide) (by decide) (by decide +kernel) (by decide +kernel)
      rw [e3]
      rw [show p + 1 + 1 + (rl T SIMPLE (p + 1 + 1) : Int) = p + 1 + rl T SIMPLE (p + 1) by lia] at e4 e5 ⊢
      refine goOk (by lia) e4 ?_
      rw [rowJ (colN_lt _ _), if_neg]
      intro hc
      rcases Int.lt_or_le (p + 1 + rl T SIMPLE (p + 1)) T.length with h | h
      · rw [colN_in h] at hc
        exact e5 h ((colF _).simple.mpr hc)
      · rw [colN_end (by lia)] at hc; lia
  · have er : rl T SIMPLE (p + 1) = 0 := by
      rcases Int.lt_or_le (p + 1) T.length with z | z
      · exact rl_out (by lia) z fun m => hc (by rw [colN_in z]; exact (colF _).simple.mp m)
      · exact rl_end z
    rw [if_pos (by rw [decide_eq_true (by lia)])]
    exact goErr (by lia) (by lia) (by rw [rowK (colN_lt _ _), if_neg (by lia), if_neg hc])
end Mine
end
-- part PL4
section
namespace Mine
theorem freshPL4 : True := by
  w_top off
  trivial
end Mine
open PySem PySem.W PySem.Calls PyProof.Rows PySem.NumText
set_option maxRecDepth 100000
namespace Mine
def valP (b : Int) (l : List Nat) : Int := l.foldl (fun f c => f * b + placeF c) 0
theorem valP_from (b : Int) (l : List Nat) : ∀ a : Int, l.foldl (fun f c => f * b + placeF c) a = a * b ^ l.length + valP b l := by
  induction l with
  | nil => intro a; simp [valP]
  | cons c l ih =>
    intro a
    rw [List.foldl_cons, ih, show valP b (c :: l) = l.foldl (fun f c => f * b + placeF c) (0 * b + placeF c) from rfl, ih (0 * b + placeF c), List.length_cons, Int.pow_succ]
    rw [Int.add_mul, Int.add_mul, Int.zero_mul, Int.zero_mul, Int.zero_add, Int.mul_assoc, Int.mul_comm b, Int.add_assoc]
theorem valP_append (b : Int) (l r : List Nat) : valP b (l ++ r) = valP b l * b ^ r.length + valP b r := by
  rw [valP, List.foldl_append, valP_from]; rfl
theorem worthS_rev (b : Int) (l : List Nat) : worthS b l.reverse = (valP b l, b ^ l.length) := by
  induction l with
  | nil => simp [worthS, valP]
  | cons c l ih =>
    have e : valP b (c :: l) = valP b l + b ^ l.length * placeF c := by
      rw [valP, List.foldl_cons, valP_from, Int.zero_mul, Int.zero_add, Int.mul_comm, Int.add_comm]
    rw [e, List.reverse_cons, worthS, List.foldl_append]
    rw [show List.foldl (fun q c => (q.1 + q.2 * placeF c, q.2 * b)) ((0 : Int), (1 : Int)) l.reverse = (valP b l, b ^ l.length) from ih]
    simp [Int.pow_succ]
theorem worthF_valP (b : Int) (l : List Nat) : worthF b l = valP b l := by rw [worthF, worthS_rev]
theorem place_low : (List.range 10).all (fun i => decide (placeF (48 + i) = (i : Int))) = true := by decide +kernel
theorem place_digit {c : Nat} (h : 48 ≤ c ∧ c ≤ 57) : placeF c = ((c - 48 : Nat) : Int) := by
  have := of_decide_eq_true (List.all_eq_true.mp place_low (c - 48) (List.mem_range.mpr (by omega)))
  rw [show 48 + (c - 48) = c by omega] at this
  exact this
theorem digits_val {l : List Nat} (h : AllDigits l) : ((digitsVal l : Nat) : Int) = worthF 10 l := by
  rw [worthF_valP]
  have key : ∀ (l : List Nat), AllDigits l → ∀ a : Nat, ((l.foldl (fun acc c => acc * 10 + (c - 48)) a : Nat) : Int) = l.foldl (fun f c => f * 10 + placeF c) (a : Int) := by
    intro l
    induction l with
    | nil => intro _ a; rfl
    | cons c l ih =>
      intro h a
      rw [List.foldl_cons, List.foldl_cons, ih h.tail, place_digit h.head]
      congr 1
  exact key l h 0
theorem slice_from {T : Str} {a : Int} (ha : 0 ≤ a) (h1 : a ≤ T.length) : cs (Txt.slice T (some a) none) = (cs T).drop a.toNat := by
  have e : Builtin.Str.strSliceIndices (some a) none 1 T.length = Builtin.Str.strSliceIndices (some a) (some T.length) 1 T.length := by
    unfold Builtin.Str.strSliceIndices
    simp only [show ((1 : Int) > 0) = True from by simp, if_true]
    rw [if_neg (show ¬ (T.length : Int) < 0 by omega)]
    congr 1; omega
  have e2 : Txt.slice T (some a) none = Txt.slice T (some a) (some T.length) := by unfold Txt.slice; rw [e]
  rw [e2, slice_cs T ha h1 (Int.le_refl _)]
  exact List.take_of_length_le (by rw [List.length_drop, cs_length]; omega)
theorem slice_none0 (T : Str) (r : Int) : Txt.slice T none (some r) = Txt.slice T (some 0) (some r) := by
  have e : Builtin.Str.strSliceIndices none (some r) 1 T.length = Builtin.Str.strSliceIndices (some 0) (some r) 1 T.length := by
    unfold Builtin.Str.strSliceIndices
    simp only [show ((1 : Int) > 0) = True from by simp, if_true]
    rw [if_neg (show ¬ (0 : Int) < 0 by omega)]
    congr 1 <;> omega
  unfold Txt.slice
  rw [e]
theorem slice_upto {T : Str} {r : Int} (h0 : 0 ≤ r) (h1 : r ≤ T.length) : cs (Txt.slice T none (some r)) = (cs T).take r.toNat := by
  rw [slice_none0, slice_cs T (Int.le_refl 0) h0 h1]
  simp
theorem cps_getD (x : Str) (v : Nat) : x.cps.getD v 0 = (cs x).getD v 0 := by
  unfold cs
  rw [List.getD_eq_getElem?_getD, Array.getElem?_toList, Array.getD_eq_getD_getElem?]
/-- where a sign is found first -/
theorem find_first {x : Str} {c n : Nat} (hn : (cs x)[n]? = some c) (hb : ∀ v, v < n → (cs x).getD v 0 ≠ c) : Txt.find x (one c) = n := by
  have hlt : n < x.length := by
    rw [← cs_length]; exact (List.getElem?_eq_some_iff.mp hn).1
  have hg : (cs x).getD n 0 = c := by rw [List.getD_eq_getElem?_getD, hn]; rfl
  rw [find_is_find3]
  have e0 : fromIndex x.length 0 = 0 := by unfold fromIndex; simp
  rcases StrLaws.find3_spec x c 0 with ⟨_, h⟩ | ⟨k, h1, h2, h3, h4, h5⟩
  · exact absurd ((cps_getD x n).trans hg) (h n (by rw [e0]; omega) hlt)
  · unfold one
    rw [h1]
    rw [cps_getD] at h4
    have a1 : ¬ k < n := fun z => hb k z h4
    have a2 : ¬ n < k := fun z => h5 n (by rw [e0]; omega) z ((cps_getD x n).trans hg)
    omega
theorem find_none {x : Str} {c : Nat} (h : c ∉ cs x) : Txt.find x (one c) = -1 := by
  rw [find_is_find3]
  rcases StrLaws.find3_spec x c 0 with ⟨h1, _⟩ | ⟨k, h1, h2, h3, h4, h5⟩
  · exact h1
  · rw [cps_getD] at h4
    refine absurd ?_ h
    have hl : k < (cs x).length := by rw [cs_length]; exact h3
    rw [List.getD_eq_getElem?_getD, List.getElem?_eq_getElem hl] at h4
    rw [← h4]
    exact List.getElem_mem hl
end Mine
end
-- part PL5
section
namespace Mine
theorem freshPL5 : True := by
  w_top off
  trivial
end Mine
open PySem PySem.W PySem.Calls PyProof.Rows PySem.NumText
set_option maxRecDepth 100000
namespace Mine
theorem sl_split {T : Str} {a b c : Int} (ha : 0 ≤ a) (hab : a ≤ b) (hbc : b ≤ c) (hc : c ≤ T.length) : cs (sl T a c) = cs (sl T a b) ++ cs (sl T b c) := by
  rw [sl_cs ha (by lia) hc, sl_cs ha hab (by lia), sl_cs (by lia) hbc hc]
  rw [show (c - a).toNat = (b - a).toNat + (c - b).toNat by lia, List.take_add, List.drop_drop]
  rw [show a.toNat + (b - a).toNat = b.toNat by lia]
theorem sl_one {T : Str} {q : Int} (h0 : 0 ≤ q) (h1 : q < T.length) : cs (sl T q (q + 1)) = [ch T q] := by
  rw [← sl_snoc h0 (Int.le_refl _) h1, sl_nil h0 (by lia), cs_append]
  rfl
/-- a decimal's value -/
theorem made_dec {W P : List Nat} {kept whole part : Str} (hk : cs kept = W ++ 46 :: P) (hw : cs whole = W) (hp : cs part = P) (aw : AllDigits W) (ap : AllDigits P) : madeF (Str.ofString "D") kept = .tuple [.str (Str.ofString "dec"), decD whole part] := by
  have hl : kept.length = W.length + 1 + P.length := by rw [← cs_length, hk]; simp; lia
  have hpl : part.length = P.length := by rw [← cs_length, hp]
  have hf : Txt.find kept (Str.ofString ".") = (W.length : Int) := by
    rw [show Str.ofString "." = one 46 by decide]
    refine find_first ?_ fun v hv => ?_
    · rw [hk]; simp
    · rw [hk, List.getD_eq_getElem?_getD, List.getElem?_append_left hv, List.getElem?_eq_getElem hv]
      have := aw _ (List.getElem_mem hv)
      show W[v] ≠ 46
      lia
  have e1 : cs (Txt.slice kept none (some (Txt.find kept (Str.ofString ".")))) = W := by
    rw [hf, slice_upto (by lia) (by lia), hk]; simp
  have e2 : cs (Txt.slice kept (some (Txt.find kept (Str.ofString ".") + 1)) none) = P := by
    rw [hf, slice_from (by lia) (by lia), hk]
    rw [show ((W.length : Int) + 1).toNat = W.length + 1 by lia, List.drop_append]
    simp
  have et : topF kept = decTop whole part := by
    unfold topF decTop
    rw [cs_append, e1, e2, worthF_valP, valP_append, hw, hp, digits_val aw, digits_val ap, worthF_valP, worthF_valP, hpl]
    rfl
  have eb : botF kept = (10 : Int) ^ (part.length : Int).toNat := by
    unfold botF
    rw [hf, hl, hpl]
    congr 1; lia
  unfold madeF
  rw [if_neg (by decide), if_neg (by decide), if_neg (by decide), if_neg (by decide), if_neg (by decide), if_neg (by decide), if_neg (by decide), et, eb]
  rfl
theorem made_num {st kept : Str} (h : st = Str.ofString "Z" ∨ st = Str.ofString "N") (a : AllDigits (cs kept)) : madeF st kept = .tuple [.str (Str.ofString "num"), .int ((digitsVal (cs kept) : Nat) : Int)] := by
  rw [digits_val a]
  unfold madeF
  rcases h with rfl | rfl <;> rw [if_neg (by decide), if_neg (by decide), if_neg (by decide), if_neg (by decide), if_neg (by decide), if_neg (by decide), if_pos (by decide)]
/-- behind the figures of a numeral -/
theorem after_whole {T st : Str} {p q : Int} (hst : st = Str.ofString "Z" ∨ st = Str.ofString "N") (h0 : 0 ≤ p) (hpq : p ≤ q) (hq : q ≤ T.length) (a : AllDigits (cs (sl T p q))) (h2 : ¬ colN T q ≤ 2) : WA T p q st (sl T p q) p = numR T p q (sl T p q) := by
  have hrow : nx st (colN T q) = (if colN T q = 3 then Str.ofString "P" else if colN T q ≤ 7 then Str.ofString "!" else Str.ofString "=") := by
    rcases hst with rfl | rfl
    · rw [rowZ (colN_lt _ _), if_neg h2]
    · rw [rowN (colN_lt _ _), if_neg h2]
  unfold numR
  rw [dot_N hq, runsIn_N hq]
  by_cases h3 : colN T q = 3
  · rw [if_neg (by rw [decide_eq_true h3]; decide)]
    dsimp only
    have hlt : q < T.length := by
      rcases Int.lt_or_le q T.length with z | z
      · exact z
      · rw [colN_end (by lia)] at h3; lia
    have hdot : ch T q = 46 := (colF _).dot.mpr (by rw [← colN_in hlt]; exact h3)
    rw [if_pos h3] at hrow
    have k1 : keeps st (Str.ofString "P") = true := by rcases hst with rfl | rfl <;> decide +kernel
    have k2 : slashB st (Str.ofString "P") = false := by rcases hst with rfl | rfl <;> decide +kernel
    rw [goOn (by lia) hq hrow (by decide) k1 k2, if_pos rfl, if_neg Bool.false_ne_true, sl_snoc h0 hpq hlt]
    have hle := rl_le T DIGITS (p := q + 1) (by lia) (by lia)
    rw [sl_empty (by lia) (by lia) hle]
    by_cases hc : colN T (q + 1) ≤ 2
    · have hlt1 : q + 1 < T.length := by
        rcases Int.lt_or_le (q + 1) T.length with z | z
        · exact z
        · rw [colN_end (by lia)] at hc; lia
      have hin := (colF _).digit.mpr (by rw [← colN_in hlt1]; exact hc)
      have er := rl_in (S := DIGITS) (by lia) hlt1 hin
      rw [if_neg (by rw [decide_eq_false (by lia)]; exact Bool.false_ne_true)]
      have e2 : nx (Str.ofString "P") (colN T (q + 1)) = Str.ofString "D" := by rw [rowP (colN_lt _ _), if_pos hc]
      rw [goOn (by lia) (by lia) e2 (by decide) (show keeps _ _ = true by decide +kernel) (show slashB _ _ = false by decide +kernel), if_pos rfl, if_neg Bool.false_ne_true, sl_snoc h0 (by lia) hlt1]
      obtain ⟨e3, e4, e5⟩ := run_from (T := T) (S := DIGITS) (st := Str.ofString "D") (p0 := p) (a := p) (q := q + 1 + 1) (sh := p) h0 (by lia) (by lia) (fun c hc => by rw [rowD (by have := (colF c).le; lia), if_pos ((colF c).digit.mp hc)]) (by decide) (by decide) (by decide) (by decide +kernel) (by decide +kernel)
      rw [e3]
      rw [show q + 1 + 1 + (rl T DIGITS (q + 1 + 1) : Int) = q + 1 + rl T DIGITS (q + 1) by lia] at e4 e5 ⊢
      have h22 : ¬ colN T (q + 1 + rl T DIGITS (q + 1)) ≤ 2 := by
        intro hc
        rcases Int.lt_or_le (q + 1 + rl T DIGITS (q + 1)) T.length with h | h
        · rw [colN_in h] at hc
          exact e5 h ((colF _).digit.mpr hc)
        · rw [colN_end (by lia)] at hc; lia
      rw [runsIn_N e4]
      by_cases h7 : colN T (q + 1 + rl T DIGITS (q + 1)) ≤ 7
      · rw [if_pos (decide_eq_true h7)]
        exact goErr (by lia) e4 (by rw [rowD (colN_lt _ _), if_neg h22, if_pos h7])
      · rw [if_neg (by rw [decide_eq_false h7]; exact Bool.false_ne_true)]
        rw [goOk (by lia) e4 (by rw [rowD (colN_lt _ _), if_neg h22, if_neg h7])]
        rw [made_dec (W := cs (sl T p q)) (P := cs (sl T (q + 1) (q + 1 + rl T DIGITS (q + 1)))) (whole := sl T p q) (part := sl T (q + 1) (q + 1 + rl T DIGITS (q + 1))) ?_ rfl rfl a (all_digits T (by lia) (by lia))]
        rw [sl_split (b := q) h0 hpq (by lia) e4, sl_split (a := q) (b := q + 1) (by lia) (by lia) (by lia) e4, sl_one (by lia) hlt, hdot]
        rfl
    · have er : rl T DIGITS (q + 1) = 0 := by
        rcases Int.lt_or_le (q + 1) T.length with z | z
        · exact rl_out (by lia) z fun m => hc (by rw [colN_in z]; exact (colF _).digit.mp m)
        · exact rl_end z
      rw [if_pos (by rw [decide_eq_true (by lia)])]
      exact goErr (by lia) (by lia) (by rw [rowP (colN_lt _ _), if_neg hc])
  · rw [if_pos (by rw [decide_eq_false h3]; rfl)]
    rw [if_neg h3] at hrow
    by_cases h7 : colN T q ≤ 7
    · rw [if_pos (decide_eq_true h7)]
      exact goErr (by lia) hq (by rw [hrow, if_pos h7])
    · rw [if_neg (by rw [decide_eq_false h7]; exact Bool.false_ne_true)]
      rw [goOk (by lia) hq (by rw [hrow, if_neg h7]), made_num hst a]
theorem word_num {T : Str} {p : Int} (h0 : 0 ≤ p) (h1 : p < T.length) (h : colI (ch T p) ≤ 2) : wordF T p = numF T p := by
  have hk := colN_in h1
  have hin := (colF _).digit.mpr h
  have er := rl_in (S := DIGITS) h0 h1 hin
  have hle := rl_le T DIGITS (p := p) h0 (by lia)
  have hle1 := rl_le T DIGITS (p := p + 1) (by lia) (by lia)
  have ad := all_digits T (p := p) h0 (by lia)
  unfold numF
  dsimp only
  rw [sl_len h0 (by lia) hle, sl_first h0 (by lia) hle, one_isP (x := Str.ofString "0") (by decide) (colF _).zero]
  have nd : ¬ colN T (p + rl T DIGITS p) ≤ 2 := by
    intro hc
    obtain ⟨_, e4, e5⟩ := run_from (T := T) (S := DIGITS) (st := Str.ofString "N") (p0 := p) (a := p) (q := p + 1) (sh := p) h0 (by lia) (by lia) (fun c hc => by rw [rowN (by have := (colF c).le; lia), if_pos ((colF c).digit.mp hc)]) (by decide) (by decide) (by decide) (by decide +kernel) (by decide +kernel)
    rw [show p + 1 + (rl T DIGITS (p + 1) : Int) = p + rl T DIGITS p by lia] at e4 e5
    rcases Int.lt_or_le (p + rl T DIGITS p) T.length with z | z
    · rw [colN_in z] at hc
      exact e5 z ((colF _).digit.mpr hc)
    · rw [colN_end (by lia)] at hc; lia
  by_cases hz : colI (ch T p) = 0
  · have e1 : nx (Str.ofString "S") (colN T p) = Str.ofString "Z" := by rw [rowS (colN_lt _ _), hk, if_pos hz]
    rw [wordF_WA, goOn h0 (by lia) e1 (by decide) (show keeps _ _ = true by decide +kernel) (show slashB _ _ = false by decide +kernel), if_pos rfl, if_neg Bool.false_ne_true]
    rw [← sl_nil (T := T) h0 (by lia), sl_snoc h0 (Int.le_refl _) h1]
    by_cases hc : colN T (p + 1) ≤ 2
    · have hlt1 : p + 1 < T.length := by
        rcases Int.lt_or_le (p + 1) T.length with z | z
        · exact z
        · rw [colN_end (by lia)] at hc; lia
      have er1 := rl_in (S := DIGITS) (by lia) hlt1 ((colF _).digit.mpr (by rw [← colN_in hlt1]; exact hc))
      rw [if_pos (by lia), if_pos (decide_eq_true hz)]
      exact goErr (by lia) (by lia) (by rw [rowZ (colN_lt _ _), if_pos hc])
    · have er1 : rl T DIGITS (p + 1) = 0 := by
        rcases Int.lt_or_le (p + 1) T.length with z | z
        · exact rl_out (by lia) z fun m => hc (by rw [colN_in z]; exact (colF _).digit.mp m)
        · exact rl_end z
      rw [if_neg (by lia)]
      rw [show p + (rl T DIGITS p : Int) = p + 1 by lia] at ad nd ⊢
      exact after_whole (.inl rfl) h0 (by lia) (by lia) ad nd
  · have e1 : nx (Str.ofString "S") (colN T p) = Str.ofString "N" := by rw [rowS (colN_lt _ _), hk, if_neg hz, if_pos h]
    rw [wordF_WA, goOn h0 (by lia) e1 (by decide) (show keeps _ _ = true by decide +kernel) (show slashB _ _ = false by decide +kernel), if_pos rfl, if_neg Bool.false_ne_true]
    rw [← sl_nil (T := T) h0 (by lia), sl_snoc h0 (Int.le_refl _) h1]
    obtain ⟨e3, e4, e5⟩ := run_from (T := T) (S := DIGITS) (st := Str.ofString "N") (p0 := p) (a := p) (q := p + 1) (sh := p) h0 (by lia) (by lia) (fun c hc => by rw [rowN (by have := (colF c).le; lia), if_pos ((colF c).digit.mp hc)]) (by decide) (by decide) (by decide) (by decide +kernel) (by decide +kernel)
    rw [e3]
    rw [show p + 1 + (rl T DIGITS (p + 1) : Int) = p + rl T DIGITS p by lia]
    rw [after_whole (.inr rfl) h0 (by lia) hle ad nd, decide_eq_false hz, if_neg Bool.false_ne_true, ite_self]
end Mine
end
-- part PL6
section
namespace Mine
theorem freshPL6 : True := by
  w_top off
  trivial
end Mine
open PySem PySem.W PySem.Calls PyProof.Rows PySem.NumText
set_option maxRecDepth 100000
namespace Mine
theorem hex_low : (cs HEX).all (fun c => decide (c < 128) && decide (Txt.find HEX (one (lo1 c)) = placeF c)) = true := by decide +kernel
theorem bit_hex : (cs (Str.ofString "01")).all (fun c => decide (c ∈ cs HEX)) = true := by decide +kernel
theorem lower_val {b : Int} {D : Str} (h : ∀ c ∈ cs D, c ∈ cs HEX) : valL b (cs (Txt.lower D)) = worthF b (cs D) := by
  have hx : ∀ c ∈ cs D, c < 128 ∧ Txt.find HEX (one (lo1 c)) = placeF c := fun c hc => by
    have := List.all_eq_true.mp hex_low c (h c hc)
    rw [Bool.and_eq_true] at this
    exact ⟨of_decide_eq_true this.1, of_decide_eq_true this.2⟩
  have e : cs (Txt.lower D) = (cs D).map lo1 := by
    rw [lower_ascii fun c hc => (hx c hc).1]
    unfold cs
    simp
  rw [e, worthF_valP, valL, List.foldl_map]
  have key : ∀ (l : List Nat), (∀ c ∈ l, Txt.find HEX (one (lo1 c)) = placeF c) → ∀ a : Int, l.foldl (fun f c => f * b + Txt.find HEX (one (lo1 c))) a = l.foldl (fun f c => f * b + placeF c) a := by
    intro l
    induction l with
    | nil => intro _ a; rfl
    | cons c l ih =>
      intro h a
      rw [List.foldl_cons, List.foldl_cons, h c (.head _), ih fun d hd => h d (.tail _ hd)]
  exact key _ (fun c hc => (hx c hc).2) 0
theorem sl_all {T S : Str} {q : Int} (h0 : 0 ≤ q) (h1 : q ≤ T.length) : ∀ c ∈ cs (sl T q (q + rl T S q)), c ∈ cs S := by
  intro c hc
  rw [cs_sl T S h0 h1] at hc
  exact of_decide_eq_true (takeWhile_mem (f := fun c => decide (c ∈ cs S)) hc)
theorem nd_of {T S : Str} {q : Int} {P : Nat → Prop} (hq : q ≤ T.length) (hP : ∀ c, c ∈ cs S ↔ P (colI c)) (h14 : ¬ P 14) (h : q < T.length → ch T q ∉ cs S) : ¬ P (colN T q) := by
  intro hc
  rcases Int.lt_or_le q T.length with z | z
  · rw [colN_in z] at hc
    exact h z ((hP _).mpr hc)
  · rw [colN_end (by lia)] at hc; exact h14 hc
theorem kind_one {T : Str} {p : Int} (h0 : 0 ≤ p) (h1 : p < T.length) : Txt.slice T (some p) (some (p + 1)) = one (ch T p) := str_ext ((sl_one h0 h1).trans (cs_one _).symm)
theorem kind_no {T : Str} {p : Int} (h0 : 0 ≤ p) (h1 : p < T.length) (h : ¬ p + 1 < T.length) : ([Str.ofString "b", Str.ofString "x"].any fun y => y == Txt.slice T (some (p + 1)) (some (p + 2))) = false := by
  refine Bool.eq_false_iff.mpr fun e => ?_
  have := kind_len h0 h1 e
  lia
/-- bits of one kind behind the kind's sign -/
theorem word_row {T S stA stB : Str} {p b k : Int} {P : Nat → Prop} [DecidablePred P] (h0 : 0 ≤ p) (h1 : p + 2 ≤ T.length) (hP : ∀ c, c ∈ cs S ↔ P (colI c)) (hle : ∀ j, P j → j ≤ 7)
    (hA : ∀ j, j < 15 → nx stA j = if P j then stB else Str.ofString "!") (hB : ∀ j, j < 15 → nx stB j = if P j then stB else if j ≤ 7 then Str.ofString "!" else Str.ofString "=")
    (hs : (stB == Str.ofString "=" || stB == Str.ofString "!" || stB == Str.ofString "%") = false) (kA : keeps stA stB = true) (kB : keeps stB stB = true) (sA : slashB stA stB = false) (sB : slashB stB stB = false)
    (hm : ∀ kept, madeF stB kept = .tuple [.str (Str.ofString "bits"), .int (worthF b (cs kept)), .int (k * kept.length)]) (hx : ∀ c ∈ cs S, c ∈ cs HEX) :
    WA T p (p + 2) stA (Str.ofString "") p = (if sl T (p + 2) (p + 2 + rl T S (p + 2)) == Str.ofString "" then .error p else if runsIn T (p + 2 + rl T S (p + 2)) then .error p else
      .ok (.tuple [.str (Str.ofString "bits"), .int (valL b (cs (Txt.lower (sl T (p + 2) (p + 2 + rl T S (p + 2)))))), .int (k * (sl T (p + 2) (p + 2 + rl T S (p + 2))).length)], p + 2 + rl T S (p + 2))) := by
  have hq := rl_le T S (p := p + 2) (by lia) h1
  rw [sl_empty (by lia) (by lia) hq]
  by_cases hc : P (colN T (p + 2))
  · have hlt : p + 2 < T.length := by
      rcases Int.lt_or_le (p + 2) T.length with z | z
      · exact z
      · rw [colN_end (by lia)] at hc; have := hle _ hc; lia
    have hin := (hP _).mpr (by rw [← colN_in hlt]; exact hc)
    have er := rl_in (S := S) (by lia) hlt hin
    have hs' := hs
    rw [Bool.or_eq_false_iff, Bool.or_eq_false_iff] at hs'
    rw [if_neg (by rw [decide_eq_false (by lia)]; exact Bool.false_ne_true)]
    rw [goOn (by lia) (by lia) ((hA _ (colN_lt _ _)).trans (if_pos hc)) hs kA sA, if_pos rfl, if_neg Bool.false_ne_true]
    rw [← sl_nil (T := T) (a := p + 2) (by lia) (by lia), sl_snoc (by lia) (Int.le_refl _) hlt]
    obtain ⟨e3, e4, e5⟩ := run_from (T := T) (S := S) (st := stB) (p0 := p) (a := p + 2) (q := p + 2 + 1) (sh := p) (by lia) (by lia) (by lia) (fun c hc => (hB _ (by have := (colF c).le; lia)).trans (if_pos ((hP c).mp hc))) hs'.1.1 hs'.1.2 hs'.2 kB sB
    rw [e3]
    rw [show p + 2 + 1 + (rl T S (p + 2 + 1) : Int) = p + 2 + rl T S (p + 2) by lia] at e4 e5 ⊢
    have nd := nd_of e4 hP (fun z => by have := hle _ z; lia) e5
    rw [runsIn_N e4]
    by_cases h7 : colN T (p + 2 + rl T S (p + 2)) ≤ 7
    · rw [if_pos (decide_eq_true h7)]
      exact goErr (by lia) e4 ((hB _ (colN_lt _ _)).trans (by rw [if_neg nd, if_pos h7]))
    · rw [if_neg (by rw [decide_eq_false h7]; exact Bool.false_ne_true)]
      rw [goOk (by lia) e4 ((hB _ (colN_lt _ _)).trans (by rw [if_neg nd, if_neg h7])), hm, lower_val fun c hc => hx c (sl_all (by lia) h1 c hc)]
  · have er : rl T S (p + 2) = 0 := by
      rcases Int.lt_or_le (p + 2) T.length with z | z
      · exact rl_out (by lia) z fun m => hc (by rw [colN_in z]; exact (hP _).mp m)
      · exact rl_end z
    rw [if_pos (by rw [decide_eq_true (by lia)])]
    exact goErr (by lia) h1 ((hA _ (colN_lt _ _)).trans (if_neg hc))
theorem word_bits {T : Str} {p : Int} (h0 : 0 ≤ p) (h1 : p < T.length) (h : colI (ch T p) = 11) : wordF T p = bitsF T p := by
  have hk := colN_in h1
  have e1 : nx (Str.ofString "S") (colN T p) = Str.ofString "G" := by rw [rowS (colN_lt _ _), hk, h]; rfl
  rw [wordF_WA, goOn h0 (by lia) e1 (by decide) (show keeps _ _ = false by decide +kernel) (show slashB _ _ = false by decide +kernel), if_neg Bool.false_ne_true, if_neg Bool.false_ne_true]
  unfold bitsF
  dsimp only
  by_cases hl : p + 1 < T.length
  · have ek : Txt.slice T (some (p + 1)) (some (p + 2)) = one (ch T (p + 1)) := by
      have := kind_one (T := T) (p := p + 1) (by lia) hl
      rw [show p + 1 + 1 = p + 2 by lia] at this
      exact this
    have F := colF (ch T (p + 1))
    have eb : (Str.ofString "b" == one (ch T (p + 1))) = decide (colI (ch T (p + 1)) = 4) := by rw [BEq.comm]; exact one_isP (by decide) F.b
    have ex : (Str.ofString "x" == one (ch T (p + 1))) = decide (colI (ch T (p + 1)) = 5) := by rw [BEq.comm]; exact one_isP (by decide) F.x
    have eb' : (one (ch T (p + 1)) == Str.ofString "b") = decide (colI (ch T (p + 1)) = 4) := one_isP (by decide) F.b
    rw [ek]
    simp only [List.any_cons, List.any_nil, Bool.or_false, eb, ex, eb']
    by_cases h4 : colI (ch T (p + 1)) = 4
    · rw [if_pos (by rw [decide_eq_true h4]; rfl), if_pos (decide_eq_true h4)]
      have e2 : nx (Str.ofString "G") (colN T (p + 1)) = Str.ofString "C" := by rw [rowG (colN_lt _ _), colN_in hl, if_pos h4]
      rw [goOn (by lia) (by lia) e2 (by decide) (show keeps _ _ = false by decide +kernel) (show slashB _ _ = false by decide +kernel), if_neg Bool.false_ne_true, if_neg Bool.false_ne_true]
      have := word_row (T := T) (S := Str.ofString "01") (stA := Str.ofString "C") (stB := Str.ofString "I") (p := p) (b := 2) (k := 1) (P := fun j => j ≤ 1) h0 (by lia) (fun c => (colF c).bit) (fun j hj => by lia) (fun j hj => rowC hj) (fun j hj => rowI hj) (by decide) (by decide +kernel) (by decide +kernel) (by decide +kernel) (by decide +kernel)
        (fun kept => by unfold madeF; rw [if_neg (by decide), if_neg (by decide), if_neg (by decide), if_neg (by decide), if_pos (by decide), Int.one_mul]) (fun c hc => of_decide_eq_true (List.all_eq_true.mp bit_hex c hc))
      rw [Int.one_mul] at this
      rw [show p + 1 + 1 = p + 2 by lia]
      exact this
    · by_cases h5 : colI (ch T (p + 1)) = 5
      · rw [if_pos (by rw [decide_eq_true h5]; simp), if_neg (by rw [decide_eq_false h4]; exact Bool.false_ne_true)]
        have e2 : nx (Str.ofString "G") (colN T (p + 1)) = Str.ofString "X" := by rw [rowG (colN_lt _ _), colN_in hl, if_neg h4, if_pos h5]
        rw [goOn (by lia) (by lia) e2 (by decide) (show keeps _ _ = false by decide +kernel) (show slashB _ _ = false by decide +kernel), if_neg Bool.false_ne_true, if_neg Bool.false_ne_true]
        have := word_row (T := T) (S := HEX) (stA := Str.ofString "X") (stB := Str.ofString "H") (p := p) (b := 16) (k := 4) (P := fun j => j ≤ 2 ∨ j = 4 ∨ j = 6) h0 (by lia) (fun c => (colF c).hex) (fun j hj => by lia) (fun j hj => rowX hj) (fun j hj => rowH hj) (by decide) (by decide +kernel) (by decide +kernel) (by decide +kernel) (by decide +kernel)
          (fun kept => by unfold madeF; rw [if_neg (by decide), if_neg (by decide), if_neg (by decide), if_neg (by decide), if_neg (by decide), if_pos (by decide)]) (fun c hc => hc)
        rw [show p + 1 + 1 = p + 2 by lia]
        exact this
      · rw [if_neg (by rw [decide_eq_false h4, decide_eq_false h5]; decide)]
        exact goErr (by lia) (by lia) (by rw [rowG (colN_lt _ _), colN_in hl, if_neg h4, if_neg h5])
  · rw [if_neg (by rw [kind_no h0 h1 hl]; exact Bool.false_ne_true)]
    exact goErr (by lia) (by lia) (by rw [rowG (colN_lt _ _), colN_end (by lia)]; rfl)
end Mine
end
-- part PL7
section
namespace Mine
theorem freshPL7 : True := by
  w_top off
  trivial
end Mine
open PySem PySem.W PySem.Calls PyProof.Rows PySem.NumText
set_option maxRecDepth 100000
namespace Mine
theorem ch_getD (T : Str) (v : Nat) : T.cps.getD v 0 = ch T (v : Int) := by rw [cps_getD]; rfl
theorem find3_at {T : Str} {c : Nat} {i k : Int} (h0 : 0 ≤ i) (hik : i ≤ k) (hk : k < T.length) (hc : ch T k = c) (hb : ∀ v, i ≤ v → v < k → ch T v ≠ c) : Txt.find3 T (one c) i = k := by
  have e0 : (fromIndex T.length i : Int) = i := by unfold fromIndex; lia
  have gk : T.cps.getD k.toNat 0 = c := by rw [ch_getD, show ((k.toNat : Nat) : Int) = k by lia]; exact hc
  rcases StrLaws.find3_spec T c i with ⟨_, h⟩ | ⟨j, h1, h2, h3, h4, h5⟩
  · exact absurd gk (h k.toNat (by lia) (by lia))
  · unfold one
    rw [h1]
    rw [ch_getD] at h4
    have a1 : ¬ (j : Int) < k := fun z => hb j (by lia) z h4
    have a2 : ¬ k < (j : Int) := fun z => h5 k.toNat (by lia) (by lia) gk
    lia
theorem find3_no {T : Str} {c : Nat} {i : Int} (h0 : 0 ≤ i) (hi : i ≤ T.length) (hb : ∀ v, i ≤ v → v < T.length → ch T v ≠ c) : Txt.find3 T (one c) i = -1 := by
  have e0 : (fromIndex T.length i : Int) = i := by unfold fromIndex; lia
  rcases StrLaws.find3_spec T c i with ⟨h, _⟩ | ⟨j, h1, h2, h3, h4, h5⟩
  · exact h
  · rw [ch_getD] at h4
    exact absurd h4 (hb j (by lia) (by lia))
/-- behind a backslash between bars -/
theorem WW {T : Str} {p s : Int} {kp : Str} : ∀ (n : Nat) (r : Int), 0 ≤ r → r ≤ T.length → (T.length - r).toNat = n →
    (∀ k, r ≤ k → k < T.length → ch T k = 124 → (∀ v, r ≤ v → v < k → ch T v ≠ 124) → WA T p r (Str.ofString "W") kp s = .error s) ∧ ((∀ v, r ≤ v → v < T.length → ch T v ≠ 124) → WA T p r (Str.ofString "W") kp s = .error p) := by
  intro n
  induction n with
  | zero =>
    intro r h0 h1 hn
    refine ⟨fun k a b => by lia, fun _ => ?_⟩
    exact goErr h0 h1 (by rw [rowW (colN_lt _ _), colN_end (by lia)]; rfl)
  | succ n ih =>
    intro r h0 h1 hn
    have hlt : r < T.length := by lia
    have hk := colN_in hlt
    by_cases h9 : ch T r = 124
    · refine ⟨fun _ _ _ _ _ => ?_, fun h => absurd h9 (h r (Int.le_refl _) hlt)⟩
      exact goSl h0 h1 (by rw [rowW (colN_lt _ _), hk, if_pos ((colF _).bar.mp h9)])
    · obtain ⟨i1, i2⟩ := ih (r + 1) (by lia) (by lia) (by lia)
      have e : WA T p r (Str.ofString "W") kp s = WA T p (r + 1) (Str.ofString "W") kp s := by
        have e2 : nx (Str.ofString "W") (colN T r) = Str.ofString "W" := by
          rw [rowW (colN_lt _ _), hk, if_neg fun z => h9 ((colF _).bar.mpr z), if_neg]
          have := (colF (ch T r)).le; lia
        rw [goOn h0 h1 e2 (by decide) (show keeps _ _ = false by decide +kernel) (show slashB _ _ = false by decide +kernel), if_neg Bool.false_ne_true, if_neg Bool.false_ne_true]
      rw [e]
      refine ⟨fun k a b hc hv => i1 k ?_ b hc fun v x y => hv v (by lia) y, fun h => i2 fun v x y => h v (by lia) y⟩
      rcases Int.lt_or_eq_of_le a with z | z
      · lia
      · exact absurd (z ▸ hc) h9
theorem made_E (kept : Str) : madeF (Str.ofString "E") kept = if RES.any (fun x => x == kept) then .tuple [.str (Str.ofString "sym"), .str (Str.ofString "|" ++ kept ++ Str.ofString "|")] else .tuple [.str (Str.ofString "sym"), .str kept] := by
  unfold madeF
  rw [if_neg (by decide), if_pos (by decide)]
theorem ch_sl {T : Str} {a b : Int} {v : Nat} (ha : 0 ≤ a) (hab : a ≤ b) (hb : b ≤ T.length) (hv : (v : Int) < b - a) : (cs (sl T a b)).getD v 0 = ch T (a + v) := by
  unfold ch
  rw [sl_cs ha hab hb, List.getD_eq_getElem?_getD, List.getD_eq_getElem?_getD, List.getElem?_take, if_pos (by lia), List.getElem?_drop, show (a + v).toNat = a.toNat + v by lia]
theorem WB {T : Str} {p : Int} (h0 : 0 ≤ p) : ∀ (n : Nat) (q : Int), p + 1 ≤ q → q ≤ T.length → (T.length - q).toNat = n → (∀ v, p + 1 ≤ v → v < q → ch T v ≠ 124 ∧ ch T v ≠ 92) →
    WA T p q (Str.ofString "B") (sl T (p + 1) q) p = quotedF T p := by
  have eb : Str.ofString "|" = one 124 := by decide
  have es : Str.ofString "\\" = one 92 := by decide
  intro n
  induction n with
  | zero =>
    intro q hpq hq hn hv
    unfold quotedF
    dsimp only
    rw [eb, find3_no (by lia) (by lia) fun v a b => (hv v a (by lia)).1, if_pos (by decide)]
    exact goErr (by lia) hq (by rw [rowB (colN_lt _ _), colN_end (by lia)]; rfl)
  | succ n ih =>
    intro q hpq hq hn hv
    have hlt : q < T.length := by lia
    have hk := colN_in hlt
    by_cases h9 : ch T q = 124
    · have e1 : nx (Str.ofString "B") (colN T q) = Str.ofString "E" := by rw [rowB (colN_lt _ _), hk, if_pos ((colF _).bar.mp h9)]
      rw [goOn (by lia) hq e1 (by decide) (show keeps _ _ = false by decide +kernel) (show slashB _ _ = false by decide +kernel), if_neg Bool.false_ne_true, if_neg Bool.false_ne_true]
      rw [goOk (by lia) (by lia) (rowE (colN_lt _ _)), made_E]
      unfold quotedF
      dsimp only
      rw [eb, find3_at (by lia) hpq hlt h9 fun v a b => (hv v a b).1, if_neg (show ¬ q < 0 by lia)]
      have en : Txt.find (Txt.slice T (some (p + 1)) (some q)) (Str.ofString "\\") = -1 := by
        rw [es]
        refine find_none fun hc => ?_
        obtain ⟨v, hvl, he⟩ := List.getElem_of_mem hc
        have hl : (cs (sl T (p + 1) q)).length = (q - (p + 1)).toNat := by rw [cs_length, sl_len (by lia) hpq hq]
        have hvl' : v < (cs (sl T (p + 1) q)).length := hvl
        have g := ch_sl (T := T) (a := p + 1) (b := q) (v := v) (by lia) hpq hq (by lia)
        rw [List.getD_eq_getElem?_getD, List.getElem?_eq_getElem hvl'] at g
        exact (hv (p + 1 + v) (by lia) (by lia)).2 (g.symm.trans he)
      rw [en, if_neg (show ¬ (0 : Int) ≤ -1 by decide)]
      by_cases hR : (RES.any fun x => x == sl T (p + 1) q) = true
      · rw [if_pos hR]; exact (if_pos hR).symm
      · rw [if_neg hR]; exact (if_neg hR).symm
    · by_cases h12 : ch T q = 92
      · have e1 : nx (Str.ofString "B") (colN T q) = Str.ofString "W" := by rw [rowB (colN_lt _ _), hk, if_neg fun z => h9 ((colF _).bar.mpr z), if_pos ((colF _).slash.mp h12)]
        rw [goOn (by lia) hq e1 (by decide) (show keeps _ _ = false by decide +kernel) (show slashB _ _ = true by decide +kernel), if_neg Bool.false_ne_true, if_pos rfl]
        obtain ⟨w1, w2⟩ := WW (T := T) (p := p) (s := q) (kp := sl T (p + 1) q) _ (q + 1) (by lia) (by lia) rfl
        unfold quotedF
        dsimp only
        rw [eb]
        rcases StrLaws.find3_spec T 124 (p + 1) with ⟨f1, f2⟩ | ⟨k, f1, f2, f3, f4, f5⟩
        · rw [show Txt.find3 T (one 124) (p + 1) = -1 from f1, if_pos (by decide)]
          refine w2 fun v a b => ?_
          have := f2 v.toNat (by unfold fromIndex; lia) (by lia)
          rw [ch_getD, show ((v.toNat : Nat) : Int) = v by lia] at this
          exact this
        · have e0 : (fromIndex T.length (p + 1) : Int) = p + 1 := by unfold fromIndex; lia
          rw [show Txt.find3 T (one 124) (p + 1) = k from f1, if_neg (by lia)]
          rw [ch_getD] at f4
          have hqk : q < k := by
            rcases Int.lt_or_le q k with z | z
            · exact z
            · rcases Int.lt_or_eq_of_le z with y | y
              · exact absurd f4 (hv k (by lia) y).1
              · exact absurd (y ▸ f4) h9
          have en : Txt.find (Txt.slice T (some (p + 1)) (some (k : Int))) (Str.ofString "\\") = q - (p + 1) := by
            rw [es]
            have := find_first (x := sl T (p + 1) k) (c := 92) (n := (q - (p + 1)).toNat) ?_ ?_
            · rw [show (((q - (p + 1)).toNat : Nat) : Int) = q - (p + 1) by lia] at this
              exact this
            · have hl : (q - (p + 1)).toNat < (cs (sl T (p + 1) k)).length := by rw [cs_length, sl_len (by lia) (by lia) (by lia)]; lia
              have g := ch_sl (T := T) (a := p + 1) (b := k) (v := (q - (p + 1)).toNat) (by lia) (by lia) (by lia) (by lia)
              rw [List.getD_eq_getElem?_getD, List.getElem?_eq_getElem hl] at g
              rw [List.getElem?_eq_getElem hl]
              rw [show p + 1 + (((q - (p + 1)).toNat : Nat) : Int) = q by lia, h12] at g
              exact congrArg some g
            · intro v hvv
              rw [ch_sl (by lia) (by lia) (by lia) (by lia)]
              exact (hv _ (by lia) (by lia)).2
          rw [en, if_pos (by lia), show p + 1 + (q - (p + 1)) = q by lia]
          refine w1 k (by lia) (by lia) f4 fun v a b => ?_
          have := f5 v.toNat (by lia) (by lia)
          rw [ch_getD, show ((v.toNat : Nat) : Int) = v by lia] at this
          exact this
      · have e1 : nx (Str.ofString "B") (colN T q) = Str.ofString "B" := by
          rw [rowB (colN_lt _ _), hk, if_neg fun z => h9 ((colF _).bar.mpr z), if_neg fun z => h12 ((colF _).slash.mpr z), if_neg]
          have := (colF (ch T q)).le; lia
        rw [goOn (by lia) hq e1 (by decide) (show keeps _ _ = true by decide +kernel) (show slashB _ _ = false by decide +kernel), if_pos rfl, if_neg Bool.false_ne_true, sl_snoc (by lia) hpq hlt]
        refine ih (q + 1) (by lia) (by lia) (by lia) fun v a b => ?_
        rcases Int.lt_or_le v q with z | z
        · exact hv v a z
        · have : v = q := by lia
          subst this; exact ⟨h9, h12⟩
theorem word_quoted {T : Str} {p : Int} (h0 : 0 ≤ p) (h1 : p < T.length) (h : colI (ch T p) = 9) : wordF T p = quotedF T p := by
  have hk := colN_in h1
  have e1 : nx (Str.ofString "S") (colN T p) = Str.ofString "B" := by rw [rowS (colN_lt _ _), hk, h]; rfl
  rw [wordF_WA, goOn h0 (by lia) e1 (by decide) (show keeps _ _ = false by decide +kernel) (show slashB _ _ = false by decide +kernel), if_neg Bool.false_ne_true, if_neg Bool.false_ne_true]
  rw [← sl_nil (T := T) (a := p + 1) (by lia) (by lia)]
  exact WB h0 _ (p + 1) (Int.le_refl _) (by lia) rfl fun v a b => by lia
end Mine
end
-- part PL8
section
namespace Mine
theorem freshPL8 : True := by
  w_top off
  trivial
end Mine
open PySem PySem.W PySem.Calls PyProof.Rows PySem.NumText
set_option maxRecDepth 100000
namespace Mine
theorem str_assoc (a b c : Str) : a ++ b ++ c = a ++ (b ++ c) := str_ext (by rw [cs_append, cs_append, cs_append, cs_append, List.append_assoc])
theorem one_sl {T : Str} {q k : Int} (h0 : 0 ≤ q) (hqk : q < k) (hk : k ≤ T.length) : one (ch T q) ++ sl T (q + 1) k = sl T q k := by
  refine str_ext ?_
  rw [cs_append, sl_split (a := q) (b := q + 1) h0 (by lia) (by lia) hk, sl_one h0 (by lia), cs_one]
theorem app_nil (x : Str) : x ++ Str.ofString "" = x := str_ext (by rw [cs_append, show cs (Str.ofString "") = [] by decide, List.append_nil])
theorem join_snoc (ps : List Str) (x : Str) : Txt.join (Str.ofString "") (ps ++ [x]) = Txt.join (Str.ofString "") ps ++ x := str_ext (by rw [cs_append, cs_join, cs_join]; simp)
/-- inside a string up to the next quote, or to the end -/
theorem TT {T : Str} {p sh : Int} : ∀ (n : Nat) (q : Int) (kp : Str), 0 ≤ q → q ≤ T.length → (T.length - q).toNat = n →
    (∀ k, q ≤ k → k < T.length → ch T k = 34 → (∀ v, q ≤ v → v < k → ch T v ≠ 34) → WA T p q (Str.ofString "T") kp sh = WA T p (k + 1) (Str.ofString "Q") (kp ++ sl T q k) sh) ∧ ((∀ v, q ≤ v → v < T.length → ch T v ≠ 34) → WA T p q (Str.ofString "T") kp sh = .error p) := by
  intro n
  induction n with
  | zero =>
    intro q kp h0 h1 hn
    refine ⟨fun k a b => by lia, fun _ => ?_⟩
    exact goErr h0 h1 (by rw [rowT (colN_lt _ _), colN_end (by lia)]; rfl)
  | succ n ih =>
    intro q kp h0 h1 hn
    have hlt : q < T.length := by lia
    have hk := colN_in hlt
    by_cases h8 : ch T q = 34
    · refine ⟨fun k a b hc hv => ?_, fun h => absurd h8 (h q (Int.le_refl _) hlt)⟩
      have e : k = q := by
        rcases Int.lt_or_eq_of_le a with z | z
        · exact absurd h8 (hv q (Int.le_refl _) z)
        · exact z.symm
      subst e
      have e1 : nx (Str.ofString "T") (colN T k) = Str.ofString "Q" := by rw [rowT (colN_lt _ _), hk, if_pos ((colF _).quote.mp h8)]
      rw [goOn h0 h1 e1 (by decide) (show keeps _ _ = false by decide +kernel) (show slashB _ _ = false by decide +kernel), if_neg Bool.false_ne_true, if_neg Bool.false_ne_true, sl_nil h0 (by lia), app_nil]
    · obtain ⟨i1, i2⟩ := ih (q + 1) (kp ++ one (ch T q)) (by lia) (by lia) (by lia)
      have e : WA T p q (Str.ofString "T") kp sh = WA T p (q + 1) (Str.ofString "T") (kp ++ one (ch T q)) sh := by
        have e2 : nx (Str.ofString "T") (colN T q) = Str.ofString "T" := by
          rw [rowT (colN_lt _ _), hk, if_neg fun z => h8 ((colF _).quote.mpr z), if_neg]
          have := (colF (ch T q)).le; lia
        rw [goOn h0 h1 e2 (by decide) (show keeps _ _ = true by decide +kernel) (show slashB _ _ = false by decide +kernel), if_pos rfl, if_neg Bool.false_ne_true]
      rw [e]
      refine ⟨fun k a b hc hv => ?_, fun h => i2 fun v x y => h v (by lia) y⟩
      have hqk : q < k := by
        rcases Int.lt_or_eq_of_le a with z | z
        · exact z
        · exact absurd (z ▸ hc) h8
      rw [i1 k (by lia) b hc fun v x y => hv v (by lia) y, str_assoc, one_sl h0 hqk (by lia)]
theorem made_Q (kept : Str) : madeF (Str.ofString "Q") kept = .tuple [.str (Str.ofString "str"), .str kept] := by
  unfold madeF
  rw [if_neg (by decide), if_neg (by decide), if_pos (by decide)]
theorem SS {T : Str} {p : Int} : ∀ (n : Nat) (c : Int) (ps : List Str), 0 ≤ c → c ≤ T.length → T.length - c < n → WA T p c (Str.ofString "T") (Txt.join (Str.ofString "") ps) p = strG T p n c ps := by
  have eq : Str.ofString "\"" = one 34 := by decide
  intro n
  induction n with
  | zero => intro c ps h0 h1 hn; lia
  | succ n ih =>
    intro c ps h0 h1 hn
    obtain ⟨t1, t2⟩ := TT (T := T) (p := p) (sh := p) _ c (Txt.join (Str.ofString "") ps) h0 h1 rfl
    unfold strG
    dsimp only
    rw [eq]
    rcases StrLaws.find3_spec T 34 c with ⟨f1, f2⟩ | ⟨k, f1, f2, f3, f4, f5⟩
    · rw [show Txt.find3 T (one 34) c = -1 from f1, if_pos (by decide)]
      refine t2 fun v a b => ?_
      have := f2 v.toNat (by unfold fromIndex; lia) (by lia)
      rw [ch_getD, show ((v.toNat : Nat) : Int) = v by lia] at this
      exact this
    · have e0 : (fromIndex T.length c : Int) = c := by unfold fromIndex; lia
      rw [show Txt.find3 T (one 34) c = k from f1, if_neg (show ¬ (k : Int) < 0 by lia)]
      rw [ch_getD] at f4
      rw [t1 k (by lia) (by lia) f4 fun v a b => by
        have := f5 v.toNat (by lia) (by lia)
        rw [ch_getD, show ((v.toNat : Nat) : Int) = v by lia] at this
        exact this]
      have ej : Txt.join (Str.ofString "") (ps ++ [Txt.slice T (some c) (some (k : Int))]) = Txt.join (Str.ofString "") ps ++ sl T c k := join_snoc ps _
      by_cases h8 : colN T (k + 1) = 8
      · have hlt : (k : Int) + 1 < T.length := by
          rcases Int.lt_or_le ((k : Int) + 1) T.length with z | z
          · exact z
          · rw [colN_end (by lia)] at h8; lia
        have h34 : ch T (k + 1) = 34 := (colF _).quote.mpr (by rw [← colN_in hlt]; exact h8)
        rw [if_neg (by rw [signS_in hlt, h34]; decide)]
        have e1 : nx (Str.ofString "Q") (colN T (k + 1)) = Str.ofString "T" := by rw [rowQ (colN_lt _ _), if_pos h8]
        rw [goOn (by lia) (by lia) e1 (by decide) (show keeps _ _ = true by decide +kernel) (show slashB _ _ = false by decide +kernel), if_pos rfl, if_neg Bool.false_ne_true, h34]
        have := ih (k + 2) (ps ++ [Txt.slice T (some c) (some (k : Int))] ++ [one 34]) (by lia) (by lia) (by lia)
        rw [join_snoc, ej] at this
        rw [show (k : Int) + 1 + 1 = k + 2 by lia]
        exact this
      · have hne : (signS T (k + 1) != one 34) = true := by
          rcases Int.lt_or_le ((k : Int) + 1) T.length with z | z
          · rw [signS_in z]
            rw [colN_in z] at h8
            rw [bne, one_isP (d := 34) (by decide) (colF _).quote, decide_eq_false h8]; rfl
          · rw [signS_out (by lia)]; decide
        rw [if_pos hne, goOk (by lia) (by lia) (by rw [rowQ (colN_lt _ _), if_neg h8]), made_Q, ej]
theorem word_str {T : Str} {p : Int} (h0 : 0 ≤ p) (h1 : p < T.length) (h : colI (ch T p) = 8) : wordF T p = strG T p (T.length + 1) (p + 1) [] := by
  have hk := colN_in h1
  have e1 : nx (Str.ofString "S") (colN T p) = Str.ofString "T" := by rw [rowS (colN_lt _ _), hk, h]; rfl
  rw [wordF_WA, goOn h0 (by lia) e1 (by decide) (show keeps _ _ = false by decide +kernel) (show slashB _ _ = false by decide +kernel), if_neg Bool.false_ne_true, if_neg Bool.false_ne_true]
  exact SS (T := T) (p := p) (T.length + 1) (p + 1) [] (by lia) (by lia) (by lia)
/-- what the scanner reads is what the table tells -/
theorem read_word {T : Str} {p : Int} (h0 : 0 ≤ p) (h1 : p ≤ T.length) : readF T p = wordF T p := by
  rcases Int.lt_or_le p T.length with z | z
  · rw [readF_at z]
    by_cases h8 : colI (ch T p) = 8
    · rw [if_pos h8, word_str h0 z h8]
    rw [if_neg h8]
    by_cases h9 : colI (ch T p) = 9
    · rw [if_pos h9, word_quoted h0 z h9]
    rw [if_neg h9]
    by_cases h10 : colI (ch T p) = 10
    · rw [if_pos h10, word_key h0 z h10]
    rw [if_neg h10]
    by_cases h11 : colI (ch T p) = 11
    · rw [if_pos h11, word_bits h0 z h11]
    rw [if_neg h11]
    by_cases h2 : colI (ch T p) ≤ 2
    · rw [if_pos h2, word_num h0 z h2]
    rw [if_neg h2]
    by_cases h7 : colI (ch T p) ≤ 7
    · rw [if_pos h7, word_sym h0 z (by lia) h7]
    rw [if_neg h7, word_bad h0 z (by lia)]
  · rw [readF_out (by lia), word_end h0 (by lia)]
end Mine
end
-- part PLs
section
namespace Mine
theorem freshPLs : True := by
  w_top off
  trivial
end Mine
open PySem PySem.W PySem.Calls PyProof.Rows
set_option maxRecDepth 100000
namespace Mine
def OkT (T : Str) : Prop := ∀ c ∈ cs T, c < 128
def TAILS : List Str := [Str.ofString "", Str.ofString " ", Str.ofString "\n\t", Str.ofString "; r", Str.ofString " ;|\n"]
theorem readF_in {T : Str} (_ : T.length ≤ 600) (z : Int) (d : Dat) (q : Int) (h0 : 0 ≤ z) (h1 : z ≤ T.length) (h : readF T z = .ok (d, q)) : 0 ≤ q ∧ q ≤ T.length := by
  rw [read_word h0 h1] at h
  exact wordF_in h0 h1 h
theorem start_all : (List.range 15).all (fun k => !(nx (Str.ofString "S") k == Str.ofString "=")) = true := by decide +kernel
theorem word_adv {T : Str} {p r : Int} {d : Dat} (h0 : 0 ≤ p) (h1 : p ≤ T.length) (h : wordF T p = .ok (d, r)) : p < r := by
  rw [wordF_WA, WA_step h1 (fresh_N h0 h1)] at h
  have e := List.all_eq_true.mp start_all (colN T p) (List.mem_range.mpr (colN_lt _ _))
  rw [Bool.not_eq_true'] at e
  rw [if_neg (ff e)] at h
  split at h
  · cases h
  · split at h
    · cases h
    · have := wordL_in h
      lia
theorem next_le {T : Str} {b : Bool} {q : Int} (h0 : 0 ≤ q) (h1 : q ≤ T.length) : q ≤ nextP T b q ∧ nextP T b q ≤ T.length := by
  unfold nextP
  split
  · exact ⟨past_ge _ _ _, past_T h0 h1⟩
  · exact ⟨Int.le_refl _, h1⟩
theorem told_heardL {T : Str} {b : Bool} : ∀ (n : Nat) (q : Int) (ds : List Dat), 0 ≤ q → q ≤ T.length → (T.length - q).toNat + 1 ≤ n → toldL T b n q ds = heardL T b n q ds
  | 0, _, _, _, _, h => by lia
  | n + 1, q, ds, h0, h1, h => by
    obtain ⟨a1, a2⟩ := next_le (T := T) (b := b) h0 h1
    rw [toldL, heardL, read_word (by lia) a2]
    cases e : wordF T (nextP T b q) with
    | error f => rfl
    | ok x =>
      obtain ⟨d, r⟩ := x
      have r1 := word_adv (by lia) a2 e
      have r2 := wordF_in (by lia) a2 e
      exact told_heardL n r _ (by lia) r2.2 (by lia)
theorem told_heard {T : Str} {b : Bool} {p : Int} (_ : T.length ≤ 600) (h0 : 0 ≤ p) (h1 : p ≤ T.length) : toldF T b p = heardF T b p := told_heardL _ p [] h0 h1 (by lia)
theorem ch_ok {T : Str} (ok : OkT T) (q : Int) : ch T q < 128 := by
  unfold ch
  rw [List.getD_eq_getElem?_getD]
  cases h : (cs T)[q.toNat]? with
  | none => decide
  | some c => exact ok c (List.mem_of_getElem? h)
theorem ok_str {x : Str} (h : OkT x) : PyData.strOk x = true := by
  unfold PyData.strOk
  rw [← Array.all_toList]
  exact List.all_eq_true.mpr fun c hc => decide_eq_true (Nat.lt_trans (h c hc) (by decide))
theorem ok_app {x y : Str} (hx : OkT x) (hy : OkT y) : OkT (x ++ y) := fun c hc => by
  rw [cs_append] at hc
  exact (List.mem_append.mp hc).elim (hx c) (hy c)
theorem made_ok {st kept : Str} (h : OkT kept) : kqdOk 5 (madeF st kept) = true := by
  have h1 := ok_str h
  have hb : OkT (Str.ofString "|") := fun c hc => by rw [show cs (Str.ofString "|") = [124] by decide] at hc; rw [List.mem_singleton.mp hc]; decide
  have h2 := ok_str (ok_app (ok_app hb h) hb)
  have k1 : kqdOk 4 (.str kept) = true := h1
  have k2 : kqdOk 4 (.str (Str.ofString "|" ++ kept ++ Str.ofString "|")) = true := h2
  have c1 : kqdOk 4 (.str (Str.ofString "sym")) = true := by decide +kernel
  have c2 : kqdOk 4 (.str (Str.ofString "str")) = true := by decide +kernel
  have c3 : kqdOk 4 (.str (Str.ofString "key")) = true := by decide +kernel
  have c4 : kqdOk 4 (.str (Str.ofString "bits")) = true := by decide +kernel
  have c5 : kqdOk 4 (.str (Str.ofString "num")) = true := by decide +kernel
  have c6 : kqdOk 4 (.str (Str.ofString "dec")) = true := by decide +kernel
  have ki : ∀ i, kqdOk 4 (.int i) = true := fun _ => rfl
  have kt : ∀ i j, kqdOk 4 (.tuple [.int i, .int j]) = true := fun _ _ => rfl
  have two : ∀ a b, kqdOk 4 a = true → kqdOk 4 b = true → kqdOk 5 (.tuple [a, b]) = true := fun a b x y => by
    show ([a, b].all (kqdOk 4)) = true
    simp [x, y]
  have three : ∀ a b c, kqdOk 4 a = true → kqdOk 4 b = true → kqdOk 4 c = true → kqdOk 5 (.tuple [a, b, c]) = true := fun a b c x y z => by
    show ([a, b, c].all (kqdOk 4)) = true
    simp [x, y, z]
  unfold madeF
  split
  · exact two _ _ c1 k1
  split
  · split
    · exact two _ _ c1 k2
    · exact two _ _ c1 k1
  split
  · exact two _ _ c2 k1
  split
  · exact two _ _ c3 k1
  split
  · exact three _ _ _ c4 (ki _) (ki _)
  split
  · exact three _ _ _ c4 (ki _) (ki _)
  split
  · exact two _ _ c5 (ki _)
  · exact two _ _ c6 (kt _ _)
theorem wordL_ok {T : Str} {p0 : Int} (ok : OkT T) : ∀ {n : Nat} {q sh r : Int} {st kp : Str} {d : Dat}, OkT kp → wordL T p0 n q st kp sh = .ok (d, r) → kqdOk 5 d = true
  | 0, _, _, _, _, _, _, _, h => by simp [wordL] at h
  | n + 1, q, sh, r, st, kp, d, hk, h => by
    rw [wordL] at h
    split at h
    · simp only [Except.ok.injEq, Prod.mk.injEq] at h
      rw [← h.1]; exact made_ok hk
    · split at h
      · cases h
      · split at h
        · cases h
        · refine wordL_ok ok ?_ h
          split
          · exact ok_app hk fun c hc => by rw [cs_one] at hc; rw [List.mem_singleton.mp hc]; exact ch_ok ok q
          · exact hk
theorem heardL_ok {T : Str} {b : Bool} (ok : OkT T) : ∀ (n : Nat) (q : Int) (ds : List Dat) (es : List Dat) (f : Int), (∀ d ∈ ds, kqdOk 6 d = true) → heardL T b n q ds = (es, f) → ∀ d ∈ es, kqdOk 6 d = true
  | 0, _, ds, es, f, h, e => by
    rw [heardL] at e
    rw [← (Prod.mk.inj e).1]; exact h
  | n + 1, q, ds, es, f, h, e => by
    rw [heardL] at e
    split at e
    · rw [← (Prod.mk.inj e).1]; exact h
    · rename_i d r hw
      refine heardL_ok ok n r _ es f (fun x hx => ?_) e
      rcases List.mem_append.mp hx with hx | hx
      · exact h x hx
      · rw [List.mem_singleton.mp hx]
        have k := wordL_ok ok (kp := Str.ofString "") (fun c hc => by rw [show cs (Str.ofString "") = [] by decide] at hc; cases hc) hw
        show ([d, Dat.int r].all (kqdOk 5)) = true
        simp [k, kqdOk]
theorem heard_ok {T : Str} {b : Bool} {p : Int} {ds : List Dat} {f : Int} (_ : T.length ≤ 600) (ok : OkT T) (_ : 0 ≤ p) (_ : p ≤ T.length) (h : heardF T b p = (ds, f)) : kqdOk 8 (.tuple [.list ds, .int f]) = true := by
  have k := heardL_ok ok _ p [] ds f (fun _ h => nomatch h) h
  show ([Dat.list ds, Dat.int f].all (kqdOk 7)) = true
  have e : kqdOk 7 (.list ds) = true := by show ds.all (kqdOk 6) = true; exact List.all_eq_true.mpr k
  rw [List.all_cons, e]; rfl
theorem told_end {T : Str} {p : Int} (h : p = T.length) : toldF T false p = ([], p) := by
  unfold toldF
  rw [toldL, show nextP T false p = p from if_neg Bool.false_ne_true, readF_out h]
theorem tails_past : TAILS.all (fun B => decide (pastL false (cs B) = B.length)) = true := by decide +kernel
theorem told_tail {A B : Str} {p : Int} (hB : B ∈ TAILS) (h : p = A.length) : toldF (A ++ B) true p = ([], ((A ++ B).length : Int)) := by
  have e := of_decide_eq_true (List.all_eq_true.mp tails_past B hB)
  have ed : dr (A ++ B) p = cs B := by
    unfold dr
    rw [cs_append, show p.toNat = (cs A).length by rw [cs_length]; lia]
    simp
  have en : nextP (A ++ B) true p = ((A ++ B).length : Int) := by
    rw [nextP, if_pos rfl, pastT, ed, e, Str.length_append]; lia
  unfold toldF
  rw [toldL, en, readF_out rfl]
end Mine
end
-- part TX7
section
namespace Mine
theorem freshTX7 : True := by
  w_top off
  trivial
end Mine
open PySem PySem.W PySem.Calls PyProof.Rows
namespace Mine
theorem slice_none (T : Str) (r : Int) : Txt.slice T none (some r) = Txt.slice T (some 0) (some r) := by
  have e : Builtin.Str.strSliceIndices none (some r) 1 T.length = Builtin.Str.strSliceIndices (some 0) (some r) 1 T.length := by
    unfold Builtin.Str.strSliceIndices
    simp only [show ((1 : Int) > 0) = True from by simp, if_true]
    rw [if_neg (show ¬ (0 : Int) < 0 by lia)]
    congr 1 <;> lia
  unfold Txt.slice
  rw [e]
theorem slice_to {T : Str} {r : Int} (h0 : 0 ≤ r) (h1 : r < T.length + 1) : cs (Txt.slice T none (some r)) = (cs T).take r.toNat := by
  rw [slice_none, slice_cs T (Int.le_refl 0) h0 (by lia)]
  simp
theorem slice_len {T : Str} {r : Int} (h0 : 0 ≤ r) (h1 : r < T.length + 1) : ((Txt.slice T none (some r)).length : Int) = r := by
  rw [← cs_length, slice_to h0 h1, List.length_take, cs_length]
  lia
theorem tail_ok : ∀ x ∈ TAILS, x.length ≤ 4 ∧ ∀ c ∈ cs x, c < 128 := by
  have h : TAILS.all (fun x => decide (x.length ≤ 4) && (cs x).all (fun c => decide (c < 128))) = true := by decide +kernel
  intro x hx
  have := List.all_eq_true.mp h x hx
  rw [Bool.and_eq_true] at this
  exact ⟨of_decide_eq_true this.1, fun c hc => of_decide_eq_true (List.all_eq_true.mp this.2 c hc)⟩
theorem ok_slice {T : Str} {r : Int} (ok : OkT T) (h0 : 0 ≤ r) (h1 : r < T.length + 1) : OkT (Txt.slice T none (some r)) := fun c hc => ok c (by rw [slice_to h0 h1] at hc; exact List.mem_of_mem_take hc)
theorem tail_mem {q : Int} (q0 : 0 ≤ q) (q1 : q < 5) : TAILS.getD q.toNat Str.empty ∈ TAILS := by
  have hl : q.toNat < TAILS.length := by show q.toNat < 5; lia
  rw [List.getD_eq_getElem?_getD, List.getElem?_eq_getElem hl]
  exact List.getElem_mem hl
theorem addZ {prog : Program} {w : World} {A : Around} {E : Value → Shared → Prop} {s : Shared} {t u : Tok} {Q : Value → Shared → Prop} {T : Str} {r q : Int} (hT : T.length ≤ 96) (ok : OkT T) (h0 : 0 ≤ r) (h1 : r < T.length + 1) (q0 : 0 ≤ q) (q1 : q < 5)
    (ret : ∀ LT t' tk, LT.length ≤ 100 → r ≤ LT.length → OkT LT → toldF LT true r = ([], (LT.length : Int)) → Q (.str LT t') { s with toks := tk }) :
    wpAny (model prog w) A (binaryOp .Add (.str (Txt.slice T none (some r)) t) (.str (TAILS.getD q.toNat Str.empty) u)) Q E s := by
  have hm := tail_mem q0 q1
  have ht := tail_ok _ hm
  have hl := slice_len h0 h1
  refine add_str (fun t' tk => ret _ t' tk ?_ ?_ ?_ (told_tail hm hl.symm)) ?_
  · rw [Str.length_append]; lia
  · rw [Str.length_append]; lia
  · intro c hc
    rw [cs_append] at hc
    rcases List.mem_append.mp hc with hc | hc
    · exact ok_slice ok h0 h1 c hc
    · exact ht.2 c hc
  · rw [sizeLine_eq]; lia
theorem tailItem {prog : Program} {w : World} {A : Around} {E : Value → Shared → Prop} {s : Shared} {h₀ : Heap} {L D : Addr} {news : List (Addr × Obj)} {vs : List Value} {n : Nat} {value slice : PySem.Expr} {q : Int} {u : Tok} {Q : Value → Shared → Prop} (N : News h₀ L s.heap ((D, listOf vs.toArray n) :: news)) (hv : StrsAre vs TAILS) (q0 : 0 ≤ q) (q1 : q < 5)
    (h : ∀ t', News h₀ L s.heap news → Q (.str (TAILS.getD q.toNat Str.empty) t') s)
    (hs : subscripted slice false (.ref D) (.int q u) = operate [.ref D, .int q u] (getItem (.ref D) (.int q u)) := by with_unfolding_all rfl) :
    wpAny (model prog w) A (subscriptTail value slice (.ref D) (.int q u)) Q E s := by
  have hl : q.toNat < TAILS.length := by show q.toNat < 5; lia
  have e : TAILS[q.toNat]? = some (TAILS.getD q.toNat Str.empty) := by simp [List.getD, hl]
  obtain ⟨t, ht⟩ := hv.at e
  have hL : s.heap.IsList D vs.toArray := News.isList N (.head _)
  exact tail_any hL.typeIs slot_list_getitem.lookup (wpAny_getItem_list hL q0 (by lia) (by simpa using ht) (h t (newsTail N))) hs
theorem tailsAre {t1 t2 t3 t4 t5 : Tok} : StrsAre [.str (Str.ofString "") t1, .str (Str.ofString " ") t2, .str (Str.ofString "\n\t") t3, .str (Str.ofString "; r") t4, .str (Str.ofString " ;|\n") t5] TAILS := .cons _ _ (.cons _ _ (.cons _ _ (.cons _ _ (.cons _ _ .nil))))
end Mine
end
-- part HF
section
namespace Mine
theorem freshHF : True := by
  w_top off
  trivial
end Mine
open PySem PySem.W PySem.Calls PyProof.Rows
set_option maxRecDepth 100000
set_option maxHeartbeats 8000000
namespace Mine

def PIECES : List Str := [Str.ofString "0", Str.ofString "7", Str.ofString "305", Str.ofString "1.5", Str.ofString "0.25", Str.ofString "12.00", Str.ofString "100000000001", Str.ofString "\"a\"", Str.ofString "\"p\"\"q\"", Str.ofString "\"\"", Str.ofString "|a b|", Str.ofString "|let|", Str.ofString "||", Str.ofString ":k", Str.ofString ":a1", Str.ofString ": ", Str.ofString "#b1", Str.ofString "#b0110", Str.ofString "#xA", Str.ofString "#x0f", Str.ofString "x1", Str.ofString "let", Str.ofString "<=", Str.ofString "a.b", Str.ofString " ", Str.ofString "\n", Str.ofString "; r\n", Str.ofString ";\"|\r", Str.ofString "(", Str.ofString ")", Str.ofString "\"", Str.ofString "|", Str.ofString ".", Str.ofString "#", Str.ofString "\\", Str.ofString ",", Str.ofString "-", Str.ofString "b", Str.ofString "\t", Str.ofString "as"]
structure CS where
  o : Obj
  k : Int
  t : Tok
abbrev csOf {prog : Program} {w : World} {o : Obj} {lc : Addr} {k : Int} {t : Tok} (_ : o.IsDictOf (PySem.strKind prog w) (feedKV lc k t)) : CS := ⟨o, k, t⟩
def cpLed {h₀ : Heap} {L : Addr} {hp : Heap} {lc d : Addr} {lo o : Obj} {D2 cell : Addr × Obj} (_ : News h₀ L hp [(lc, lo), D2, (d, o), cell]) (c : CS) : List (Addr × Obj) := [(lc, lo), (d, c.o), cell]
theorem cpSub {h₀ : Heap} {L : Addr} {hp : Heap} {lc d : Addr} {lo o : Obj} {D2 cell : Addr × Obj} {k : Int} {t : Tok} (N : News h₀ L hp [(lc, lo), D2, (d, o), cell]) : ∀ q ∈ cpLed N ⟨o, k, t⟩, q ∈ [(lc, lo), D2, (d, o), cell] := by
  dsimp only [cpLed]; kqd_sub
def cpJ {prog : Program} {w : World} {oz : Obj} {kvz : List (Str × Value)} (_ : oz.IsDictOf (PySem.strKind prog w) kvz) {h₀ : Heap} {L : Addr} {hp : Heap} {lc d : Addr} {lo o : Obj} {D2 cell : Addr × Obj} (_ : News h₀ L hp [(lc, lo), D2, (d, o), cell]) (i : Nat) (c : CS) (ys : List Value) : Prop :=
  c.o.IsDictOf (PySem.strKind prog w) (feedKV lc c.k c.t) ∧ c.k = 1 + (i : Int) ∧ ∃ sv, StrsAre ys sv ∧ sv.length = i ∧ ∀ x ∈ sv, x ∈ PIECES
theorem cpEnd {prog : Program} {w : World} {oz : Obj} {kvz : List (Str × Value)} (lZ : oz.IsDictOf (PySem.strKind prog w) kvz) {h₀ : Heap} {L : Addr} {hp : Heap} {lc d : Addr} {lo o : Obj} {D2 cell : Addr × Obj} (lN : News h₀ L hp [(lc, lo), D2, (d, o), cell]) {i : Nat} {k r : Int} {t t' : Tok} {o' : Obj} {ys : List Value} {sv : List Str}
    (hz : o'.IsDictOf (PySem.strKind prog w) (feedKV lc (k + 1) t)) (j2 : k = 1 + (i : Int)) (j3 : StrsAre ys sv) (j4 : sv.length = i) (j5 : ∀ x ∈ sv, x ∈ PIECES) (r0 : 0 ≤ r) (r1 : r < 40) : CEnd (cpLed lN) (cpJ lZ lN) i ys (.str (PIECES.getD r.toNat Str.empty) t') [(lc, lo), (d, o'), cell] := by
  refine ⟨⟨o', k + 1, t⟩, rfl, hz, by dsimp only; lia, sv ++ [PIECES.getD r.toNat Str.empty], kct_snoc j3, by simp [j4], fun x hx => ?_⟩
  rcases List.mem_append.mp hx with h | h
  · exact j5 x h
  · rw [List.mem_singleton.mp h, List.getD_eq_getElem?_getD]
    have hl : r.toNat < PIECES.length := by show r.toNat < 40; lia
    rw [List.getElem?_eq_getElem hl]
    exact List.getElem_mem hl
theorem piece_ok : ∀ x ∈ PIECES, x.length ≤ 12 ∧ ∀ c ∈ cs x, c < 128 := by
  have h : PIECES.all (fun x => decide (x.length ≤ 12) && (cs x).all (fun c => decide (c < 128))) = true := by decide +kernel
  intro x hx
  have := List.all_eq_true.mp h x hx
  rw [Bool.and_eq_true] at this
  exact ⟨of_decide_eq_true this.1, fun c hc => of_decide_eq_true (List.all_eq_true.mp this.2 c hc)⟩
theorem sum_ok : ∀ {sv : List Str}, (∀ x ∈ sv, x ∈ PIECES) → (sv.map (·.length)).sum ≤ 12 * sv.length
  | [], _ => by simp
  | a :: sv, h => by
    have h1 := (piece_ok a (h a (.head _))).1
    have h2 := sum_ok (sv := sv) fun x hx => h x (.tail _ hx)
    simp only [List.map_cons, List.sum_cons, List.length_cons]
    lia
theorem joinZ {sv : List Str} {n : Nat} (h : ∀ x ∈ sv, x ∈ PIECES) (hl : sv.length = n) (hn : n ≤ 8) : (sv.map (·.length)).sum + sv.length ≤ 1048576 := by have := sum_ok h; lia
theorem joinT {sv : List Str} {n : Nat} (h : ∀ x ∈ sv, x ∈ PIECES) (hl : sv.length = n) (hn : n ≤ 8) : (Txt.join (Str.ofString "") sv).length ≤ 96 ∧ OkT (Txt.join (Str.ofString "") sv) := by
  have hs := sum_ok h
  refine ⟨?_, fun c hc => ?_⟩
  · rw [← cs_length, cs_join, List.length_flatMap]
    have e : (sv.map fun a => (cs a).length) = sv.map (·.length) := List.map_congr_left fun a _ => cs_length a
    rw [e]; lia
  · rw [cs_join, List.mem_flatMap] at hc
    obtain ⟨x, hx, hc⟩ := hc
    exact (piece_ok x (h x hx)).2 c hc
structure LS where
  o : Obj
  k : Int
  t : Tok
  v1 : Option Value
  v2 : Option Value
  v3 : Option Value
  v4 : Option Value
  v5 : Option Value
abbrev lp0 {prog : Program} {w : World} {o : Obj} {lc : Addr} {k : Int} {t : Tok} (_ : o.IsDictOf (PySem.strKind prog w) (feedKV lc k t)) : LS := ⟨o, k, t, none, none, none, none, none⟩
def lpLed {h₀ : Heap} {L : Addr} {hp : Heap} {lc d : Addr} {lo o : Obj} {cell : Addr × Obj} (_ : News h₀ L hp [(lc, lo), (d, o), cell]) (c : LS) : List (Addr × Obj) := [(lc, lo), (d, c.o), cell]
def lpP {prog : Program} {w : World} {oz : Obj} {kvz : List (Str × Value)} (_ : oz.IsDictOf (PySem.strKind prog w) kvz) {h₀ : Heap} {L : Addr} {hp : Heap} {lc d : Addr} {lo o : Obj} {cell : Addr × Obj} (_ : News h₀ L hp [(lc, lo), (d, o), cell]) (i : Nat) (c : LS) : Prop :=
  c.o.IsDictOf (PySem.strKind prog w) (feedKV lc c.k c.t) ∧ 0 ≤ c.k ∧ c.k ≤ 10 + 4 * (i : Int)
theorem lpOff {own : List (Addr × Obj)} {a b c : Addr × Obj} (off : OwnOff own ([a, b, c].map (·.1))) : ∀ q ∈ own, q.1 ≠ b.1 := fun q hq => off q hq b.1 (by simp)
theorem sl_le1 {T : Str} {r : Int} (h0 : 0 ≤ r) (h1 : r < T.length + 1) : r ≤ ((Txt.slice T none (some r)).length : Int) := Int.le_of_eq (slice_len h0 h1).symm
theorem sl_le2 {T : Str} {r : Int} (h : T.length ≤ 96) : (Txt.slice T none (some r)).length ≤ 600 := by have := Txt.slice_le T none (some r); lia
theorem lpSub {h₀ : Heap} {L : Addr} {hp : Heap} {lc d : Addr} {lo o o' : Obj} {cell Dt : Addr × Obj} {own : List (Addr × Obj)} {k : Int} {t : Tok} {v1 v2 v3 v4 v5 : Option Value} (lN : News h₀ L hp [(lc, lo), (d, o), cell]) : ∀ q ∈ lpLed lN ⟨o', k, t, v1, v2, v3, v4, v5⟩, q ∈ Dt :: (lc, lo) :: (d, o') :: cell :: own := by
  dsimp only [lpLed]; kqd_sub
theorem datRef {tl : List (Addr × Obj)} {v : Value} {ds : List Dat} (D : DatIn tl v (.tuple ds)) : ∃ a, v = .ref a := by cases D; exact ⟨_, rfl⟩
open Classical in
theorem cmpA {prog : Program} {w : World} {A : Around} {E : Value → Shared → Prop} {s : Shared} {h₀ : Heap} {L a b : Addr} {n₁ n₂ rest : List (Addr × Obj)} {ds es : List Dat} {f e : Int} {T : Str} {p : Int} {bb : Bool} {Q : Value → Shared → Prop} (N : News h₀ L s.heap (n₂ ++ (n₁ ++ rest))) (Da : DatIn n₁ (.ref a) (.tuple [.list ds, .int f])) (Db : DatIn n₂ (.ref b) (.tuple [.list es, .int e]))
    (ea : toldF T bb p = (ds, f)) (eb : heardF T bb p = (es, e)) (hT : T.length ≤ 600) (ok : OkT T) (h0 : 0 ≤ p) (h1 : p ≤ T.length) (hu : A.units + 64 < cLine) (h : News h₀ L s.heap rest → Q (.bool false) s) : wpAny (model prog w) A (compareOp .NotEq (.ref a) (.ref b)) Q E s := by
  have k := heard_ok hT ok h0 h1 eb
  have e1 := told_heard (b := bb) hT h0 h1
  rw [ea, eb] at e1
  obtain ⟨rfl, rfl⟩ := Prod.mk.inj e1
  refine tup_ne N Da (fun q hq => List.mem_append_right _ (List.mem_append_left _ hq)) Db (fun q hq => List.mem_append_left _ hq) k k hu ?_
  rw [decide_eq_true rfl]
  exact h fun q hq => N q (List.mem_append_right _ (List.mem_append_right _ hq))
open Classical in
theorem cmpB {prog : Program} {w : World} {A : Around} {E : Value → Shared → Prop} {s : Shared} {h₀ : Heap} {L a D l : Addr} {cap : Nat} {n₁ rest : List (Addr × Obj)} {ds : List Dat} {f q : Int} {t : Tok} {T : Str} {p : Int} {bb : Bool} {Q : Value → Shared → Prop} (N : News h₀ L s.heap ((D, { cls := .type "tuple", data := Data.seq #[.ref l, .int q t] }) :: (l, listOf #[] cap) :: (n₁ ++ rest))) (Da : DatIn n₁ (.ref a) (.tuple [.list ds, .int f]))
    (ea : toldF T bb p = (ds, f)) (hd : toldF T bb p = ([], q)) (hu : A.units + 64 < cLine) (h : News h₀ L s.heap rest → Q (.bool false) s) : wpAny (model prog w) A (compareOp .NotEq (.ref a) (.ref D)) Q E s := by
  rw [ea] at hd
  obtain ⟨rfl, rfl⟩ := Prod.mk.inj hd
  have Db : DatIn [(D, ({ cls := .type "tuple", data := Data.seq #[.ref l, .int f t] } : Obj)), (l, listOf #[] cap)] (.ref D) (.tuple [.list [], .int f]) := .tuple (.head _) (.cons (.list (vs := []) (.tail _ (.head _)) .nil) (.cons (.int _ _) .nil))
  refine tup_ne N Da (fun q hq => .tail _ (.tail _ (List.mem_append_left _ hq))) Db (fun q hq => ?_) rfl rfl hu ?_
  · rcases List.mem_cons.mp hq with rfl | hq
    · exact .head _
    · rw [List.mem_singleton.mp hq]; exact .tail _ (.head _)
  rw [decide_eq_true rfl]
  exact h fun q hq => N q (.tail _ (.tail _ (List.mem_append_right _ hq)))
theorem joinK {prog : Program} {w : World} {A : Around} {E : Value → Shared → Prop} {s : Shared} {t : Tok} {Q : Value → Shared → Prop} {h₀ : Heap} {L D : Addr} {news : List (Addr × Obj)} {ys : List Value} {sv : List Str} {n : Nat} (N : News h₀ L s.heap ((D, LCg.lst ys) :: news)) (hi : StrsAre ys sv) (h : ∀ x ∈ sv, x ∈ PIECES) (hl : sv.length = n) (hn : n ≤ 8)
    (q : ∀ T t' k, T.length ≤ 96 → OkT T → News h₀ L s.heap news → Q (.str T t') { s with toks := k }) : wpAny (model prog w) A (call (.builtin "str.join") [.str (Str.ofString "") t, .ref D]) Q E s :=
  join_listW (News.isList N (.head _)) (by simpa using hi) (by decide) (joinZ h hl hn) fun t' k => q _ t' k (joinT h hl hn).1 (joinT h hl hn).2 (newsTail N)

theorem lawT.tw627504831558067712 : True := trivial
theorem lawT.tw12054122035665294737 : True := trivial
theorem lawT.tw1229498169659473336 : True := trivial
theorem lawT.tw10417789707661788537 : True := trivial
theorem lawT.tw15649385946660040793 : True := trivial
theorem lawT.tw4827800949146232750 : True := trivial
theorem lawT.tw12035908635834048052 : True := trivial
theorem lawT.tw2969401581320560296 : True := trivial
theorem lawT.tw5737389119385045271 : True := trivial
theorem lawT.tw15256220484614305256 : True := trivial
theorem lawT.tw9813295254996367936 : True := trivial
theorem lawT.tw15767188607724827997 : True := trivial
theorem lawT.tw12148027733593142790 : True := trivial
theorem lawT.tw1987532573418919737 : True := trivial
theorem lawT.tw2806675128848209636 : True := trivial
theorem lawT.tw1038214772261177385 : True := trivial
theorem lawT.tw15202424871343455051 : True := trivial
theorem lawT.tw5049558636363556131 : True := trivial
theorem lawT.tw3456211296191444318 : True := trivial
theorem lawT.tw16583678756663124004 : True := trivial
theorem lawT.tw6629401426590777827 : True := trivial
theorem lawT.tw4807104095161817550 : True := trivial
theorem lawT.tw2729678275248368595 : True := trivial
theorem lawT.tw7001970421968666769 : True := trivial
theorem lawT.tw18223634802368376262 : True := trivial
theorem lawT.tw5672398138771548517 : True := trivial
theorem lawT.tw11070213012199084757 : True := trivial
theorem lawT.tw4085292312361975346 : True := trivial
theorem lawT.tw15486704684958788713 : True := trivial
theorem lawT.tw3722870528790930067 : True := trivial
theorem lawT.tw2049758658053727338 : True := trivial
theorem lawT.tw1078735106661357154 : True := trivial
theorem lawT.tw6711469270840365108 : True := trivial
theorem lawT.tw15627835346941038952 : True := trivial
theorem lawT.tw10599891971925170353 : True := trivial
theorem lawT.tw11525744159018504443 : True := trivial
theorem lawT.tw7972202448828427157 : True := trivial
theorem lawT.tw4360246519183115372 : True := trivial
theorem lawT.tw5282703752052920596 : True := trivial
theorem lawT.tw16090778151745127505 : True := trivial
theorem lawT.tw15019770807665042143 : True := trivial
theorem lawT.tw11232165487468060354 : True := trivial
theorem lawT.tw15834030459643286150 : True := trivial
theorem lawT.tw4724994870222210799 : True := trivial
theorem lawT.tw3655218132494780880 : True := trivial
theorem lawT.tw6088158105127341240 : True := trivial
theorem lawT.tw12959749676729671359 : True := trivial
theorem lawT.tw3255220155585870571 : True := trivial
theorem lawT.tw5777732143184679343 : True := trivial
theorem lawT.tw7260539514740174592 : True := trivial
theorem lawT.tw7823307338651830179 : True := trivial
theorem lawT.tw13818724513178579367 : True := trivial
theorem lawT.tw1148404147863944223 : True := trivial
theorem lawT.tw9425677158036233291 : True := trivial
theorem lawT.tw17951894131356942447 : True := trivial
theorem lawT.tw9533548494797678716 : True := trivial
theorem lawT.tw17329614748342530544 : True := trivial
theorem lawT.tw9093347588758853463 : True := trivial
theorem lawT.tw5419045448380873236 : True := trivial
theorem lawT.tw16006419813415432031 : True := trivial
theorem lawT.tw2172655028503076602 : True := trivial
theorem lawT.tw10433576947672777602 : True := trivial
theorem lawT.tw9820752921979625601 : True := trivial
theorem lawT.tw12307952891645001582 : True := trivial
theorem lawT.tw8445957942363573884 : True := trivial
theorem lawT.tw8253655312643564786 : True := trivial
theorem lawT.tw17547926917826507404 : True := trivial
theorem lawT.tw16241256156001525921 : True := trivial
theorem lawT.tw16306742552841901821 : True := trivial
theorem lawT.tw15578410547098419980 : True := trivial
theorem lawT.tw11858955717896915996 : True := trivial
theorem lawT.tw8741091129330041977 : True := trivial
theorem lawT.tw9880130190255100492 : True := trivial
theorem lawT.tw9163976727522603320 : True := trivial
theorem lawT.tw1757822339931356419 : True := trivial
theorem lawT.tw161236207124493297 : True := trivial
theorem lawT.tw10811335992638853385 : True := trivial
theorem lawT.tw2802827502222440997 : True := trivial
theorem lawT.tw5193995869548900021 : True := trivial
theorem lawT.tw6200819308991098794 : True := trivial
theorem lawT.tw15170974509361797054 : True := trivial
theorem lawT.tw5540435226612475987 : True := trivial
theorem lawT.tw2298782074097359716 : True := trivial
theorem lawT.tw1286148536004849942 : True := trivial
theorem lawT.tw17964953070971125951 : True := trivial
theorem lawT.tw2337608521092029074 : True := trivial
theorem lawT.tw7528176536728550346 : True := trivial
theorem lawT.tw5181950027602448700 : True := trivial
theorem lawT.tw9216025942106486930 : True := trivial
theorem lawT.tw12015109101949664789 : True := trivial
theorem lawT.tw15626567919816005885 : True := trivial
theorem lawT.tw17927283848480038048 : True := trivial
theorem lawT.tw5146757103484071177 : True := trivial
theorem lawT.tw15660620782202870220 : True := trivial
theorem lawT.tw5733932637886216078 : True := trivial
theorem lawT.tw10717904625140530057 : True := trivial
theorem lawT.tw7125043775892690276 : True := trivial
theorem lawT.tw12543857911111510591 : True := trivial
theorem lawT.tw8774497595315016277 : True := trivial
theorem lawT.tw9935488225150632555 : True := trivial
theorem lawT.tw14813322233397399043 : True := trivial
theorem lawT.tw3099505408276612804 : True := trivial
theorem lawT.tw2513484474726584552 : True := trivial
theorem lawT.tw11772424609704981507 : True := trivial
theorem lawT.tw3301265043726181235 : True := trivial
theorem lawT.tw2243441803968818577 : True := trivial
theorem lawT.tw8560043932462986958 : True := trivial
theorem lawT.tw5926671564514635346 : True := trivial
theorem lawT.tw11523093003099482930 : True := trivial
theorem lawT.tw7891625865948076061 : True := trivial
theorem lawT.tw2626335934222790227 : True := trivial
theorem lawT.tw13325186715389734152 : True := trivial
theorem lawT.tw7196705921500699120 : True := trivial
theorem lawT.tw3328940276181612757 : True := trivial
theorem lawT.tw7529985242682883274 : True := trivial
theorem lawT.tw15915182530413434248 : True := trivial
theorem lawT.tw15874663917931497364 : True := trivial
theorem lawT.tw17288560384106460444 : True := trivial
theorem lawT.tw8177230591221756081 : True := trivial
theorem lawT.tw10910714276845596366 : True := trivial
theorem lawT.tw16829802788435467021 : True := trivial
theorem lawT.tw6800948313688240984 : True := trivial
theorem lawT.tw14860093346376018503 : True := trivial
theorem lawT.tw1155625789869916225 : True := trivial
theorem lawT.tw10766868202606645469 : True := trivial
theorem lawT.tw13448139406961515762 : True := trivial
theorem lawT.tw15091403282526227135 : True := trivial
theorem lawT.tw4769852445758985961 : True := trivial
theorem lawT.tw7597866931890042018 : True := trivial
theorem lawT.tw6314445845500888954 : True := trivial
theorem lawT.tw14187283162540301378 : True := trivial
theorem lawT.tw8687906558143148141 : True := trivial
theorem lawT.tw11924334330120218706 : True := trivial
theorem lawT.tw14274646891849573286 : True := trivial
theorem lawT.tw17748462516672867487 : True := trivial
theorem lawT.tw5685452176784765555 : True := trivial
theorem lawT.tw13644821208893085820 : True := trivial
theorem lawT.tw16778347415218873335 : True := trivial
theorem lawT.tw13753992867449215604 : True := trivial
theorem lawT.tw12768497168819598045 : True := trivial
theorem lawT.tw8803027681812298363 : True := trivial
theorem lawT.tw9657460840248799940 : True := trivial
theorem lawT.tw12631748491714779444 : True := trivial
theorem lawT.tw1101667219631665364 : True := trivial
theorem lawT.tw16490950055996847365 : True := trivial
theorem lawT.tw1403843967903450584 : True := trivial
theorem lawT.tw5337910717478668231 : True := trivial
theorem lawT.tw11652880335018994375 : True := trivial
theorem lawT.tw15484889170718625679 : True := trivial
theorem lawT.tw9913782525675966504 : True := trivial
theorem lawT.tw2522172463501224295 : True := trivial
theorem lawT.tw9215033232276969017 : True := trivial
set_option Elab.async true in
theorem lawT : PySem.Challenge.rw_sj0097_01.Holds := by
  w_on; o_law; (o_head (kHook heapK [2, 3, 15, 18, 23, 24, 26, 27, 29, 30, 31, 33, 34, 36, 37, 38, 39, 40, 41, 44, 47, 52, 53, 55, 56, 58, 59, 60, 62, 63, 65, 66, 67, 68, 69, 72, 74, 75, 77, 78, 79, 81, 82, 84, 85, 86, 88, 89, 91, 92, 93, 94, 96, 97, 99, 100, 101, 103, 104, 106, 107, 115, 117, 118, 120, 121, 122, 124, 125, 127, 128, 129, 131, 132, 134, 135, 136, 138, 139, 141, 142, 143, 145, 146, 148, 149, 150, 152, 153, 155, 156, 157, 159, 160, 162, 163, 164, 166, 167, 169, 170, 171, 173, 174, 176, 177, 178, 180, 181, 183, 184, 185, 187, 188, 190, 191, 192, 193, 194, 195, 196, 199, 200, 202, 203, 205, 206, 207, 209, 210, 212, 213, 214, 216, 217, 219, 220, 221, 223, 224, 226, 227, 228, 230, 231, 233, 234, 235, 237, 238, 240, 241, 242, 244, 245, 247, 248, 249, 251, 252, 254, 255, 256, 258, 259, 261, 262, 263, 265, 266, 268, 269, 270, 272, 273, 275, 276, 277, 279, 280, 282, 283, 284, 287, 288] asOk)); (case hw => w_witness2)
  change walkG
  delta walkG lawDef
  k_with_none
  k_with "call ref" => (k_here; (with_reducible show wpAny _ _ (call (Value.ref 234) _) _ _ _); k_dflt (refine' pick_u ?k1z9 ?k2z9 ?k3z9 ?k4z9 ?k5z9 ?kUz9 ?kcz9 ?koz9 ?kIz9 ?kcdz9 ?e0z9 ?e1z9 ?e2z9 ?e3z9 ?e4z9 ?kdz9 ?kuz9 ?_; (case k1z9 => k_asm); (case k2z9 => k_asm); (case k3z9 => k_asm); (case k4z9 => k_asm); (case k5z9 => k_asm); (case kUz9 => k_updF); (case koz9 => first | with_reducible assumption | k_asm | assumption); (case kcz9 => k_mem); (case kIz9 => assumption); (case kcdz9 => k_ne); (case e0z9 => lia); (case e1z9 => lia); (case e2z9 => first | lia | (have q9 := IntsAre.length (by assumption); lia)); (case e3z9 => lia); (case e4z9 => lia); (case kdz9 => ktr_room); (case kuz9 => ktr_units)); intro r9 o9 t9 u9 h9 tk9 F9 N9 z9 r0 r1; (try dsimp only))
  k_with "CompSrc" => (k_here; (rename IsRange _ _ _ _ _ _ _ _ => rg); (rename News _ _ _ _ => lN); (rename Fr _ _ _ _ => lF); (rename Obj.IsDictOf _ _ _ => lZ); k_dflt ((refine' LCg.CompSrc.range (news := cpLed lN (csOf lZ)) ?hhz9 lF ?hNz9 rg ?smz9 ?hsz9 ?szz9 ?_); (case hhz9 => exact rfl); (case hNz9 => exact cb_drop lN (cpSub lN)); (case hsz9 => exact rangeSize_nat _ _); (case smz9 => exact small_one (by lia) (by lia) (by lia) (by lia)); (case szz9 => (rw [sizeLine_eq]; lia)); intro g9; (refine' compI (cpLed lN) (cpJ lZ lN) (csOf lZ) ?h0z9 ?_ ?_); (case h0z9 => exact ⟨lZ, by dsimp only [csOf]; lia, [], .nil, rfl, fun _ h => nomatch h⟩); (rintro i9 ⟨o9, k9, t9⟩ ys9 t8 I9 oI9 C9 oC9 D9 m9 h9 tk9 E9 hi9 ⟨j1, j2, sv9, j3, j4, j5⟩ hC9 hx9 F9 N9 off9 ne9; dsimp only [cpLed] at N9 off9; dsimp only at j1 j2; simp only [LCg.Off3, and_true] at off9); rotate_left; (rintro ⟨o9, k9, t9⟩ ys9 ⟨j1, j2, sv9, j3, j4, j5⟩; dsimp only at j1 j2; dsimp only [cpLed]); rotate_left))
  k_with "CEnd" => k_dflt (exact cpEnd _ _ (by assumption) (by assumption) (by assumption) (by assumption) (by assumption) (by assumption) (by assumption))
  k_with "call builtin:str.join" => (k_here; refine' joinK ?k1z9 ?k2z9 ?k3z9 ?k4z9 ?k5z9 ?_; (case k1z9 => k_asm); (case k2z9 => assumption); (case k3z9 => assumption); (case k4z9 => assumption); (case k5z9 => lia); intro T9 t9 tk9 hT9 ok9 N9; (try dsimp only))
  k_with "call ref" => (k_here; (with_reducible show wpAny _ _ (call (Value.ref 283) _) _ _ _); k_dflt (refine' told_c ?k1z9 ?k2z9 ?k3z9 ?k4z9 ?k5z9 ?e0z9 ?e1z9 ?e2z9 ?kdz9 ?kuz9 (readF_in ?e2'z9) ?_; (case k1z9 => k_asm); (case k2z9 => k_asm); (case k3z9 => k_asm); (case k4z9 => k_asm); (case k5z9 => k_asm); (case e0z9 => lia); (case e1z9 => first | lia | exact sl_le1 (by lia) (by lia)); (case e2z9 => first | lia | exact sl_le2 (by lia)); (case e2'z9 => first | lia | exact sl_le2 (by lia)); (case kdz9 => ktr_room); (case kuz9 => ktr_units)); intro ds9 f9 e9 v9 tl9 h9 tk9 F9 N9 D9; (obtain ⟨a9, q9⟩ := datRef D9); (subst q9); (try dsimp only))
  k_with "call ref" => (k_here; (with_reducible show wpAny _ _ (call (Value.ref 276) _) _ _ _); k_dflt (refine' heard_c ?k1z9 ?k2z9 ?k3z9 ?k4z9 ?k5z9 ?e0z9 ?e1z9 ?e2z9 ?kdz9 ?kuz9 ?_; (case k1z9 => k_asm); (case k2z9 => k_asm); (case k3z9 => k_asm); (case k4z9 => k_asm); (case k5z9 => k_asm); (case e0z9 => lia); (case e1z9 => lia); (case e2z9 => lia); (case kdz9 => ktr_room); (case kuz9 => ktr_units)); intro ds9 f9 e9 v9 tl9 h9 tk9 F9 N9 D9; (obtain ⟨a9, q9⟩ := datRef D9); (subst q9); (try dsimp only))
  k_with "compareOp NotEq ref ref" => (k_here; k_dflt (first | (refine' cmpA ?Nz9 ?Daz9 ?Dbz9 ?eaz9 ?ebz9 ?hTz9 ?okz9 ?h0z9 ?h1z9 ?huz9 ?_; (case Nz9 => k_asm); (case Daz9 => with_reducible assumption); (case Dbz9 => with_reducible assumption); (case eaz9 => with_reducible assumption); (case ebz9 => with_reducible assumption); (case hTz9 => lia); (case okz9 => assumption); (case h0z9 => lia); (case h1z9 => lia); (case huz9 => ke_room)) | (refine' cmpB ?Nz9 ?Daz9 ?eaz9 ?hdz9 ?huz9 ?_; (case Nz9 => k_asm); (case Daz9 => with_reducible assumption); (case eaz9 => with_reducible assumption); (case hdz9 => first | with_reducible assumption | exact told_end (slice_len (by lia) (by lia)).symm); (case huz9 => ke_room))); intro N9; (try dsimp only))
  k_with "pyIter ref" => (k_here; (rename IsRange _ _ _ _ _ _ _ _ => rg); (rename News _ _ _ _ => lN); (rename Fr _ _ _ _ => lF); (rename Obj.IsDictOf _ _ _ => lZ); k_dflt ((refine' wForRange (σ := LS) 4 (fun m c y => if y = Str.ofString "cut" then c.v1 else if y = Str.ofString "left" then c.v2 else if y = Str.ofString "longer" then c.v3 else if y = Str.ofString "start" then c.v4 else if y = Str.ofString "is_passing" then c.v5 else m y) (lpLed lN) (lpP lZ lN) (lp0 lZ) ?hhz9 rg ?ksz9 ?kzz9 lF lN ?klz9 ?kmz9 ?kpz9 ?_ ?_); (case hhz9 => exact rfl); (case ksz9 => decide); (case kzz9 => decide); (case klz9 => exact fun _ h => h); (case kmz9 => (intro y hy0; by_cases hy1 : y = Str.ofString "cut"; (subst hy1; rfl); by_cases hy2 : y = Str.ofString "left"; (subst hy2; rfl); by_cases hy3 : y = Str.ofString "longer"; (subst hy3; rfl); by_cases hy4 : y = Str.ofString "start"; (subst hy4; rfl); by_cases hy5 : y = Str.ofString "is_passing"; (subst hy5; rfl); simp only [if_neg hy0, if_neg hy1, if_neg hy2, if_neg hy3, if_neg hy4, if_neg hy5])); (case kpz9 => exact ⟨lZ, by dsimp only [lp0]; lia, by dsimp only [lp0]; lia⟩); (rintro i9 ⟨o9, k9, t9, v1, v2, v3, v4, v5⟩ t8 h9 tk9 own9 hi9 ⟨j1, j2, j3⟩ off9 F9 N9; dsimp only [lpLed] at N9 off9; dsimp only at j1 j2 j3; (simp only [List.cons_append, List.nil_append] at N9); have ow9 := lpOff off9); rotate_left; (rintro ⟨o9, k9, t9, v1, v2, v3, v4, v5⟩ u9 h9 tk9 ⟨j1, j2, j3⟩ F9 N9; dsimp only [lpLed] at N9; dsimp only at j1 j2 j3); rotate_left))
  k_with "exec For Name Call cons nil" => (k_here; (rename Fr _ _ _ _ => lF9); with_unfolding_all refine' For_invVF lF9 ?k1z9 ?k2z9 ?_; (case k1z9 => exact rfl); (case k2z9 => exact rfl))
  k_with "binaryOp Add str str" => (k_here; refine' addZ ?az9 ?bz9 ?cz9 ?dz9 ?ez9 ?fz9 ?_; (case az9 => lia); (case bz9 => assumption); (case cz9 => lia); (case dz9 => lia); (case ez9 => lia); (case fz9 => lia); intro LT9 t9 tk9 b1 b2 b3 b4; (try dsimp only))
  k_with "subscriptTail" => (k_here; (with_reducible show wpAny _ _ (subscriptTail _ _ (Value.ref _) (Value.int _ _)) _ _ _); k_dflt (refine' tailItem ?Nz9 ?hvz9 ?q0z9 ?q1z9 ?_; (case Nz9 => with_reducible assumption); (case hvz9 => exact tailsAre); (case q0z9 => lia); (case q1z9 => lia)); intro t9 N9; (try dsimp only))
  w_strict (k_go0; (all_goals try k_fold); k_steps; (all_goals (try dsimp only [FPost])); all_goals (first | (refine fEnd (LS.mk _ _ _ _ _ _ _ _) (by k_asm) (by k_asm) (by (intro y hy0; by_cases hy1 : y = Str.ofString "cut"; (subst hy1; rfl); by_cases hy2 : y = Str.ofString "left"; (subst hy2; rfl); by_cases hy3 : y = Str.ofString "longer"; (subst hy3; rfl); by_cases hy4 : y = Str.ofString "start"; (subst hy4; rfl); by_cases hy5 : y = Str.ofString "is_passing"; (subst hy5; rfl); simp only [if_neg hy0, if_neg hy1, if_neg hy2, if_neg hy3, if_neg hy4, if_neg hy5])) (lpSub _) (by kqd_sub) (by k_dflt assumption) ⟨by with_reducible assumption, by dsimp only; lia, by dsimp only; lia⟩) | fail))
end Mine
end
end
theorem PySem.Challenge.cw_sj0097_01_holds : PySem.Challenge.rw_sj0097_01.Holds := by
  exact Mine.lawT
