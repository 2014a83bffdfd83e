import PyProof.Rows.All
import Wide.All
import OpenK.AllK
import Wide.FinOn
import PySem.Challenge.RW_xw0207_01
open PySem PySem.W PyProof.Rows PySem.Calls
set_option Elab.async false
set_option maxRecDepth 100000
set_option maxHeartbeats 8000000
namespace Mine
noncomputable def top (i : Nat) : Option Stmt := PySem.Challenge.pw_xw0207_01.main.body[i]?
noncomputable def inCls (o : Option Stmt) (j : Nat) : Option Stmt := match o with
  | some (.ClassDef _ _ _ b ..) => b[j]?
  | _ => none
noncomputable def bodyOf (o : Option Stmt) : List Stmt := match o with
  | some (.FunctionDef _ _ b ..) => b
  | _ => []
noncomputable def paramsOf (o : Option Stmt) : Arguments := match o with
  | some (.FunctionDef _ a ..) => a
  | _ => ⟨[], [], none, [], [], none, []⟩
noncomputable def scopeOf (o : Option Stmt) : Scope := match o with
  | some (.FunctionDef _ _ _ _ _ _ s ..) => s
  | _ => ⟨.function, [], false, false, []⟩
@[reducible] noncomputable def A21P : { x : Arguments // x = paramsOf (top 0) } := ⟨_, by conv => rhs; whnf⟩
noncomputable abbrev A21 : Arguments := A21P.1
@[reducible] noncomputable def B21P : { x : List Stmt // x = bodyOf (top 0) } := ⟨_, by conv => rhs; whnf⟩
noncomputable abbrev B21 : List Stmt := B21P.1
@[reducible] noncomputable def S21P : { x : Scope // x = scopeOf (top 0) } := ⟨_, by conv => rhs; whnf⟩
noncomputable abbrev S21 : Scope := S21P.1
@[reducible] noncomputable def A45P : { x : Arguments // x = paramsOf (top 6) } := ⟨_, by conv => rhs; whnf⟩
noncomputable abbrev A45 : Arguments := A45P.1
@[reducible] noncomputable def B45P : { x : List Stmt // x = bodyOf (top 6) } := ⟨_, by conv => rhs; whnf⟩
noncomputable abbrev B45 : List Stmt := B45P.1
@[reducible] noncomputable def S45P : { x : Scope // x = scopeOf (top 6) } := ⟨_, by conv => rhs; whnf⟩
noncomputable abbrev S45 : Scope := S45P.1
@[reducible] noncomputable def A52P : { x : Arguments // x = paramsOf (top 7) } := ⟨_, by conv => rhs; whnf⟩
noncomputable abbrev A52 : Arguments := A52P.1
@[reducible] noncomputable def B52P : { x : List Stmt // x = bodyOf (top 7) } := ⟨_, by conv => rhs; whnf⟩
noncomputable abbrev B52 : List Stmt := B52P.1
@[reducible] noncomputable def S52P : { x : Scope // x = scopeOf (top 7) } := ⟨_, by conv => rhs; whnf⟩
noncomputable abbrev S52 : Scope := S52P.1
@[reducible] noncomputable def A59P : { x : Arguments // x = paramsOf (top 8) } := ⟨_, by conv => rhs; whnf⟩
noncomputable abbrev A59 : Arguments := A59P.1
@[reducible] noncomputable def B59P : { x : List Stmt // x = bodyOf (top 8) } := ⟨_, by conv => rhs; whnf⟩
noncomputable abbrev B59 : List Stmt := B59P.1
@[reducible] noncomputable def S59P : { x : Scope // x = scopeOf (top 8) } := ⟨_, by conv => rhs; whnf⟩
noncomputable abbrev S59 : Scope := S59P.1
@[reducible] noncomputable def A66P : { x : Arguments // x = paramsOf (top 9) } := ⟨_, by conv => rhs; whnf⟩
noncomputable abbrev A66 : Arguments := A66P.1
@[reducible] noncomputable def B66P : { x : List Stmt // x = bodyOf (top 9) } := ⟨_, by conv => rhs; whnf⟩
noncomputable abbrev B66 : List Stmt := B66P.1
@[reducible] noncomputable def S66P : { x : Scope // x = scopeOf (top 9) } := ⟨_, by conv => rhs; whnf⟩
noncomputable abbrev S66 : Scope := S66P.1
@[reducible] noncomputable def A73P : { x : Arguments // x = paramsOf (top 10) } := ⟨_, by conv => rhs; whnf⟩
noncomputable abbrev A73 : Arguments := A73P.1
@[reducible] noncomputable def B73P : { x : List Stmt // x = bodyOf (top 10) } := ⟨_, by conv => rhs; whnf⟩
noncomputable abbrev B73 : List Stmt := B73P.1
@[reducible] noncomputable def S73P : { x : Scope // x = scopeOf (top 10) } := ⟨_, by conv => rhs; whnf⟩
noncomputable abbrev S73 : Scope := S73P.1
@[reducible] noncomputable def A80P : { x : Arguments // x = paramsOf (top 11) } := ⟨_, by conv => rhs; whnf⟩
noncomputable abbrev A80 : Arguments := A80P.1
@[reducible] noncomputable def B80P : { x : List Stmt // x = bodyOf (top 11) } := ⟨_, by conv => rhs; whnf⟩
noncomputable abbrev B80 : List Stmt := B80P.1
@[reducible] noncomputable def S80P : { x : Scope // x = scopeOf (top 11) } := ⟨_, by conv => rhs; whnf⟩
noncomputable abbrev S80 : Scope := S80P.1
@[reducible] noncomputable def A87P : { x : Arguments // x = paramsOf (top 12) } := ⟨_, by conv => rhs; whnf⟩
noncomputable abbrev A87 : Arguments := A87P.1
@[reducible] noncomputable def B87P : { x : List Stmt // x = bodyOf (top 12) } := ⟨_, by conv => rhs; whnf⟩
noncomputable abbrev B87 : List Stmt := B87P.1
@[reducible] noncomputable def S87P : { x : Scope // x = scopeOf (top 12) } := ⟨_, by conv => rhs; whnf⟩
noncomputable abbrev S87 : Scope := S87P.1
@[reducible] noncomputable def A95P : { x : Arguments // x = paramsOf (top 16) } := ⟨_, by conv => rhs; whnf⟩
noncomputable abbrev A95 : Arguments := A95P.1
@[reducible] noncomputable def B95P : { x : List Stmt // x = bodyOf (top 16) } := ⟨_, by conv => rhs; whnf⟩
noncomputable abbrev B95 : List Stmt := B95P.1
@[reducible] noncomputable def S95P : { x : Scope // x = scopeOf (top 16) } := ⟨_, by conv => rhs; whnf⟩
noncomputable abbrev S95 : Scope := S95P.1
@[reducible] noncomputable def A102P : { x : Arguments // x = paramsOf (top 17) } := ⟨_, by conv => rhs; whnf⟩
noncomputable abbrev A102 : Arguments := A102P.1
@[reducible] noncomputable def B102P : { x : List Stmt // x = bodyOf (top 17) } := ⟨_, by conv => rhs; whnf⟩
noncomputable abbrev B102 : List Stmt := B102P.1
@[reducible] noncomputable def S102P : { x : Scope // x = scopeOf (top 17) } := ⟨_, by conv => rhs; whnf⟩
noncomputable abbrev S102 : Scope := S102P.1
@[reducible] noncomputable def A109P : { x : Arguments // x = paramsOf (top 18) } := ⟨_, by conv => rhs; whnf⟩
noncomputable abbrev A109 : Arguments := A109P.1
@[reducible] noncomputable def B109P : { x : List Stmt // x = bodyOf (top 18) } := ⟨_, by conv => rhs; whnf⟩
noncomputable abbrev B109 : List Stmt := B109P.1
@[reducible] noncomputable def S109P : { x : Scope // x = scopeOf (top 18) } := ⟨_, by conv => rhs; whnf⟩
noncomputable abbrev S109 : Scope := S109P.1
@[reducible] noncomputable def A123P : { x : Arguments // x = paramsOf (inCls (top 20) 0) } := ⟨_, by conv => rhs; whnf⟩
noncomputable abbrev A123 : Arguments := A123P.1
@[reducible] noncomputable def B123P : { x : List Stmt // x = bodyOf (inCls (top 20) 0) } := ⟨_, by conv => rhs; whnf⟩
noncomputable abbrev B123 : List Stmt := B123P.1
@[reducible] noncomputable def S123P : { x : Scope // x = scopeOf (inCls (top 20) 0) } := ⟨_, by conv => rhs; whnf⟩
noncomputable abbrev S123 : Scope := S123P.1
@[reducible] noncomputable def A144P : { x : Arguments // x = paramsOf (inCls (top 21) 0) } := ⟨_, by conv => rhs; whnf⟩
noncomputable abbrev A144 : Arguments := A144P.1
@[reducible] noncomputable def B144P : { x : List Stmt // x = bodyOf (inCls (top 21) 0) } := ⟨_, by conv => rhs; whnf⟩
noncomputable abbrev B144 : List Stmt := B144P.1
@[reducible] noncomputable def S144P : { x : Scope // x = scopeOf (inCls (top 21) 0) } := ⟨_, by conv => rhs; whnf⟩
noncomputable abbrev S144 : Scope := S144P.1
@[reducible] noncomputable def A164P : { x : Arguments // x = paramsOf (inCls (top 23) 0) } := ⟨_, by conv => rhs; whnf⟩
noncomputable abbrev A164 : Arguments := A164P.1
@[reducible] noncomputable def B164P : { x : List Stmt // x = bodyOf (inCls (top 23) 0) } := ⟨_, by conv => rhs; whnf⟩
noncomputable abbrev B164 : List Stmt := B164P.1
@[reducible] noncomputable def S164P : { x : Scope // x = scopeOf (inCls (top 23) 0) } := ⟨_, by conv => rhs; whnf⟩
noncomputable abbrev S164 : Scope := S164P.1
@[reducible] noncomputable def A171P : { x : Arguments // x = paramsOf (inCls (top 23) 1) } := ⟨_, by conv => rhs; whnf⟩
noncomputable abbrev A171 : Arguments := A171P.1
@[reducible] noncomputable def B171P : { x : List Stmt // x = bodyOf (inCls (top 23) 1) } := ⟨_, by conv => rhs; whnf⟩
noncomputable abbrev B171 : List Stmt := B171P.1
@[reducible] noncomputable def S171P : { x : Scope // x = scopeOf (inCls (top 23) 1) } := ⟨_, by conv => rhs; whnf⟩
noncomputable abbrev S171 : Scope := S171P.1
@[reducible] noncomputable def A178P : { x : Arguments // x = paramsOf (inCls (top 23) 2) } := ⟨_, by conv => rhs; whnf⟩
noncomputable abbrev A178 : Arguments := A178P.1
@[reducible] noncomputable def B178P : { x : List Stmt // x = bodyOf (inCls (top 23) 2) } := ⟨_, by conv => rhs; whnf⟩
noncomputable abbrev B178 : List Stmt := B178P.1
@[reducible] noncomputable def S178P : { x : Scope // x = scopeOf (inCls (top 23) 2) } := ⟨_, by conv => rhs; whnf⟩
noncomputable abbrev S178 : Scope := S178P.1
@[reducible] noncomputable def A185P : { x : Arguments // x = paramsOf (inCls (top 23) 3) } := ⟨_, by conv => rhs; whnf⟩
noncomputable abbrev A185 : Arguments := A185P.1
@[reducible] noncomputable def B185P : { x : List Stmt // x = bodyOf (inCls (top 23) 3) } := ⟨_, by conv => rhs; whnf⟩
noncomputable abbrev B185 : List Stmt := B185P.1
@[reducible] noncomputable def S185P : { x : Scope // x = scopeOf (inCls (top 23) 3) } := ⟨_, by conv => rhs; whnf⟩
noncomputable abbrev S185 : Scope := S185P.1
@[reducible] noncomputable def A192P : { x : Arguments // x = paramsOf (inCls (top 23) 4) } := ⟨_, by conv => rhs; whnf⟩
noncomputable abbrev A192 : Arguments := A192P.1
@[reducible] noncomputable def B192P : { x : List Stmt // x = bodyOf (inCls (top 23) 4) } := ⟨_, by conv => rhs; whnf⟩
noncomputable abbrev B192 : List Stmt := B192P.1
@[reducible] noncomputable def S192P : { x : Scope // x = scopeOf (inCls (top 23) 4) } := ⟨_, by conv => rhs; whnf⟩
noncomputable abbrev S192 : Scope := S192P.1
@[reducible] noncomputable def A199P : { x : Arguments // x = paramsOf (inCls (top 23) 5) } := ⟨_, by conv => rhs; whnf⟩
noncomputable abbrev A199 : Arguments := A199P.1
@[reducible] noncomputable def B199P : { x : List Stmt // x = bodyOf (inCls (top 23) 5) } := ⟨_, by conv => rhs; whnf⟩
noncomputable abbrev B199 : List Stmt := B199P.1
@[reducible] noncomputable def S199P : { x : Scope // x = scopeOf (inCls (top 23) 5) } := ⟨_, by conv => rhs; whnf⟩
noncomputable abbrev S199 : Scope := S199P.1
@[reducible] noncomputable def A206P : { x : Arguments // x = paramsOf (inCls (top 23) 6) } := ⟨_, by conv => rhs; whnf⟩
noncomputable abbrev A206 : Arguments := A206P.1
@[reducible] noncomputable def B206P : { x : List Stmt // x = bodyOf (inCls (top 23) 6) } := ⟨_, by conv => rhs; whnf⟩
noncomputable abbrev B206 : List Stmt := B206P.1
@[reducible] noncomputable def S206P : { x : Scope // x = scopeOf (inCls (top 23) 6) } := ⟨_, by conv => rhs; whnf⟩
noncomputable abbrev S206 : Scope := S206P.1
@[reducible] noncomputable def A213P : { x : Arguments // x = paramsOf (inCls (top 23) 7) } := ⟨_, by conv => rhs; whnf⟩
noncomputable abbrev A213 : Arguments := A213P.1
@[reducible] noncomputable def B213P : { x : List Stmt // x = bodyOf (inCls (top 23) 7) } := ⟨_, by conv => rhs; whnf⟩
noncomputable abbrev B213 : List Stmt := B213P.1
@[reducible] noncomputable def S213P : { x : Scope // x = scopeOf (inCls (top 23) 7) } := ⟨_, by conv => rhs; whnf⟩
noncomputable abbrev S213 : Scope := S213P.1
@[reducible] noncomputable def A220P : { x : Arguments // x = paramsOf (inCls (top 23) 8) } := ⟨_, by conv => rhs; whnf⟩
noncomputable abbrev A220 : Arguments := A220P.1
@[reducible] noncomputable def B220P : { x : List Stmt // x = bodyOf (inCls (top 23) 8) } := ⟨_, by conv => rhs; whnf⟩
noncomputable abbrev B220 : List Stmt := B220P.1
@[reducible] noncomputable def S220P : { x : Scope // x = scopeOf (inCls (top 23) 8) } := ⟨_, by conv => rhs; whnf⟩
noncomputable abbrev S220 : Scope := S220P.1
@[reducible] noncomputable def A227P : { x : Arguments // x = paramsOf (inCls (top 23) 9) } := ⟨_, by conv => rhs; whnf⟩
noncomputable abbrev A227 : Arguments := A227P.1
@[reducible] noncomputable def B227P : { x : List Stmt // x = bodyOf (inCls (top 23) 9) } := ⟨_, by conv => rhs; whnf⟩
noncomputable abbrev B227 : List Stmt := B227P.1
@[reducible] noncomputable def S227P : { x : Scope // x = scopeOf (inCls (top 23) 9) } := ⟨_, by conv => rhs; whnf⟩
noncomputable abbrev S227 : Scope := S227P.1
@[reducible] noncomputable def A234P : { x : Arguments // x = paramsOf (inCls (top 23) 10) } := ⟨_, by conv => rhs; whnf⟩
noncomputable abbrev A234 : Arguments := A234P.1
@[reducible] noncomputable def B234P : { x : List Stmt // x = bodyOf (inCls (top 23) 10) } := ⟨_, by conv => rhs; whnf⟩
noncomputable abbrev B234 : List Stmt := B234P.1
@[reducible] noncomputable def S234P : { x : Scope // x = scopeOf (inCls (top 23) 10) } := ⟨_, by conv => rhs; whnf⟩
noncomputable abbrev S234 : Scope := S234P.1
@[reducible] noncomputable def A241P : { x : Arguments // x = paramsOf (inCls (top 23) 11) } := ⟨_, by conv => rhs; whnf⟩
noncomputable abbrev A241 : Arguments := A241P.1
@[reducible] noncomputable def B241P : { x : List Stmt // x = bodyOf (inCls (top 23) 11) } := ⟨_, by conv => rhs; whnf⟩
noncomputable abbrev B241 : List Stmt := B241P.1
@[reducible] noncomputable def S241P : { x : Scope // x = scopeOf (inCls (top 23) 11) } := ⟨_, by conv => rhs; whnf⟩
noncomputable abbrev S241 : Scope := S241P.1
@[reducible] noncomputable def A248P : { x : Arguments // x = paramsOf (inCls (top 23) 12) } := ⟨_, by conv => rhs; whnf⟩
noncomputable abbrev A248 : Arguments := A248P.1
@[reducible] noncomputable def B248P : { x : List Stmt // x = bodyOf (inCls (top 23) 12) } := ⟨_, by conv => rhs; whnf⟩
noncomputable abbrev B248 : List Stmt := B248P.1
@[reducible] noncomputable def S248P : { x : Scope // x = scopeOf (inCls (top 23) 12) } := ⟨_, by conv => rhs; whnf⟩
noncomputable abbrev S248 : Scope := S248P.1
@[reducible] noncomputable def A255P : { x : Arguments // x = paramsOf (inCls (top 23) 13) } := ⟨_, by conv => rhs; whnf⟩
noncomputable abbrev A255 : Arguments := A255P.1
@[reducible] noncomputable def B255P : { x : List Stmt // x = bodyOf (inCls (top 23) 13) } := ⟨_, by conv => rhs; whnf⟩
noncomputable abbrev B255 : List Stmt := B255P.1
@[reducible] noncomputable def S255P : { x : Scope // x = scopeOf (inCls (top 23) 13) } := ⟨_, by conv => rhs; whnf⟩
noncomputable abbrev S255 : Scope := S255P.1
@[reducible] noncomputable def A262P : { x : Arguments // x = paramsOf (inCls (top 23) 14) } := ⟨_, by conv => rhs; whnf⟩
noncomputable abbrev A262 : Arguments := A262P.1
@[reducible] noncomputable def B262P : { x : List Stmt // x = bodyOf (inCls (top 23) 14) } := ⟨_, by conv => rhs; whnf⟩
noncomputable abbrev B262 : List Stmt := B262P.1
@[reducible] noncomputable def S262P : { x : Scope // x = scopeOf (inCls (top 23) 14) } := ⟨_, by conv => rhs; whnf⟩
noncomputable abbrev S262 : Scope := S262P.1
@[reducible] noncomputable def A269P : { x : Arguments // x = paramsOf (inCls (top 23) 15) } := ⟨_, by conv => rhs; whnf⟩
noncomputable abbrev A269 : Arguments := A269P.1
@[reducible] noncomputable def B269P : { x : List Stmt // x = bodyOf (inCls (top 23) 15) } := ⟨_, by conv => rhs; whnf⟩
noncomputable abbrev B269 : List Stmt := B269P.1
@[reducible] noncomputable def S269P : { x : Scope // x = scopeOf (inCls (top 23) 15) } := ⟨_, by conv => rhs; whnf⟩
noncomputable abbrev S269 : Scope := S269P.1
@[reducible] noncomputable def A283P : { x : Arguments // x = paramsOf (top 25) } := ⟨_, by conv => rhs; whnf⟩
noncomputable abbrev A283 : Arguments := A283P.1
@[reducible] noncomputable def B283P : { x : List Stmt // x = bodyOf (top 25) } := ⟨_, by conv => rhs; whnf⟩
noncomputable abbrev B283 : List Stmt := B283P.1
@[reducible] noncomputable def S283P : { x : Scope // x = scopeOf (top 25) } := ⟨_, by conv => rhs; whnf⟩
noncomputable abbrev S283 : Scope := S283P.1
@[reducible] noncomputable def A290P : { x : Arguments // x = paramsOf (top 26) } := ⟨_, by conv => rhs; whnf⟩
noncomputable abbrev A290 : Arguments := A290P.1
@[reducible] noncomputable def B290P : { x : List Stmt // x = bodyOf (top 26) } := ⟨_, by conv => rhs; whnf⟩
noncomputable abbrev B290 : List Stmt := B290P.1
@[reducible] noncomputable def S290P : { x : Scope // x = scopeOf (top 26) } := ⟨_, by conv => rhs; whnf⟩
noncomputable abbrev S290 : Scope := S290P.1
@[reducible] noncomputable def A297P : { x : Arguments // x = paramsOf (top 27) } := ⟨_, by conv => rhs; whnf⟩
noncomputable abbrev A297 : Arguments := A297P.1
@[reducible] noncomputable def B297P : { x : List Stmt // x = bodyOf (top 27) } := ⟨_, by conv => rhs; whnf⟩
noncomputable abbrev B297 : List Stmt := B297P.1
@[reducible] noncomputable def S297P : { x : Scope // x = scopeOf (top 27) } := ⟨_, by conv => rhs; whnf⟩
noncomputable abbrev S297 : Scope := S297P.1
@[reducible] noncomputable def A304P : { x : Arguments // x = paramsOf (top 28) } := ⟨_, by conv => rhs; whnf⟩
noncomputable abbrev A304 : Arguments := A304P.1
@[reducible] noncomputable def B304P : { x : List Stmt // x = bodyOf (top 28) } := ⟨_, by conv => rhs; whnf⟩
noncomputable abbrev B304 : List Stmt := B304P.1
@[reducible] noncomputable def S304P : { x : Scope // x = scopeOf (top 28) } := ⟨_, by conv => rhs; whnf⟩
noncomputable abbrev S304 : Scope := S304P.1
@[reducible] noncomputable def A309P : { x : Arguments // x = paramsOf (top 29) } := ⟨_, by conv => rhs; whnf⟩
noncomputable abbrev A309 : Arguments := A309P.1
@[reducible] noncomputable def B309P : { x : List Stmt // x = bodyOf (top 29) } := ⟨_, by conv => rhs; whnf⟩
noncomputable abbrev B309 : List Stmt := B309P.1
@[reducible] noncomputable def S309P : { x : Scope // x = scopeOf (top 29) } := ⟨_, by conv => rhs; whnf⟩
noncomputable abbrev S309 : Scope := S309P.1
@[reducible] noncomputable def A316P : { x : Arguments // x = paramsOf (top 30) } := ⟨_, by conv => rhs; whnf⟩
noncomputable abbrev A316 : Arguments := A316P.1
@[reducible] noncomputable def B316P : { x : List Stmt // x = bodyOf (top 30) } := ⟨_, by conv => rhs; whnf⟩
noncomputable abbrev B316 : List Stmt := B316P.1
@[reducible] noncomputable def S316P : { x : Scope // x = scopeOf (top 30) } := ⟨_, by conv => rhs; whnf⟩
noncomputable abbrev S316 : Scope := S316P.1
@[reducible] noncomputable def A323P : { x : Arguments // x = paramsOf (top 31) } := ⟨_, by conv => rhs; whnf⟩
noncomputable abbrev A323 : Arguments := A323P.1
@[reducible] noncomputable def B323P : { x : List Stmt // x = bodyOf (top 31) } := ⟨_, by conv => rhs; whnf⟩
noncomputable abbrev B323 : List Stmt := B323P.1
@[reducible] noncomputable def S323P : { x : Scope // x = scopeOf (top 31) } := ⟨_, by conv => rhs; whnf⟩
noncomputable abbrev S323 : Scope := S323P.1
@[reducible] noncomputable def A328P : { x : Arguments // x = paramsOf (top 32) } := ⟨_, by conv => rhs; whnf⟩
noncomputable abbrev A328 : Arguments := A328P.1
@[reducible] noncomputable def B328P : { x : List Stmt // x = bodyOf (top 32) } := ⟨_, by conv => rhs; whnf⟩
noncomputable abbrev B328 : List Stmt := B328P.1
@[reducible] noncomputable def S328P : { x : Scope // x = scopeOf (top 32) } := ⟨_, by conv => rhs; whnf⟩
noncomputable abbrev S328 : Scope := S328P.1
@[reducible] noncomputable def A333P : { x : Arguments // x = paramsOf (top 33) } := ⟨_, by conv => rhs; whnf⟩
noncomputable abbrev A333 : Arguments := A333P.1
@[reducible] noncomputable def B333P : { x : List Stmt // x = bodyOf (top 33) } := ⟨_, by conv => rhs; whnf⟩
noncomputable abbrev B333 : List Stmt := B333P.1
@[reducible] noncomputable def S333P : { x : Scope // x = scopeOf (top 33) } := ⟨_, by conv => rhs; whnf⟩
noncomputable abbrev S333 : Scope := S333P.1
noncomputable def K (P : Params) : Frag :=
  (nat_lit 2, ⟨PySem.Value.none, (Option.none ), (PySem.Data.dict #[(PySem.DictEntry.mk (PySem.PyData.keyHash P (Str.ofString "type.__subclasses__.Exception.0")) (PySem.Value.str (Str.ofString "type.__subclasses__.Exception.0") 356) (PySem.Value.int 126 0)), (PySem.DictEntry.mk (PySem.PyData.keyHash P (Str.ofString "type.__subclasses__.Exception.n")) (PySem.Value.str (Str.ofString "type.__subclasses__.Exception.n") 357) (PySem.Value.int 1 0))] 2), #[]⟩) ::
  (nat_lit 3, ⟨(PySem.Value.type "dict"), (Option.none ), (PySem.Data.dict #[(PySem.DictEntry.mk (PySem.PyData.keyHash P (Str.ofString "__name__")) (PySem.Value.str (Str.ofString "__name__") 165) (PySem.Value.str (Str.ofString "law_xw0207_01") 539)), (PySem.DictEntry.mk (PySem.PyData.keyHash P (Str.ofString "__doc__")) (PySem.Value.str (Str.ofString "__doc__") 166) PySem.Value.none), (PySem.DictEntry.mk (PySem.PyData.keyHash P (Str.ofString "__package__")) (PySem.Value.str (Str.ofString "__package__") 167) PySem.Value.none), (PySem.DictEntry.mk (PySem.PyData.keyHash P (Str.ofString "__loader__")) (PySem.Value.str (Str.ofString "__loader__") 168) (PySem.Value.builtin "__main__.__loader__#opaque")), (PySem.DictEntry.mk (PySem.PyData.keyHash P (Str.ofString "__spec__")) (PySem.Value.str (Str.ofString "__spec__") 169) PySem.Value.none), (PySem.DictEntry.mk (PySem.PyData.keyHash P (Str.ofString "__annotations__")) (PySem.Value.str (Str.ofString "__annotations__") 170) (PySem.Value.ref 6)), (PySem.DictEntry.mk (PySem.PyData.keyHash P (Str.ofString "__builtins__")) (PySem.Value.str (Str.ofString "__builtins__") 171) (PySem.Value.ref 4)), (PySem.DictEntry.mk (PySem.PyData.keyHash P (Str.ofString "__file__")) (PySem.Value.str (Str.ofString "__file__") 173) (PySem.Value.str (Str.ofString "/claim/cut.py") 172)), (PySem.DictEntry.mk (PySem.PyData.keyHash P (Str.ofString "__cached__")) (PySem.Value.str (Str.ofString "__cached__") 174) PySem.Value.none), (PySem.DictEntry.mk (PySem.PyData.keyHash P (Str.ofString "_wall")) (PySem.Value.str (Str.ofString "_wall") 193) (PySem.Value.ref 21)), (PySem.DictEntry.mk (PySem.PyData.keyHash P (Str.ofString "SPACES")) (PySem.Value.str (Str.ofString "SPACES") 197) (PySem.Value.str (Str.ofString " \t\n\x0d") 196)), (PySem.DictEntry.mk (PySem.PyData.keyHash P (Str.ofString "START_RANGES")) (PySem.Value.str (Str.ofString "START_RANGES") 222) (PySem.Value.ref 34)), (PySem.DictEntry.mk (PySem.PyData.keyHash P (Str.ofString "MORE_RANGES")) (PySem.Value.str (Str.ofString "MORE_RANGES") 229) (PySem.Value.ref 38)), (PySem.DictEntry.mk (PySem.PyData.keyHash P (Str.ofString "FIRST_BEYOND")) (PySem.Value.str (Str.ofString "FIRST_BEYOND") 231) (PySem.Value.int 128 230)), (PySem.DictEntry.mk (PySem.PyData.keyHash P (Str.ofString "is_in_ranges")) (PySem.Value.str (Str.ofString "is_in_ranges") 241) (PySem.Value.ref 45)), (PySem.DictEntry.mk (PySem.PyData.keyHash P (Str.ofString "is_space")) (PySem.Value.str (Str.ofString "is_space") 248) (PySem.Value.ref 52)), (PySem.DictEntry.mk (PySem.PyData.keyHash P (Str.ofString "is_small_letter")) (PySem.Value.str (Str.ofString "is_small_letter") 255) (PySem.Value.ref 59)), (PySem.DictEntry.mk (PySem.PyData.keyHash P (Str.ofString "is_name_start")) (PySem.Value.str (Str.ofString "is_name_start") 262) (PySem.Value.ref 66)), (PySem.DictEntry.mk (PySem.PyData.keyHash P (Str.ofString "is_name_char")) (PySem.Value.str (Str.ofString "is_name_char") 269) (PySem.Value.ref 73)), (PySem.DictEntry.mk (PySem.PyData.keyHash P (Str.ofString "space_split")) (PySem.Value.str (Str.ofString "space_split") 279) (PySem.Value.ref 80)), (PySem.DictEntry.mk (PySem.PyData.keyHash P (Str.ofString "collapsed")) (PySem.Value.str (Str.ofString "collapsed") 286) (PySem.Value.ref 87)), (PySem.DictEntry.mk (PySem.PyData.keyHash P (Str.ofString "PLAIN_KINDS")) (PySem.Value.str (Str.ofString "PLAIN_KINDS") 297) (PySem.Value.ref 88)), (PySem.DictEntry.mk (PySem.PyData.keyHash P (Str.ofString "PUBLIC_SIGNS")) (PySem.Value.str (Str.ofString "PUBLIC_SIGNS") 299) (PySem.Value.str (Str.ofString " \x0d\n-'()+,./:=?;!*#@$_%") 298)), (PySem.DictEntry.mk (PySem.PyData.keyHash P (Str.ofString "read_choices")) (PySem.Value.str (Str.ofString "read_choices") 309) (PySem.Value.ref 95)), (PySem.DictEntry.mk (PySem.PyData.keyHash P (Str.ofString "read_kind")) (PySem.Value.str (Str.ofString "read_kind") 318) (PySem.Value.ref 102)), (PySem.DictEntry.mk (PySem.PyData.keyHash P (Str.ofString "public_name")) (PySem.Value.str (Str.ofString "public_name") 328) (PySem.Value.ref 109)), (PySem.DictEntry.mk (PySem.PyData.keyHash P (Str.ofString "MarkupError")) (PySem.Value.str (Str.ofString "MarkupError") 359) (PySem.Value.ref 126)), (PySem.DictEntry.mk (PySem.PyData.keyHash P (Str.ofString "DtdFault")) (PySem.Value.str (Str.ofString "DtdFault") 386) (PySem.Value.ref 147)), (PySem.DictEntry.mk (PySem.PyData.keyHash P (Str.ofString "DtdScanner")) (PySem.Value.str (Str.ofString "DtdScanner") 538) (PySem.Value.ref 272)), (PySem.DictEntry.mk (PySem.PyData.keyHash P (Str.ofString "_law_pool")) (PySem.Value.str (Str.ofString "_law_pool") 549) (PySem.Value.ref 283)), (PySem.DictEntry.mk (PySem.PyData.keyHash P (Str.ofString "_law_take")) (PySem.Value.str (Str.ofString "_law_take") 558) (PySem.Value.ref 290)), (PySem.DictEntry.mk (PySem.PyData.keyHash P (Str.ofString "_law_one")) (PySem.Value.str (Str.ofString "_law_one") 566) (PySem.Value.ref 297)), (PySem.DictEntry.mk (PySem.PyData.keyHash P (Str.ofString "_law_kind_right")) (PySem.Value.str (Str.ofString "_law_kind_right") 579) (PySem.Value.ref 304)), (PySem.DictEntry.mk (PySem.PyData.keyHash P (Str.ofString "_law_choices")) (PySem.Value.str (Str.ofString "_law_choices") 585) (PySem.Value.ref 309)), (PySem.DictEntry.mk (PySem.PyData.keyHash P (Str.ofString "_law_kinds")) (PySem.Value.str (Str.ofString "_law_kinds") 591) (PySem.Value.ref 316)), (PySem.DictEntry.mk (PySem.PyData.keyHash P (Str.ofString "_law_drawn_right")) (PySem.Value.str (Str.ofString "_law_drawn_right") 606) (PySem.Value.ref 323)), (PySem.DictEntry.mk (PySem.PyData.keyHash P (Str.ofString "_law_public_right")) (PySem.Value.str (Str.ofString "_law_public_right") 612) (PySem.Value.ref 328)), (PySem.DictEntry.mk (PySem.PyData.keyHash P (Str.ofString "law")) (PySem.Value.str (Str.ofString "law") 618) (PySem.Value.ref 333))] 38), #[]⟩) ::
  (nat_lit 15, ⟨(PySem.Value.type "tuple"), (Option.none ), (PySem.Data.seq #[] 0), #[]⟩) ::
  (nat_lit 17, ⟨(PySem.Value.type "tuple"), (Option.none ), (PySem.Data.seq #[(PySem.Value.str (Str.ofString "k") 190)] 0), #[]⟩) ::
  (nat_lit 18, ⟨(PySem.Value.type "tuple"), (Option.none ), (PySem.Data.seq #[] 0), #[]⟩) ::
  (nat_lit 20, ⟨(PySem.Value.type "code"), (Option.none ), (PySem.Data.fields #[(PySem.Value.str (Str.ofString "_wall") 187), (PySem.Value.str (Str.ofString "_wall") 188), (PySem.Value.str (Str.ofString "/claim/cut.py") 189), (PySem.Value.int 1 0), (PySem.Value.int 1 0), (PySem.Value.int 0 0), (PySem.Value.int 0 0), (PySem.Value.int 3 0), (PySem.Value.ref 15), (PySem.Value.bool Bool.true), (PySem.Value.int 181 0), (PySem.Value.ref 16), PySem.Value.none, (PySem.Value.ref 17), (PySem.Value.ref 18), (PySem.Value.ref 19), (PySem.Value.int 191 0), (PySem.Value.int 1 0), (PySem.Value.str (Str.ofString "/claim/cut.py") 192)]), #[]⟩) ::
  (nat_lit 21, ⟨(PySem.Value.type "function"), (Option.none ), PySem.Data.func (PySem.FuncData.mk (Str.ofString "_wall") (Str.ofString "_wall") A21 (PySem.FuncBody.stmts B21) S21 3 [] PySem.Value.none PySem.Value.none PySem.Value.none (PySem.Value.str (Str.ofString "__main__") 164) (Option.none ) (PySem.Value.ref 20) PySem.Value.none 0), #[]⟩) ::
  (nat_lit 22, ⟨(PySem.Value.type "tuple"), (Option.none ), (PySem.Data.seq #[(PySem.Value.int 192 198), (PySem.Value.int 214 199)] 0), #[]⟩) ::
  (nat_lit 23, ⟨(PySem.Value.type "tuple"), (Option.none ), (PySem.Data.seq #[(PySem.Value.int 216 200), (PySem.Value.int 246 201)] 0), #[]⟩) ::
  (nat_lit 24, ⟨(PySem.Value.type "tuple"), (Option.none ), (PySem.Data.seq #[(PySem.Value.int 248 202), (PySem.Value.int 767 203)] 0), #[]⟩) ::
  (nat_lit 25, ⟨(PySem.Value.type "tuple"), (Option.none ), (PySem.Data.seq #[(PySem.Value.int 880 204), (PySem.Value.int 893 205)] 0), #[]⟩) ::
  (nat_lit 26, ⟨(PySem.Value.type "tuple"), (Option.none ), (PySem.Data.seq #[(PySem.Value.int 895 206), (PySem.Value.int 8191 207)] 0), #[]⟩) ::
  (nat_lit 27, ⟨(PySem.Value.type "tuple"), (Option.none ), (PySem.Data.seq #[(PySem.Value.int 8204 208), (PySem.Value.int 8205 209)] 0), #[]⟩) ::
  (nat_lit 28, ⟨(PySem.Value.type "tuple"), (Option.none ), (PySem.Data.seq #[(PySem.Value.int 8304 210), (PySem.Value.int 8591 211)] 0), #[]⟩) ::
  (nat_lit 29, ⟨(PySem.Value.type "tuple"), (Option.none ), (PySem.Data.seq #[(PySem.Value.int 11264 212), (PySem.Value.int 12271 213)] 0), #[]⟩) ::
  (nat_lit 30, ⟨(PySem.Value.type "tuple"), (Option.none ), (PySem.Data.seq #[(PySem.Value.int 12289 214), (PySem.Value.int 55295 215)] 0), #[]⟩) ::
  (nat_lit 31, ⟨(PySem.Value.type "tuple"), (Option.none ), (PySem.Data.seq #[(PySem.Value.int 63744 216), (PySem.Value.int 64975 217)] 0), #[]⟩) ::
  (nat_lit 32, ⟨(PySem.Value.type "tuple"), (Option.none ), (PySem.Data.seq #[(PySem.Value.int 65008 218), (PySem.Value.int 65533 219)] 0), #[]⟩) ::
  (nat_lit 33, ⟨(PySem.Value.type "tuple"), (Option.none ), (PySem.Data.seq #[(PySem.Value.int 65536 220), (PySem.Value.int 983039 221)] 0), #[]⟩) ::
  (nat_lit 34, ⟨(PySem.Value.type "tuple"), (Option.none ), (PySem.Data.seq #[(PySem.Value.ref 22), (PySem.Value.ref 23), (PySem.Value.ref 24), (PySem.Value.ref 25), (PySem.Value.ref 26), (PySem.Value.ref 27), (PySem.Value.ref 28), (PySem.Value.ref 29), (PySem.Value.ref 30), (PySem.Value.ref 31), (PySem.Value.ref 32), (PySem.Value.ref 33)] 0), #[]⟩) ::
  (nat_lit 35, ⟨(PySem.Value.type "tuple"), (Option.none ), (PySem.Data.seq #[(PySem.Value.int 183 223), (PySem.Value.int 183 224)] 0), #[]⟩) ::
  (nat_lit 36, ⟨(PySem.Value.type "tuple"), (Option.none ), (PySem.Data.seq #[(PySem.Value.int 768 225), (PySem.Value.int 879 226)] 0), #[]⟩) ::
  (nat_lit 37, ⟨(PySem.Value.type "tuple"), (Option.none ), (PySem.Data.seq #[(PySem.Value.int 8255 227), (PySem.Value.int 8256 228)] 0), #[]⟩) ::
  (nat_lit 38, ⟨(PySem.Value.type "tuple"), (Option.none ), (PySem.Data.seq #[(PySem.Value.ref 35), (PySem.Value.ref 36), (PySem.Value.ref 37)] 0), #[]⟩) ::
  (nat_lit 39, ⟨(PySem.Value.type "tuple"), (Option.none ), (PySem.Data.seq #[] 0), #[]⟩) ::
  (nat_lit 41, ⟨(PySem.Value.type "tuple"), (Option.none ), (PySem.Data.seq #[(PySem.Value.str (Str.ofString "code") 235), (PySem.Value.str (Str.ofString "ranges") 236), (PySem.Value.str (Str.ofString "low") 237), (PySem.Value.str (Str.ofString "high") 238)] 0), #[]⟩) ::
  (nat_lit 42, ⟨(PySem.Value.type "tuple"), (Option.none ), (PySem.Data.seq #[] 0), #[]⟩) ::
  (nat_lit 44, ⟨(PySem.Value.type "code"), (Option.none ), (PySem.Data.fields #[(PySem.Value.str (Str.ofString "is_in_ranges") 232), (PySem.Value.str (Str.ofString "is_in_ranges") 233), (PySem.Value.str (Str.ofString "/claim/cut.py") 234), (PySem.Value.int 9 0), (PySem.Value.int 2 0), (PySem.Value.int 0 0), (PySem.Value.int 0 0), (PySem.Value.int 3 0), (PySem.Value.ref 39), (PySem.Value.bool Bool.true), (PySem.Value.int 181 0), (PySem.Value.ref 40), PySem.Value.none, (PySem.Value.ref 41), (PySem.Value.ref 42), (PySem.Value.ref 43), (PySem.Value.int 239 0), (PySem.Value.int 9 0), (PySem.Value.str (Str.ofString "/claim/cut.py") 240)]), #[]⟩) ::
  (nat_lit 45, ⟨(PySem.Value.type "function"), (Option.none ), PySem.Data.func (PySem.FuncData.mk (Str.ofString "is_in_ranges") (Str.ofString "is_in_ranges") A45 (PySem.FuncBody.stmts B45) S45 3 [] PySem.Value.none PySem.Value.none PySem.Value.none (PySem.Value.str (Str.ofString "markupmill.chars") 194) (Option.none ) (PySem.Value.ref 44) PySem.Value.none 0), #[]⟩) ::
  (nat_lit 46, ⟨(PySem.Value.type "tuple"), (Option.none ), (PySem.Data.seq #[] 0), #[]⟩) ::
  (nat_lit 48, ⟨(PySem.Value.type "tuple"), (Option.none ), (PySem.Data.seq #[(PySem.Value.str (Str.ofString "sign") 245)] 0), #[]⟩) ::
  (nat_lit 49, ⟨(PySem.Value.type "tuple"), (Option.none ), (PySem.Data.seq #[] 0), #[]⟩) ::
  (nat_lit 51, ⟨(PySem.Value.type "code"), (Option.none ), (PySem.Data.fields #[(PySem.Value.str (Str.ofString "is_space") 242), (PySem.Value.str (Str.ofString "is_space") 243), (PySem.Value.str (Str.ofString "/claim/cut.py") 244), (PySem.Value.int 16 0), (PySem.Value.int 1 0), (PySem.Value.int 0 0), (PySem.Value.int 0 0), (PySem.Value.int 3 0), (PySem.Value.ref 46), (PySem.Value.bool Bool.true), (PySem.Value.int 181 0), (PySem.Value.ref 47), PySem.Value.none, (PySem.Value.ref 48), (PySem.Value.ref 49), (PySem.Value.ref 50), (PySem.Value.int 246 0), (PySem.Value.int 16 0), (PySem.Value.str (Str.ofString "/claim/cut.py") 247)]), #[]⟩) ::
  (nat_lit 52, ⟨(PySem.Value.type "function"), (Option.none ), PySem.Data.func (PySem.FuncData.mk (Str.ofString "is_space") (Str.ofString "is_space") A52 (PySem.FuncBody.stmts B52) S52 3 [] PySem.Value.none PySem.Value.none PySem.Value.none (PySem.Value.str (Str.ofString "markupmill.chars") 194) (Option.none ) (PySem.Value.ref 51) PySem.Value.none 0), #[]⟩) ::
  (nat_lit 53, ⟨(PySem.Value.type "tuple"), (Option.none ), (PySem.Data.seq #[] 0), #[]⟩) ::
  (nat_lit 55, ⟨(PySem.Value.type "tuple"), (Option.none ), (PySem.Data.seq #[(PySem.Value.str (Str.ofString "sign") 252)] 0), #[]⟩) ::
  (nat_lit 56, ⟨(PySem.Value.type "tuple"), (Option.none ), (PySem.Data.seq #[] 0), #[]⟩) ::
  (nat_lit 58, ⟨(PySem.Value.type "code"), (Option.none ), (PySem.Data.fields #[(PySem.Value.str (Str.ofString "is_small_letter") 249), (PySem.Value.str (Str.ofString "is_small_letter") 250), (PySem.Value.str (Str.ofString "/claim/cut.py") 251), (PySem.Value.int 18 0), (PySem.Value.int 1 0), (PySem.Value.int 0 0), (PySem.Value.int 0 0), (PySem.Value.int 3 0), (PySem.Value.ref 53), (PySem.Value.bool Bool.true), (PySem.Value.int 181 0), (PySem.Value.ref 54), PySem.Value.none, (PySem.Value.ref 55), (PySem.Value.ref 56), (PySem.Value.ref 57), (PySem.Value.int 253 0), (PySem.Value.int 18 0), (PySem.Value.str (Str.ofString "/claim/cut.py") 254)]), #[]⟩) ::
  (nat_lit 59, ⟨(PySem.Value.type "function"), (Option.none ), PySem.Data.func (PySem.FuncData.mk (Str.ofString "is_small_letter") (Str.ofString "is_small_letter") A59 (PySem.FuncBody.stmts B59) S59 3 [] PySem.Value.none PySem.Value.none PySem.Value.none (PySem.Value.str (Str.ofString "markupmill.chars") 194) (Option.none ) (PySem.Value.ref 58) PySem.Value.none 0), #[]⟩) ::
  (nat_lit 60, ⟨(PySem.Value.type "tuple"), (Option.none ), (PySem.Data.seq #[] 0), #[]⟩) ::
  (nat_lit 62, ⟨(PySem.Value.type "tuple"), (Option.none ), (PySem.Data.seq #[(PySem.Value.str (Str.ofString "sign") 259)] 0), #[]⟩) ::
  (nat_lit 63, ⟨(PySem.Value.type "tuple"), (Option.none ), (PySem.Data.seq #[] 0), #[]⟩) ::
  (nat_lit 65, ⟨(PySem.Value.type "code"), (Option.none ), (PySem.Data.fields #[(PySem.Value.str (Str.ofString "is_name_start") 256), (PySem.Value.str (Str.ofString "is_name_start") 257), (PySem.Value.str (Str.ofString "/claim/cut.py") 258), (PySem.Value.int 20 0), (PySem.Value.int 1 0), (PySem.Value.int 0 0), (PySem.Value.int 0 0), (PySem.Value.int 3 0), (PySem.Value.ref 60), (PySem.Value.bool Bool.true), (PySem.Value.int 181 0), (PySem.Value.ref 61), PySem.Value.none, (PySem.Value.ref 62), (PySem.Value.ref 63), (PySem.Value.ref 64), (PySem.Value.int 260 0), (PySem.Value.int 20 0), (PySem.Value.str (Str.ofString "/claim/cut.py") 261)]), #[]⟩) ::
  (nat_lit 66, ⟨(PySem.Value.type "function"), (Option.none ), PySem.Data.func (PySem.FuncData.mk (Str.ofString "is_name_start") (Str.ofString "is_name_start") A66 (PySem.FuncBody.stmts B66) S66 3 [] PySem.Value.none PySem.Value.none PySem.Value.none (PySem.Value.str (Str.ofString "markupmill.chars") 194) (Option.none ) (PySem.Value.ref 65) PySem.Value.none 0), #[]⟩) ::
  (nat_lit 67, ⟨(PySem.Value.type "tuple"), (Option.none ), (PySem.Data.seq #[] 0), #[]⟩) ::
  (nat_lit 69, ⟨(PySem.Value.type "tuple"), (Option.none ), (PySem.Data.seq #[(PySem.Value.str (Str.ofString "sign") 266)] 0), #[]⟩) ::
  (nat_lit 70, ⟨(PySem.Value.type "tuple"), (Option.none ), (PySem.Data.seq #[] 0), #[]⟩) ::
  (nat_lit 72, ⟨(PySem.Value.type "code"), (Option.none ), (PySem.Data.fields #[(PySem.Value.str (Str.ofString "is_name_char") 263), (PySem.Value.str (Str.ofString "is_name_char") 264), (PySem.Value.str (Str.ofString "/claim/cut.py") 265), (PySem.Value.int 24 0), (PySem.Value.int 1 0), (PySem.Value.int 0 0), (PySem.Value.int 0 0), (PySem.Value.int 3 0), (PySem.Value.ref 67), (PySem.Value.bool Bool.true), (PySem.Value.int 181 0), (PySem.Value.ref 68), PySem.Value.none, (PySem.Value.ref 69), (PySem.Value.ref 70), (PySem.Value.ref 71), (PySem.Value.int 267 0), (PySem.Value.int 24 0), (PySem.Value.str (Str.ofString "/claim/cut.py") 268)]), #[]⟩) ::
  (nat_lit 73, ⟨(PySem.Value.type "function"), (Option.none ), PySem.Data.func (PySem.FuncData.mk (Str.ofString "is_name_char") (Str.ofString "is_name_char") A73 (PySem.FuncBody.stmts B73) S73 3 [] PySem.Value.none PySem.Value.none PySem.Value.none (PySem.Value.str (Str.ofString "markupmill.chars") 194) (Option.none ) (PySem.Value.ref 72) PySem.Value.none 0), #[]⟩) ::
  (nat_lit 74, ⟨(PySem.Value.type "tuple"), (Option.none ), (PySem.Data.seq #[] 0), #[]⟩) ::
  (nat_lit 76, ⟨(PySem.Value.type "tuple"), (Option.none ), (PySem.Data.seq #[(PySem.Value.str (Str.ofString "text") 273), (PySem.Value.str (Str.ofString "found") 274), (PySem.Value.str (Str.ofString "begin") 275), (PySem.Value.str (Str.ofString "place") 276)] 0), #[]⟩) ::
  (nat_lit 77, ⟨(PySem.Value.type "tuple"), (Option.none ), (PySem.Data.seq #[] 0), #[]⟩) ::
  (nat_lit 79, ⟨(PySem.Value.type "code"), (Option.none ), (PySem.Data.fields #[(PySem.Value.str (Str.ofString "space_split") 270), (PySem.Value.str (Str.ofString "space_split") 271), (PySem.Value.str (Str.ofString "/claim/cut.py") 272), (PySem.Value.int 30 0), (PySem.Value.int 1 0), (PySem.Value.int 0 0), (PySem.Value.int 0 0), (PySem.Value.int 3 0), (PySem.Value.ref 74), (PySem.Value.bool Bool.true), (PySem.Value.int 181 0), (PySem.Value.ref 75), PySem.Value.none, (PySem.Value.ref 76), (PySem.Value.ref 77), (PySem.Value.ref 78), (PySem.Value.int 277 0), (PySem.Value.int 30 0), (PySem.Value.str (Str.ofString "/claim/cut.py") 278)]), #[]⟩) ::
  (nat_lit 80, ⟨(PySem.Value.type "function"), (Option.none ), PySem.Data.func (PySem.FuncData.mk (Str.ofString "space_split") (Str.ofString "space_split") A80 (PySem.FuncBody.stmts B80) S80 3 [] PySem.Value.none PySem.Value.none PySem.Value.none (PySem.Value.str (Str.ofString "markupmill.chars") 194) (Option.none ) (PySem.Value.ref 79) PySem.Value.none 0), #[]⟩) ::
  (nat_lit 81, ⟨(PySem.Value.type "tuple"), (Option.none ), (PySem.Data.seq #[] 0), #[]⟩) ::
  (nat_lit 83, ⟨(PySem.Value.type "tuple"), (Option.none ), (PySem.Data.seq #[(PySem.Value.str (Str.ofString "text") 283)] 0), #[]⟩) ::
  (nat_lit 84, ⟨(PySem.Value.type "tuple"), (Option.none ), (PySem.Data.seq #[] 0), #[]⟩) ::
  (nat_lit 86, ⟨(PySem.Value.type "code"), (Option.none ), (PySem.Data.fields #[(PySem.Value.str (Str.ofString "collapsed") 280), (PySem.Value.str (Str.ofString "collapsed") 281), (PySem.Value.str (Str.ofString "/claim/cut.py") 282), (PySem.Value.int 38 0), (PySem.Value.int 1 0), (PySem.Value.int 0 0), (PySem.Value.int 0 0), (PySem.Value.int 3 0), (PySem.Value.ref 81), (PySem.Value.bool Bool.true), (PySem.Value.int 181 0), (PySem.Value.ref 82), PySem.Value.none, (PySem.Value.ref 83), (PySem.Value.ref 84), (PySem.Value.ref 85), (PySem.Value.int 284 0), (PySem.Value.int 38 0), (PySem.Value.str (Str.ofString "/claim/cut.py") 285)]), #[]⟩) ::
  (nat_lit 87, ⟨(PySem.Value.type "function"), (Option.none ), PySem.Data.func (PySem.FuncData.mk (Str.ofString "collapsed") (Str.ofString "collapsed") A87 (PySem.FuncBody.stmts B87) S87 3 [] PySem.Value.none PySem.Value.none PySem.Value.none (PySem.Value.str (Str.ofString "markupmill.chars") 194) (Option.none ) (PySem.Value.ref 86) PySem.Value.none 0), #[]⟩) ::
  (nat_lit 88, ⟨(PySem.Value.type "tuple"), (Option.none ), (PySem.Data.seq #[(PySem.Value.str (Str.ofString "CDATA") 289), (PySem.Value.str (Str.ofString "IDREFS") 290), (PySem.Value.str (Str.ofString "IDREF") 291), (PySem.Value.str (Str.ofString "ID") 292), (PySem.Value.str (Str.ofString "ENTITIES") 293), (PySem.Value.str (Str.ofString "ENTITY") 294), (PySem.Value.str (Str.ofString "NMTOKENS") 295), (PySem.Value.str (Str.ofString "NMTOKEN") 296)] 0), #[]⟩) ::
  (nat_lit 89, ⟨(PySem.Value.type "tuple"), (Option.none ), (PySem.Data.seq #[] 0), #[]⟩) ::
  (nat_lit 91, ⟨(PySem.Value.type "tuple"), (Option.none ), (PySem.Data.seq #[(PySem.Value.str (Str.ofString "inner") 303), (PySem.Value.str (Str.ofString "is_notation") 304), (PySem.Value.str (Str.ofString "found") 305), (PySem.Value.str (Str.ofString "name") 306)] 0), #[]⟩) ::
  (nat_lit 92, ⟨(PySem.Value.type "tuple"), (Option.none ), (PySem.Data.seq #[] 0), #[]⟩) ::
  (nat_lit 94, ⟨(PySem.Value.type "code"), (Option.none ), (PySem.Data.fields #[(PySem.Value.str (Str.ofString "read_choices") 300), (PySem.Value.str (Str.ofString "read_choices") 301), (PySem.Value.str (Str.ofString "/claim/cut.py") 302), (PySem.Value.int 43 0), (PySem.Value.int 2 0), (PySem.Value.int 0 0), (PySem.Value.int 0 0), (PySem.Value.int 3 0), (PySem.Value.ref 89), (PySem.Value.bool Bool.true), (PySem.Value.int 181 0), (PySem.Value.ref 90), PySem.Value.none, (PySem.Value.ref 91), (PySem.Value.ref 92), (PySem.Value.ref 93), (PySem.Value.int 307 0), (PySem.Value.int 43 0), (PySem.Value.str (Str.ofString "/claim/cut.py") 308)]), #[]⟩) ::
  (nat_lit 95, ⟨(PySem.Value.type "function"), (Option.none ), PySem.Data.func (PySem.FuncData.mk (Str.ofString "read_choices") (Str.ofString "read_choices") A95 (PySem.FuncBody.stmts B95) S95 3 [] PySem.Value.none PySem.Value.none PySem.Value.none (PySem.Value.str (Str.ofString "markupmill.dtd_reader") 287) (Option.none ) (PySem.Value.ref 94) PySem.Value.none 0), #[]⟩) ::
  (nat_lit 96, ⟨(PySem.Value.type "tuple"), (Option.none ), (PySem.Data.seq #[] 0), #[]⟩) ::
  (nat_lit 98, ⟨(PySem.Value.type "tuple"), (Option.none ), (PySem.Data.seq #[(PySem.Value.str (Str.ofString "inner") 313), (PySem.Value.str (Str.ofString "begin") 314), (PySem.Value.str (Str.ofString "word") 315)] 0), #[]⟩) ::
  (nat_lit 99, ⟨(PySem.Value.type "tuple"), (Option.none ), (PySem.Data.seq #[] 0), #[]⟩) ::
  (nat_lit 101, ⟨(PySem.Value.type "code"), (Option.none ), (PySem.Data.fields #[(PySem.Value.str (Str.ofString "read_kind") 310), (PySem.Value.str (Str.ofString "read_kind") 311), (PySem.Value.str (Str.ofString "/claim/cut.py") 312), (PySem.Value.int 56 0), (PySem.Value.int 1 0), (PySem.Value.int 0 0), (PySem.Value.int 0 0), (PySem.Value.int 3 0), (PySem.Value.ref 96), (PySem.Value.bool Bool.true), (PySem.Value.int 181 0), (PySem.Value.ref 97), PySem.Value.none, (PySem.Value.ref 98), (PySem.Value.ref 99), (PySem.Value.ref 100), (PySem.Value.int 316 0), (PySem.Value.int 56 0), (PySem.Value.str (Str.ofString "/claim/cut.py") 317)]), #[]⟩) ::
  (nat_lit 102, ⟨(PySem.Value.type "function"), (Option.none ), PySem.Data.func (PySem.FuncData.mk (Str.ofString "read_kind") (Str.ofString "read_kind") A102 (PySem.FuncBody.stmts B102) S102 3 [] PySem.Value.none PySem.Value.none PySem.Value.none (PySem.Value.str (Str.ofString "markupmill.dtd_reader") 287) (Option.none ) (PySem.Value.ref 101) PySem.Value.none 0), #[]⟩) ::
  (nat_lit 103, ⟨(PySem.Value.type "tuple"), (Option.none ), (PySem.Data.seq #[] 0), #[]⟩) ::
  (nat_lit 105, ⟨(PySem.Value.type "tuple"), (Option.none ), (PySem.Data.seq #[(PySem.Value.str (Str.ofString "inner") 322), (PySem.Value.str (Str.ofString "text") 323), (PySem.Value.str (Str.ofString "sign") 324), (PySem.Value.str (Str.ofString "is_letter") 325)] 0), #[]⟩) ::
  (nat_lit 106, ⟨(PySem.Value.type "tuple"), (Option.none ), (PySem.Data.seq #[] 0), #[]⟩) ::
  (nat_lit 108, ⟨(PySem.Value.type "code"), (Option.none ), (PySem.Data.fields #[(PySem.Value.str (Str.ofString "public_name") 319), (PySem.Value.str (Str.ofString "public_name") 320), (PySem.Value.str (Str.ofString "/claim/cut.py") 321), (PySem.Value.int 67 0), (PySem.Value.int 2 0), (PySem.Value.int 0 0), (PySem.Value.int 0 0), (PySem.Value.int 3 0), (PySem.Value.ref 103), (PySem.Value.bool Bool.true), (PySem.Value.int 181 0), (PySem.Value.ref 104), PySem.Value.none, (PySem.Value.ref 105), (PySem.Value.ref 106), (PySem.Value.ref 107), (PySem.Value.int 326 0), (PySem.Value.int 67 0), (PySem.Value.str (Str.ofString "/claim/cut.py") 327)]), #[]⟩) ::
  (nat_lit 109, ⟨(PySem.Value.type "function"), (Option.none ), PySem.Data.func (PySem.FuncData.mk (Str.ofString "public_name") (Str.ofString "public_name") A109 (PySem.FuncBody.stmts B109) S109 3 [] PySem.Value.none PySem.Value.none PySem.Value.none (PySem.Value.str (Str.ofString "markupmill.dtd_reader") 287) (Option.none ) (PySem.Value.ref 108) PySem.Value.none 0), #[]⟩) ::
  (nat_lit 110, ⟨(PySem.Value.type "tuple"), (Option.none ), (PySem.Data.seq #[(PySem.Value.type "Exception")] 0), #[]⟩) ::
  (nat_lit 117, ⟨(PySem.Value.type "tuple"), (Option.none ), (PySem.Data.seq #[] 0), #[]⟩) ::
  (nat_lit 119, ⟨(PySem.Value.type "tuple"), (Option.none ), (PySem.Data.seq #[(PySem.Value.str (Str.ofString "self") 346), (PySem.Value.str (Str.ofString "message") 347)] 0), #[]⟩) ::
  (nat_lit 120, ⟨(PySem.Value.type "tuple"), (Option.none ), (PySem.Data.seq #[] 0), #[]⟩) ::
  (nat_lit 122, ⟨(PySem.Value.type "code"), (Option.none ), (PySem.Data.fields #[(PySem.Value.str (Str.ofString "__init__") 343), (PySem.Value.str (Str.ofString "MarkupError.__init__") 344), (PySem.Value.str (Str.ofString "/claim/cut.py") 345), (PySem.Value.int 76 0), (PySem.Value.int 2 0), (PySem.Value.int 0 0), (PySem.Value.int 0 0), (PySem.Value.int 3 0), (PySem.Value.ref 117), (PySem.Value.bool Bool.true), (PySem.Value.int 181 0), (PySem.Value.ref 118), PySem.Value.none, (PySem.Value.ref 119), (PySem.Value.ref 120), (PySem.Value.ref 121), (PySem.Value.int 348 0), (PySem.Value.int 76 0), (PySem.Value.str (Str.ofString "/claim/cut.py") 349)]), #[]⟩) ::
  (nat_lit 123, ⟨(PySem.Value.type "function"), (Option.none ), PySem.Data.func (PySem.FuncData.mk (Str.ofString "__init__") (Str.ofString "MarkupError.__init__") A123 (PySem.FuncBody.stmts B123) S123 3 [] PySem.Value.none PySem.Value.none PySem.Value.none (PySem.Value.str (Str.ofString "markupmill.errors") 329) (Option.none ) (PySem.Value.ref 122) PySem.Value.none 0), #[]⟩) ::
  (nat_lit 124, ⟨(PySem.Value.type "tuple"), (Option.none ), (PySem.Data.seq #[(PySem.Value.str (Str.ofString "message") 351)] 0), #[]⟩) ::
  (nat_lit 125, ⟨(PySem.Value.type "dict"), (Option.none ), (PySem.Data.dict #[(PySem.DictEntry.mk (PySem.PyData.keyHash P (Str.ofString "__module__")) (PySem.Value.str (Str.ofString "__module__") 338) (PySem.Value.str (Str.ofString "markupmill.errors") 329)), (PySem.DictEntry.mk (PySem.PyData.keyHash P (Str.ofString "__firstlineno__")) (PySem.Value.str (Str.ofString "__firstlineno__") 342) (PySem.Value.int 74 341)), (PySem.DictEntry.mk (PySem.PyData.keyHash P (Str.ofString "__init__")) (PySem.Value.str (Str.ofString "__init__") 350) (PySem.Value.ref 123)), (PySem.DictEntry.mk (PySem.PyData.keyHash P (Str.ofString "__static_attributes__")) (PySem.Value.str (Str.ofString "__static_attributes__") 352) (PySem.Value.ref 124)), (PySem.DictEntry.mk (PySem.PyData.keyHash P (Str.ofString "__weakref__")) (PySem.Value.str (Str.ofString "__weakref__") 354) (PySem.Value.ref 127)), (PySem.DictEntry.mk (PySem.PyData.keyHash P (Str.ofString "__doc__")) (PySem.Value.str (Str.ofString "__doc__") 355) PySem.Value.none)] 3), #[]⟩) ::
  (nat_lit 126, ⟨(PySem.Value.type "type"), (Option.none ), (PySem.Data.cls (PySem.ClassData.mk (Str.ofString "MarkupError") [(PySem.Value.type "Exception")] [(PySem.Value.ref 126), (PySem.Value.type "Exception"), (PySem.Value.type "BaseException"), (PySem.Value.type "object")] 125 (Str.ofString "MarkupError") Bool.true [] [(PySem.Value.ref 147)] Bool.false (Option.none ) Bool.false)), #[(Option.some (PySem.Value.ref 110)), (Option.none ), (Option.some (PySem.Value.str (Str.ofString "MarkupError") 331)), (Option.some (PySem.Value.str (Str.ofString "MarkupError") 339)), (Option.some (PySem.Value.builtin "Exception.__new__")), (Option.some (PySem.Value.bool Bool.true))]⟩) ::
  (nat_lit 127, ⟨(PySem.Value.type "getset_descriptor"), (Option.none ), (PySem.Data.fields #[(PySem.Value.str (Str.ofString "__weakref__") 353), (PySem.Value.ref 126), (PySem.Value.builtin "ExceptionGroup.__weakref__"), PySem.Value.none]), #[]⟩) ::
  (nat_lit 130, ⟨(PySem.Value.type "tuple"), (Option.none ), (PySem.Data.seq #[(PySem.Value.ref 126)] 0), #[]⟩) ::
  (nat_lit 137, ⟨(PySem.Value.type "tuple"), (Option.none ), (PySem.Data.seq #[(PySem.Value.int 0 372)] 0), #[]⟩) ::
  (nat_lit 138, ⟨(PySem.Value.type "tuple"), (Option.none ), (PySem.Data.seq #[] 0), #[]⟩) ::
  (nat_lit 140, ⟨(PySem.Value.type "tuple"), (Option.none ), (PySem.Data.seq #[(PySem.Value.str (Str.ofString "self") 376), (PySem.Value.str (Str.ofString "message") 377), (PySem.Value.str (Str.ofString "place") 378)] 0), #[]⟩) ::
  (nat_lit 141, ⟨(PySem.Value.type "tuple"), (Option.none ), (PySem.Data.seq #[] 0), #[]⟩) ::
  (nat_lit 143, ⟨(PySem.Value.type "code"), (Option.none ), (PySem.Data.fields #[(PySem.Value.str (Str.ofString "__init__") 373), (PySem.Value.str (Str.ofString "DtdFault.__init__") 374), (PySem.Value.str (Str.ofString "/claim/cut.py") 375), (PySem.Value.int 81 0), (PySem.Value.int 3 0), (PySem.Value.int 0 0), (PySem.Value.int 0 0), (PySem.Value.int 3 0), (PySem.Value.ref 138), (PySem.Value.bool Bool.true), (PySem.Value.int 181 0), (PySem.Value.ref 139), PySem.Value.none, (PySem.Value.ref 140), (PySem.Value.ref 141), (PySem.Value.ref 142), (PySem.Value.int 379 0), (PySem.Value.int 81 0), (PySem.Value.str (Str.ofString "/claim/cut.py") 380)]), #[]⟩) ::
  (nat_lit 144, ⟨(PySem.Value.type "function"), (Option.none ), PySem.Data.func (PySem.FuncData.mk (Str.ofString "__init__") (Str.ofString "DtdFault.__init__") A144 (PySem.FuncBody.stmts B144) S144 3 [] (PySem.Value.ref 137) PySem.Value.none PySem.Value.none (PySem.Value.str (Str.ofString "markupmill.errors") 329) (Option.none ) (PySem.Value.ref 143) PySem.Value.none 0), #[]⟩) ::
  (nat_lit 145, ⟨(PySem.Value.type "tuple"), (Option.none ), (PySem.Data.seq #[(PySem.Value.str (Str.ofString "place") 382)] 0), #[]⟩) ::
  (nat_lit 146, ⟨(PySem.Value.type "dict"), (Option.none ), (PySem.Data.dict #[(PySem.DictEntry.mk (PySem.PyData.keyHash P (Str.ofString "__module__")) (PySem.Value.str (Str.ofString "__module__") 367) (PySem.Value.str (Str.ofString "markupmill.errors") 329)), (PySem.DictEntry.mk (PySem.PyData.keyHash P (Str.ofString "__firstlineno__")) (PySem.Value.str (Str.ofString "__firstlineno__") 371) (PySem.Value.int 79 370)), (PySem.DictEntry.mk (PySem.PyData.keyHash P (Str.ofString "__init__")) (PySem.Value.str (Str.ofString "__init__") 381) (PySem.Value.ref 144)), (PySem.DictEntry.mk (PySem.PyData.keyHash P (Str.ofString "__static_attributes__")) (PySem.Value.str (Str.ofString "__static_attributes__") 383) (PySem.Value.ref 145)), (PySem.DictEntry.mk (PySem.PyData.keyHash P (Str.ofString "__doc__")) (PySem.Value.str (Str.ofString "__doc__") 384) PySem.Value.none)] 2), #[]⟩) ::
  (nat_lit 147, ⟨(PySem.Value.type "type"), (Option.none ), (PySem.Data.cls (PySem.ClassData.mk (Str.ofString "DtdFault") [(PySem.Value.ref 126)] [(PySem.Value.ref 147), (PySem.Value.ref 126), (PySem.Value.type "Exception"), (PySem.Value.type "BaseException"), (PySem.Value.type "object")] 146 (Str.ofString "DtdFault") Bool.true [] [] Bool.false (Option.none ) Bool.false)), #[(Option.some (PySem.Value.ref 130)), (Option.none ), (Option.some (PySem.Value.str (Str.ofString "DtdFault") 360)), (Option.some (PySem.Value.str (Str.ofString "DtdFault") 368)), (Option.some (PySem.Value.builtin "Exception.__new__")), (Option.some (PySem.Value.bool Bool.true))]⟩) ::
  (nat_lit 157, ⟨(PySem.Value.type "tuple"), (Option.none ), (PySem.Data.seq #[(PySem.Value.int 0 401), (PySem.Value.bool Bool.true)] 0), #[]⟩) ::
  (nat_lit 158, ⟨(PySem.Value.type "tuple"), (Option.none ), (PySem.Data.seq #[] 0), #[]⟩) ::
  (nat_lit 160, ⟨(PySem.Value.type "tuple"), (Option.none ), (PySem.Data.seq #[(PySem.Value.str (Str.ofString "self") 405), (PySem.Value.str (Str.ofString "text") 406), (PySem.Value.str (Str.ofString "begin") 407), (PySem.Value.str (Str.ofString "is_whole") 408)] 0), #[]⟩) ::
  (nat_lit 161, ⟨(PySem.Value.type "tuple"), (Option.none ), (PySem.Data.seq #[] 0), #[]⟩) ::
  (nat_lit 163, ⟨(PySem.Value.type "code"), (Option.none ), (PySem.Data.fields #[(PySem.Value.str (Str.ofString "__init__") 402), (PySem.Value.str (Str.ofString "DtdScanner.__init__") 403), (PySem.Value.str (Str.ofString "/claim/cut.py") 404), (PySem.Value.int 87 0), (PySem.Value.int 4 0), (PySem.Value.int 0 0), (PySem.Value.int 0 0), (PySem.Value.int 3 0), (PySem.Value.ref 158), (PySem.Value.bool Bool.true), (PySem.Value.int 181 0), (PySem.Value.ref 159), PySem.Value.none, (PySem.Value.ref 160), (PySem.Value.ref 161), (PySem.Value.ref 162), (PySem.Value.int 409 0), (PySem.Value.int 87 0), (PySem.Value.str (Str.ofString "/claim/cut.py") 410)]), #[]⟩) ::
  (nat_lit 164, ⟨(PySem.Value.type "function"), (Option.none ), PySem.Data.func (PySem.FuncData.mk (Str.ofString "__init__") (Str.ofString "DtdScanner.__init__") A164 (PySem.FuncBody.stmts B164) S164 3 [] (PySem.Value.ref 157) PySem.Value.none PySem.Value.none (PySem.Value.str (Str.ofString "markupmill.dtd_words") 387) (Option.none ) (PySem.Value.ref 163) PySem.Value.none 0), #[]⟩) ::
  (nat_lit 165, ⟨(PySem.Value.type "tuple"), (Option.none ), (PySem.Data.seq #[] 0), #[]⟩) ::
  (nat_lit 167, ⟨(PySem.Value.type "tuple"), (Option.none ), (PySem.Data.seq #[(PySem.Value.str (Str.ofString "self") 415), (PySem.Value.str (Str.ofString "at") 416)] 0), #[]⟩) ::
  (nat_lit 168, ⟨(PySem.Value.type "tuple"), (Option.none ), (PySem.Data.seq #[] 0), #[]⟩) ::
  (nat_lit 170, ⟨(PySem.Value.type "code"), (Option.none ), (PySem.Data.fields #[(PySem.Value.str (Str.ofString "place_of") 412), (PySem.Value.str (Str.ofString "DtdScanner.place_of") 413), (PySem.Value.str (Str.ofString "/claim/cut.py") 414), (PySem.Value.int 93 0), (PySem.Value.int 2 0), (PySem.Value.int 0 0), (PySem.Value.int 0 0), (PySem.Value.int 3 0), (PySem.Value.ref 165), (PySem.Value.bool Bool.true), (PySem.Value.int 181 0), (PySem.Value.ref 166), PySem.Value.none, (PySem.Value.ref 167), (PySem.Value.ref 168), (PySem.Value.ref 169), (PySem.Value.int 417 0), (PySem.Value.int 93 0), (PySem.Value.str (Str.ofString "/claim/cut.py") 418)]), #[]⟩) ::
  (nat_lit 171, ⟨(PySem.Value.type "function"), (Option.none ), PySem.Data.func (PySem.FuncData.mk (Str.ofString "place_of") (Str.ofString "DtdScanner.place_of") A171 (PySem.FuncBody.stmts B171) S171 3 [] PySem.Value.none PySem.Value.none PySem.Value.none (PySem.Value.str (Str.ofString "markupmill.dtd_words") 387) (Option.none ) (PySem.Value.ref 170) PySem.Value.none 0), #[]⟩) ::
  (nat_lit 172, ⟨(PySem.Value.type "tuple"), (Option.none ), (PySem.Data.seq #[] 0), #[]⟩) ::
  (nat_lit 174, ⟨(PySem.Value.type "tuple"), (Option.none ), (PySem.Data.seq #[(PySem.Value.str (Str.ofString "self") 423), (PySem.Value.str (Str.ofString "message") 424), (PySem.Value.str (Str.ofString "at") 425)] 0), #[]⟩) ::
  (nat_lit 175, ⟨(PySem.Value.type "tuple"), (Option.none ), (PySem.Data.seq #[] 0), #[]⟩) ::
  (nat_lit 177, ⟨(PySem.Value.type "code"), (Option.none ), (PySem.Data.fields #[(PySem.Value.str (Str.ofString "fault_at") 420), (PySem.Value.str (Str.ofString "DtdScanner.fault_at") 421), (PySem.Value.str (Str.ofString "/claim/cut.py") 422), (PySem.Value.int 96 0), (PySem.Value.int 3 0), (PySem.Value.int 0 0), (PySem.Value.int 0 0), (PySem.Value.int 3 0), (PySem.Value.ref 172), (PySem.Value.bool Bool.true), (PySem.Value.int 181 0), (PySem.Value.ref 173), PySem.Value.none, (PySem.Value.ref 174), (PySem.Value.ref 175), (PySem.Value.ref 176), (PySem.Value.int 426 0), (PySem.Value.int 96 0), (PySem.Value.str (Str.ofString "/claim/cut.py") 427)]), #[]⟩) ::
  (nat_lit 178, ⟨(PySem.Value.type "function"), (Option.none ), PySem.Data.func (PySem.FuncData.mk (Str.ofString "fault_at") (Str.ofString "DtdScanner.fault_at") A178 (PySem.FuncBody.stmts B178) S178 3 [] PySem.Value.none PySem.Value.none PySem.Value.none (PySem.Value.str (Str.ofString "markupmill.dtd_words") 387) (Option.none ) (PySem.Value.ref 177) PySem.Value.none 0), #[]⟩) ::
  (nat_lit 179, ⟨(PySem.Value.type "tuple"), (Option.none ), (PySem.Data.seq #[] 0), #[]⟩) ::
  (nat_lit 181, ⟨(PySem.Value.type "tuple"), (Option.none ), (PySem.Data.seq #[(PySem.Value.str (Str.ofString "self") 432), (PySem.Value.str (Str.ofString "message") 433)] 0), #[]⟩) ::
  (nat_lit 182, ⟨(PySem.Value.type "tuple"), (Option.none ), (PySem.Data.seq #[] 0), #[]⟩) ::
  (nat_lit 184, ⟨(PySem.Value.type "code"), (Option.none ), (PySem.Data.fields #[(PySem.Value.str (Str.ofString "fault") 429), (PySem.Value.str (Str.ofString "DtdScanner.fault") 430), (PySem.Value.str (Str.ofString "/claim/cut.py") 431), (PySem.Value.int 99 0), (PySem.Value.int 2 0), (PySem.Value.int 0 0), (PySem.Value.int 0 0), (PySem.Value.int 3 0), (PySem.Value.ref 179), (PySem.Value.bool Bool.true), (PySem.Value.int 181 0), (PySem.Value.ref 180), PySem.Value.none, (PySem.Value.ref 181), (PySem.Value.ref 182), (PySem.Value.ref 183), (PySem.Value.int 434 0), (PySem.Value.int 99 0), (PySem.Value.str (Str.ofString "/claim/cut.py") 435)]), #[]⟩) ::
  (nat_lit 185, ⟨(PySem.Value.type "function"), (Option.none ), PySem.Data.func (PySem.FuncData.mk (Str.ofString "fault") (Str.ofString "DtdScanner.fault") A185 (PySem.FuncBody.stmts B185) S185 3 [] PySem.Value.none PySem.Value.none PySem.Value.none (PySem.Value.str (Str.ofString "markupmill.dtd_words") 387) (Option.none ) (PySem.Value.ref 184) PySem.Value.none 0), #[]⟩) ::
  (nat_lit 186, ⟨(PySem.Value.type "tuple"), (Option.none ), (PySem.Data.seq #[] 0), #[]⟩) ::
  (nat_lit 188, ⟨(PySem.Value.type "tuple"), (Option.none ), (PySem.Data.seq #[(PySem.Value.str (Str.ofString "self") 440)] 0), #[]⟩) ::
  (nat_lit 189, ⟨(PySem.Value.type "tuple"), (Option.none ), (PySem.Data.seq #[] 0), #[]⟩) ::
  (nat_lit 191, ⟨(PySem.Value.type "code"), (Option.none ), (PySem.Data.fields #[(PySem.Value.str (Str.ofString "is_over") 437), (PySem.Value.str (Str.ofString "DtdScanner.is_over") 438), (PySem.Value.str (Str.ofString "/claim/cut.py") 439), (PySem.Value.int 102 0), (PySem.Value.int 1 0), (PySem.Value.int 0 0), (PySem.Value.int 0 0), (PySem.Value.int 3 0), (PySem.Value.ref 186), (PySem.Value.bool Bool.true), (PySem.Value.int 181 0), (PySem.Value.ref 187), PySem.Value.none, (PySem.Value.ref 188), (PySem.Value.ref 189), (PySem.Value.ref 190), (PySem.Value.int 441 0), (PySem.Value.int 102 0), (PySem.Value.str (Str.ofString "/claim/cut.py") 442)]), #[]⟩) ::
  (nat_lit 192, ⟨(PySem.Value.type "function"), (Option.none ), PySem.Data.func (PySem.FuncData.mk (Str.ofString "is_over") (Str.ofString "DtdScanner.is_over") A192 (PySem.FuncBody.stmts B192) S192 3 [] PySem.Value.none PySem.Value.none PySem.Value.none (PySem.Value.str (Str.ofString "markupmill.dtd_words") 387) (Option.none ) (PySem.Value.ref 191) PySem.Value.none 0), #[]⟩) ::
  (nat_lit 193, ⟨(PySem.Value.type "tuple"), (Option.none ), (PySem.Data.seq #[] 0), #[]⟩) ::
  (nat_lit 195, ⟨(PySem.Value.type "tuple"), (Option.none ), (PySem.Data.seq #[(PySem.Value.str (Str.ofString "self") 447), (PySem.Value.str (Str.ofString "word") 448)] 0), #[]⟩) ::
  (nat_lit 196, ⟨(PySem.Value.type "tuple"), (Option.none ), (PySem.Data.seq #[] 0), #[]⟩) ::
  (nat_lit 198, ⟨(PySem.Value.type "code"), (Option.none ), (PySem.Data.fields #[(PySem.Value.str (Str.ofString "looks") 444), (PySem.Value.str (Str.ofString "DtdScanner.looks") 445), (PySem.Value.str (Str.ofString "/claim/cut.py") 446), (PySem.Value.int 105 0), (PySem.Value.int 2 0), (PySem.Value.int 0 0), (PySem.Value.int 0 0), (PySem.Value.int 3 0), (PySem.Value.ref 193), (PySem.Value.bool Bool.true), (PySem.Value.int 181 0), (PySem.Value.ref 194), PySem.Value.none, (PySem.Value.ref 195), (PySem.Value.ref 196), (PySem.Value.ref 197), (PySem.Value.int 449 0), (PySem.Value.int 105 0), (PySem.Value.str (Str.ofString "/claim/cut.py") 450)]), #[]⟩) ::
  (nat_lit 199, ⟨(PySem.Value.type "function"), (Option.none ), PySem.Data.func (PySem.FuncData.mk (Str.ofString "looks") (Str.ofString "DtdScanner.looks") A199 (PySem.FuncBody.stmts B199) S199 3 [] PySem.Value.none PySem.Value.none PySem.Value.none (PySem.Value.str (Str.ofString "markupmill.dtd_words") 387) (Option.none ) (PySem.Value.ref 198) PySem.Value.none 0), #[]⟩) ::
  (nat_lit 200, ⟨(PySem.Value.type "tuple"), (Option.none ), (PySem.Data.seq #[] 0), #[]⟩) ::
  (nat_lit 202, ⟨(PySem.Value.type "tuple"), (Option.none ), (PySem.Data.seq #[(PySem.Value.str (Str.ofString "self") 455), (PySem.Value.str (Str.ofString "word") 456)] 0), #[]⟩) ::
  (nat_lit 203, ⟨(PySem.Value.type "tuple"), (Option.none ), (PySem.Data.seq #[] 0), #[]⟩) ::
  (nat_lit 205, ⟨(PySem.Value.type "code"), (Option.none ), (PySem.Data.fields #[(PySem.Value.str (Str.ofString "takes") 452), (PySem.Value.str (Str.ofString "DtdScanner.takes") 453), (PySem.Value.str (Str.ofString "/claim/cut.py") 454), (PySem.Value.int 108 0), (PySem.Value.int 2 0), (PySem.Value.int 0 0), (PySem.Value.int 0 0), (PySem.Value.int 3 0), (PySem.Value.ref 200), (PySem.Value.bool Bool.true), (PySem.Value.int 181 0), (PySem.Value.ref 201), PySem.Value.none, (PySem.Value.ref 202), (PySem.Value.ref 203), (PySem.Value.ref 204), (PySem.Value.int 457 0), (PySem.Value.int 108 0), (PySem.Value.str (Str.ofString "/claim/cut.py") 458)]), #[]⟩) ::
  (nat_lit 206, ⟨(PySem.Value.type "function"), (Option.none ), PySem.Data.func (PySem.FuncData.mk (Str.ofString "takes") (Str.ofString "DtdScanner.takes") A206 (PySem.FuncBody.stmts B206) S206 3 [] PySem.Value.none PySem.Value.none PySem.Value.none (PySem.Value.str (Str.ofString "markupmill.dtd_words") 387) (Option.none ) (PySem.Value.ref 205) PySem.Value.none 0), #[]⟩) ::
  (nat_lit 207, ⟨(PySem.Value.type "tuple"), (Option.none ), (PySem.Data.seq #[] 0), #[]⟩) ::
  (nat_lit 209, ⟨(PySem.Value.type "tuple"), (Option.none ), (PySem.Data.seq #[(PySem.Value.str (Str.ofString "self") 463), (PySem.Value.str (Str.ofString "word") 464)] 0), #[]⟩) ::
  (nat_lit 210, ⟨(PySem.Value.type "tuple"), (Option.none ), (PySem.Data.seq #[] 0), #[]⟩) ::
  (nat_lit 212, ⟨(PySem.Value.type "code"), (Option.none ), (PySem.Data.fields #[(PySem.Value.str (Str.ofString "expect") 460), (PySem.Value.str (Str.ofString "DtdScanner.expect") 461), (PySem.Value.str (Str.ofString "/claim/cut.py") 462), (PySem.Value.int 114 0), (PySem.Value.int 2 0), (PySem.Value.int 0 0), (PySem.Value.int 0 0), (PySem.Value.int 3 0), (PySem.Value.ref 207), (PySem.Value.bool Bool.true), (PySem.Value.int 181 0), (PySem.Value.ref 208), PySem.Value.none, (PySem.Value.ref 209), (PySem.Value.ref 210), (PySem.Value.ref 211), (PySem.Value.int 465 0), (PySem.Value.int 114 0), (PySem.Value.str (Str.ofString "/claim/cut.py") 466)]), #[]⟩) ::
  (nat_lit 213, ⟨(PySem.Value.type "function"), (Option.none ), PySem.Data.func (PySem.FuncData.mk (Str.ofString "expect") (Str.ofString "DtdScanner.expect") A213 (PySem.FuncBody.stmts B213) S213 3 [] PySem.Value.none PySem.Value.none PySem.Value.none (PySem.Value.str (Str.ofString "markupmill.dtd_words") 387) (Option.none ) (PySem.Value.ref 212) PySem.Value.none 0), #[]⟩) ::
  (nat_lit 214, ⟨(PySem.Value.type "tuple"), (Option.none ), (PySem.Data.seq #[] 0), #[]⟩) ::
  (nat_lit 216, ⟨(PySem.Value.type "tuple"), (Option.none ), (PySem.Data.seq #[(PySem.Value.str (Str.ofString "self") 471), (PySem.Value.str (Str.ofString "begin") 472)] 0), #[]⟩) ::
  (nat_lit 217, ⟨(PySem.Value.type "tuple"), (Option.none ), (PySem.Data.seq #[] 0), #[]⟩) ::
  (nat_lit 219, ⟨(PySem.Value.type "code"), (Option.none ), (PySem.Data.fields #[(PySem.Value.str (Str.ofString "spaces") 468), (PySem.Value.str (Str.ofString "DtdScanner.spaces") 469), (PySem.Value.str (Str.ofString "/claim/cut.py") 470), (PySem.Value.int 118 0), (PySem.Value.int 1 0), (PySem.Value.int 0 0), (PySem.Value.int 0 0), (PySem.Value.int 3 0), (PySem.Value.ref 214), (PySem.Value.bool Bool.true), (PySem.Value.int 181 0), (PySem.Value.ref 215), PySem.Value.none, (PySem.Value.ref 216), (PySem.Value.ref 217), (PySem.Value.ref 218), (PySem.Value.int 473 0), (PySem.Value.int 118 0), (PySem.Value.str (Str.ofString "/claim/cut.py") 474)]), #[]⟩) ::
  (nat_lit 220, ⟨(PySem.Value.type "function"), (Option.none ), PySem.Data.func (PySem.FuncData.mk (Str.ofString "spaces") (Str.ofString "DtdScanner.spaces") A220 (PySem.FuncBody.stmts B220) S220 3 [] PySem.Value.none PySem.Value.none PySem.Value.none (PySem.Value.str (Str.ofString "markupmill.dtd_words") 387) (Option.none ) (PySem.Value.ref 219) PySem.Value.none 0), #[]⟩) ::
  (nat_lit 221, ⟨(PySem.Value.type "tuple"), (Option.none ), (PySem.Data.seq #[] 0), #[]⟩) ::
  (nat_lit 223, ⟨(PySem.Value.type "tuple"), (Option.none ), (PySem.Data.seq #[(PySem.Value.str (Str.ofString "self") 479)] 0), #[]⟩) ::
  (nat_lit 224, ⟨(PySem.Value.type "tuple"), (Option.none ), (PySem.Data.seq #[] 0), #[]⟩) ::
  (nat_lit 226, ⟨(PySem.Value.type "code"), (Option.none ), (PySem.Data.fields #[(PySem.Value.str (Str.ofString "need_spaces") 476), (PySem.Value.str (Str.ofString "DtdScanner.need_spaces") 477), (PySem.Value.str (Str.ofString "/claim/cut.py") 478), (PySem.Value.int 124 0), (PySem.Value.int 1 0), (PySem.Value.int 0 0), (PySem.Value.int 0 0), (PySem.Value.int 3 0), (PySem.Value.ref 221), (PySem.Value.bool Bool.true), (PySem.Value.int 181 0), (PySem.Value.ref 222), PySem.Value.none, (PySem.Value.ref 223), (PySem.Value.ref 224), (PySem.Value.ref 225), (PySem.Value.int 480 0), (PySem.Value.int 124 0), (PySem.Value.str (Str.ofString "/claim/cut.py") 481)]), #[]⟩) ::
  (nat_lit 227, ⟨(PySem.Value.type "function"), (Option.none ), PySem.Data.func (PySem.FuncData.mk (Str.ofString "need_spaces") (Str.ofString "DtdScanner.need_spaces") A227 (PySem.FuncBody.stmts B227) S227 3 [] PySem.Value.none PySem.Value.none PySem.Value.none (PySem.Value.str (Str.ofString "markupmill.dtd_words") 387) (Option.none ) (PySem.Value.ref 226) PySem.Value.none 0), #[]⟩) ::
  (nat_lit 228, ⟨(PySem.Value.type "tuple"), (Option.none ), (PySem.Data.seq #[] 0), #[]⟩) ::
  (nat_lit 230, ⟨(PySem.Value.type "tuple"), (Option.none ), (PySem.Data.seq #[(PySem.Value.str (Str.ofString "self") 486)] 0), #[]⟩) ::
  (nat_lit 231, ⟨(PySem.Value.type "tuple"), (Option.none ), (PySem.Data.seq #[] 0), #[]⟩) ::
  (nat_lit 233, ⟨(PySem.Value.type "code"), (Option.none ), (PySem.Data.fields #[(PySem.Value.str (Str.ofString "looks_at_name") 483), (PySem.Value.str (Str.ofString "DtdScanner.looks_at_name") 484), (PySem.Value.str (Str.ofString "/claim/cut.py") 485), (PySem.Value.int 128 0), (PySem.Value.int 1 0), (PySem.Value.int 0 0), (PySem.Value.int 0 0), (PySem.Value.int 3 0), (PySem.Value.ref 228), (PySem.Value.bool Bool.true), (PySem.Value.int 181 0), (PySem.Value.ref 229), PySem.Value.none, (PySem.Value.ref 230), (PySem.Value.ref 231), (PySem.Value.ref 232), (PySem.Value.int 487 0), (PySem.Value.int 128 0), (PySem.Value.str (Str.ofString "/claim/cut.py") 488)]), #[]⟩) ::
  (nat_lit 234, ⟨(PySem.Value.type "function"), (Option.none ), PySem.Data.func (PySem.FuncData.mk (Str.ofString "looks_at_name") (Str.ofString "DtdScanner.looks_at_name") A234 (PySem.FuncBody.stmts B234) S234 3 [] PySem.Value.none PySem.Value.none PySem.Value.none (PySem.Value.str (Str.ofString "markupmill.dtd_words") 387) (Option.none ) (PySem.Value.ref 233) PySem.Value.none 0), #[]⟩) ::
  (nat_lit 235, ⟨(PySem.Value.type "tuple"), (Option.none ), (PySem.Data.seq #[] 0), #[]⟩) ::
  (nat_lit 237, ⟨(PySem.Value.type "tuple"), (Option.none ), (PySem.Data.seq #[(PySem.Value.str (Str.ofString "self") 493), (PySem.Value.str (Str.ofString "begin") 494)] 0), #[]⟩) ::
  (nat_lit 238, ⟨(PySem.Value.type "tuple"), (Option.none ), (PySem.Data.seq #[] 0), #[]⟩) ::
  (nat_lit 240, ⟨(PySem.Value.type "code"), (Option.none ), (PySem.Data.fields #[(PySem.Value.str (Str.ofString "token") 490), (PySem.Value.str (Str.ofString "DtdScanner.token") 491), (PySem.Value.str (Str.ofString "/claim/cut.py") 492), (PySem.Value.int 131 0), (PySem.Value.int 1 0), (PySem.Value.int 0 0), (PySem.Value.int 0 0), (PySem.Value.int 3 0), (PySem.Value.ref 235), (PySem.Value.bool Bool.true), (PySem.Value.int 181 0), (PySem.Value.ref 236), PySem.Value.none, (PySem.Value.ref 237), (PySem.Value.ref 238), (PySem.Value.ref 239), (PySem.Value.int 495 0), (PySem.Value.int 131 0), (PySem.Value.str (Str.ofString "/claim/cut.py") 496)]), #[]⟩) ::
  (nat_lit 241, ⟨(PySem.Value.type "function"), (Option.none ), PySem.Data.func (PySem.FuncData.mk (Str.ofString "token") (Str.ofString "DtdScanner.token") A241 (PySem.FuncBody.stmts B241) S241 3 [] PySem.Value.none PySem.Value.none PySem.Value.none (PySem.Value.str (Str.ofString "markupmill.dtd_words") 387) (Option.none ) (PySem.Value.ref 240) PySem.Value.none 0), #[]⟩) ::
  (nat_lit 242, ⟨(PySem.Value.type "tuple"), (Option.none ), (PySem.Data.seq #[] 0), #[]⟩) ::
  (nat_lit 244, ⟨(PySem.Value.type "tuple"), (Option.none ), (PySem.Data.seq #[(PySem.Value.str (Str.ofString "self") 501)] 0), #[]⟩) ::
  (nat_lit 245, ⟨(PySem.Value.type "tuple"), (Option.none ), (PySem.Data.seq #[] 0), #[]⟩) ::
  (nat_lit 247, ⟨(PySem.Value.type "code"), (Option.none ), (PySem.Data.fields #[(PySem.Value.str (Str.ofString "name") 498), (PySem.Value.str (Str.ofString "DtdScanner.name") 499), (PySem.Value.str (Str.ofString "/claim/cut.py") 500), (PySem.Value.int 139 0), (PySem.Value.int 1 0), (PySem.Value.int 0 0), (PySem.Value.int 0 0), (PySem.Value.int 3 0), (PySem.Value.ref 242), (PySem.Value.bool Bool.true), (PySem.Value.int 181 0), (PySem.Value.ref 243), PySem.Value.none, (PySem.Value.ref 244), (PySem.Value.ref 245), (PySem.Value.ref 246), (PySem.Value.int 502 0), (PySem.Value.int 139 0), (PySem.Value.str (Str.ofString "/claim/cut.py") 503)]), #[]⟩) ::
  (nat_lit 248, ⟨(PySem.Value.type "function"), (Option.none ), PySem.Data.func (PySem.FuncData.mk (Str.ofString "name") (Str.ofString "DtdScanner.name") A248 (PySem.FuncBody.stmts B248) S248 3 [] PySem.Value.none PySem.Value.none PySem.Value.none (PySem.Value.str (Str.ofString "markupmill.dtd_words") 387) (Option.none ) (PySem.Value.ref 247) PySem.Value.none 0), #[]⟩) ::
  (nat_lit 249, ⟨(PySem.Value.type "tuple"), (Option.none ), (PySem.Data.seq #[] 0), #[]⟩) ::
  (nat_lit 251, ⟨(PySem.Value.type "tuple"), (Option.none ), (PySem.Data.seq #[(PySem.Value.str (Str.ofString "self") 508), (PySem.Value.str (Str.ofString "word") 509)] 0), #[]⟩) ::
  (nat_lit 252, ⟨(PySem.Value.type "tuple"), (Option.none ), (PySem.Data.seq #[] 0), #[]⟩) ::
  (nat_lit 254, ⟨(PySem.Value.type "code"), (Option.none ), (PySem.Data.fields #[(PySem.Value.str (Str.ofString "until") 505), (PySem.Value.str (Str.ofString "DtdScanner.until") 506), (PySem.Value.str (Str.ofString "/claim/cut.py") 507), (PySem.Value.int 144 0), (PySem.Value.int 2 0), (PySem.Value.int 0 0), (PySem.Value.int 0 0), (PySem.Value.int 3 0), (PySem.Value.ref 249), (PySem.Value.bool Bool.true), (PySem.Value.int 181 0), (PySem.Value.ref 250), PySem.Value.none, (PySem.Value.ref 251), (PySem.Value.ref 252), (PySem.Value.ref 253), (PySem.Value.int 510 0), (PySem.Value.int 144 0), (PySem.Value.str (Str.ofString "/claim/cut.py") 511)]), #[]⟩) ::
  (nat_lit 255, ⟨(PySem.Value.type "function"), (Option.none ), PySem.Data.func (PySem.FuncData.mk (Str.ofString "until") (Str.ofString "DtdScanner.until") A255 (PySem.FuncBody.stmts B255) S255 3 [] PySem.Value.none PySem.Value.none PySem.Value.none (PySem.Value.str (Str.ofString "markupmill.dtd_words") 387) (Option.none ) (PySem.Value.ref 254) PySem.Value.none 0), #[]⟩) ::
  (nat_lit 256, ⟨(PySem.Value.type "tuple"), (Option.none ), (PySem.Data.seq #[] 0), #[]⟩) ::
  (nat_lit 258, ⟨(PySem.Value.type "tuple"), (Option.none ), (PySem.Data.seq #[(PySem.Value.str (Str.ofString "self") 516)] 0), #[]⟩) ::
  (nat_lit 259, ⟨(PySem.Value.type "tuple"), (Option.none ), (PySem.Data.seq #[] 0), #[]⟩) ::
  (nat_lit 261, ⟨(PySem.Value.type "code"), (Option.none ), (PySem.Data.fields #[(PySem.Value.str (Str.ofString "quoted") 513), (PySem.Value.str (Str.ofString "DtdScanner.quoted") 514), (PySem.Value.str (Str.ofString "/claim/cut.py") 515), (PySem.Value.int 147 0), (PySem.Value.int 1 0), (PySem.Value.int 0 0), (PySem.Value.int 0 0), (PySem.Value.int 3 0), (PySem.Value.ref 256), (PySem.Value.bool Bool.true), (PySem.Value.int 181 0), (PySem.Value.ref 257), PySem.Value.none, (PySem.Value.ref 258), (PySem.Value.ref 259), (PySem.Value.ref 260), (PySem.Value.int 517 0), (PySem.Value.int 147 0), (PySem.Value.str (Str.ofString "/claim/cut.py") 518)]), #[]⟩) ::
  (nat_lit 262, ⟨(PySem.Value.type "function"), (Option.none ), PySem.Data.func (PySem.FuncData.mk (Str.ofString "quoted") (Str.ofString "DtdScanner.quoted") A262 (PySem.FuncBody.stmts B262) S262 3 [] PySem.Value.none PySem.Value.none PySem.Value.none (PySem.Value.str (Str.ofString "markupmill.dtd_words") 387) (Option.none ) (PySem.Value.ref 261) PySem.Value.none 0), #[]⟩) ::
  (nat_lit 263, ⟨(PySem.Value.type "tuple"), (Option.none ), (PySem.Data.seq #[] 0), #[]⟩) ::
  (nat_lit 265, ⟨(PySem.Value.type "tuple"), (Option.none ), (PySem.Data.seq #[(PySem.Value.str (Str.ofString "self") 523)] 0), #[]⟩) ::
  (nat_lit 266, ⟨(PySem.Value.type "tuple"), (Option.none ), (PySem.Data.seq #[] 0), #[]⟩) ::
  (nat_lit 268, ⟨(PySem.Value.type "code"), (Option.none ), (PySem.Data.fields #[(PySem.Value.str (Str.ofString "end") 520), (PySem.Value.str (Str.ofString "DtdScanner.end") 521), (PySem.Value.str (Str.ofString "/claim/cut.py") 522), (PySem.Value.int 150 0), (PySem.Value.int 1 0), (PySem.Value.int 0 0), (PySem.Value.int 0 0), (PySem.Value.int 3 0), (PySem.Value.ref 263), (PySem.Value.bool Bool.true), (PySem.Value.int 181 0), (PySem.Value.ref 264), PySem.Value.none, (PySem.Value.ref 265), (PySem.Value.ref 266), (PySem.Value.ref 267), (PySem.Value.int 524 0), (PySem.Value.int 150 0), (PySem.Value.str (Str.ofString "/claim/cut.py") 525)]), #[]⟩) ::
  (nat_lit 269, ⟨(PySem.Value.type "function"), (Option.none ), PySem.Data.func (PySem.FuncData.mk (Str.ofString "end") (Str.ofString "DtdScanner.end") A269 (PySem.FuncBody.stmts B269) S269 3 [] PySem.Value.none PySem.Value.none PySem.Value.none (PySem.Value.str (Str.ofString "markupmill.dtd_words") 387) (Option.none ) (PySem.Value.ref 268) PySem.Value.none 0), #[]⟩) ::
  (nat_lit 270, ⟨(PySem.Value.type "tuple"), (Option.none ), (PySem.Data.seq #[(PySem.Value.str (Str.ofString "at") 527), (PySem.Value.str (Str.ofString "begin") 528), (PySem.Value.str (Str.ofString "is_whole") 529), (PySem.Value.str (Str.ofString "text") 530)] 0), #[]⟩) ::
  (nat_lit 271, ⟨(PySem.Value.type "dict"), (Option.none ), (PySem.Data.dict #[(PySem.DictEntry.mk (PySem.PyData.keyHash P (Str.ofString "__module__")) (PySem.Value.str (Str.ofString "__module__") 396) (PySem.Value.str (Str.ofString "markupmill.dtd_words") 387)), (PySem.DictEntry.mk (PySem.PyData.keyHash P (Str.ofString "__firstlineno__")) (PySem.Value.str (Str.ofString "__firstlineno__") 400) (PySem.Value.int 85 399)), (PySem.DictEntry.mk (PySem.PyData.keyHash P (Str.ofString "__init__")) (PySem.Value.str (Str.ofString "__init__") 411) (PySem.Value.ref 164)), (PySem.DictEntry.mk (PySem.PyData.keyHash P (Str.ofString "place_of")) (PySem.Value.str (Str.ofString "place_of") 419) (PySem.Value.ref 171)), (PySem.DictEntry.mk (PySem.PyData.keyHash P (Str.ofString "fault_at")) (PySem.Value.str (Str.ofString "fault_at") 428) (PySem.Value.ref 178)), (PySem.DictEntry.mk (PySem.PyData.keyHash P (Str.ofString "fault")) (PySem.Value.str (Str.ofString "fault") 436) (PySem.Value.ref 185)), (PySem.DictEntry.mk (PySem.PyData.keyHash P (Str.ofString "is_over")) (PySem.Value.str (Str.ofString "is_over") 443) (PySem.Value.ref 192)), (PySem.DictEntry.mk (PySem.PyData.keyHash P (Str.ofString "looks")) (PySem.Value.str (Str.ofString "looks") 451) (PySem.Value.ref 199)), (PySem.DictEntry.mk (PySem.PyData.keyHash P (Str.ofString "takes")) (PySem.Value.str (Str.ofString "takes") 459) (PySem.Value.ref 206)), (PySem.DictEntry.mk (PySem.PyData.keyHash P (Str.ofString "expect")) (PySem.Value.str (Str.ofString "expect") 467) (PySem.Value.ref 213)), (PySem.DictEntry.mk (PySem.PyData.keyHash P (Str.ofString "spaces")) (PySem.Value.str (Str.ofString "spaces") 475) (PySem.Value.ref 220)), (PySem.DictEntry.mk (PySem.PyData.keyHash P (Str.ofString "need_spaces")) (PySem.Value.str (Str.ofString "need_spaces") 482) (PySem.Value.ref 227)), (PySem.DictEntry.mk (PySem.PyData.keyHash P (Str.ofString "looks_at_name")) (PySem.Value.str (Str.ofString "looks_at_name") 489) (PySem.Value.ref 234)), (PySem.DictEntry.mk (PySem.PyData.keyHash P (Str.ofString "token")) (PySem.Value.str (Str.ofString "token") 497) (PySem.Value.ref 241)), (PySem.DictEntry.mk (PySem.PyData.keyHash P (Str.ofString "name")) (PySem.Value.str (Str.ofString "name") 504) (PySem.Value.ref 248)), (PySem.DictEntry.mk (PySem.PyData.keyHash P (Str.ofString "until")) (PySem.Value.str (Str.ofString "until") 512) (PySem.Value.ref 255)), (PySem.DictEntry.mk (PySem.PyData.keyHash P (Str.ofString "quoted")) (PySem.Value.str (Str.ofString "quoted") 519) (PySem.Value.ref 262)), (PySem.DictEntry.mk (PySem.PyData.keyHash P (Str.ofString "end")) (PySem.Value.str (Str.ofString "end") 526) (PySem.Value.ref 269)), (PySem.DictEntry.mk (PySem.PyData.keyHash P (Str.ofString "__static_attributes__")) (PySem.Value.str (Str.ofString "__static_attributes__") 531) (PySem.Value.ref 270)), (PySem.DictEntry.mk (PySem.PyData.keyHash P (Str.ofString "__dict__")) (PySem.Value.str (Str.ofString "__dict__") 533) (PySem.Value.ref 273)), (PySem.DictEntry.mk (PySem.PyData.keyHash P (Str.ofString "__weakref__")) (PySem.Value.str (Str.ofString "__weakref__") 535) (PySem.Value.ref 274)), (PySem.DictEntry.mk (PySem.PyData.keyHash P (Str.ofString "__doc__")) (PySem.Value.str (Str.ofString "__doc__") 536) PySem.Value.none)] 4), #[]⟩) ::
  (nat_lit 272, ⟨(PySem.Value.type "type"), (Option.none ), (PySem.Data.cls (PySem.ClassData.mk (Str.ofString "DtdScanner") [(PySem.Value.type "object")] [(PySem.Value.ref 272), (PySem.Value.type "object")] 271 (Str.ofString "DtdScanner") Bool.true [] [] Bool.false (Option.none ) Bool.false)), #[(Option.none ), (Option.none ), (Option.some (PySem.Value.str (Str.ofString "DtdScanner") 389)), (Option.some (PySem.Value.str (Str.ofString "DtdScanner") 397)), (Option.some (PySem.Value.builtin "object.__new__")), (Option.some (PySem.Value.bool Bool.true))]⟩) ::
  (nat_lit 273, ⟨(PySem.Value.type "getset_descriptor"), (Option.none ), (PySem.Data.fields #[(PySem.Value.str (Str.ofString "__dict__") 532), (PySem.Value.ref 272), (PySem.Value.builtin "function.__dict__"), (PySem.Value.builtin "function.__dict__#set")]), #[]⟩) ::
  (nat_lit 274, ⟨(PySem.Value.type "getset_descriptor"), (Option.none ), (PySem.Data.fields #[(PySem.Value.str (Str.ofString "__weakref__") 534), (PySem.Value.ref 272), (PySem.Value.builtin "ExceptionGroup.__weakref__"), PySem.Value.none]), #[]⟩) ::
  (nat_lit 277, ⟨(PySem.Value.type "tuple"), (Option.none ), (PySem.Data.seq #[] 0), #[]⟩) ::
  (nat_lit 279, ⟨(PySem.Value.type "tuple"), (Option.none ), (PySem.Data.seq #[(PySem.Value.str (Str.ofString "script") 544), (PySem.Value.str (Str.ofString "cell") 545), (PySem.Value.str (Str.ofString "great") 546)] 0), #[]⟩) ::
  (nat_lit 280, ⟨(PySem.Value.type "tuple"), (Option.none ), (PySem.Data.seq #[] 0), #[]⟩) ::
  (nat_lit 282, ⟨(PySem.Value.type "code"), (Option.none ), (PySem.Data.fields #[(PySem.Value.str (Str.ofString "_law_pool") 541), (PySem.Value.str (Str.ofString "_law_pool") 542), (PySem.Value.str (Str.ofString "/claim/cut.py") 543), (PySem.Value.int 155 0), (PySem.Value.int 1 0), (PySem.Value.int 0 0), (PySem.Value.int 0 0), (PySem.Value.int 3 0), (PySem.Value.ref 277), (PySem.Value.bool Bool.true), (PySem.Value.int 181 0), (PySem.Value.ref 278), PySem.Value.none, (PySem.Value.ref 279), (PySem.Value.ref 280), (PySem.Value.ref 281), (PySem.Value.int 547 0), (PySem.Value.int 155 0), (PySem.Value.str (Str.ofString "/claim/cut.py") 548)]), #[]⟩) ::
  (nat_lit 283, ⟨(PySem.Value.type "function"), (Option.none ), PySem.Data.func (PySem.FuncData.mk (Str.ofString "_law_pool") (Str.ofString "_law_pool") A283 (PySem.FuncBody.stmts B283) S283 3 [] PySem.Value.none PySem.Value.none PySem.Value.none (PySem.Value.str (Str.ofString "law_xw0207_01") 539) (Option.none ) (PySem.Value.ref 282) PySem.Value.none 0), #[]⟩) ::
  (nat_lit 284, ⟨(PySem.Value.type "tuple"), (Option.none ), (PySem.Data.seq #[] 0), #[]⟩) ::
  (nat_lit 286, ⟨(PySem.Value.type "tuple"), (Option.none ), (PySem.Data.seq #[(PySem.Value.str (Str.ofString "source") 553), (PySem.Value.str (Str.ofString "top") 554), (PySem.Value.str (Str.ofString "figure") 555)] 0), #[]⟩) ::
  (nat_lit 287, ⟨(PySem.Value.type "tuple"), (Option.none ), (PySem.Data.seq #[] 0), #[]⟩) ::
  (nat_lit 289, ⟨(PySem.Value.type "code"), (Option.none ), (PySem.Data.fields #[(PySem.Value.str (Str.ofString "_law_take") 550), (PySem.Value.str (Str.ofString "_law_take") 551), (PySem.Value.str (Str.ofString "/claim/cut.py") 552), (PySem.Value.int 159 0), (PySem.Value.int 2 0), (PySem.Value.int 0 0), (PySem.Value.int 0 0), (PySem.Value.int 3 0), (PySem.Value.ref 284), (PySem.Value.bool Bool.true), (PySem.Value.int 181 0), (PySem.Value.ref 285), PySem.Value.none, (PySem.Value.ref 286), (PySem.Value.ref 287), (PySem.Value.ref 288), (PySem.Value.int 556 0), (PySem.Value.int 159 0), (PySem.Value.str (Str.ofString "/claim/cut.py") 557)]), #[]⟩) ::
  (nat_lit 290, ⟨(PySem.Value.type "function"), (Option.none ), PySem.Data.func (PySem.FuncData.mk (Str.ofString "_law_take") (Str.ofString "_law_take") A290 (PySem.FuncBody.stmts B290) S290 3 [] PySem.Value.none PySem.Value.none PySem.Value.none (PySem.Value.str (Str.ofString "law_xw0207_01") 539) (Option.none ) (PySem.Value.ref 289) PySem.Value.none 0), #[]⟩) ::
  (nat_lit 291, ⟨(PySem.Value.type "tuple"), (Option.none ), (PySem.Data.seq #[] 0), #[]⟩) ::
  (nat_lit 293, ⟨(PySem.Value.type "tuple"), (Option.none ), (PySem.Data.seq #[(PySem.Value.str (Str.ofString "source") 562), (PySem.Value.str (Str.ofString "things") 563)] 0), #[]⟩) ::
  (nat_lit 294, ⟨(PySem.Value.type "tuple"), (Option.none ), (PySem.Data.seq #[] 0), #[]⟩) ::
  (nat_lit 296, ⟨(PySem.Value.type "code"), (Option.none ), (PySem.Data.fields #[(PySem.Value.str (Str.ofString "_law_one") 559), (PySem.Value.str (Str.ofString "_law_one") 560), (PySem.Value.str (Str.ofString "/claim/cut.py") 561), (PySem.Value.int 166 0), (PySem.Value.int 2 0), (PySem.Value.int 0 0), (PySem.Value.int 0 0), (PySem.Value.int 3 0), (PySem.Value.ref 291), (PySem.Value.bool Bool.true), (PySem.Value.int 181 0), (PySem.Value.ref 292), PySem.Value.none, (PySem.Value.ref 293), (PySem.Value.ref 294), (PySem.Value.ref 295), (PySem.Value.int 564 0), (PySem.Value.int 166 0), (PySem.Value.str (Str.ofString "/claim/cut.py") 565)]), #[]⟩) ::
  (nat_lit 297, ⟨(PySem.Value.type "function"), (Option.none ), PySem.Data.func (PySem.FuncData.mk (Str.ofString "_law_one") (Str.ofString "_law_one") A297 (PySem.FuncBody.stmts B297) S297 3 [] PySem.Value.none PySem.Value.none PySem.Value.none (PySem.Value.str (Str.ofString "law_xw0207_01") 539) (Option.none ) (PySem.Value.ref 296) PySem.Value.none 0), #[]⟩) ::
  (nat_lit 298, ⟨(PySem.Value.type "tuple"), (Option.none ), (PySem.Data.seq #[] 0), #[]⟩) ::
  (nat_lit 300, ⟨(PySem.Value.type "tuple"), (Option.none ), (PySem.Data.seq #[(PySem.Value.str (Str.ofString "text") 570), (PySem.Value.str (Str.ofString "begin") 571), (PySem.Value.str (Str.ofString "due") 572), (PySem.Value.str (Str.ofString "place") 573), (PySem.Value.str (Str.ofString "scanner") 574), (PySem.Value.str (Str.ofString "told") 575), (PySem.Value.str (Str.ofString "fault") 576)] 0), #[]⟩) ::
  (nat_lit 301, ⟨(PySem.Value.type "tuple"), (Option.none ), (PySem.Data.seq #[] 0), #[]⟩) ::
  (nat_lit 303, ⟨(PySem.Value.type "code"), (Option.none ), (PySem.Data.fields #[(PySem.Value.str (Str.ofString "_law_kind_right") 567), (PySem.Value.str (Str.ofString "_law_kind_right") 568), (PySem.Value.str (Str.ofString "/claim/cut.py") 569), (PySem.Value.int 168 0), (PySem.Value.int 4 0), (PySem.Value.int 0 0), (PySem.Value.int 0 0), (PySem.Value.int 3 0), (PySem.Value.ref 298), (PySem.Value.bool Bool.true), (PySem.Value.int 181 0), (PySem.Value.ref 299), PySem.Value.none, (PySem.Value.ref 300), (PySem.Value.ref 301), (PySem.Value.ref 302), (PySem.Value.int 577 0), (PySem.Value.int 168 0), (PySem.Value.str (Str.ofString "/claim/cut.py") 578)]), #[]⟩) ::
  (nat_lit 304, ⟨(PySem.Value.type "function"), (Option.none ), PySem.Data.func (PySem.FuncData.mk (Str.ofString "_law_kind_right") (Str.ofString "_law_kind_right") A304 (PySem.FuncBody.stmts B304) S304 3 [] PySem.Value.none PySem.Value.none PySem.Value.none (PySem.Value.str (Str.ofString "law_xw0207_01") 539) (Option.none ) (PySem.Value.ref 303) PySem.Value.none 0), #[]⟩) ::
  (nat_lit 305, ⟨(PySem.Value.type "tuple"), (Option.none ), (PySem.Data.seq #[] 0), #[]⟩) ::
  (nat_lit 308, ⟨(PySem.Value.type "code"), (Option.none ), (PySem.Data.fields #[(PySem.Value.str (Str.ofString "_law_choices") 580), (PySem.Value.str (Str.ofString "_law_choices") 581), (PySem.Value.str (Str.ofString "/claim/cut.py") 582), (PySem.Value.int 175 0), (PySem.Value.int 2 0), (PySem.Value.int 0 0), (PySem.Value.int 0 0), (PySem.Value.int 3 0), (PySem.Value.ref 305), (PySem.Value.bool Bool.true), (PySem.Value.int 181 0), (PySem.Value.ref 306), PySem.Value.none, PySem.Value.none, PySem.Value.none, (PySem.Value.ref 307), (PySem.Value.int 583 0), (PySem.Value.int 175 0), (PySem.Value.str (Str.ofString "/claim/cut.py") 584)]), #[]⟩) ::
  (nat_lit 309, ⟨(PySem.Value.type "function"), (Option.none ), PySem.Data.func (PySem.FuncData.mk (Str.ofString "_law_choices") (Str.ofString "_law_choices") A309 (PySem.FuncBody.stmts B309) S309 3 [] PySem.Value.none PySem.Value.none PySem.Value.none (PySem.Value.str (Str.ofString "law_xw0207_01") 539) (Option.none ) (PySem.Value.ref 308) PySem.Value.none 0), #[]⟩) ::
  (nat_lit 310, ⟨(PySem.Value.type "tuple"), (Option.none ), (PySem.Data.seq #[] 0), #[]⟩) ::
  (nat_lit 312, ⟨(PySem.Value.type "tuple"), (Option.none ), (PySem.Data.seq #[] 0), #[]⟩) ::
  (nat_lit 313, ⟨(PySem.Value.type "tuple"), (Option.none ), (PySem.Data.seq #[] 0), #[]⟩) ::
  (nat_lit 315, ⟨(PySem.Value.type "code"), (Option.none ), (PySem.Data.fields #[(PySem.Value.str (Str.ofString "_law_kinds") 586), (PySem.Value.str (Str.ofString "_law_kinds") 587), (PySem.Value.str (Str.ofString "/claim/cut.py") 588), (PySem.Value.int 186 0), (PySem.Value.int 0 0), (PySem.Value.int 0 0), (PySem.Value.int 0 0), (PySem.Value.int 3 0), (PySem.Value.ref 310), (PySem.Value.bool Bool.true), (PySem.Value.int 181 0), (PySem.Value.ref 311), PySem.Value.none, (PySem.Value.ref 312), (PySem.Value.ref 313), (PySem.Value.ref 314), (PySem.Value.int 589 0), (PySem.Value.int 186 0), (PySem.Value.str (Str.ofString "/claim/cut.py") 590)]), #[]⟩) ::
  (nat_lit 316, ⟨(PySem.Value.type "function"), (Option.none ), PySem.Data.func (PySem.FuncData.mk (Str.ofString "_law_kinds") (Str.ofString "_law_kinds") A316 (PySem.FuncBody.stmts B316) S316 3 [] PySem.Value.none PySem.Value.none PySem.Value.none (PySem.Value.str (Str.ofString "law_xw0207_01") 539) (Option.none ) (PySem.Value.ref 315) PySem.Value.none 0), #[]⟩) ::
  (nat_lit 317, ⟨(PySem.Value.type "tuple"), (Option.none ), (PySem.Data.seq #[] 0), #[]⟩) ::
  (nat_lit 319, ⟨(PySem.Value.type "tuple"), (Option.none ), (PySem.Data.seq #[(PySem.Value.str (Str.ofString "source") 595), (PySem.Value.str (Str.ofString "way") 596), (PySem.Value.str (Str.ofString "begin") 597), (PySem.Value.str (Str.ofString "behind") 598), (PySem.Value.str (Str.ofString "word") 599), (PySem.Value.str (Str.ofString "text") 600), (PySem.Value.str (Str.ofString "choices") 601), (PySem.Value.str (Str.ofString "name") 602), (PySem.Value.str (Str.ofString "gap") 603)] 0), #[]⟩) ::
  (nat_lit 320, ⟨(PySem.Value.type "tuple"), (Option.none ), (PySem.Data.seq #[] 0), #[]⟩) ::
  (nat_lit 322, ⟨(PySem.Value.type "code"), (Option.none ), (PySem.Data.fields #[(PySem.Value.str (Str.ofString "_law_drawn_right") 592), (PySem.Value.str (Str.ofString "_law_drawn_right") 593), (PySem.Value.str (Str.ofString "/claim/cut.py") 594), (PySem.Value.int 188 0), (PySem.Value.int 1 0), (PySem.Value.int 0 0), (PySem.Value.int 0 0), (PySem.Value.int 3 0), (PySem.Value.ref 317), (PySem.Value.bool Bool.true), (PySem.Value.int 181 0), (PySem.Value.ref 318), PySem.Value.none, (PySem.Value.ref 319), (PySem.Value.ref 320), (PySem.Value.ref 321), (PySem.Value.int 604 0), (PySem.Value.int 188 0), (PySem.Value.str (Str.ofString "/claim/cut.py") 605)]), #[]⟩) ::
  (nat_lit 323, ⟨(PySem.Value.type "function"), (Option.none ), PySem.Data.func (PySem.FuncData.mk (Str.ofString "_law_drawn_right") (Str.ofString "_law_drawn_right") A323 (PySem.FuncBody.stmts B323) S323 3 [] PySem.Value.none PySem.Value.none PySem.Value.none (PySem.Value.str (Str.ofString "law_xw0207_01") 539) (Option.none ) (PySem.Value.ref 322) PySem.Value.none 0), #[]⟩) ::
  (nat_lit 324, ⟨(PySem.Value.type "tuple"), (Option.none ), (PySem.Data.seq #[] 0), #[]⟩) ::
  (nat_lit 327, ⟨(PySem.Value.type "code"), (Option.none ), (PySem.Data.fields #[(PySem.Value.str (Str.ofString "_law_public_right") 607), (PySem.Value.str (Str.ofString "_law_public_right") 608), (PySem.Value.str (Str.ofString "/claim/cut.py") 609), (PySem.Value.int 204 0), (PySem.Value.int 1 0), (PySem.Value.int 0 0), (PySem.Value.int 0 0), (PySem.Value.int 3 0), (PySem.Value.ref 324), (PySem.Value.bool Bool.true), (PySem.Value.int 181 0), (PySem.Value.ref 325), PySem.Value.none, PySem.Value.none, PySem.Value.none, (PySem.Value.ref 326), (PySem.Value.int 610 0), (PySem.Value.int 204 0), (PySem.Value.str (Str.ofString "/claim/cut.py") 611)]), #[]⟩) ::
  (nat_lit 328, ⟨(PySem.Value.type "function"), (Option.none ), PySem.Data.func (PySem.FuncData.mk (Str.ofString "_law_public_right") (Str.ofString "_law_public_right") A328 (PySem.FuncBody.stmts B328) S328 3 [] PySem.Value.none PySem.Value.none PySem.Value.none (PySem.Value.str (Str.ofString "law_xw0207_01") 539) (Option.none ) (PySem.Value.ref 327) PySem.Value.none 0), #[]⟩) ::
  (nat_lit 329, ⟨(PySem.Value.type "tuple"), (Option.none ), (PySem.Data.seq #[] 0), #[]⟩) ::
  (nat_lit 332, ⟨(PySem.Value.type "code"), (Option.none ), (PySem.Data.fields #[(PySem.Value.str (Str.ofString "law") 613), (PySem.Value.str (Str.ofString "law") 614), (PySem.Value.str (Str.ofString "/claim/cut.py") 615), (PySem.Value.int 216 0), (PySem.Value.int 1 0), (PySem.Value.int 0 0), (PySem.Value.int 0 0), (PySem.Value.int 3 0), (PySem.Value.ref 329), (PySem.Value.bool Bool.true), (PySem.Value.int 181 0), (PySem.Value.ref 330), PySem.Value.none, PySem.Value.none, PySem.Value.none, (PySem.Value.ref 331), (PySem.Value.int 616 0), (PySem.Value.int 216 0), (PySem.Value.str (Str.ofString "/claim/cut.py") 617)]), #[]⟩) ::
  (nat_lit 333, ⟨(PySem.Value.type "function"), (Option.none ), PySem.Data.func (PySem.FuncData.mk (Str.ofString "law") (Str.ofString "law") A333 (PySem.FuncBody.stmts B333) S333 3 [] PySem.Value.none PySem.Value.none PySem.Value.none (PySem.Value.str (Str.ofString "law_xw0207_01") 539) (Option.none ) (PySem.Value.ref 332) PySem.Value.none 0), #[]⟩) :: []
noncomputable def AS : List Addr := [2, 3, 15, 17, 18, 20, 21, 22, 23, 24, 25, 26, 27, 28, 29, 30, 31, 32, 33, 34, 35, 36, 37, 38, 39, 41, 42, 44, 45, 46, 48, 49, 51, 52, 53, 55, 56, 58, 59, 60, 62, 63, 65, 66, 67, 69, 70, 72, 73, 74, 76, 77, 79, 80, 81, 83, 84, 86, 87, 88, 89, 91, 92, 94, 95, 96, 98, 99, 101, 102, 103, 105, 106, 108, 109, 110, 117, 119, 120, 122, 123, 124, 125, 126, 127, 130, 137, 138, 140, 141, 143, 144, 145, 146, 147, 157, 158, 160, 161, 163, 164, 165, 167, 168, 170, 171, 172, 174, 175, 177, 178, 179, 181, 182, 184, 185, 186, 188, 189, 191, 192, 193, 195, 196, 198, 199, 200, 202, 203, 205, 206, 207, 209, 210, 212, 213, 214, 216, 217, 219, 220, 221, 223, 224, 226, 227, 228, 230, 231, 233, 234, 235, 237, 238, 240, 241, 242, 244, 245, 247, 248, 249, 251, 252, 254, 255, 256, 258, 259, 261, 262, 263, 265, 266, 268, 269, 270, 271, 272, 273, 274, 277, 279, 280, 282, 283, 284, 286, 287, 289, 290, 291, 293, 294, 296, 297, 298, 300, 301, 303, 304, 305, 308, 309, 310, 312, 313, 315, 316, 317, 319, 320, 322, 323, 324, 327, 328, 329, 332, 333]
theorem keysK : ∀ P : Params, AS = (K P).map (·.1) := fun _ => rfl
noncomputable def q : Program := view PySem.Challenge.pw_xw0207_01 [0, 2, 3, 4, 5, 6, 7, 8, 9, 10, 11, 12, 14, 15, 16, 17, 18, 20, 21, 23, 25, 26, 27, 28, 29, 30, 31, 32, 33]
noncomputable def H : Hook := kHook K AS keysK
theorem said : PySem.Challenge.rw_xw0207_01.wellSaid = true := by
  rw [PySem.W.Fast.te9446332074065402090]
  decide +kernel
theorem left : LeftO PySem.Challenge.rw_xw0207_01.row.toRowW.prog q [Str.ofString "DtdFault"] (fun s => xlAt q [] s && recOk (RowW.records PySem.Challenge.rw_xw0207_01.row.toRowW) s) H.obs H.val 4032 := fun w => by
  unfold openEnds fencedOpening topFrom
  rw [PySem.W.Fast.te10274390034422433532, PySem.W.Fast.te14082659384304107361, PySem.W.Fast.te14289696077712309145, PySem.W.Fast.te1435165496053646825, PySem.W.Fast.te14364793385576792824, PySem.W.Fast.te4187177175401517315]
  kernel_rfl
end Mine


open PySem PySem.W PyProof.Rows PySem.Calls
set_option Elab.async false
set_option linter.unusedVariables false
set_option maxRecDepth 100000
set_option maxHeartbeats 8000000
namespace Mine
section
open PySem PySem.W PyProof.Rows PySem.Calls
set_option maxHeartbeats 8000000
/-- the end of a turn of a loop that turns one int of one object -/
def TurnEnd (h₀ : Heap) (L : Addr) (s : Shared) (m : Str → Option Value) (led : Int → Tok → List (Addr × Obj)) (P : Int → Prop) (mu : Int → Nat) (n : Nat) (f : Flow) (s₃ : Shared) : Prop :=
  f = .next ∧ ∃ h' tk a t, s₃ = { s with heap := h', toks := tk } ∧ Fr h₀ L h' m ∧ News h₀ L h' (led a t) ∧ mu a < n ∧ P a
theorem turnEnd {h₀ h' : Heap} {L : Addr} {s : Shared} {m : Str → Option Value} {led : Int → Tok → List (Addr × Obj)} {P : Int → Prop} {mu : Int → Nat} {n tk : Nat} {a : Int} {t : Tok}
    (F : Fr h₀ L h' m) (N : News h₀ L h' (led a t)) (hn : mu a < n) (hP : P a) : TurnEnd h₀ L s m led P mu n .next { s with heap := h', toks := tk } :=
  ⟨rfl, h', tk, a, t, rfl, F, N, hn, hP⟩
theorem While_led {prog : Program} {w : World} {A : Around} {E : Value → Shared → Prop} {Q : Flow → Shared → Prop} {s : Shared} {env : Env} {h₀ : Heap} {L : Addr}
    {test : Expr} {body : List Stmt} {pos : Pos} {m : Str → Option Value} (led : Int → Tok → List (Addr × Obj)) (P : Int → Prop) (mu : Int → Nat) {a0 : Int} {t0 : Tok}
    (F : Fr h₀ L s.heap m) (N : News h₀ L s.heap (led a0 t0)) (hP : P a0)
    (turn : ∀ a t h₁ tk₁, Fr h₀ L h₁ m → News h₀ L h₁ (led a t) → P a →
      wpAny (model prog w) A (isTrue test env (eval test env)) (fun b s₂ =>
        if b = true then wpAny (model prog w) A (execs body env) (TurnEnd h₀ L s m led P mu (mu a)) E s₂ else Q .next s₂) E { s with heap := h₁, toks := tk₁ })
    (hE : PassesOwn (model prog w) A env E) :
    wpAny (model prog w) A (exec (.While test body [] pos) env) Q E s := by
  refine While_inv2 (fun n m₁ ns => m₁ = m ∧ ∃ a t, ns = led a t ∧ n = mu a ∧ P a) F N ⟨rfl, a0, t0, rfl, rfl, hP⟩ ?_ hE
  rintro n m₁ ns h₁ tk₁ F₁ N₁ ⟨rfl, a, t, rfl, rfl, hPa⟩
  refine wpAny_mono (turn a t h₁ tk₁ F₁ N₁ hPa) (fun b s₂ h₂ => ?_) fun _ _ x => x
  cases b with
  | false => exact h₂
  | true =>
    simp only [if_true] at h₂ ⊢
    refine wpAny_mono h₂ (fun f s₃ h₃ => ?_) fun _ _ x => x
    obtain ⟨rfl, h', tk, a', t', rfl, F', N', hn, hP'⟩ := h₃
    exact ⟨h', tk, _, _, mu a', rfl, F', N', hn, rfl, a', t', rfl, rfl, hP'⟩
end
section
open PySem PySem.W PyProof.Rows PySem.Calls
def spB (c : Nat) : Bool := c == 32 || c == 9 || c == 10 || c == 13
def smB (c : Nat) : Bool := decide (97 ≤ c) && decide (c ≤ 122)
def nsB (c : Nat) : Bool := smB c || (decide (65 ≤ c) && decide (c ≤ 90)) || c == 95 || c == 58
def ncB (c : Nat) : Bool := nsB c || (decide (48 ≤ c) && decide (c ≤ 57)) || c == 45 || c == 46
def Asc (y : Str) : Prop := ∀ c ∈ y.cps.toList, c < 128
theorem Asc.item {y : Str} (h : Asc y) (i : Int) : (Txt.charAt y i).getD 0 < 128 := by
  unfold Txt.charAt
  cases q : seqIndex? i y.length with
  | none => simp
  | some k =>
    simp only [Option.bind_some]
    cases q2 : y.cps[k]? with
    | none => simp
    | some c =>
      simp only [Option.getD_some]
      exact h c (by rw [Array.getElem?_eq_some_iff] at q2; obtain ⟨hk, e⟩ := q2; rw [← e]; simp)
theorem sp_occ : ∀ c, c < 128 → (Builtin.Str.occurrences (Str.ofString " \t\n\x0d") ⟨#[c]⟩ 0 (Str.ofString " \t\n\x0d").length 1).isEmpty = !spB c := by decide +kernel
theorem one_ne : ∀ c, c < 128 → ((⟨#[c]⟩ : Str) != Str.ofString "") = true := by decide +kernel
theorem eq_us : ∀ c, c < 128 → ((⟨#[c]⟩ : Str) == Str.ofString "_") = (c == 95) := by decide +kernel
theorem eq_co : ∀ c, c < 128 → ((⟨#[c]⟩ : Str) == Str.ofString ":") = (c == 58) := by decide +kernel
theorem eq_hy : ∀ c, c < 128 → ((⟨#[c]⟩ : Str) == Str.ofString "-") = (c == 45) := by decide +kernel
theorem eq_do : ∀ c, c < 128 → ((⟨#[c]⟩ : Str) == Str.ofString ".") = (c == 46) := by decide +kernel
theorem lst_a : (Str.ofString "a").cps.toList = [97] := by decide +kernel
theorem lst_z : (Str.ofString "z").cps.toList = [122] := by decide +kernel
theorem lst_A : (Str.ofString "A").cps.toList = [65] := by decide +kernel
theorem lst_Z : (Str.ofString "Z").cps.toList = [90] := by decide +kernel
theorem lst_0 : (Str.ofString "0").cps.toList = [48] := by decide +kernel
theorem lst_9 : (Str.ofString "9").cps.toList = [57] := by decide +kernel
theorem one_lt (a b : Nat) : ([a] < [b]) = (a < b) := by
  simp [List.cons_lt_cons_iff]
end
section
open PySem PySem.W PyProof.Rows PySem.Calls
set_option maxHeartbeats 8000000
/-- what a made fault is: its object and its dict -/
abbrev fltObj (ed ta : Addr) : Obj := { cls := .ref 147, dict := some ed, data := .fields #[.ref ta, .none, .none, .none, .bool false, .none] }
abbrev fltDict (zm zp : Int) (km kp : Tok) (msg : Str) (tm : Tok) (pl : Int) (tp : Tok) : Obj :=
  dictOf [⟨zm, .str (Str.ofString "message") km, .str msg tm⟩, ⟨zp, .str (Str.ofString "place") kp, .int pl tp⟩] 2
theorem room_any {α : Type} {M : Model} {A A' : Around} {t : Sem α} {Q : α → Shared → Prop} {E : Value → Shared → Prop} {s : Shared}
    (hh : A.handled = A'.handled) (hd : A.depth ≤ A'.depth) (hu : A.units ≤ A'.units) (hf : A'.frames = A.frames) (hg : A'.guards = A.guards) (h : wpAny M A' t Q E s) : wpAny M A t Q E s :=
  fun Γ p hΓ => h Γ p ⟨hΓ.1.trans hh, Nat.le_trans hΓ.2.1 hd, fun l q => hΓ.2.2.1 l (hf ▸ q), fun g q => hΓ.2.2.2.1 g (hg ▸ q), Nat.le_trans hΓ.2.2.2.2 hu⟩
theorem cls_fault (P : Params) : ktsIn (K P) 147 "BaseException" = true := by kernel_rfl
def FltUp (w : World) (E : Value → Shared → Prop) (v : Value) (s₁ : Shared) : Prop := ∃ e ed ta, v = .ref e ∧ (K w.params).In s₁.heap ∧ s₁.heap.get? e = some (fltObj ed ta) ∧ E (.ref e) s₁
theorem FltUp.mk {w : World} {E : Value → Shared → Prop} {s : Shared} {h₀ : Heap} {L e ed ta : Addr} {m : Str → Option Value} {rest : List (Addr × Obj)} (X : (K w.params).In h₀) (F : Fr h₀ L s.heap m) (N : News h₀ L s.heap ((e, fltObj ed ta) :: rest)) (h : E (.ref e) s) : FltUp w E (.ref e) s :=
  ⟨e, ed, ta, rfl, X.keeps F.keep, (N _ (.head _)).1, h⟩
theorem Raise_val {w : World} {A : Around} {E : Value → Shared → Prop} {s : Shared} {env : Env} {e₀ : Expr} {pos : Pos} {Q : Flow → Shared → Prop} {M : Model} (hh : A.handled = none)
    (h : wpAny M A (eval e₀ env) (FltUp w E) E s) :
    wpAny M A (exec (.Raise (some e₀) none pos) env) Q E s := by
  show wpAny M A (do standAt pos; raiseStmt env (some (do let v ← eval e₀ env; standAt pos; pure v)) none) Q E s
  refine wpAny_bind (wpAny_standAt ?_)
  unfold raiseStmt
  dsimp only
  refine wpAny_bind (wpAny_bind (wpAny_mono h (fun v s₁ h₁ => wpAny_bind (wpAny_standAt (wpAny_pure ?_))) fun _ _ x => x))
  obtain ⟨e, ed, ta, rfl, X, he, hE⟩ := h₁
  obtain ⟨nm, q, N, bs, bm, hdct, sn, sub, ab, col, dd, k0, k1, k2, k3, k5, newId, hC, hbase, _⟩ := kts_cls X (cls_fault w.params)
  have hcB : (Value.ref 147 :: bm).contains (.type "BaseException") = true := by rw [List.contains_cons, hbase, Bool.or_true]
  obtain ⟨hp, g, d, tk, os⟩ := s₁
  repeat (first | with_reducible refine wpAny_loadPart_at he ?_ | with_reducible refine wpAny_loadPart_at hC ?_ | (with_reducible refine wpAny_isSubtype_exc hC ?_; rw [hcB]) | wp_step)
  exact wpAny_raiseNew_none hh hE
end
section
open PySem PySem.W PyProof.Rows PySem.Calls PySem.Spec
set_option maxHeartbeats 8000000
/-- the object at e has its dict at ed -/
def DictAt (h : Heap) (e ed : Addr) : Prop := ∃ o, h.get? e = some o ∧ o.dict = some ed
theorem DictAt.keeps {h h' : Heap} {e ed : Addr} (D : DictAt h e ed) (k : ∀ b o, h.get? b = some o → h'.get? b = some o) : DictAt h' e ed :=
  let ⟨o, ho, hd⟩ := D; ⟨o, k _ _ ho, hd⟩
/-- a tree that calls nothing and turns no object's dict -/
def KD {α : Type} : Sem α → Prop
  | .pure _ => True
  | .raise _ => True
  | .unsupported _ => True
  | .finish _ => True
  | .register _ _ => True
  | .rule _ k => KD (k ())
  | .at _ k => KD (k ())
  | .point _ k => KD (k ())
  | .load _ _ k => ∀ o, KD (k o)
  | .loadIfAlive _ k => ∀ o, KD (k o)
  | .update _ _ f k => (∀ o : Obj, (f o).dict = o.dict ∧ (f o).isFreed = o.isFreed) ∧ KD (k ())
  | .alloc _ k => ∀ a, KD (k a)
  | .fresh k => ∀ a, KD (k a)
  | .ask k => ∀ a, KD (k a)
  | .stack k => ∀ a, KD (k a)
  | .handled _ k => ∀ a, KD (k a)
  | .choose .. => False
  | .os .. => False
  | .call .. => False
  | .newGen .. => False
  | .genState .. => False
  | .resume .. => False
  | .yield .. => False
  | .fork .. => False
  | .thread .. => False
  | .await .. => False
theorem KD.bind' {α β : Type} {f : α → Sem β} : ∀ {t : Sem α}, KD t → (∀ a, KD (f a)) → KD (t.bind f) := by
  intro t
  induction t <;> intro h g <;> simp only [Sem.bind, KD] at * <;> first | trivial | exact g _ | (rename_i ih; exact ih _ h g) | (rename_i ih; exact fun a => ih a (h a) g) | (rename_i ih; exact ⟨h.1, ih _ h.2 g⟩) | exact h.elim
theorem KD.bind {α β : Type} {f : α → Sem β} {t : Sem α} (h : KD t) (g : ∀ a, KD (f a)) : KD (t >>= f) := KD.bind' h g
theorem KD.pure {α : Type} (a : α) : KD (Pure.pure a : Sem α) := trivial
theorem wp_kd {α : Type} {M : Model} {Γ : PySem.Ctx} {e ed : Addr} {Q : α → Pos → Shared → Prop} {E : Value → Pos → Shared → Prop} : ∀ {t : Sem α} {p : Pos} {s : Shared}, KD t → Sem.wp M Γ t Q E p s → DictAt s.heap e ed →
    Sem.wp M Γ t (fun a p' s' => Q a p' s' ∧ DictAt s'.heap e ed) (fun v p' s' => E v p' s' ∧ DictAt s'.heap e ed) p s := by
  intro t
  induction t with
  | pure a => exact fun _ h d => ⟨h, d⟩
  | raise a => exact fun _ h d => ⟨h, d⟩
  | unsupported => exact fun _ h _ => h.elim
  | finish => exact fun _ h _ => h.elim
  | register => exact fun _ h _ => h.elim
  | rule _ k ih => exact fun k' h d => ih _ k' h d
  | «at» _ k ih => exact fun k' h d => ih _ k' h d
  | point _ k ih => exact fun k' h d => ih _ k' h d
  | load a _ k ih => exact fun k' ⟨o, ho, h⟩ d => ⟨o, ho, ih _ (k' o) h d⟩
  | loadIfAlive a k ih => exact fun k' h d => ih _ (k' _) h d
  | update a _ f k ih =>
    intro p s k' h d
    refine ⟨h.1, ih _ k'.2 h.2 ?_⟩
    obtain ⟨o, ho, hd⟩ := d
    by_cases q : a = e
    · subst q
      exact ⟨f o, Heap.get?_update_self f ho (((k'.1 o).2).trans (Heap.get?_some_iff.mp ho).2), ((k'.1 o).1).trans hd⟩
    · exact ⟨o, (Heap.get?_update_other _ _ q).trans ho, hd⟩
  | alloc o k ih =>
    intro p s k' h d
    refine ih _ (k' _) h ?_
    obtain ⟨o', ho, hd⟩ := d
    exact ⟨o', Heap.get?_push_of_some _ ho, hd⟩
  | fresh k ih => exact fun k' h d => ih _ (k' _) h d
  | ask k ih => exact fun k' h d => ih _ (k' _) h d
  | stack k ih => exact fun k' h d => ih _ (k' _) h d
  | handled _ k ih => exact fun k' h d => ih _ (k' _) h d
  | choose => exact fun k' => k'.elim
  | os => exact fun k' => k'.elim
  | call => exact fun k' => k'.elim
  | newGen => exact fun k' => k'.elim
  | genState => exact fun k' => k'.elim
  | resume => exact fun k' => k'.elim
  | yield => exact fun k' => k'.elim
  | fork => exact fun k' => k'.elim
  | thread => exact fun k' => k'.elim
  | await => exact fun k' => k'.elim
theorem any_kd {α : Type} {M : Model} {A : Around} {t : Sem α} {Q : α → Shared → Prop} {E : Value → Shared → Prop} {s : Shared} {e ed : Addr} (k : KD t) (d : DictAt s.heap e ed) (h : wpAny M A t Q E s) :
    wpAny M A t (fun a s' => Q a s' ∧ DictAt s'.heap e ed) (fun v s' => E v s' ∧ DictAt s'.heap e ed) s := fun Γ p hΓ => wp_kd k (h Γ p hΓ) d
theorem kd_load {a : Addr} : KD (load a) := fun _ => trivial
theorem kd_stack : KD stack := fun _ => trivial
theorem kd_mapFields (f : Array Value → Array Value) (o : Obj) : (Obj.mapFields f o).dict = o.dict ∧ (Obj.mapFields f o).isFreed = o.isFreed := by
  obtain ⟨c, d, dt, sl⟩ := o
  cases dt <;> exact ⟨rfl, rfl⟩
theorem kd_field (v : Value) (i : Nat) : KD (field v i) := by
  unfold field fieldsOf
  repeat' (first | exact kd_load | (intro _) | exact trivial | split | with_reducible refine KD.bind ?_ (fun _ => ?_) | refine KD.bind ?_ (fun _ => ?_))
theorem kd_setField (v : Value) (i : Nat) (x : Value) : KD (setField v i x) := by
  unfold setField updateField
  repeat' (first | exact kd_load | exact ⟨fun o => kd_mapFields _ o, trivial⟩ | (intro _) | exact trivial | split | with_reducible refine KD.bind ?_ (fun _ => ?_) | refine KD.bind ?_ (fun _ => ?_))
theorem kd_setFlight (e : Value) (f : Option Addr) : KD (setFlight e f) := by
  unfold setFlight
  repeat' (first | exact kd_field _ _ | exact kd_setField _ _ _ | exact trivial | split | with_reducible refine KD.bind ?_ (fun _ => ?_) | refine KD.bind ?_ (fun _ => ?_))
theorem kd_ready : ∀ l : List Env, KD (readyFrames l)
  | [] => trivial
  | env :: outer => by
    unfold readyFrames
    have := kd_ready outer
    unfold behindIsImport keptBack underTheClaimsCaller
    repeat' (first | exact kd_load | exact kd_stack | exact kd_field _ _ | assumption | exact ⟨fun o => ⟨rfl, by obtain ⟨_, _, dt, _⟩ := o; cases dt <;> rfl⟩, trivial⟩ | exact trivial | split | with_reducible refine KD.bind ?_ (fun _ => ?_) | refine KD.bind ?_ (fun _ => ?_))
theorem kd_frameOf (env : Env) : KD (PySem.frameOf env) := by
  unfold PySem.frameOf frameEnvs frameObject
  repeat' (first | exact kd_stack | exact kd_ready _ | exact trivial | split | with_reducible refine KD.bind ?_ (fun _ => ?_) | refine KD.bind ?_ (fun _ => ?_))
theorem kd_place (f : Addr) (b : Bool) : KD (entryPlaceOf f b) := by
  unfold entryPlaceOf
  repeat' (first | exact kd_stack | exact trivial | split | with_reducible refine KD.bind ?_ (fun _ => ?_) | refine KD.bind ?_ (fun _ => ?_))
theorem kd_entry (a b c d e : Value) (l : List Value) : KD (EntryCells.newEntry a b c d e l) := by
  unfold EntryCells.newEntry newFields newObj newObjAsIs
  repeat' (first | exact fun _ => trivial | exact trivial | split | with_reducible refine KD.bind ?_ (fun _ => ?_) | refine KD.bind ?_ (fun _ => ?_))
theorem kd_note (e : Value) (env : Env) : KD (noteFrame e env) := by
  unfold noteFrame
  repeat' (first | exact kd_field _ _ | exact kd_setField _ _ _ | exact kd_frameOf _ | exact kd_place _ _ | exact kd_entry _ _ _ _ _ _ | exact trivial | split | with_reducible refine KD.bind ?_ (fun _ => ?_) | refine KD.bind ?_ (fun _ => ?_))
theorem kd_leaving (env : Env) (e : Value) : KD (leaving env e) := KD.bind (kd_note _ _) fun _ => kd_setFlight _ _
end
section
open PySem PySem.W PyProof.Rows PySem.Calls PySem.Spec
set_option maxHeartbeats 8000000
/-- a fault flies: its dict stands at ed -/
def Air (base G : Heap) (l : List Env) (e ed : Addr) (news : List (Addr × Obj)) (h : Heap) : Prop := RaisedSN base G l e (.ref 147) news h ∧ DictAt h e ed
section
variable {M : Model} {A : Around} {E : Value → Shared → Prop} {s' : Shared} {base g g₂ : Heap} {outer : List Env} {L a e ed ta : Addr} {m : Str → Option Value} {name : Str} {scope : Scope} {cd : Value} {Q : Unit → Shared → Prop} {news : List (Addr × Obj)}
theorem air_first (K : Below A base outer g) (F : Fr g L s'.heap m) (N : News g L s'.heap news) (he : s'.heap.get? e = some (fltObj ed ta)) (hg : g.get? e = none) (hn : ∀ p ∈ news, p.1 ≠ e)
    (hQ : ∀ h', Air base g outer e ed news h' → g.UpToSlots h' → Q () { s' with heap := h' }) (hk : scope.kind = .function := by rfl) :
    wpAny M (A.deeper (envOf name scope L a cd)) (leaving (envOf name scope L a cd) (.ref e)) Q E s' := by
  have K' := K.push (name := name) (a := a) (cd := cd) F hk
  have hbe : base.get? e = none := fresh_of_stays K.stays hg
  have hef : e ∉ (envOf name scope L a cd :: outer).filterMap (·.frame) := fun hm => by
    obtain ⟨_, o, ho, hd⟩ := K'.frames.mem hm
    rw [he] at ho
    cases ho
    exact hd _ rfl
  have hin : ∀ env ∈ (envOf name scope L a cd :: outer), ∀ b, env.frame = some b → b ∈ e :: (envOf name scope L a cd :: outer).filterMap (·.frame) := fun env he b hb => .tail _ (List.mem_filterMap.mpr ⟨env, he, hb⟩)
  have st : base.StaysIn (hideAll s'.heap (e :: (envOf name scope L a cd :: outer).filterMap (·.frame))) := fun b o q => hideAll_get _ (K'.stays b o q) fun hm => by
    rcases List.mem_cons.mp hm with rfl | hm
    · rw [hbe] at q; cases q
    · rw [(K'.frames.mem hm).1] at q; cases q
  have sg : ∀ b o, g.get? b = some o → b ∉ outer.filterMap (·.frame) → (hideAll s'.heap (e :: (envOf name scope L a cd :: outer).filterMap (·.frame))).get? b = some o := fun b o q nm => hideAll_get _ (F.keep b o q) fun hm => by
    rcases List.mem_cons.mp hm with rfl | hm
    · rw [hg] at q; cases q
    · rcases kts_mem hm with z | z
      · rw [z, kts_self F] at q
        cases q
      · exact nm z
  have hl : ∀ q ∈ news, (hideAll s'.heap (e :: (envOf name scope L a cd :: outer).filterMap (·.frame))).get? q.1 = some q.2 ∧ g.get? q.1 = none ∧ base.get? q.1 = none := fun q hq => by
    refine ⟨hideAll_get _ (N q hq).1 fun hm => ?_, (N q hq).2.2, fresh_of_stays K.stays (N q hq).2.2⟩
    rcases List.mem_cons.mp hm with h1 | hm
    · exact hn q hq h1
    · obtain ⟨env, he, hf⟩ := List.mem_filterMap.mp hm
      rcases List.mem_cons.mp he with rfl | he
      · exact (N q hq).2.1 (Option.some.inj hf).symm
      · obtain ⟨o, ho, _⟩ := (K.frames.mem (List.mem_filterMap.mpr ⟨env, he, hf⟩)).2
        rw [(N q hq).2.2] at ho; cases ho
  have hen : (hideAll s'.heap (e :: (envOf name scope L a cd :: outer).filterMap (·.frame))).get? e = none := hideAll_none _ (.head _)
  have z := wpAny_leaving_firstW (M := M) (E := E) (Q := fun _ s'' => ∃ h', s'' = { s' with heap := h' } ∧ RaisedSN base g outer e (.ref 147) news h' ∧ g.UpToSlots h') (a0 := .ref ta) K'.stack
    ((funFrames_hide K'.frames hin).of_keeps fun b o hb _ => ⟨o, hb, rfl⟩) rfl he (fun b o hb => of_hideAll _ hb) hen rfl rfl rfl fun h' hL => by
      obtain ⟨k1, ⟨_, _, k2⟩, k3, k4⟩ := hL
      exact ⟨h', rfl, ⟨_, .ref ta, st, sg, hl, k1, hen, k2, k3⟩, (Heap.UpToSlots.of_keeps F.keep).trans k4⟩
  refine wpAny_mono (any_kd (kd_leaving _ _) ⟨_, he, rfl⟩ z) (fun _ s'' h => ?_) fun _ _ h => h.1
  obtain ⟨⟨h', rfl, R, U⟩, D⟩ := h
  exact hQ h' ⟨R, D⟩ U
theorem air_firstN {fd : Obj} (K : Below A base outer g) (F : Fr g L s'.heap m) (N : News g L s'.heap ((e, fltObj ed ta) :: (ed, fd) :: news)) (hf : fd.cls = .type "dict") (hn : ∀ p ∈ news, p.1 ≠ e)
    (hQ : ∀ h', Air base g outer e ed ((ed, fd) :: news) h' → g.UpToSlots h' → Q () { s' with heap := h' }) (hk : scope.kind = .function := by rfl) :
    wpAny M (A.deeper (envOf name scope L a cd)) (leaving (envOf name scope L a cd) (.ref e)) Q E s' := by
  have he := N _ (.head _)
  have hd := N _ (.tail _ (.head _))
  refine air_first K F (fun p hp => N p (.tail _ hp)) he.1 he.2.2 (fun p hp => ?_) hQ hk
  rcases List.mem_cons.mp hp with rfl | hp
  · intro z
    have z' : ed = e := z
    have h1 := hd.1
    rw [show (ed, fd).1 = e from z', he.1] at h1
    have h2 := congrArg (fun o : Option Obj => o.map (·.cls)) h1
    simp [hf] at h2
  · exact hn p hp
theorem Air.drop {l : List Env} {h : Heap} {news' : List (Addr × Obj)} (R : Air base g l e ed news h) (hs : ∀ p ∈ news', p ∈ news) : Air base g l e ed news' h := by
  obtain ⟨⟨B, a0, h1, h2, h3, h4⟩, d⟩ := R
  exact ⟨⟨B, a0, h1, h2, fun q hq => h3 q (hs q hq), h4⟩, d⟩
theorem air_on (K : Below A base outer g) (F : Fr g L g₂ m) (R : Air base g₂ (envOf name scope L a cd :: outer) e ed news s'.heap) (hsm : g₂.UpToSlots s'.heap)
    (hQ : ∀ h', Air base g outer e ed news h' → g.UpToSlots h' → Q () { s' with heap := h' }) :
    wpAny M (A.deeper (envOf name scope L a cd)) (leaving (envOf name scope L a cd) (.ref e)) Q E s' := by
  have z := leave_onSN (M := M) (E := E) (a := a) (cd := cd) (Q := fun _ s'' => ∃ h', s'' = { s' with heap := h' } ∧ RaisedSN base g outer e (.ref 147) news h' ∧ g.UpToSlots h') K F R.1 hsm fun h' r _ u => ⟨h', rfl, r, u⟩
  refine wpAny_mono (any_kd (kd_leaving _ _) R.2 z) (fun _ s'' h => ?_) fun _ _ h => h.1
  obtain ⟨⟨h', rfl, R, U⟩, D⟩ := h
  exact hQ h' ⟨R, D⟩ U
end
section
variable {prog : Program} {w : World} {A₀ : Around} {E : Value → Shared → Prop} {s' : Shared} {base g g₀ G : Heap} {outer : List Env} {L a e ed : Addr} {m : Str → Option Value} {name : Str} {scope : Scope} {cd : Value}
  {n : Str} {b₀ : Stmt} {suite : List Stmt} {pos : Pos} {rest : List ExceptHandler} {Q : Flow → Shared → Prop} {news : List (Addr × Obj)} {KF : Frag} {tt : Expr}
  {p : Program} {loose : List Str} {mean : ExcName → Option Value} {mg mb : Str → Option Value}
/-- the fault's object once it is held -/
abbrev heldObj (ed : Addr) (vs : Array Value) (sl : Array (Option Value)) : Obj := ⟨.ref 147, some ed, .fields vs, sl⟩
theorem air_looks (R : Air base G (envOf name scope L a cd :: outer) e ed news s'.heap) (K : Below A₀ base outer g) (hsm : G.UpToSlots s'.heap) {hs : List ExceptHandler}
    (k : ∀ h', Air base G (envOf name scope L a cd :: outer) e ed news h' → G.UpToSlots h' → wpAny (model prog w) (A₀.deeper (envOf name scope L a cd)) (handleBy (.ref e) (envOf name scope L a cd) hs) Q E { s' with heap := h' }) :
    wpAny (model prog w) (A₀.deeper (envOf name scope L a cd)) (noteFrame (.ref e) (envOf name scope L a cd))
      (fun _ s₂ => wpAny (model prog w) (A₀.deeper (envOf name scope L a cd)) (setFlight (.ref e) none) (fun _ s₃ =>
        wpAny (model prog w) (A₀.deeper (envOf name scope L a cd)) (handleBy (.ref e) (envOf name scope L a cd) hs) Q E s₃) E s₂) E s' := by
  obtain ⟨⟨B, a0, hB, hBG, hl, hfl⟩, hd⟩ := R
  have z := wpAny_looks_onW (M := model prog w) (E := E) (Q := fun _ s'' => ∃ h', s'' = { s' with heap := h' } ∧ Heap.HeldW B (envOf name scope L a cd :: outer) e (.ref 147) a0 L h' ∧ s'.heap.UpToSlots h') (Around.frames_deeper K.stack) rfl hfl fun h₄ x u => ⟨h₄, rfl, x, u⟩
  refine wpAny_mono (any_kd (kd_note _ _) hd z) (fun _ s'' h => ?_) fun _ _ h => h.1
  obtain ⟨⟨h₄, rfl, hheld₄, hsm₄⟩, hd₄⟩ := h
  have z := wpAny_landsW (M := model prog w) (A := A₀.deeper (envOf name scope L a cd)) (E := E) (s := { s' with heap := h₄ }) (Q := fun _ s'' => ∃ h', s'' = { s' with heap := h' } ∧ Heap.FlyingW B (envOf name scope L a cd :: outer) e (.ref 147) a0 h' ∧ h₄.UpToSlots h') hheld₄ fun h₅ x u => ⟨h₅, rfl, x, u⟩
  refine wpAny_mono (any_kd (kd_setFlight _ _) hd₄ z) (fun _ s'' h => ?_) fun _ _ h => h.1
  obtain ⟨⟨h₅, rfl, hheld, hsm₅⟩, hd₅⟩ := h
  exact k h₅ ⟨⟨B, a0, hB, hBG, hl, hheld⟩, hd₅⟩ (hsm.trans (hsm₄.trans hsm₅))
theorem air_suite {h₅ : Heap} (R : Air base G (envOf name scope L a cd :: outer) e ed news h₅) (F : Fr g L G m) (K : Below A₀ base outer g) (hsm : G.UpToSlots h₅) (XB : KF.In base) (TB : Top p loose mean mg mb base)
    (D : KtsDicts (outer.filterMap (·.frame)) g) (T0 : KtsTurn (outer.filterMap (·.frame)) g₀ g) {s₅ : Shared} (hs₅ : s₅.heap = h₅) {M : Model} {A : Around} {E : Value → Shared → Prop} {Q : Unit → Shared → Prop}
    (k : ∀ h' g' vs sl, KtsTurn (outer.filterMap (·.frame)) g₀ g' → Fr g' L h' m → News g' L h' ((e, heldObj ed vs sl) :: news) → Below A₀ base outer g' → KF.In g' → Top p loose mean mg mb g' → KtsDicts (outer.filterMap (·.frame)) g' → Q () { s₅ with heap := h' }) :
    wpAny M A (setFlight (.ref e) none) Q E s₅ := by
  subst hs₅
  obtain ⟨⟨B, a0, hB, hBG, hl, hheld⟩, hd⟩ := R
  have hL : B.get? L = none := by
    obtain ⟨_, ⟨L', _, hf, hn', _⟩, _⟩ := hheld.2.2.1
    obtain rfl : L = L' := Option.some.inj hf
    exact hn'
  have z := lands_againW (M := M) (A := A) (E := E) (Q := fun _ s'' => ∃ h', s'' = { s₅ with heap := h' } ∧ Heap.FlyingW B (envOf name scope L a cd :: outer) e (.ref 147) a0 h' ∧ s₅.heap.UpToSlots h') hheld fun h₆ x u => ⟨h₆, rfl, x, u⟩
  refine wpAny_mono (any_kd (kd_setFlight _ _) hd z) (fun _ s'' h => ?_) fun _ _ h => h.1
  obtain ⟨⟨h₆, rfl, hfl₆, hsm₆⟩, o6, ho6, hd6⟩ := h
  obtain ⟨g₆, T₆, F₆, K₆⟩ := kts_ground K F hBG hfl₆.1 (hsm.trans hsm₆)
  obtain ⟨oe, ws, hoe, hoec, hoed, _⟩ := hfl₆.first
  obtain rfl : o6 = oe := Option.some.inj (ho6.symm.trans hoe)
  have ne₆ : g₆.get? e = none := T₆.none_ _ (kts_fresh F hBG hfl₆.2.1 fun o ho m => by
    obtain ⟨_, o', ho', hd⟩ := K.frames.mem m
    rw [ho] at ho'
    cases ho'
    obtain ⟨sl, hs⟩ := (hsm.trans hsm₆) _ _ (F.keep _ _ ho) hd
    rw [hoe] at hs
    cases hs
    exact hd _ hoed)
  have Nl : News g₆ L h₆ news := fun q hq => ⟨hfl₆.1 _ _ (hl q hq).1, (fun z => by have := (hl q hq).1; rw [z, hL] at this; cases this), T₆.none_ _ (kts_none F.keep (hl q hq).2.1)⟩
  obtain ⟨c6, d6, dt6, sl6⟩ := o6
  dsimp only at hoec hoed hd6
  subst hoec hoed hd6
  refine k h₆ g₆ ws sl6 (T0.trans T₆) F₆ (fun q hq => ?_) K₆ (XB.keeps K₆.stays) (TB.keeps K₆.stays) (D.turn T₆)
  rcases List.mem_cons.mp hq with rfl | hq
  · refine ⟨hoe, fun z => ?_, ne₆⟩
    obtain ⟨oL, es, ep, hLo, hLd, _⟩ := F₆.ns
    have z' : e = L := z
    rw [← z', hoe] at hLo
    cases hLo
    cases hLd
  · exact Nl q hq
theorem air_caught_as (R : Air base G (envOf name scope L a cd :: outer) e ed news s'.heap) (F : Fr g L G m) (K : Below A₀ base outer g) (hsm : G.UpToSlots s'.heap) (XB : KF.In base) (TB : Top p loose mean mg mb base)
    (D : KtsDicts (outer.filterMap (·.frame)) g) (T0 : KtsTurn (outer.filterMap (·.frame)) g₀ g) (T : KtsTest prog w KF p loose mg mb name scope L a cd (.ref 147) tt true)
    (k : ∀ h' g' tk vs sl, KtsTurn (outer.filterMap (·.frame)) g₀ g' → Fr g' L h' (fun y => if y = n then some (.ref e) else m y) → News g' L h' ((e, heldObj ed vs sl) :: news) → Below A₀ base outer g' → KF.In g' → Top p loose mean mg mb g' → KtsDicts (outer.filterMap (·.frame)) g' →
      wpAny (model prog w) ((A₀.deeper (envOf name scope L a cd)).mark (some (.ref e))) (execs (b₀ :: suite) (envOf name scope L a cd))
        (fun f s₄ => wpAny (model prog w) (A₀.deeper (envOf name scope L a cd)) (do bindName (envOf name scope L a cd) n .none; unbindBehindTheSuite (envOf name scope L a cd) n pos) (fun _ s₅ => Q f s₅) E s₄)
        (AsSuiteRaised (model prog w) ((A₀.deeper (envOf name scope L a cd)).mark (some (.ref e))) (envOf name scope L a cd) n pos (notedBy (model prog w) ((A₀.deeper (envOf name scope L a cd)).mark (some (.ref e))) (envOf name scope L a cd) (cameBackBy (model prog w) (A₀.deeper (envOf name scope L a cd)) (envOf name scope L a cd) E)))
        { s' with heap := h', toks := tk })
    (hk : scope.kind = .function := by rfl) (hlo : (envOf name scope L a cd).kindOf n = some .local := by rfl) :
    wpAny (model prog w) (A₀.deeper (envOf name scope L a cd)) (noteFrame (.ref e) (envOf name scope L a cd))
      (fun _ s₂ => wpAny (model prog w) (A₀.deeper (envOf name scope L a cd)) (setFlight (.ref e) none) (fun _ s₃ =>
        wpAny (model prog w) (A₀.deeper (envOf name scope L a cd)) (handleBy (.ref e) (envOf name scope L a cd) (.ExceptHandler (some tt) (some n) (b₀ :: suite) pos :: rest)) Q E s₃) E s₂) E s' := by
  refine air_looks R K hsm fun h₄ R₄ hsm₄ => ?_
  have R' := R₄.1
  obtain ⟨B₁, a1, _, hBG₁, _, hfl₁⟩ := R'
  obtain ⟨g₅, T₅, F₅, K₅⟩ := kts_ground K F hBG₁ hfl₁.1 hsm₄
  refine wpAny_handleBy_cons (codeAny_handlers_test (T _ _ _ _ g₅ e m F₅ (XB.keeps K₅.stays) (topRead_of (TB.keeps K₅.stays)) R₄.1.ty fun h₅ kp => ?_)) (by intro q; cases q)
  refine codeAny_handlers_suite_as ?_
  refine air_suite ⟨R₄.1.keeps kp, R₄.2.keeps kp⟩ F K (hsm₄.trans (Heap.UpToSlots.of_keeps kp)) XB TB D T0 rfl fun h₆ g₆ vs sl T₆ F₆ N₆ K₆ X₆ P₆ D₆ => ?_
  refine stN F₆ N₆ (fun h₇ F₇ N₇ => ?_) hk hlo
  exact k h₇ g₆ _ vs sl T₆ F₇ N₇ K₆ X₆ P₆ D₆
theorem air_caught (R : Air base G (envOf name scope L a cd :: outer) e ed news s'.heap) (F : Fr g L G m) (K : Below A₀ base outer g) (hsm : G.UpToSlots s'.heap) (XB : KF.In base) (TB : Top p loose mean mg mb base)
    (D : KtsDicts (outer.filterMap (·.frame)) g) (T0 : KtsTurn (outer.filterMap (·.frame)) g₀ g) (T : KtsTest prog w KF p loose mg mb name scope L a cd (.ref 147) tt true)
    (k : ∀ h' g' vs sl, KtsTurn (outer.filterMap (·.frame)) g₀ g' → Fr g' L h' m → News g' L h' ((e, heldObj ed vs sl) :: news) → Below A₀ base outer g' → KF.In g' → Top p loose mean mg mb g' → KtsDicts (outer.filterMap (·.frame)) g' →
      wpAny (model prog w) ((A₀.deeper (envOf name scope L a cd)).mark (some (.ref e))) (execs (b₀ :: suite) (envOf name scope L a cd)) Q E { s' with heap := h' })
    (hE : PassesOwnAt (model prog w) ((A₀.deeper (envOf name scope L a cd)).mark (some (.ref e))) (A₀.deeper (envOf name scope L a cd)) (envOf name scope L a cd) E := by passes_own) :
    wpAny (model prog w) (A₀.deeper (envOf name scope L a cd)) (noteFrame (.ref e) (envOf name scope L a cd))
      (fun _ s₂ => wpAny (model prog w) (A₀.deeper (envOf name scope L a cd)) (setFlight (.ref e) none) (fun _ s₃ =>
        wpAny (model prog w) (A₀.deeper (envOf name scope L a cd)) (handleBy (.ref e) (envOf name scope L a cd) (.ExceptHandler (some tt) none (b₀ :: suite) pos :: rest)) Q E s₃) E s₂) E s' := by
  refine air_looks R K hsm fun h₄ R₄ hsm₄ => ?_
  have R' := R₄.1
  obtain ⟨B₁, a1, _, hBG₁, _, hfl₁⟩ := R'
  obtain ⟨g₅, T₅, F₅, K₅⟩ := kts_ground K F hBG₁ hfl₁.1 hsm₄
  refine wpAny_handleBy_cons (codeAny_handlers_test (T _ _ _ _ g₅ e m F₅ (XB.keeps K₅.stays) (topRead_of (TB.keeps K₅.stays)) R₄.1.ty fun h₅ kp => ?_)) (by intro q; cases q)
  refine codeAny_handlers_suite ?_
  refine air_suite ⟨R₄.1.keeps kp, R₄.2.keeps kp⟩ F K (hsm₄.trans (Heap.UpToSlots.of_keeps kp)) XB TB D T0 rfl fun h₆ g₆ vs sl T₆ F₆ N₆ K₆ X₆ P₆ D₆ => ?_
  exact wpAny_passesOwnAt hE (k h₆ g₆ vs sl T₆ F₆ N₆ K₆ X₆ P₆ D₆)
end
end
section
open PySem PySem.W PyProof.Rows PySem.Calls
section
variable {prog : Program} {w : World} {A : Around} {E : Value → Shared → Prop} {s : Shared} {y : Str} {t u : Tok}
theorem len_nat {Q : Value → Shared → Prop} (hl : y.length < 1048576) (h : ∀ t tk, Q (.int (y.length : Int) t) { s with toks := tk }) : wpAny (model prog w) A (call (.builtin "len") [.str y t]) Q E s :=
  PySem.P.len_str (by omega) (h _ _)
theorem charAt_nat {j : Nat} (hj : j < y.length) : Txt.charAt y (j : Int) = y.cps[j]? := by
  unfold Txt.charAt seqIndex?
  have h0 : ¬ ((j : Int) < 0) := by omega
  have h1 : (0 : Int) ≤ j ∧ (j : Int) < y.length := by omega
  simp only [h0, if_false, h1, and_self, Int.toNat_natCast]
  simp
theorem item_nat {value slice : Expr} {j : Nat} {Q : Value → Shared → Prop} (hl : y.length < 1048576) (ha : Asc y) (hj : (j : Int) < y.length)
    (h : ∀ c tk tk', y.cps.toList[j]? = some c → c < 128 → Q (.str ⟨#[c]⟩ tk) { s with toks := tk' })
    (hs : subscripted slice false (.str y t) (.int j u) = operate [.str y t, .int j u] (getItem (.str y t) (.int j u)) := by with_unfolding_all rfl)
    (ht : ∀ r, letTemporaryGo value (.str y t) r = pure () := by intro _; with_unfolding_all rfl) :
    wpAny (model prog w) A (subscriptTail value slice (.str y t) (.int j u)) Q E s := by
  have hj' : j < y.length := by omega
  refine item_str (PyProof.Rows.fitsSsize_of (N := 9223372036854775808) (by omega) (by omega) (Int.le_refl _)) (by omega) hj (fun _ => ?_) hs ht
  have hj2 : j < y.cps.size := hj'
  have e : Txt.item y (j : Int) = ⟨#[y.cps[j]]⟩ := by
    unfold Txt.item
    rw [charAt_nat hj']
    simp [hj2]
  rw [e]
  refine h _ _ _ ?_ (ha _ ?_)
  · simp [hj2]
  · simp
end
end
section
open PySem PySem.W PyProof.Rows PySem.Calls
/-- the place behind the signs that p holds of, from n on -/
def scan (p : Nat → Bool) (l : List Nat) (n : Nat) : Nat := n + ((l.drop n).takeWhile p).length
theorem scan_hit {p : Nat → Bool} {l : List Nat} {j c : Nat} (h : l[j]? = some c) (hp : p c = true) : scan p l (j + 1) = scan p l j := by
  unfold scan
  obtain ⟨hl, e⟩ := List.getElem?_eq_some_iff.mp h
  rw [List.drop_eq_getElem_cons hl, e, List.takeWhile_cons, hp]
  simp only [if_true, List.length_cons]
  omega
theorem scan_stop {p : Nat → Bool} {l : List Nat} {j c : Nat} (h : l[j]? = some c) (hp : p c = false) : scan p l j = j := by
  unfold scan
  obtain ⟨hl, e⟩ := List.getElem?_eq_some_iff.mp h
  rw [List.drop_eq_getElem_cons hl, e, List.takeWhile_cons, hp]
  simp
theorem scan_end {p : Nat → Bool} {l : List Nat} {j : Nat} (h : l.length ≤ j) : scan p l j = j := by
  unfold scan
  rw [List.drop_eq_nil_of_le h]
  simp
theorem scan_ge {p : Nat → Bool} {l : List Nat} {j : Nat} : j ≤ scan p l j := by unfold scan; omega
theorem scan_le {p : Nat → Bool} {l : List Nat} {j : Nat} (h : j ≤ l.length) : scan p l j ≤ l.length := by
  unfold scan
  have h1 := (List.takeWhile_sublist (l := l.drop j) p).length_le
  rw [List.length_drop] at h1
  omega
theorem len_list (y : Str) : y.cps.toList.length = y.length := by simp [Str.length]
theorem name_scan {l : List Nat} {n : Nat} (h : (l[n]?).any nsB = true) : scan ncB l n ≠ n := by
  cases q : l[n]? with
  | none => rw [q] at h; simp at h
  | some c =>
    rw [q] at h
    have h' : nsB c = true := by simpa using h
    have e := scan_hit q (show ncB c = true by unfold ncB; rw [h']; rfl)
    have g := scan_ge (p := ncB) (l := l) (j := n + 1)
    omega
theorem slice_nat (y : Str) {n j : Nat} (h1 : n ≤ j) (h2 : j ≤ y.length) : Txt.slice y (some (n : Int)) (some (j : Int)) = ⟨((y.cps.toList.drop n).take (j - n)).toArray⟩ := by
  unfold Txt.slice
  rw [StrLaws.sliced_plain y h1 h2]
  split
  · rename_i h
    rw [StrLaws.strSliceIndices_plain h1 h2] at h
    simp only [BEq.rfl, Bool.true_and, List.length_map, List.length_range, beq_iff_eq] at h
    have e1 : n = 0 := by omega
    have e2 : j = y.length := by omega
    subst e1 e2
    refine Str.ext' ?_
    rw [List.drop_zero, Nat.sub_zero, ← len_list, List.take_length]
  · rfl
theorem take_scan (p : Nat → Bool) (l : List Nat) (n : Nat) : (l.drop n).take (scan p l n - n) = (l.drop n).takeWhile p := by
  unfold scan
  rw [Nat.add_sub_cancel_left]
  exact (List.prefix_iff_eq_take.mp (List.takeWhile_prefix p)).symm
end
local macro_rules | `(tactic| walk_at $s:str) => `(tactic| k_extra $s)
local macro_rules | `(tactic| k_room) => `(tactic| ktr_room)
local macro_rules | `(tactic| k_all) => `(tactic| assumption)
section
open PySem PySem.W PyProof.Rows PySem.Calls
set_option maxHeartbeats 8000000
theorem is_space_w {w : World} {mean : ExcName → Option Value} {mg mb : Str → Option Value} {dp un : Nat} {gd : Option (List Code)} {cn : Str} {cs : Scope} {a : Addr} {ccd : Value} {cl : List (Str × Addr)} {outer : List Env} {A₀ : Around} {base h₀ : Heap} {L : Addr} {m : Str → Option Value} {s : Shared} {Q E : Value → Shared → Prop} {news : List (Addr × Obj)}
   (B : Below A₀ base outer h₀) (F : Fr h₀ L s.heap m) (X : (K w.params).In h₀) (N : News h₀ L s.heap news) (T : Top q (looseW q [Str.ofString "DtdFault"]) mean mg mb h₀) (hk : cs.kind = .function)
   (hd : dp + 10 < recursionLimit) (hu : un + 20 < cLine) (x : Str) (t : Tok) (c : Nat) (hx : x = ⟨#[c]⟩) (hc : c < 128)
   (hret : CbRet h₀ L m news s Q (fun _ => .bool (spB c))) :
   wpAny (model PySem.Challenge.rw_xw0207_01.row.prog w) (ktrTop dp un gd cn cs L a ccd cl outer) (call (.ref 52) [.str x t]) Q E s := by
  k_with_none
  k_with "call builtin:len" => (k_here; (with_reducible show wpAny _ _ (call _ [Value.str _ _]) _ _ _); k_dflt (refine' len_nat ?k1z0 ?_; (case k1z0 => first | assumption | decide)); k_whole; intro t9 tk9; (try dsimp only))
  k_with "subscriptTail" => (k_here; (with_reducible show wpAny _ _ (subscriptTail _ _ (Value.str _ _) (Value.int _ _)) _ _ _); k_dflt (refine' item_nat ?k1z1 ?k2z1 ?k3z1 ?_; (case k1z1 => assumption); (case k2z1 => assumption); (case k3z1 => first | (simp only [decide_eq_true_eq] at *; omega) | (simp only [decide_eq_true_eq, decide_eq_false_iff_not] at *; omega) | omega)); k_whole; intro c9 t9 tk9 hc9 hb9; (try dsimp only))
  k_with "exec Raise some none" => (k_here; k_dflt (refine' Raise_val (w := by assumption) ?khz2 ?_; (case khz2 => exact rfl)); k_whole)
  k_with "FltUp" => (k_here; k_dflt (refine' FltUp.mk ?kXz3 ?kFz3 ?kNz3 ?_; (case kXz3 => k_asm); (case kFz3 => k_asm); (case kNz3 => k_asm)); k_whole)
  k_with "leaving ref" => (k_here; first | (k_dflt (refine' air_firstN ?kKz4 ?kFz4 ?kNz4 ?kfz4 ?knz4 ?_; (case kFz4 => k_asm); (case kNz4 => k_asm); (case kKz4 => k_asm); (case kfz4 => exact rfl); (case knz4 => assumption)); k_whole; intro h9 R9 U9; (try dsimp only)) | (k_dflt (refine' air_on ?kKz4 ?kFz4 ?kRz4 ?kUz4 ?_; (case kRz4 => assumption); (case kFz4 => assumption); (case kUz4 => assumption); (case kKz4 => assumption)); k_whole; intro h9 R9 U9; (try dsimp only)))
  subst hx
  revert X; k_fill; intro X
  refine wpAny_call ?_
  k_dflt cell_enter
  k_steps
  all_goals (refine cb_retB hret ?_ (by assumption) (by assumption); rw [sp_occ c hc] at *; simp_all [one_ne c hc])
theorem is_small_w {w : World} {mean : ExcName → Option Value} {mg mb : Str → Option Value} {dp un : Nat} {gd : Option (List Code)} {cn : Str} {cs : Scope} {a : Addr} {ccd : Value} {cl : List (Str × Addr)} {outer : List Env} {A₀ : Around} {base h₀ : Heap} {L : Addr} {m : Str → Option Value} {s : Shared} {Q E : Value → Shared → Prop} {news : List (Addr × Obj)}
   (B : Below A₀ base outer h₀) (F : Fr h₀ L s.heap m) (X : (K w.params).In h₀) (N : News h₀ L s.heap news) (T : Top q (looseW q [Str.ofString "DtdFault"]) mean mg mb h₀) (hk : cs.kind = .function)
   (hd : dp + 10 < recursionLimit) (hu : un + 20 < cLine) (x : Str) (t : Tok) (c : Nat) (hx : x = ⟨#[c]⟩) (hc : c < 128)
   (hret : CbRet h₀ L m news s Q (fun _ => .bool (smB c))) :
   wpAny (model PySem.Challenge.rw_xw0207_01.row.prog w) (ktrTop dp un gd cn cs L a ccd cl outer) (call (.ref 59) [.str x t]) Q E s := by
  k_with_none
  k_with "call builtin:len" => (k_here; (with_reducible show wpAny _ _ (call _ [Value.str _ _]) _ _ _); k_dflt (refine' len_nat ?k1z0 ?_; (case k1z0 => first | assumption | decide)); k_whole; intro t9 tk9; (try dsimp only))
  k_with "subscriptTail" => (k_here; (with_reducible show wpAny _ _ (subscriptTail _ _ (Value.str _ _) (Value.int _ _)) _ _ _); k_dflt (refine' item_nat ?k1z1 ?k2z1 ?k3z1 ?_; (case k1z1 => assumption); (case k2z1 => assumption); (case k3z1 => first | (simp only [decide_eq_true_eq] at *; omega) | (simp only [decide_eq_true_eq, decide_eq_false_iff_not] at *; omega) | omega)); k_whole; intro c9 t9 tk9 hc9 hb9; (try dsimp only))
  k_with "exec Raise some none" => (k_here; k_dflt (refine' Raise_val (w := by assumption) ?khz2 ?_; (case khz2 => exact rfl)); k_whole)
  k_with "FltUp" => (k_here; k_dflt (refine' FltUp.mk ?kXz3 ?kFz3 ?kNz3 ?_; (case kXz3 => k_asm); (case kFz3 => k_asm); (case kNz3 => k_asm)); k_whole)
  k_with "leaving ref" => (k_here; first | (k_dflt (refine' air_firstN ?kKz4 ?kFz4 ?kNz4 ?kfz4 ?knz4 ?_; (case kFz4 => k_asm); (case kNz4 => k_asm); (case kKz4 => k_asm); (case kfz4 => exact rfl); (case knz4 => assumption)); k_whole; intro h9 R9 U9; (try dsimp only)) | (k_dflt (refine' air_on ?kKz4 ?kFz4 ?kRz4 ?kUz4 ?_; (case kRz4 => assumption); (case kFz4 => assumption); (case kUz4 => assumption); (case kKz4 => assumption)); k_whole; intro h9 R9 U9; (try dsimp only)))
  subst hx
  revert X; k_fill; intro X
  refine wpAny_call ?_
  k_dflt cell_enter
  k_steps
  all_goals (refine cb_retB hret ?_ (by assumption) (by assumption); rw [Bool.eq_iff_iff]; simp only [lst_a, lst_z, one_lt, smB, Bool.and_eq_true, Bool.or_eq_true, Bool.not_eq_true', decide_eq_false_iff_not, decide_eq_true_eq] at *; omega)
theorem is_start_w {w : World} {mean : ExcName → Option Value} {mg mb : Str → Option Value} {dp un : Nat} {gd : Option (List Code)} {cn : Str} {cs : Scope} {a : Addr} {ccd : Value} {cl : List (Str × Addr)} {outer : List Env} {A₀ : Around} {base h₀ : Heap} {L : Addr} {m : Str → Option Value} {s : Shared} {Q E : Value → Shared → Prop} {news : List (Addr × Obj)}
   (B : Below A₀ base outer h₀) (F : Fr h₀ L s.heap m) (X : (K w.params).In h₀) (N : News h₀ L s.heap news) (T : Top q (looseW q [Str.ofString "DtdFault"]) mean mg mb h₀) (hk : cs.kind = .function)
   (hd : dp + 20 < recursionLimit) (hu : un + 40 < cLine) (x : Str) (t : Tok) (c : Nat) (hx : x = ⟨#[c]⟩) (hc : c < 128)
   (hret : CbRet h₀ L m news s Q (fun _ => .bool (nsB c))) :
   wpAny (model PySem.Challenge.rw_xw0207_01.row.prog w) (ktrTop dp un gd cn cs L a ccd cl outer) (call (.ref 66) [.str x t]) Q E s := by
  k_with_none
  k_with "call builtin:len" => (k_here; (with_reducible show wpAny _ _ (call _ [Value.str _ _]) _ _ _); k_dflt (refine' len_nat ?k1z0 ?_; (case k1z0 => first | assumption | decide)); k_whole; intro t9 tk9; (try dsimp only))
  k_with "subscriptTail" => (k_here; (with_reducible show wpAny _ _ (subscriptTail _ _ (Value.str _ _) (Value.int _ _)) _ _ _); k_dflt (refine' item_nat ?k1z1 ?k2z1 ?k3z1 ?_; (case k1z1 => assumption); (case k2z1 => assumption); (case k3z1 => first | (simp only [decide_eq_true_eq] at *; omega) | (simp only [decide_eq_true_eq, decide_eq_false_iff_not] at *; omega) | omega)); k_whole; intro c9 t9 tk9 hc9 hb9; (try dsimp only))
  k_with "exec Raise some none" => (k_here; k_dflt (refine' Raise_val (w := by assumption) ?khz2 ?_; (case khz2 => exact rfl)); k_whole)
  k_with "FltUp" => (k_here; k_dflt (refine' FltUp.mk ?kXz3 ?kFz3 ?kNz3 ?_; (case kXz3 => k_asm); (case kFz3 => k_asm); (case kNz3 => k_asm)); k_whole)
  k_with "leaving ref" => (k_here; first | (k_dflt (refine' air_firstN ?kKz4 ?kFz4 ?kNz4 ?kfz4 ?knz4 ?_; (case kFz4 => k_asm); (case kNz4 => k_asm); (case kKz4 => k_asm); (case kfz4 => exact rfl); (case knz4 => assumption)); k_whole; intro h9 R9 U9; (try dsimp only)) | (k_dflt (refine' air_on ?kKz4 ?kFz4 ?kRz4 ?kUz4 ?_; (case kRz4 => assumption); (case kFz4 => assumption); (case kUz4 => assumption); (case kKz4 => assumption)); k_whole; intro h9 R9 U9; (try dsimp only)))
  k_with "call ref" => (k_here; k_dflt (refine' is_small_w ?k1z5 ?k2z5 ?k3z5 ?k4z5 ?k5z5 ?kKz5 ?kdz5 ?kuz5 _ _ _ ?kxz5 ?kcz5 ?_; (case k1z5 => k_asm); (case k2z5 => k_asm); (case k3z5 => k_asm); (case k4z5 => k_asm); (case k5z5 => k_asm); (case kKz5 => first | exact rfl | assumption); (case kdz5 => ktr_room); (case kuz5 => ktr_units); (case kxz5 => exact rfl); (case kcz5 => assumption); k_whole); intro t9 h9 tk9 F9 N9; (try dsimp only); (try k_sweep))
  subst hx
  revert X; k_fill; intro X
  refine wpAny_call ?_
  k_dflt cell_enter
  k_steps
  all_goals (refine cb_retB hret ?_ (by assumption) (by assumption); rw [Bool.eq_iff_iff]; simp only [lst_A, lst_Z, one_lt, eq_us c hc, eq_co c hc, nsB, smB, Bool.and_eq_true, Bool.or_eq_true, Bool.not_eq_true', Bool.and_eq_false_iff, decide_eq_false_iff_not, decide_eq_true_eq, beq_iff_eq, beq_eq_false_iff_ne] at *; omega)
theorem is_char_w {w : World} {mean : ExcName → Option Value} {mg mb : Str → Option Value} {dp un : Nat} {gd : Option (List Code)} {cn : Str} {cs : Scope} {a : Addr} {ccd : Value} {cl : List (Str × Addr)} {outer : List Env} {A₀ : Around} {base h₀ : Heap} {L : Addr} {m : Str → Option Value} {s : Shared} {Q E : Value → Shared → Prop} {news : List (Addr × Obj)}
   (B : Below A₀ base outer h₀) (F : Fr h₀ L s.heap m) (X : (K w.params).In h₀) (N : News h₀ L s.heap news) (T : Top q (looseW q [Str.ofString "DtdFault"]) mean mg mb h₀) (hk : cs.kind = .function)
   (hd : dp + 30 < recursionLimit) (hu : un + 60 < cLine) (x : Str) (t : Tok) (c : Nat) (hx : x = ⟨#[c]⟩) (hc : c < 128)
   (hret : CbRet h₀ L m news s Q (fun _ => .bool (ncB c))) :
   wpAny (model PySem.Challenge.rw_xw0207_01.row.prog w) (ktrTop dp un gd cn cs L a ccd cl outer) (call (.ref 73) [.str x t]) Q E s := by
  k_with_none
  k_with "call builtin:len" => (k_here; (with_reducible show wpAny _ _ (call _ [Value.str _ _]) _ _ _); k_dflt (refine' len_nat ?k1z0 ?_; (case k1z0 => first | assumption | decide)); k_whole; intro t9 tk9; (try dsimp only))
  k_with "subscriptTail" => (k_here; (with_reducible show wpAny _ _ (subscriptTail _ _ (Value.str _ _) (Value.int _ _)) _ _ _); k_dflt (refine' item_nat ?k1z1 ?k2z1 ?k3z1 ?_; (case k1z1 => assumption); (case k2z1 => assumption); (case k3z1 => first | (simp only [decide_eq_true_eq] at *; omega) | (simp only [decide_eq_true_eq, decide_eq_false_iff_not] at *; omega) | omega)); k_whole; intro c9 t9 tk9 hc9 hb9; (try dsimp only))
  k_with "exec Raise some none" => (k_here; k_dflt (refine' Raise_val (w := by assumption) ?khz2 ?_; (case khz2 => exact rfl)); k_whole)
  k_with "FltUp" => (k_here; k_dflt (refine' FltUp.mk ?kXz3 ?kFz3 ?kNz3 ?_; (case kXz3 => k_asm); (case kFz3 => k_asm); (case kNz3 => k_asm)); k_whole)
  k_with "leaving ref" => (k_here; first | (k_dflt (refine' air_firstN ?kKz4 ?kFz4 ?kNz4 ?kfz4 ?knz4 ?_; (case kFz4 => k_asm); (case kNz4 => k_asm); (case kKz4 => k_asm); (case kfz4 => exact rfl); (case knz4 => assumption)); k_whole; intro h9 R9 U9; (try dsimp only)) | (k_dflt (refine' air_on ?kKz4 ?kFz4 ?kRz4 ?kUz4 ?_; (case kRz4 => assumption); (case kFz4 => assumption); (case kUz4 => assumption); (case kKz4 => assumption)); k_whole; intro h9 R9 U9; (try dsimp only)))
  k_with "call ref" => (k_here; k_dflt (refine' is_small_w ?k1z5 ?k2z5 ?k3z5 ?k4z5 ?k5z5 ?kKz5 ?kdz5 ?kuz5 _ _ _ ?kxz5 ?kcz5 ?_; (case k1z5 => k_asm); (case k2z5 => k_asm); (case k3z5 => k_asm); (case k4z5 => k_asm); (case k5z5 => k_asm); (case kKz5 => first | exact rfl | assumption); (case kdz5 => ktr_room); (case kuz5 => ktr_units); (case kxz5 => exact rfl); (case kcz5 => assumption); k_whole); intro t9 h9 tk9 F9 N9; (try dsimp only); (try k_sweep))
  k_with "call ref" => (k_here; k_dflt (refine' is_start_w ?k1z6 ?k2z6 ?k3z6 ?k4z6 ?k5z6 ?kKz6 ?kdz6 ?kuz6 _ _ _ ?kxz6 ?kcz6 ?_; (case k1z6 => k_asm); (case k2z6 => k_asm); (case k3z6 => k_asm); (case k4z6 => k_asm); (case k5z6 => k_asm); (case kKz6 => first | exact rfl | assumption); (case kdz6 => ktr_room); (case kuz6 => ktr_units); (case kxz6 => exact rfl); (case kcz6 => assumption); k_whole); intro t9 h9 tk9 F9 N9; (try dsimp only); (try k_sweep))
  subst hx
  revert X; k_fill; intro X
  refine wpAny_call ?_
  k_dflt cell_enter
  k_steps
  all_goals (refine cb_retB hret ?_ (by assumption) (by assumption); rw [Bool.eq_iff_iff]; simp only [lst_0, lst_9, one_lt, eq_hy c hc, eq_do c hc, ncB, nsB, smB, Bool.and_eq_true, Bool.or_eq_true, Bool.not_eq_true', Bool.and_eq_false_iff, Bool.or_eq_false_iff, decide_eq_false_iff_not, decide_eq_true_eq, beq_iff_eq, beq_eq_false_iff_ne] at *; first | omega | (simp only [true_iff]; omega))
end
section
open PySem PySem.W PyProof.Rows PySem.Calls
set_option maxHeartbeats 8000000
theorem spaces_w {w : World} {mean : ExcName → Option Value} {mg mb : Str → Option Value} {dp un : Nat} {gd : Option (List Code)} {cn : Str} {cs : Scope} {a : Addr} {ccd : Value} {cl : List (Str × Addr)} {outer : List Env} {A₀ : Around} {base h₀ : Heap} {L : Addr} {m : Str → Option Value} {s : Shared} {Q E : Value → Shared → Prop} {y : Str} {t : Tok} {b : Int} {tb : Tok} {at0 : Int} {ta : Tok} {z1 z2 z3 z4 : Int} {k1 k2 k3 k4 : Tok} {x dx : Addr} {rest : List (Addr × Obj)}
   (B : Below A₀ base outer h₀) (F : Fr h₀ L s.heap m) (X : (K w.params).In h₀) (N : News h₀ L s.heap ((x, instObj 272 dx) :: (dx, dictOf [⟨z1, .str (Str.ofString "text") k1, .str y t⟩, ⟨z2, .str (Str.ofString "begin") k2, .int b tb⟩, ⟨z3, .str (Str.ofString "is_whole") k3, .bool true⟩, ⟨z4, .str (Str.ofString "at") k4, .int (at0) ta⟩] 4) :: rest)) (hyl : y.length < 1048576) (hy : Asc y) (hx : @LT.lt Nat _ dx x) (hr : ∀ p ∈ rest, p.1 ≠ dx) (T : Top q (looseW q [Str.ofString "DtdFault"]) mean mg mb h₀) (hk : cs.kind = .function)
   (hd : dp + 20 < recursionLimit) (hu : un + 40 < cLine) (n : Nat) (hn : n ≤ y.length) (hat : at0 = (n : Int))
   (hret : ∀ (tr ta' : Tok) (h' : Heap) (tk' : Nat), Fr h₀ L h' m → News h₀ L h' ((x, instObj 272 dx) :: (dx, dictOf [⟨z1, .str (Str.ofString "text") k1, .str y t⟩, ⟨z2, .str (Str.ofString "begin") k2, .int b tb⟩, ⟨z3, .str (Str.ofString "is_whole") k3, .bool true⟩, ⟨z4, .str (Str.ofString "at") k4, .int (((scan spB y.cps.toList n : Nat) : Int)) ta'⟩] 4) :: rest) →
      Q (.int (((scan spB y.cps.toList n : Nat) : Int) - n) tr) { s with heap := h', toks := tk' }) :
   wpAny (model PySem.Challenge.rw_xw0207_01.row.prog w) (ktrTop dp un gd cn cs L a ccd cl outer) (call (.ref 220) [.ref x]) Q E s := by
  k_with_none
  k_with "call builtin:len" => (k_here; (with_reducible show wpAny _ _ (call _ [Value.str _ _]) _ _ _); k_dflt (refine' len_nat ?k1z0 ?_; (case k1z0 => first | assumption | decide)); k_whole; intro t9 tk9; (try dsimp only))
  k_with "subscriptTail" => (k_here; (with_reducible show wpAny _ _ (subscriptTail _ _ (Value.str _ _) (Value.int _ _)) _ _ _); k_dflt (refine' item_nat ?k1z1 ?k2z1 ?k3z1 ?_; (case k1z1 => assumption); (case k2z1 => assumption); (case k3z1 => first | (simp only [decide_eq_true_eq] at *; omega) | (simp only [decide_eq_true_eq, decide_eq_false_iff_not] at *; omega) | omega)); k_whole; intro c9 t9 tk9 hc9 hb9; (try dsimp only))
  k_with "exec Raise some none" => (k_here; k_dflt (refine' Raise_val (w := by assumption) ?khz2 ?_; (case khz2 => exact rfl)); k_whole)
  k_with "FltUp" => (k_here; k_dflt (refine' FltUp.mk ?kXz3 ?kFz3 ?kNz3 ?_; (case kXz3 => k_asm); (case kFz3 => k_asm); (case kNz3 => k_asm)); k_whole)
  k_with "leaving ref" => (k_here; first | (k_dflt (refine' air_firstN ?kKz4 ?kFz4 ?kNz4 ?kfz4 ?knz4 ?_; (case kFz4 => k_asm); (case kNz4 => k_asm); (case kKz4 => k_asm); (case kfz4 => exact rfl); (case knz4 => assumption)); k_whole; intro h9 R9 U9; (try dsimp only)) | (k_dflt (refine' air_on ?kKz4 ?kFz4 ?kRz4 ?kUz4 ?_; (case kRz4 => assumption); (case kFz4 => assumption); (case kUz4 => assumption); (case kKz4 => assumption)); k_whole; intro h9 R9 U9; (try dsimp only)))
  k_with "call ref" => (k_here; k_dflt (refine' is_space_w ?k1z5 ?k2z5 ?k3z5 ?k4z5 ?k5z5 ?kKz5 ?kdz5 ?kuz5 _ _ _ ?kxz5 ?kcz5 ?_; (case k1z5 => k_asm); (case k2z5 => k_asm); (case k3z5 => k_asm); (case k4z5 => k_asm); (case k5z5 => k_asm); (case kKz5 => first | exact rfl | assumption); (case kdz5 => ktr_room); (case kuz5 => ktr_units); (case kxz5 => exact rfl); (case kcz5 => assumption); k_whole); intro t9 h9 tk9 F9 N9; (try dsimp only); (try k_sweep))
  k_with "exec While" => (k_here; k_dflt (refine' While_led (fun (a9 : Int) (ta9 : Tok) => ((x, instObj 272 dx) :: (dx, dictOf [⟨z1, .str (Str.ofString "text") k1, .str y t⟩, ⟨z2, .str (Str.ofString "begin") k2, .int b tb⟩, ⟨z3, .str (Str.ofString "is_whole") k3, .bool true⟩, ⟨z4, .str (Str.ofString "at") k4, .int (a9) ta9⟩] 4) :: rest)) (fun a9 : Int => ∃ j : Nat, a9 = (j : Int) ∧ n ≤ j ∧ j ≤ y.length ∧ scan spB y.cps.toList j = scan spB y.cps.toList n) (fun a9 : Int => y.length - a9.toNat) ?kFy1 ?kNy1 ?kPy1 ?kTy1 ?kEy1; (case kFy1 => k_asm); (case kNy1 => k_asm); (case kPy1 => exact ⟨n, rfl, Nat.le_refl _, hn, rfl⟩); (case kEy1 => passes_own)); intro a9 t9 h9 tk9 F9 N9 P9; obtain ⟨j, rfl, hj1, hj2, hj3⟩ := P9)
  subst hat
  revert X; k_fill; intro X
  refine wpAny_call ?_
  k_dflt cell_enter
  k_steps
  all_goals simp only [decide_eq_true_eq, decide_eq_false_iff_not] at *
  · exact turnEnd (by k_asm) (by k_asm) (by omega) ⟨j + 1, by omega, by omega, by omega, (scan_hit (by assumption) (by assumption)).trans hj3⟩
  · have e : scan spB y.cps.toList n = j := hj3.symm.trans (scan_stop (by assumption) (by assumption))
    rw [e] at hret
    exact hret _ _ _ _ (by k_asm) (by k_asm)
  · have e : scan spB y.cps.toList n = j := hj3.symm.trans (scan_end (by rw [len_list]; omega))
    rw [e] at hret
    exact hret _ _ _ _ (by k_asm) (by k_asm)
end
section
open PySem PySem.W PyProof.Rows PySem.Calls PySem.Spec
set_option maxHeartbeats 8000000
abbrev fltMro : List Value := [.ref 126, .type "Exception", .type "BaseException", .type "object"]
abbrev fltCls (q : Value) : Obj := excClassObj (Str.ofString "DtdFault") (Str.ofString "DtdFault") 147 146 [.ref 126] fltMro Bool.true [] [] Bool.false none none (some (.ref 130)) none (some (.str (Str.ofString "DtdFault") 360)) (some q) (some (.bool true)) "Exception.__new__"
theorem flt_cls {w : World} {h : Heap} (X : (K w.params).In h) : h.get? 147 = some (fltCls (.str (Str.ofString "DtdFault") 368)) := X 147 _ rfl
/-- a fault's object as it comes from its maker -/
abbrev rawObj (ta : Addr) : Obj := { cls := .ref 147, data := .fields #[.ref ta, .none, .none, .none, .bool false, .none] }
abbrev tupObj (vs : List Value) : Obj := { cls := .type "tuple", data := .seq vs.toArray }
section
variable {prog : Program} {w : World} {A : Around} {R : Result → Shared → Prop} {h : Heap} {g : Array GenState} {d : Drawn} {t : Nat} {os : OsState} {rest : List Value} {M : Model} {E : Value → Shared → Prop}
theorem flt_check {Q : Unit → Shared → Prop} (X : (K w.params).In h) (hq : Q () ⟨h, g, d, t, os⟩) : wpAny M A (checkBuiltinCall "Exception.__new__" ⟨.ref 147 :: rest, []⟩) Q E ⟨h, g, d, t, os⟩ := by
  have F := PySem.F.excBase_Exception
  have hC := flt_cls X
  have hcont : (Value.ref 147 :: fltMro).contains (.type "Exception") = true := by decide +kernel
  have hstar := F.noStar
  simp only [checkBuiltinCall, F.newKind, F.newSplit, F.newRow]
  repeat (first | refine wpAny_loadPart_at hC ?_ | (refine wpAny_isSubtype_exc hC ?_; rw [hcont]) | refine wpAny_staticBase_exc hC ?_ | refine wpAny_madeBy_exc hC ?_ | simp only [bne_self_eq_false, Bool.false_eq_true, if_false] | wp_step)
  exact hq
theorem flt_new (X : (K w.params).In h) (hq : R (.ok (.ret (.ref (h.objs.size + 1)))) ⟨(h.push (tupObj rest)).push (rawObj h.objs.size), g, d, t, os⟩) (hrest : rest.length ≤ sizeLine := by size_fits) :
    codeAny (model prog w) A (.builtin "Exception.__new__" ⟨.ref 147 :: rest, []⟩) R ⟨h, g, d, t, os⟩ := by
  have F := PySem.F.excBase_Exception
  have hC := flt_cls X
  have hends := F.ends
  have hcB : (Value.ref 147 :: fltMro).contains (.type "Exception") = true := by decide +kernel
  have hcA : (Value.ref 147 :: fltMro).contains (.type "AttributeError") = false := by decide +kernel
  have hcN : (Value.ref 147 :: fltMro).contains (.type "NameError") = false := by decide +kernel
  refine codeAny_builtinAt F.entry ?_
  unfold Builtin.«BaseException.__new__»
  refine PySem.wpAt_bind ?_
  show PySem.wpAt _ _ _ (stack >>= _) _ _ _
  refine PySem.wpAt_bind (PySem.wpAt_stack fun p below => PySem.wpAt_of_wpAny ?_)
  wp_walk
  refine PySem.wpAt_of_wpAny ?_
  rw [F.owner]
  repeat (first | with_reducible refine wpAny_madeHere_exc F.canon hC ?_ | with_reducible refine wpAny_loadPart_at hC ?_ | (with_reducible refine wpAny_isSubtype_exc hC ?_; first | rw [hcB] | rw [hcA] | rw [hcN]) | wp_step)
  show R _ _
  rw [Heap.size_push]
  exact hq
theorem flt_make (X : (K w.params).In h) (hrest : rest.length ≤ sizeLine)
    (hq : codeAny (model prog w) (A.under (.builtin "type.__call__" ⟨.ref 147 :: rest, []⟩)) (.call (.ref 144) ⟨.ref (h.objs.size + 1) :: rest, []⟩) (InitBack (h.objs.size + 1) R) ⟨(h.push (tupObj rest)).push (rawObj h.objs.size), g, d, t, os⟩) :
    codeAny (model prog w) A (.call (.ref 147) ⟨rest, []⟩) R ⟨h, g, d, t, os⟩ := by
  have F := PySem.F.excBase_Exception
  have hC := flt_cls X
  have f1 := tc_lookup
  have f2 := tc_bind (.ref 147)
  have hT : (⟨h, g, d, t, os⟩ : Shared).TypeIs (.ref 147) "type" := ⟨_, hC, rfl⟩
  have hi : Looks (model prog w) h (typeLookup (.ref 147) "__init__") (some (.ref 144)) := looks_findIn X (by kernel_rfl)
  have hb : ∀ self, Looks (model prog w) h (bindSpecial (.ref 144) self) (.ref 144, [self]) := fun self => bind_fn X self (by kernel_rfl)
  refine codeAny_of_tree ?_
  show wpAny _ _ (callAny (.ref 147) _) _ _ _
  repeat (any_goals (first | assumption | with_reducible refine wpAny_loadPart_at hC ?_ | wp_step))
  refine ⟨rfl, ?_⟩
  refine codeAny_call_builtin_at (Code.quiet_builtin _ (by decide +kernel)) entry_typeCall (wpAny_check_type_call_sub hC ?_)
  repeat (first | with_reducible refine wpAny_loadPart_at hC ?_ | with_reducible refine wpAny_madeBy_exc hC ?_ | wp_step)
  refine codeAny_call_builtin_code (Code.quiet_builtin _ F.quiet) (flt_check X ?_)
  refine flt_new X ?_ hrest
  show wpAny _ _ _ _ _ ⟨(h.push (tupObj rest)).push (rawObj h.objs.size), g, d, t, os⟩
  have k : ∀ b o, h.get? b = some o → ((h.push (tupObj rest)).push (rawObj h.objs.size)).get? b = some o := fun b o e => Heap.get?_push_of_some _ (Heap.get?_push_of_some _ e)
  have hget : ((h.push (tupObj rest)).push (rawObj h.objs.size)).get? (h.objs.size + 1) = some { cls := .ref 147, data := .fields #[.ref h.objs.size, .none, .none, .none, .bool false, .none] } := by heap_get
  have hC₁ := k _ _ hC
  have hcC : (Value.ref 147 :: fltMro).contains (.ref 147) = true := by decide +kernel
  have s1 := hi.keeps k
  have b1 := (hb (.ref (h.objs.size + 1))).keeps k
  unfold isInstance
  repeat (first | with_reducible refine wpAny_loadPart_at hget ?_ | (with_reducible refine wpAny_isSubtype_exc hC₁ ?_; rw [hcC]) | wp_step)
  show wpAny _ _ (typeLookup (.ref 147) _) _ _ _
  refine s1.here ?_
  refine wpAny_holding (wpAny_bind (b1.here ?_))
  refine wpAny_bind (wpAny_call (codeAny_mono hq fun r s' z => ?_))
  rcases r with e | (v | _ | _ | _) <;> first | exact z | exact z.elim | skip
  obtain ⟨rfl, z⟩ := z
  exact wpAny_pure (wpAny_pure z)
end
end
section
open PySem PySem.W PyProof.Rows PySem.Calls PySem.Spec Builtin Builtin.ObjectAttr
set_option maxHeartbeats 8000000
section
variable {prog : Program} {w : World} {A : Around} {E : Value → Shared → Prop} {s : Shared} {e L : Addr} {h₀ : Heap} {m : Str → Option Value} {R : Result → Shared → Prop} {ox : Obj} {od : Option Obj} {name : Str} {tk : Tok} {v : Value}
theorem flt_osa (X : (K w.params).In s.heap) (I : InstAt s.heap e ox 147 od) (ht : findIn (K w.params) (.ref 147) name = some none)
    (h : wpAny (model prog w) A.in1 (storeInOwnDict (.ref e) (.ref 147) (.str name tk) name v false)
      (fun fin s' => match fin with | .done f => R (.ok f) s' | .again c' => c'.quiet = true ∧ codeAny (model prog w) A c' R s') (fun e s' => R (.error e) s') s) :
    codeAny (model prog w) A (.call (.builtin "object.__setattr__") ⟨[.ref e, .str name tk, v], []⟩) R s := by
  have SF := PySem.F.store_object
  have SX := PySem.F.store_Exception
  have hC := flt_cls X
  have sub : Looks (model prog w) s.heap (isInstance (.ref e) (.type "object")) true := I.type.andThen (looks_subIn X (by kernel_rfl))
  refine codeAny_call_builtin SF.slot.plain SF.entry (@check_slot (model prog w) _ _ s "object.__setattr__" "object" "__setattr__" (.ref e) [.str name tk, v] [] _ SF.kind SF.split sub (SF.args (.ref e) (.str name tk) v) ?_)
  have hm : Looks (model prog w) s.heap (mroOf (.ref 147)) (.ref 147 :: fltMro) := ((Looks.ld (part := none) hC).andThen .now).andThen .now
  rw [osa_eq, refuse_eq]
  refine wpAny_bind (wpAny_bind (I.type.here (wpAny_bind (hm.here ?_))))
  rw [refuseLoop_ref, refuseLoop_ref, SX.passes]
  refine wpAny_pure (wpAny_bind (I.type.here (wpAny_bind ((looks_findIn X ht).here (wpAny_bind (wpAny_pure ?_))))))
  exact h
/-- the keys' part of a store: into a dict of the ledger's -/
theorem flt_put {P : Fin → Shared → Prop} {E' : Value → Shared → Prop} {d : Addr} {pre post : List (Addr × Obj)} {es es' : List DictEntry} {n n' : Nat} (F : Fr h₀ L s.heap m) (N : News h₀ L s.heap (pre ++ (d, dictOf es n) :: post)) (h1 : ∀ p ∈ pre, p.1 ≠ d) (h2 : ∀ p ∈ post, p.1 ≠ d)
    (hr : es.any (·.refKey) = false) (eq : (putL name (PyData.keyHash w.params name) (.str name s.toks) v es, putN name es n) = (es', n')) (hz : es'.length ≤ 1000)
    (h : ∀ h', Fr h₀ L h' m → News h₀ L h' (pre ++ (d, dictOf es' n') :: post) → P (.done (.ret .none)) { s with heap := h', toks := s.toks + 1 }) :
    wpAny (model prog w) A (storeInDict d (.str name tk) name v) P E' s := by
  obtain ⟨e1, e2⟩ := Prod.mk.inj eq
  have eo : Obj.putName name (PyData.keyHash w.params name) (.str name s.toks) v (dictOf es n) = dictOf es' n' := by rw [putName_dict, e1, e2]
  obtain ⟨U1, U2⟩ := news_upd (f := Obj.putName name (PyData.keyHash w.params name) (.str name s.toks) v) F N h1 h2 eo rfl
  have D := (N (d, dictOf es n) (by simp)).1
  have D' := (U2 (d, dictOf es' n') (by simp)).1
  unfold storeInDict newKeyGuard
  refine wpAny_bind (wpAny_pure (wpAny_bind ?_))
  unfold nsSet
  refine wpAny_bind (wpAny_bind (wpAny_askSetting (wpAny_pure (wpAny_bind (wpAny_mkText (wpAny_bind (wpAny_loadPart D ?_)))))))
  dsimp only
  have c : (!es.toArray.any (·.key.isStr name) && es.toArray.any (·.refKey)) = false := by
    rw [← Array.any_toList, ← Array.any_toList]
    show (_ && es.any (·.refKey)) = false
    rw [hr, Bool.and_false]
  rw [aRefKeyMayBeTheName_at, c]
  refine wpAny_updatePart D ?_
  refine wpAny_bind (wpAny_lookBehind D' (pastItsLine_dict (by rw [List.size_toArray, sizeLine_eq]; omega)) ?_)
  exact wpAny_pure (h _ U1 U2)
theorem flt_more {Q : Unit → Shared → Prop} {d : Addr} {pre post : List (Addr × Obj)} {es es' : List DictEntry} {n n' : Nat} {vs : Array Value} {sl : Array (Option Value)} (X₀ : (K w.params).In h₀) (F : Fr h₀ L s.heap m) (N : News h₀ L s.heap (pre ++ (d, dictOf es n) :: post))
    (he : s.heap.get? e = some ⟨.ref 147, some d, .fields vs, sl⟩) (ht : findIn (K w.params) (.ref 147) name = some none) (h1 : ∀ p ∈ pre, p.1 ≠ d) (h2 : ∀ p ∈ post, p.1 ≠ d)
    (hr : es.any (·.refKey) = false) (eq : (putL name (PyData.keyHash w.params name) (.str name (s.toks + 1)) v es, putN name es n) = (es', n')) (hz : es'.length ≤ 1000)
    (h : ∀ h', Fr h₀ L h' m → News h₀ L h' (pre ++ (d, dictOf es' n') :: post) → Q () { s with heap := h', toks := s.toks + 2 }) :
    wpAny (model prog w) A (setAttr (.ref e) name v) Q E s := by
  have X := X₀.keeps F.keep
  have I : InstAt s.heap e ⟨.ref 147, some d, .fields vs, sl⟩ 147 (some (dictOf es n)) := ⟨he, rfl, rfl, (N (d, dictOf es n) (by simp)).1⟩
  refine set_plain X I (by kernel_rfl) (flt_osa (s := { s with toks := s.toks + 1 }) X I ht ?_)
  unfold storeInOwnDict ownStreamTells ownDictForStores instanceDict
  dsimp only
  refine wpAny_bind (wpAny_pure ?_)
  rw [if_neg (by simp)]
  have hC := flt_cls X
  refine wpAny_bind (wpAny_bind (wpAny_loadPart he ?_))
  dsimp only
  unfold classData
  refine wpAny_bind (wpAny_bind (wpAny_load hC (wpAny_pure ?_)))
  rw [if_neg (by simp)]
  refine wpAny_pure ?_
  show wpAny (model prog w) A.in1 (storeInDict d (.str name s.toks) name v) _ _ _
  exact flt_put (s := { s with toks := s.toks + 1 }) F N h1 h2 hr eq hz fun h' F' N' => h h' F' N'
theorem flt_first {Q : Unit → Shared → Prop} {pre post : List (Addr × Obj)} {vs : Array Value} {sl : Array (Option Value)} (X₀ : (K w.params).In h₀) (F : Fr h₀ L s.heap m) (N : News h₀ L s.heap (pre ++ (e, ⟨.ref 147, none, .fields vs, sl⟩) :: post))
    (ht : findIn (K w.params) (.ref 147) name = some none) (h1 : ∀ p ∈ pre, p.1 ≠ e) (h2 : ∀ p ∈ post, p.1 ≠ e)
    (h : ∀ d h', Fr h₀ L h' m → News h₀ L h' ((d, dictOf [⟨PyData.keyHash w.params name, .str name (s.toks + 1), v⟩] 1) :: pre ++ (e, ⟨.ref 147, some d, .fields vs, sl⟩) :: post) →
      (∀ p ∈ pre, p.1 < d) → @LT.lt Nat _ e d → (∀ p ∈ post, p.1 < d) → Q () { s with heap := h', toks := s.toks + 2 }) :
    wpAny (model prog w) A (setAttr (.ref e) name v) Q E s := by
  have X := X₀.keeps F.keep
  have he := (N (e, ⟨.ref 147, none, .fields vs, sl⟩) (by simp)).1
  have I : InstAt s.heap e ⟨.ref 147, none, .fields vs, sl⟩ 147 none := ⟨he, rfl, rfl, trivial⟩
  refine set_plain X I (by kernel_rfl) (flt_osa (s := { s with toks := s.toks + 1 }) X I ht ?_)
  unfold storeInOwnDict ownStreamTells ownDictForStores instanceDict
  dsimp only
  refine wpAny_bind (wpAny_pure ?_)
  rw [if_neg (by simp)]
  have hC := flt_cls X
  refine wpAny_bind (wpAny_bind (wpAny_loadPart he ?_))
  dsimp only
  unfold classData
  refine wpAny_bind (wpAny_bind (wpAny_load hC (wpAny_pure ?_)))
  rw [if_neg (by simp), if_neg (show ¬ ((!true || !typeHasDict (.ref 147)) = true) from by simp [typeHasDict])]
  have N1 := N.push F (dictOf [] 0)
  have F1 := F.push (dictOf [] 0)
  have lt : ∀ p ∈ pre ++ (e, (⟨.ref 147, none, .fields vs, sl⟩ : Obj)) :: post, p.1 < s.heap.objs.size := fun p hp => Heap.lt_size (N p hp).1
  have hed : s.heap.objs.size ≠ e := Nat.ne_of_gt (lt _ (List.mem_append_right _ (.head _)))
  obtain ⟨F2, N2⟩ := news_upd (pre := (s.heap.objs.size, dictOf [] 0) :: pre) (f := fun o => { cls := o.cls, dict := some s.heap.objs.size, data := o.data, slots := o.slots }) (o' := ⟨.ref 147, some s.heap.objs.size, .fields vs, sl⟩) F1 N1
    (fun p hp => by rcases List.mem_cons.mp hp with rfl | hp; exact hed; exact h1 p hp) h2 rfl rfl
  refine wpAny_bind (wpAny_alloc (wpAny_bind (wpAny_update (Heap.get?_push_of_some _ he) ?_)))
  unfold dictMade
  dsimp only
  refine wpAny_pure ?_
  show wpAny (model prog w) A.in1 (storeInDict s.heap.objs.size (.str name s.toks) name v) _ _ _
  refine flt_put (s := { s with heap := _, toks := s.toks + 1 }) (pre := []) (es := []) (n := 0) (es' := [⟨PyData.keyHash w.params name, .str name (s.toks + 1), v⟩]) (n' := 1) F2 N2 (fun _ h => nomatch h) (fun p hp => ?_) rfl rfl (by simp) fun h' F' N' => h _ h' F' N' (fun p hp => lt p (List.mem_append_left _ hp)) (lt (e, _) (List.mem_append_right _ (.head _))) fun p hp => lt p (List.mem_append_right _ (.tail _ hp))
  rcases List.mem_append.mp hp with hp | hp
  · exact Nat.ne_of_lt (lt p (List.mem_append_left _ hp))
  · rcases List.mem_cons.mp hp with rfl | hp
    · exact hed.symm
    · exact Nat.ne_of_lt (lt p (List.mem_append_right _ (.tail _ hp)))
end
end
section
open PySem PySem.W PyProof.Rows PySem.Calls PySem.Spec Builtin Builtin.ObjectAttr
set_option maxHeartbeats 8000000
section
variable {prog : Program} {w : World} {A : Around} {E : Value → Shared → Prop} {s : Shared} {e L : Addr} {h₀ : Heap} {m : Str → Option Value} {h : Heap} {g : Array GenState} {d : Drawn} {t : Nat} {os : OsState} {rest : List Value} {M : Model}
theorem flt_check_init {oe : Obj} {Q : Unit → Shared → Prop} (X : (K w.params).In h) (he : h.get? e = some oe) (hcls : oe.cls = .ref 147) (hq : Q () ⟨h, g, d, t, os⟩) :
    wpAny M A (checkBuiltinCall "Exception.__init__" ⟨.ref e :: rest, []⟩) Q E ⟨h, g, d, t, os⟩ := by
  have F := PySem.F.excBase_Exception
  have hC := flt_cls X
  have hcB : (Value.ref 147 :: fltMro).contains (.type "Exception") = true := by decide +kernel
  have hshort := F.noStar
  simp only [checkBuiltinCall, F.initKind, F.initSplit, F.initRow]
  repeat (first | (with_reducible refine wpAny_loadPart_at he ?_; rw [hcls]) | with_reducible refine wpAny_loadPart_at hC ?_ | (with_reducible refine wpAny_isSubtype_exc hC ?_; rw [hcB]) | wp_step)
  refine wpAny_onRaise ?_
  rw [show ∀ (a b : String) (n : Nat), Bind.check ⟨.positional, "*", "Exception", .self, [⟨"args", .varPos, false⟩]⟩ a b n (List.map (fun x => x.fst) ({ pos := Value.ref e :: rest } : Args).kw) = pure () from
    fun a b n => check_star_args _ _ _ _ _ _]
  exact wpAny_pure hq
theorem flt_init {Q : Value → Shared → Prop} {pre post : List (Addr × Obj)} {ta0 : Addr} {dd : Option Addr} {sl : Array (Option Value)} (X₀ : (K w.params).In h₀) (F : Fr h₀ L s.heap m) (N : News h₀ L s.heap (pre ++ (e, ⟨.ref 147, dd, .fields #[.ref ta0, .none, .none, .none, .bool false, .none], sl⟩) :: post))
    (h1 : ∀ p ∈ pre, p.1 ≠ e) (h2 : ∀ p ∈ post, p.1 ≠ e) (hrest : rest.length ≤ sizeLine)
    (h : ∀ ta h', Fr h₀ L h' m → News h₀ L h' (pre ++ (e, ⟨.ref 147, dd, .fields #[.ref ta, .none, .none, .none, .bool false, .none], sl⟩) :: post) → Q .none { s with heap := h' }) :
    wpAny (model prog w) A (call (.builtin "Exception.__init__") (.ref e :: rest)) Q E s := by
  have G := PySem.F.excBase_Exception
  have X := X₀.keeps F.keep
  have he := (N (e, ⟨.ref 147, dd, .fields #[.ref ta0, .none, .none, .none, .bool false, .none], sl⟩) (by simp)).1
  obtain ⟨hh, g, d, t, os⟩ := s
  refine wpAny_call (codeAny_call_builtin G.init.plain G.initEntry (flt_check_init X he rfl ?_))
  wp_walk
  have N1 := N.push F (tupObj rest)
  have F1 := F.push (tupObj rest)
  have hed : hh.objs.size ≠ e := Nat.ne_of_gt (Heap.lt_size he)
  obtain ⟨F2, N2⟩ := news_upd (pre := (hh.objs.size, tupObj rest) :: pre) (f := Obj.mapFields fun x => x.setIfInBounds 0 (Value.ref hh.objs.size)) (o' := ⟨.ref 147, dd, .fields #[.ref hh.objs.size, .none, .none, .none, .bool false, .none], sl⟩) F1 N1
    (fun p hp => by rcases List.mem_cons.mp hp with rfl | hp; exact hed; exact h1 p hp) h2 rfl rfl
  exact h _ _ F2 fun p hp => N2 p (.tail _ hp)
end
end
section
open PySem PySem.W PyProof.Rows PySem.Calls
set_option maxHeartbeats 8000000
theorem flt_makeK {w : World} {h₀ : Heap} {L : Addr} {m : Str → Option Value} {news : List (Addr × Obj)} {s : Shared} {R : Result → Shared → Prop} {prog : Program} {A : Around} {rest : List Value}
    (X : (K w.params).In h₀) (F : Fr h₀ L s.heap m) (N : News h₀ L s.heap news) (hrest : rest.length ≤ sizeLine)
    (h : ∀ e ta h', Fr h₀ L h' m → News h₀ L h' ((e, rawObj ta) :: (ta, tupObj rest) :: news) → (∀ p ∈ news, p.1 < ta) → ta < e →
      codeAny (model prog w) (A.under (.builtin "type.__call__" ⟨.ref 147 :: rest, []⟩)) (.call (.ref 144) ⟨.ref e :: rest, []⟩) (InitBack e R) { s with heap := h' }) :
    codeAny (model prog w) A (.call (.ref 147) ⟨rest, []⟩) R s := by
  obtain ⟨hh, g, d, t, os⟩ := s
  refine flt_make (X.keeps F.keep) hrest (h _ hh.objs.size _ ((F.push _).push _) ?_ (fun p hp => Heap.lt_size (N p hp).1) (Nat.lt_succ_self _))
  have := (N.push F (tupObj rest)).push (F.push _) (rawObj hh.objs.size)
  rwa [Heap.size_push] at this
theorem meta_Exception : typeOf (.type "Exception") = pure (.type "type") := by kernel_rfl
theorem flt_end {h₀ h : Heap} {L : Addr} {a b x : Addr × Obj} {news : List (Addr × Obj)} (N : News h₀ L h (a :: b :: x :: news)) : News h₀ L h (b :: a :: news) := fun p hp => N p (by
  rcases List.mem_cons.mp hp with rfl | hp
  · exact .tail _ (.head _)
  · rcases List.mem_cons.mp hp with rfl | hp
    · exact .head _
    · exact .tail _ (.tail _ (.tail _ hp)))
theorem fault_w {w : World} {mean : ExcName → Option Value} {mg mb : Str → Option Value} {dp un : Nat} {gd : Option (List Code)} {cn : Str} {cs : Scope} {a : Addr} {ccd : Value} {cl : List (Str × Addr)} {outer : List Env} {A₀ : Around} {base h₀ : Heap} {L : Addr} {m : Str → Option Value} {s : Shared} {Q E : Value → Shared → Prop} {news : List (Addr × Obj)}
   (B : Below A₀ base outer h₀) (F : Fr h₀ L s.heap m) (X : (K w.params).In h₀) (N : News h₀ L s.heap news) (T : Top q (looseW q [Str.ofString "DtdFault"]) mean mg mb h₀) (hk : cs.kind = .function)
   (hd : dp + 20 < recursionLimit) (hu : un + 60 < cLine) (msg : Str) (tm : Tok) (pl : Int) (tp : Tok)
   (hret : ∀ (e ed ta : Addr) (zm zp : Int) (km kp : Tok) (h' : Heap) (tk' : Nat), Fr h₀ L h' m → News h₀ L h' ((e, fltObj ed ta) :: (ed, fltDict zm zp km kp msg tm pl tp) :: news) → (∀ p ∈ news, p.1 ≠ e) → Q (.ref e) { s with heap := h', toks := tk' }) :
   wpAny (model PySem.Challenge.rw_xw0207_01.row.prog w) (ktrTop dp un gd cn cs L a ccd cl outer) (call (.ref 147) [.str msg tm, .int pl tp]) Q E s := by
  k_with_none
  k_with "call builtin:len" => (k_here; (with_reducible show wpAny _ _ (call _ [Value.str _ _]) _ _ _); k_dflt (refine' len_nat ?k1z0 ?_; (case k1z0 => first | assumption | decide)); k_whole; intro t9 tk9; (try dsimp only))
  k_with "subscriptTail" => (k_here; (with_reducible show wpAny _ _ (subscriptTail _ _ (Value.str _ _) (Value.int _ _)) _ _ _); k_dflt (refine' item_nat ?k1z1 ?k2z1 ?k3z1 ?_; (case k1z1 => assumption); (case k2z1 => assumption); (case k3z1 => first | (simp only [decide_eq_true_eq] at *; omega) | (simp only [decide_eq_true_eq, decide_eq_false_iff_not] at *; omega) | omega)); k_whole; intro c9 t9 tk9 hc9 hb9; (try dsimp only))
  k_with "exec Raise some none" => (k_here; k_dflt (refine' Raise_val (w := by assumption) ?khz2 ?_; (case khz2 => exact rfl)); k_whole)
  k_with "FltUp" => (k_here; k_dflt (refine' FltUp.mk ?kXz3 ?kFz3 ?kNz3 ?_; (case kXz3 => k_asm); (case kFz3 => k_asm); (case kNz3 => k_asm)); k_whole)
  k_with "leaving ref" => (k_here; first | (k_dflt (refine' air_firstN ?kKz4 ?kFz4 ?kNz4 ?kfz4 ?knz4 ?_; (case kFz4 => k_asm); (case kNz4 => k_asm); (case kKz4 => k_asm); (case kfz4 => exact rfl); (case knz4 => assumption)); k_whole; intro h9 R9 U9; (try dsimp only)) | (k_dflt (refine' air_on ?kKz4 ?kFz4 ?kRz4 ?kUz4 ?_; (case kRz4 => assumption); (case kFz4 => assumption); (case kUz4 => assumption); (case kKz4 => assumption)); k_whole; intro h9 R9 U9; (try dsimp only)))
  k_with "getMethod type:Exception" => (k_here; refine' method_type ?Fz5 ?Xz5 ?mz5 (by decide +kernel) ?ez5 ?hz5 ?_; (case Fz5 => k_asm); (case Xz5 => k_asm); (case mz5 => exact meta_Exception); (case ez5 => k_dflt k_is); (case hz5 => k_handed))
  k_with "call builtin:Exception.__init__" => (k_here; k_dflt (refine' flt_init (pre := []) ?kXy1 ?kFy1 ?kNy1 ?k1y1 ?k2y1 ?k3y1 ?_; (case kXy1 => k_asm); (case kFy1 => k_asm); (case kNy1 => k_asm); (case k1y1 => exact fun _ h => nomatch h); (case k2y1 => exact fun p hp => by rcases List.mem_cons.mp hp with rfl | hp; exact Nat.ne_of_lt lt2; exact Nat.ne_of_lt (Nat.lt_trans (lt1 p hp) lt2)); (case k3y1 => size_fits)); intro ta9 h9 F9 N9; (try dsimp only [List.nil_append] at N9); (try dsimp only); (try k_sweep))
  k_with "setAttr ref" => (k_here; first
    | (k_dflt (refine' flt_first (pre := []) ?kXy2 ?kFy2 ?kNy2 ?kty2 ?k1y2 ?k2y2 ?_; (case kXy2 => k_asm); (case kFy2 => k_asm); (case kNy2 => k_asm); (case kty2 => k_is); (case k1y2 => exact fun _ h => nomatch h); (case k2y2 => exact fun p hp => by rcases List.mem_cons.mp hp with rfl | hp; exact Nat.ne_of_lt lt2; exact Nat.ne_of_lt (Nat.lt_trans (lt1 p hp) lt2))); intro d9 h9 F9 N9 lt8 lt9 lt10; (try dsimp only [List.nil_append, List.cons_append] at N9); (try dsimp only); (try k_sweep))
    | (k_dflt (refine' flt_more (pre := []) ?kXy2 ?kFy2 ?kNy2 ?key2 ?kty2 ?k1y2 ?k2y2 ?kry2 ?kqy2 ?kzy2 ?_; (case kXy2 => k_asm); (case kFy2 => k_asm); (case kNy2 => k_asm); (case key2 => exact (News.get (by assumption) (List.Mem.tail _ (List.Mem.head _)))); (case kty2 => k_is); (case k1y2 => exact fun _ h => nomatch h); (case k2y2 => exact fun p hp => by rcases List.mem_cons.mp hp with rfl | hp; exact Nat.ne_of_lt lt9; exact Nat.ne_of_lt (lt10 p hp)); (case kry2 => exact rfl); (case kqy2 => k_put); (case kzy2 => exact Nat.le_of_ble_eq_true rfl)); intro h9 F9 N9; (try dsimp only [List.nil_append] at N9); (try dsimp only); (try k_sweep)))
  revert X; k_fill; intro X
  refine wpAny_call (flt_makeK X F N (by size_fits) ?_)
  intro e ta h' F' N' lt1 lt2
  (k_dflt (refine' code_def ?k1 ?k2 ?k3 ?k4 ?k5 ?kA ?kF ?kK ?k6 ?k7 ?k8 ?k9 ?kB ?_ ?c2 ?c3 ?c4 ?c5; (case kA => exact rfl); (case kF => exact rfl); (case kK => assumption); (case k1 => k_asm); (case k2 => k_asm); (case k3 => k_asm); (case k4 => k_asm); (case k5 => k_asm); (case k6 => k_is); (case k7 => k_is); (case k8 => ktr_room); (case k9 => first | exact binds_K (by k_in) rfl (by k_is) rfl rfl rfl | exact BindsTo.of_eq rfl); (case c5 => decide); (case kB => exact locs rfl); (case c2 => exact rfl); (case c3 => exact rfl); (case c4 => exact rfl); k_whole; intro g' L' h' FG' F' N' B' X' T'; (try dsimp only); (try k_lift B'); (try k_fold)))
  k_steps
  exact hret _ _ _ _ _ _ _ _ _ (by k_asm) (flt_end (by k_asm)) (fun p hp => Nat.ne_of_lt (Nat.lt_trans (lt1 p hp) lt2))
end
section
open PySem PySem.W PyProof.Rows PySem.Calls
set_option maxHeartbeats 8000000
theorem fault_at_w {w : World} {mean : ExcName → Option Value} {mg mb : Str → Option Value} {dp un : Nat} {gd : Option (List Code)} {cn : Str} {cs : Scope} {a : Addr} {ccd : Value} {cl : List (Str × Addr)} {outer : List Env} {A₀ : Around} {base h₀ : Heap} {L : Addr} {m : Str → Option Value} {s : Shared} {Q E : Value → Shared → Prop} {y : Str} {t : Tok} {b : Int} {tb : Tok} {at0 : Int} {ta : Tok} {z1 z2 z3 z4 : Int} {k1 k2 k3 k4 : Tok} {x dx : Addr} {rest : List (Addr × Obj)}
   (B : Below A₀ base outer h₀) (F : Fr h₀ L s.heap m) (X : (K w.params).In h₀) (N : News h₀ L s.heap ((x, instObj 272 dx) :: (dx, dictOf [⟨z1, .str (Str.ofString "text") k1, .str y t⟩, ⟨z2, .str (Str.ofString "begin") k2, .int b tb⟩, ⟨z3, .str (Str.ofString "is_whole") k3, .bool true⟩, ⟨z4, .str (Str.ofString "at") k4, .int (at0) ta⟩] 4) :: rest)) (hyl : y.length < 1048576) (hy : Asc y) (hx : @LT.lt Nat _ dx x) (hr : ∀ p ∈ rest, p.1 ≠ dx) (T : Top q (looseW q [Str.ofString "DtdFault"]) mean mg mb h₀) (hk : cs.kind = .function)
   (hd : dp + 40 < recursionLimit) (hu : un + 90 < cLine) (msg : Str) (tm : Tok) (i : Int) (ti : Tok)
   (hret : ∀ (e ed ta9 : Addr) (zm zp : Int) (km kp tp : Tok) (h' : Heap) (tk' : Nat), Fr h₀ L h' m → News h₀ L h' ((e, fltObj ed ta9) :: (ed, fltDict zm zp km kp msg tm (b + i) tp) :: ((x, instObj 272 dx) :: (dx, dictOf [⟨z1, .str (Str.ofString "text") k1, .str y t⟩, ⟨z2, .str (Str.ofString "begin") k2, .int b tb⟩, ⟨z3, .str (Str.ofString "is_whole") k3, .bool true⟩, ⟨z4, .str (Str.ofString "at") k4, .int (at0) ta⟩] 4) :: rest)) → (∀ p ∈ ((x, instObj 272 dx) :: (dx, dictOf [⟨z1, .str (Str.ofString "text") k1, .str y t⟩, ⟨z2, .str (Str.ofString "begin") k2, .int b tb⟩, ⟨z3, .str (Str.ofString "is_whole") k3, .bool true⟩, ⟨z4, .str (Str.ofString "at") k4, .int (at0) ta⟩] 4) :: rest), p.1 ≠ e) → Q (.ref e) { s with heap := h', toks := tk' }) :
   wpAny (model PySem.Challenge.rw_xw0207_01.row.prog w) (ktrTop dp un gd cn cs L a ccd cl outer) (call (.ref 178) [.ref x, .str msg tm, .int i ti]) Q E s := by
  k_with_none
  k_with "call builtin:len" => (k_here; (with_reducible show wpAny _ _ (call _ [Value.str _ _]) _ _ _); k_dflt (refine' len_nat ?k1z0 ?_; (case k1z0 => first | assumption | decide)); k_whole; intro t9 tk9; (try dsimp only))
  k_with "subscriptTail" => (k_here; (with_reducible show wpAny _ _ (subscriptTail _ _ (Value.str _ _) (Value.int _ _)) _ _ _); k_dflt (refine' item_nat ?k1z1 ?k2z1 ?k3z1 ?_; (case k1z1 => assumption); (case k2z1 => assumption); (case k3z1 => first | (simp only [decide_eq_true_eq] at *; omega) | (simp only [decide_eq_true_eq, decide_eq_false_iff_not] at *; omega) | omega)); k_whole; intro c9 t9 tk9 hc9 hb9; (try dsimp only))
  k_with "exec Raise some none" => (k_here; k_dflt (refine' Raise_val (w := by assumption) ?khz2 ?_; (case khz2 => exact rfl)); k_whole)
  k_with "FltUp" => (k_here; k_dflt (refine' FltUp.mk ?kXz3 ?kFz3 ?kNz3 ?_; (case kXz3 => k_asm); (case kFz3 => k_asm); (case kNz3 => k_asm)); k_whole)
  k_with "leaving ref" => (k_here; first | (k_dflt (refine' air_firstN ?kKz4 ?kFz4 ?kNz4 ?kfz4 ?knz4 ?_; (case kFz4 => k_asm); (case kNz4 => k_asm); (case kKz4 => k_asm); (case kfz4 => exact rfl); (case knz4 => assumption)); k_whole; intro h9 R9 U9; (try dsimp only)) | (k_dflt (refine' air_on ?kKz4 ?kFz4 ?kRz4 ?kUz4 ?_; (case kRz4 => assumption); (case kFz4 => assumption); (case kUz4 => assumption); (case kKz4 => assumption)); k_whole; intro h9 R9 U9; (try dsimp only)))
  k_with "call ref" => (k_here; k_dflt (refine' fault_w ?k1z5 ?k2z5 ?k3z5 ?k4z5 ?k5z5 ?kKz5 ?kdz5 ?kuz5 _ _ _ _ ?_; (case k1z5 => k_asm); (case k2z5 => k_asm); (case k3z5 => k_asm); (case k4z5 => k_asm); (case k5z5 => k_asm); (case kKz5 => first | exact rfl | assumption); (case kdz5 => ktr_room); (case kuz5 => ktr_units);  k_whole); intro e9 ed9 ta9 zm9 zp9 km9 kp9 h9 tk9 F9 N9 ne9; (try dsimp only); (try k_sweep))
  revert X; k_fill; intro X
  refine wpAny_call ?_
  k_dflt cell_enter
  k_steps
  all_goals exact hret _ _ _ _ _ _ _ _ _ _ (by k_asm) (by k_asm) (by assumption)
end
section
open PySem PySem.W PyProof.Rows PySem.Calls
theorem ext1 {l : List Nat} {n : Nat} (h : n < l.length) : l.extract n (n + 1) = [l[n]] := by
  show (l.drop n).take (n + 1 - n) = _
  rw [List.drop_eq_getElem_cons h, Nat.add_sub_cancel_left]
  rfl
theorem sw_nat (y : Str) (c n : Nat) : Txt.startswith3 y ⟨#[c]⟩ (n : Int) = (y.cps.toList[n]? == some c) := by
  unfold Txt.startswith3 Builtin.Str.subAt
  have e : PySem.fromIndex y.length (n : Int) = n := by unfold PySem.fromIndex; omega
  rw [e]
  have l1 : (⟨#[c]⟩ : Str).length = 1 := rfl
  rw [l1, Bool.eq_iff_iff]
  simp only [Bool.and_eq_true, decide_eq_true_eq, beq_iff_eq]
  have hl : y.length = y.cps.toList.length := (len_list y).symm
  rw [hl, ← Array.toList_inj, Array.toList_extract]
  generalize y.cps.toList = l
  constructor
  · rintro ⟨h1, h2⟩
    rw [List.getElem?_eq_getElem (by omega)]
    have h3 : n < l.length := by omega
    rw [ext1 h3] at h2
    exact congrArg some (List.cons.inj h2).1
  · intro h
    obtain ⟨h1, h2⟩ := List.getElem?_eq_some_iff.mp h
    refine ⟨by omega, ?_⟩
    rw [ext1 h1, h2]
theorem sw_call {prog : Program} {w : World} {A : Around} {E : Value → Shared → Prop} {s : Shared} {y : Str} {t u v : Tok} {c n : Nat} {Q : Value → Shared → Prop}
    (hq : Q (.bool (y.cps.toList[n]? == some c)) s) : wpAny (model prog w) A (call (.builtin "str.startswith") [.str y t, .str ⟨#[c]⟩ u, .int (n : Int) v]) Q E s :=
  SC.startswith3 (by rw [sw_nat]; exact hq)
end
section
open PySem PySem.W PyProof.Rows PySem.Calls
set_option maxHeartbeats 8000000
theorem fault_w2 {w : World} {mean : ExcName → Option Value} {mg mb : Str → Option Value} {dp un : Nat} {gd : Option (List Code)} {cn : Str} {cs : Scope} {a : Addr} {ccd : Value} {cl : List (Str × Addr)} {outer : List Env} {A₀ : Around} {base h₀ : Heap} {L : Addr} {m : Str → Option Value} {s : Shared} {Q E : Value → Shared → Prop} {y : Str} {t : Tok} {b : Int} {tb : Tok} {at0 : Int} {ta : Tok} {z1 z2 z3 z4 : Int} {k1 k2 k3 k4 : Tok} {x dx : Addr} {rest : List (Addr × Obj)}
   (B : Below A₀ base outer h₀) (F : Fr h₀ L s.heap m) (X : (K w.params).In h₀) (N : News h₀ L s.heap ((x, instObj 272 dx) :: (dx, dictOf [⟨z1, .str (Str.ofString "text") k1, .str y t⟩, ⟨z2, .str (Str.ofString "begin") k2, .int b tb⟩, ⟨z3, .str (Str.ofString "is_whole") k3, .bool true⟩, ⟨z4, .str (Str.ofString "at") k4, .int (at0) ta⟩] 4) :: rest)) (hyl : y.length < 1048576) (hy : Asc y) (hx : @LT.lt Nat _ dx x) (hr : ∀ p ∈ rest, p.1 ≠ dx) (T : Top q (looseW q [Str.ofString "DtdFault"]) mean mg mb h₀) (hk : cs.kind = .function)
   (hd : dp + 60 < recursionLimit) (hu : un + 120 < cLine) (msg : Str) (tm : Tok)
   (hret : ∀ (e ed ta9 : Addr) (zm zp : Int) (km kp tp : Tok) (h' : Heap) (tk' : Nat), Fr h₀ L h' m → News h₀ L h' ((e, fltObj ed ta9) :: (ed, fltDict zm zp km kp msg tm (b + at0) tp) :: ((x, instObj 272 dx) :: (dx, dictOf [⟨z1, .str (Str.ofString "text") k1, .str y t⟩, ⟨z2, .str (Str.ofString "begin") k2, .int b tb⟩, ⟨z3, .str (Str.ofString "is_whole") k3, .bool true⟩, ⟨z4, .str (Str.ofString "at") k4, .int (at0) ta⟩] 4) :: rest)) → (∀ p ∈ ((x, instObj 272 dx) :: (dx, dictOf [⟨z1, .str (Str.ofString "text") k1, .str y t⟩, ⟨z2, .str (Str.ofString "begin") k2, .int b tb⟩, ⟨z3, .str (Str.ofString "is_whole") k3, .bool true⟩, ⟨z4, .str (Str.ofString "at") k4, .int (at0) ta⟩] 4) :: rest), p.1 ≠ e) → Q (.ref e) { s with heap := h', toks := tk' }) :
   wpAny (model PySem.Challenge.rw_xw0207_01.row.prog w) (ktrTop dp un gd cn cs L a ccd cl outer) (call (.ref 185) [.ref x, .str msg tm]) Q E s := by
  k_with_none
  k_with "call builtin:len" => (k_here; (with_reducible show wpAny _ _ (call _ [Value.str _ _]) _ _ _); k_dflt (refine' len_nat ?k1z0 ?_; (case k1z0 => first | assumption | decide)); k_whole; intro t9 tk9; (try dsimp only))
  k_with "subscriptTail" => (k_here; (with_reducible show wpAny _ _ (subscriptTail _ _ (Value.str _ _) (Value.int _ _)) _ _ _); k_dflt (refine' item_nat ?k1z1 ?k2z1 ?k3z1 ?_; (case k1z1 => assumption); (case k2z1 => assumption); (case k3z1 => first | (simp only [decide_eq_true_eq] at *; omega) | (simp only [decide_eq_true_eq, decide_eq_false_iff_not] at *; omega) | omega)); k_whole; intro c9 t9 tk9 hc9 hb9; (try dsimp only))
  k_with "exec Raise some none" => (k_here; k_dflt (refine' Raise_val (w := by assumption) ?khz2 ?_; (case khz2 => exact rfl)); k_whole)
  k_with "FltUp" => (k_here; k_dflt (refine' FltUp.mk ?kXz3 ?kFz3 ?kNz3 ?_; (case kXz3 => k_asm); (case kFz3 => k_asm); (case kNz3 => k_asm)); k_whole)
  k_with "leaving ref" => (k_here; first | (k_dflt (refine' air_firstN ?kKz4 ?kFz4 ?kNz4 ?kfz4 ?knz4 ?_; (case kFz4 => k_asm); (case kNz4 => k_asm); (case kKz4 => k_asm); (case kfz4 => exact rfl); (case knz4 => assumption)); k_whole; intro h9 R9 U9; (try dsimp only)) | (k_dflt (refine' air_on ?kKz4 ?kFz4 ?kRz4 ?kUz4 ?_; (case kRz4 => assumption); (case kFz4 => assumption); (case kUz4 => assumption); (case kKz4 => assumption)); k_whole; intro h9 R9 U9; (try dsimp only)))
  k_with "call ref" => (k_here; k_dflt (refine' fault_at_w ?k1z5 ?k2z5 ?k3z5 ?k4z5 ?k6z5 ?k7z5 ?k8z5 ?k9z5 ?k5z5 ?kKz5 ?kdz5 ?kuz5 _ _ _ _ ?_; (case k1z5 => k_asm); (case k2z5 => k_asm); (case k3z5 => k_asm); (case k4z5 => k_asm); (case k6z5 => assumption); (case k7z5 => assumption); (case k8z5 => assumption); (case k9z5 => first | assumption | exact ledR (by assumption) (by assumption)); (case k5z5 => k_asm); (case kKz5 => first | exact rfl | assumption); (case kdz5 => ktr_room); (case kuz5 => ktr_units);  k_whole); intro e9 ed9 ta9 zm9 zp9 km9 kp9 tp9 h9 tk9 F9 N9 ne9; (try dsimp only); (try k_sweep))
  revert X; k_fill; intro X
  refine wpAny_call ?_
  k_dflt cell_enter
  k_steps
  all_goals exact hret _ _ _ _ _ _ _ _ _ _ (by k_asm) (by k_asm) (by assumption)
end
section
open PySem PySem.W PyProof.Rows PySem.Calls
set_option maxHeartbeats 8000000
theorem looks_w {w : World} {mean : ExcName → Option Value} {mg mb : Str → Option Value} {dp un : Nat} {gd : Option (List Code)} {cn : Str} {cs : Scope} {a : Addr} {ccd : Value} {cl : List (Str × Addr)} {outer : List Env} {A₀ : Around} {base h₀ : Heap} {L : Addr} {m : Str → Option Value} {s : Shared} {Q E : Value → Shared → Prop} {y : Str} {t : Tok} {b : Int} {tb : Tok} {at0 : Int} {ta : Tok} {z1 z2 z3 z4 : Int} {k1 k2 k3 k4 : Tok} {x dx : Addr} {rest : List (Addr × Obj)}
   (B : Below A₀ base outer h₀) (F : Fr h₀ L s.heap m) (X : (K w.params).In h₀) (N : News h₀ L s.heap ((x, instObj 272 dx) :: (dx, dictOf [⟨z1, .str (Str.ofString "text") k1, .str y t⟩, ⟨z2, .str (Str.ofString "begin") k2, .int b tb⟩, ⟨z3, .str (Str.ofString "is_whole") k3, .bool true⟩, ⟨z4, .str (Str.ofString "at") k4, .int (at0) ta⟩] 4) :: rest)) (hyl : y.length < 1048576) (hy : Asc y) (hx : @LT.lt Nat _ dx x) (hr : ∀ p ∈ rest, p.1 ≠ dx) (T : Top q (looseW q [Str.ofString "DtdFault"]) mean mg mb h₀) (hk : cs.kind = .function)
   (hd : dp + 20 < recursionLimit) (hu : un + 40 < cLine) (n : Nat) (hat : at0 = (n : Int)) (c : Nat) (word : Str) (hw : word = ⟨#[c]⟩) (tw : Tok)
   (hret : ∀ (h' : Heap) (tk' : Nat), Fr h₀ L h' m → News h₀ L h' ((x, instObj 272 dx) :: (dx, dictOf [⟨z1, .str (Str.ofString "text") k1, .str y t⟩, ⟨z2, .str (Str.ofString "begin") k2, .int b tb⟩, ⟨z3, .str (Str.ofString "is_whole") k3, .bool true⟩, ⟨z4, .str (Str.ofString "at") k4, .int (at0) ta⟩] 4) :: rest) → Q (.bool (y.cps.toList[n]? == some c)) { s with heap := h', toks := tk' }) :
   wpAny (model PySem.Challenge.rw_xw0207_01.row.prog w) (ktrTop dp un gd cn cs L a ccd cl outer) (call (.ref 199) [.ref x, .str word tw]) Q E s := by
  k_with_none
  k_with "call builtin:len" => (k_here; (with_reducible show wpAny _ _ (call _ [Value.str _ _]) _ _ _); k_dflt (refine' len_nat ?k1z0 ?_; (case k1z0 => first | assumption | decide)); k_whole; intro t9 tk9; (try dsimp only))
  k_with "subscriptTail" => (k_here; (with_reducible show wpAny _ _ (subscriptTail _ _ (Value.str _ _) (Value.int _ _)) _ _ _); k_dflt (refine' item_nat ?k1z1 ?k2z1 ?k3z1 ?_; (case k1z1 => assumption); (case k2z1 => assumption); (case k3z1 => first | (simp only [decide_eq_true_eq] at *; omega) | (simp only [decide_eq_true_eq, decide_eq_false_iff_not] at *; omega) | omega)); k_whole; intro c9 t9 tk9 hc9 hb9; (try dsimp only))
  k_with "exec Raise some none" => (k_here; k_dflt (refine' Raise_val (w := by assumption) ?khz2 ?_; (case khz2 => exact rfl)); k_whole)
  k_with "FltUp" => (k_here; k_dflt (refine' FltUp.mk ?kXz3 ?kFz3 ?kNz3 ?_; (case kXz3 => k_asm); (case kFz3 => k_asm); (case kNz3 => k_asm)); k_whole)
  k_with "leaving ref" => (k_here; first | (k_dflt (refine' air_firstN ?kKz4 ?kFz4 ?kNz4 ?kfz4 ?knz4 ?_; (case kFz4 => k_asm); (case kNz4 => k_asm); (case kKz4 => k_asm); (case kfz4 => exact rfl); (case knz4 => assumption)); k_whole; intro h9 R9 U9; (try dsimp only)) | (k_dflt (refine' air_on ?kKz4 ?kFz4 ?kRz4 ?kUz4 ?_; (case kRz4 => assumption); (case kFz4 => assumption); (case kUz4 => assumption); (case kKz4 => assumption)); k_whole; intro h9 R9 U9; (try dsimp only)))
  subst hat hw
  revert X; k_fill; intro X
  refine wpAny_call ?_
  k_dflt cell_enter
  k_steps
  rw [sw_nat]
  exact hret _ _ (by k_asm) (by k_asm)
end
section
open PySem PySem.W PyProof.Rows PySem.Calls
set_option maxHeartbeats 8000000
theorem takes_w {w : World} {mean : ExcName → Option Value} {mg mb : Str → Option Value} {dp un : Nat} {gd : Option (List Code)} {cn : Str} {cs : Scope} {a : Addr} {ccd : Value} {cl : List (Str × Addr)} {outer : List Env} {A₀ : Around} {base h₀ : Heap} {L : Addr} {m : Str → Option Value} {s : Shared} {Q E : Value → Shared → Prop} {y : Str} {t : Tok} {b : Int} {tb : Tok} {at0 : Int} {ta : Tok} {z1 z2 z3 z4 : Int} {k1 k2 k3 k4 : Tok} {x dx : Addr} {rest : List (Addr × Obj)}
   (B : Below A₀ base outer h₀) (F : Fr h₀ L s.heap m) (X : (K w.params).In h₀) (N : News h₀ L s.heap ((x, instObj 272 dx) :: (dx, dictOf [⟨z1, .str (Str.ofString "text") k1, .str y t⟩, ⟨z2, .str (Str.ofString "begin") k2, .int b tb⟩, ⟨z3, .str (Str.ofString "is_whole") k3, .bool true⟩, ⟨z4, .str (Str.ofString "at") k4, .int (at0) ta⟩] 4) :: rest)) (hyl : y.length < 1048576) (hy : Asc y) (hx : @LT.lt Nat _ dx x) (hr : ∀ p ∈ rest, p.1 ≠ dx) (T : Top q (looseW q [Str.ofString "DtdFault"]) mean mg mb h₀) (hk : cs.kind = .function)
   (hd : dp + 40 < recursionLimit) (hu : un + 80 < cLine) (n : Nat) (hat : at0 = (n : Int)) (c : Nat) (word : Str) (hw : word = ⟨#[c]⟩) (tw : Tok)
   (hyes : y.cps.toList[n]? = some c → ∀ (ta' : Tok) (h' : Heap) (tk' : Nat), Fr h₀ L h' m → News h₀ L h' ((x, instObj 272 dx) :: (dx, dictOf [⟨z1, .str (Str.ofString "text") k1, .str y t⟩, ⟨z2, .str (Str.ofString "begin") k2, .int b tb⟩, ⟨z3, .str (Str.ofString "is_whole") k3, .bool true⟩, ⟨z4, .str (Str.ofString "at") k4, .int (((n + 1 : Nat) : Int)) ta'⟩] 4) :: rest) → Q (.bool true) { s with heap := h', toks := tk' })
   (hno : y.cps.toList[n]? ≠ some c → ∀ (h' : Heap) (tk' : Nat), Fr h₀ L h' m → News h₀ L h' ((x, instObj 272 dx) :: (dx, dictOf [⟨z1, .str (Str.ofString "text") k1, .str y t⟩, ⟨z2, .str (Str.ofString "begin") k2, .int b tb⟩, ⟨z3, .str (Str.ofString "is_whole") k3, .bool true⟩, ⟨z4, .str (Str.ofString "at") k4, .int (at0) ta⟩] 4) :: rest) → Q (.bool false) { s with heap := h', toks := tk' }) :
   wpAny (model PySem.Challenge.rw_xw0207_01.row.prog w) (ktrTop dp un gd cn cs L a ccd cl outer) (call (.ref 206) [.ref x, .str word tw]) Q E s := by
  k_with_none
  k_with "call builtin:len" => (k_here; (with_reducible show wpAny _ _ (call _ [Value.str _ _]) _ _ _); k_dflt (refine' len_nat ?k1z0 ?_; (case k1z0 => first | assumption | decide)); k_whole; intro t9 tk9; (try dsimp only))
  k_with "subscriptTail" => (k_here; (with_reducible show wpAny _ _ (subscriptTail _ _ (Value.str _ _) (Value.int _ _)) _ _ _); k_dflt (refine' item_nat ?k1z1 ?k2z1 ?k3z1 ?_; (case k1z1 => assumption); (case k2z1 => assumption); (case k3z1 => first | (simp only [decide_eq_true_eq] at *; omega) | (simp only [decide_eq_true_eq, decide_eq_false_iff_not] at *; omega) | omega)); k_whole; intro c9 t9 tk9 hc9 hb9; (try dsimp only))
  k_with "exec Raise some none" => (k_here; k_dflt (refine' Raise_val (w := by assumption) ?khz2 ?_; (case khz2 => exact rfl)); k_whole)
  k_with "FltUp" => (k_here; k_dflt (refine' FltUp.mk ?kXz3 ?kFz3 ?kNz3 ?_; (case kXz3 => k_asm); (case kFz3 => k_asm); (case kNz3 => k_asm)); k_whole)
  k_with "leaving ref" => (k_here; first | (k_dflt (refine' air_firstN ?kKz4 ?kFz4 ?kNz4 ?kfz4 ?knz4 ?_; (case kFz4 => k_asm); (case kNz4 => k_asm); (case kKz4 => k_asm); (case kfz4 => exact rfl); (case knz4 => assumption)); k_whole; intro h9 R9 U9; (try dsimp only)) | (k_dflt (refine' air_on ?kKz4 ?kFz4 ?kRz4 ?kUz4 ?_; (case kRz4 => assumption); (case kFz4 => assumption); (case kUz4 => assumption); (case kKz4 => assumption)); k_whole; intro h9 R9 U9; (try dsimp only)))
  k_with "call ref" => (k_here; k_dflt (refine' looks_w ?k1z5 ?k2z5 ?k3z5 ?k4z5 ?k6z5 ?k7z5 ?k8z5 ?k9z5 ?k5z5 ?kKz5 ?kdz5 ?kuz5 ?knz5 ?katz5 ?kcz5 _ ?kwz5 _ ?_; (case k1z5 => k_asm); (case k2z5 => k_asm); (case k3z5 => k_asm); (case k4z5 => k_asm); (case k6z5 => assumption); (case k7z5 => assumption); (case k8z5 => assumption); (case k9z5 => first | assumption | exact ledR (by assumption) (by assumption)); (case k5z5 => k_asm); (case kKz5 => first | exact rfl | assumption); (case kdz5 => ktr_room); (case kuz5 => ktr_units); (case katz5 => exact rfl); (case kwz5 => exact rfl); k_whole); intro h9 tk9 F9 N9; (try dsimp only); (try k_sweep))
  subst hat hw
  revert X; k_fill; intro X
  refine wpAny_call ?_
  k_dflt cell_enter
  k_steps
  all_goals simp only [beq_iff_eq, beq_eq_false_iff_ne] at *
  · have e : ((n + 1 : Nat) : Int) = (n : Int) + ((1 : Nat) : Int) := by omega
    rw [e] at hyes
    exact hyes (by assumption) _ _ _ (by k_asm) (by k_asm)
  · exact hno (by assumption) _ _ (by k_asm) (by k_asm)
end
section
open PySem PySem.W PyProof.Rows PySem.Calls
set_option maxHeartbeats 8000000
theorem expect_w {w : World} {mean : ExcName → Option Value} {mg mb : Str → Option Value} {dp un : Nat} {gd : Option (List Code)} {cn : Str} {cs : Scope} {a : Addr} {ccd : Value} {cl : List (Str × Addr)} {outer : List Env} {A₀ : Around} {base h₀ : Heap} {L : Addr} {m : Str → Option Value} {s : Shared} {Q E : Value → Shared → Prop} {y : Str} {t : Tok} {b : Int} {tb : Tok} {at0 : Int} {ta : Tok} {z1 z2 z3 z4 : Int} {k1 k2 k3 k4 : Tok} {x dx : Addr} {rest : List (Addr × Obj)}
   (B : Below A₀ base outer h₀) (F : Fr h₀ L s.heap m) (X : (K w.params).In h₀) (N : News h₀ L s.heap ((x, instObj 272 dx) :: (dx, dictOf [⟨z1, .str (Str.ofString "text") k1, .str y t⟩, ⟨z2, .str (Str.ofString "begin") k2, .int b tb⟩, ⟨z3, .str (Str.ofString "is_whole") k3, .bool true⟩, ⟨z4, .str (Str.ofString "at") k4, .int (at0) ta⟩] 4) :: rest)) (hyl : y.length < 1048576) (hy : Asc y) (hx : @LT.lt Nat _ dx x) (hr : ∀ p ∈ rest, p.1 ≠ dx) (T : Top q (looseW q [Str.ofString "DtdFault"]) mean mg mb h₀) (hk : cs.kind = .function)
   (hd : dp + 80 < recursionLimit) (hu : un + 160 < cLine) (n : Nat) (hat : at0 = (n : Int)) (c : Nat) (word : Str) (hw : word = ⟨#[c]⟩) (tw : Tok)
   (hyes : y.cps.toList[n]? = some c → ∀ (ta' : Tok) (h' : Heap) (tk' : Nat), Fr h₀ L h' m → News h₀ L h' ((x, instObj 272 dx) :: (dx, dictOf [⟨z1, .str (Str.ofString "text") k1, .str y t⟩, ⟨z2, .str (Str.ofString "begin") k2, .int b tb⟩, ⟨z3, .str (Str.ofString "is_whole") k3, .bool true⟩, ⟨z4, .str (Str.ofString "at") k4, .int (((n + 1 : Nat) : Int)) ta'⟩] 4) :: rest) → Q .none { s with heap := h', toks := tk' })
   (hno : y.cps.toList[n]? ≠ some c → ∀ (e ed : Addr) (zm zp : Int) (km kp : Tok) (msg : Str) (tm tp : Tok) (at1 : Int) (ta1 : Tok) (g h1 : Heap) (tk1 : Nat), Fr h₀ L g m → Air base g (envX cn cs L a ccd cl :: outer) e ed ((ed, fltDict zm zp km kp msg tm (b + (n : Int)) tp) :: ((x, instObj 272 dx) :: (dx, dictOf [⟨z1, .str (Str.ofString "text") k1, .str y t⟩, ⟨z2, .str (Str.ofString "begin") k2, .int b tb⟩, ⟨z3, .str (Str.ofString "is_whole") k3, .bool true⟩, ⟨z4, .str (Str.ofString "at") k4, .int (at1) ta1⟩] 4) :: rest)) h1 → g.UpToSlots h1 → E (.ref e) { s with heap := h1, toks := tk1 }) :
   wpAny (model PySem.Challenge.rw_xw0207_01.row.prog w) (ktrTop dp un gd cn cs L a ccd cl outer) (call (.ref 213) [.ref x, .str word tw]) Q E s := by
  k_with_none
  k_with "call builtin:len" => (k_here; (with_reducible show wpAny _ _ (call _ [Value.str _ _]) _ _ _); k_dflt (refine' len_nat ?k1z0 ?_; (case k1z0 => first | assumption | decide)); k_whole; intro t9 tk9; (try dsimp only))
  k_with "subscriptTail" => (k_here; (with_reducible show wpAny _ _ (subscriptTail _ _ (Value.str _ _) (Value.int _ _)) _ _ _); k_dflt (refine' item_nat ?k1z1 ?k2z1 ?k3z1 ?_; (case k1z1 => assumption); (case k2z1 => assumption); (case k3z1 => first | (simp only [decide_eq_true_eq] at *; omega) | (simp only [decide_eq_true_eq, decide_eq_false_iff_not] at *; omega) | omega)); k_whole; intro c9 t9 tk9 hc9 hb9; (try dsimp only))
  k_with "exec Raise some none" => (k_here; k_dflt (refine' Raise_val (w := by assumption) ?khz2 ?_; (case khz2 => exact rfl)); k_whole)
  k_with "FltUp" => (k_here; k_dflt (refine' FltUp.mk ?kXz3 ?kFz3 ?kNz3 ?_; (case kXz3 => k_asm); (case kFz3 => k_asm); (case kNz3 => k_asm)); k_whole)
  k_with "leaving ref" => (k_here; first | (k_dflt (refine' air_firstN ?kKz4 ?kFz4 ?kNz4 ?kfz4 ?knz4 ?_; (case kFz4 => k_asm); (case kNz4 => k_asm); (case kKz4 => k_asm); (case kfz4 => exact rfl); (case knz4 => assumption)); k_whole; intro h9 R9 U9; (try dsimp only)) | (k_dflt (refine' air_on ?kKz4 ?kFz4 ?kRz4 ?kUz4 ?_; (case kRz4 => assumption); (case kFz4 => assumption); (case kUz4 => assumption); (case kKz4 => assumption)); k_whole; intro h9 R9 U9; (try dsimp only)))
  k_with "call ref" => (k_here; k_dflt (refine' takes_w ?k1z5 ?k2z5 ?k3z5 ?k4z5 ?k6z5 ?k7z5 ?k8z5 ?k9z5 ?k5z5 ?kKz5 ?kdz5 ?kuz5 ?knz5 ?katz5 ?kcz5 _ ?kwz5 _ ?_ ?_; (case k1z5 => k_asm); (case k2z5 => k_asm); (case k3z5 => k_asm); (case k4z5 => k_asm); (case k6z5 => assumption); (case k7z5 => assumption); (case k8z5 => assumption); (case k9z5 => first | assumption | exact ledR (by assumption) (by assumption)); (case k5z5 => k_asm); (case kKz5 => first | exact rfl | assumption); (case kdz5 => ktr_room); (case kuz5 => ktr_units); (case katz5 => exact rfl); (case kwz5 => exact rfl); k_whole; intro c9 t9 h9 tk9 F9 N9; (try dsimp only); (try k_sweep); rotate_left 1; k_whole; intro c9 h9 tk9 F9 N9; (try dsimp only); (try k_sweep); rotate_left 1))
  k_with "call ref" => (k_here; k_dflt (refine' fault_w2 ?k1z6 ?k2z6 ?k3z6 ?k4z6 ?k6z6 ?k7z6 ?k8z6 ?k9z6 ?k5z6 ?kKz6 ?kdz6 ?kuz6 _ _ ?_; (case k1z6 => k_asm); (case k2z6 => k_asm); (case k3z6 => k_asm); (case k4z6 => k_asm); (case k6z6 => assumption); (case k7z6 => assumption); (case k8z6 => assumption); (case k9z6 => first | assumption | exact ledR (by assumption) (by assumption)); (case k5z6 => k_asm); (case kKz6 => first | exact rfl | assumption); (case kdz6 => ktr_room); (case kuz6 => ktr_units);  k_whole); intro e9 ed9 ta9 zm9 zp9 km9 kp9 tp9 h9 tk9 F9 N9 ne9; (try dsimp only); (try k_sweep))
  subst hat hw
  revert X; k_fill; intro X
  refine wpAny_call ?_
  k_dflt cell_enter
  k_steps
  · exact hyes (by assumption) _ _ _ (by k_asm) (by k_asm)
  · exact hno (by assumption) _ _ _ _ _ _ _ _ _ _ _ _ _ _ (by assumption) (by assumption) (by assumption)
end
section
open PySem PySem.W PyProof.Rows PySem.Calls
set_option maxHeartbeats 8000000
theorem need_spaces_w {w : World} {mean : ExcName → Option Value} {mg mb : Str → Option Value} {dp un : Nat} {gd : Option (List Code)} {cn : Str} {cs : Scope} {a : Addr} {ccd : Value} {cl : List (Str × Addr)} {outer : List Env} {A₀ : Around} {base h₀ : Heap} {L : Addr} {m : Str → Option Value} {s : Shared} {Q E : Value → Shared → Prop} {y : Str} {t : Tok} {b : Int} {tb : Tok} {at0 : Int} {ta : Tok} {z1 z2 z3 z4 : Int} {k1 k2 k3 k4 : Tok} {x dx : Addr} {rest : List (Addr × Obj)}
   (B : Below A₀ base outer h₀) (F : Fr h₀ L s.heap m) (X : (K w.params).In h₀) (N : News h₀ L s.heap ((x, instObj 272 dx) :: (dx, dictOf [⟨z1, .str (Str.ofString "text") k1, .str y t⟩, ⟨z2, .str (Str.ofString "begin") k2, .int b tb⟩, ⟨z3, .str (Str.ofString "is_whole") k3, .bool true⟩, ⟨z4, .str (Str.ofString "at") k4, .int (at0) ta⟩] 4) :: rest)) (hyl : y.length < 1048576) (hy : Asc y) (hx : @LT.lt Nat _ dx x) (hr : ∀ p ∈ rest, p.1 ≠ dx) (T : Top q (looseW q [Str.ofString "DtdFault"]) mean mg mb h₀) (hk : cs.kind = .function)
   (hd : dp + 80 < recursionLimit) (hu : un + 160 < cLine) (n : Nat) (hn : n ≤ y.length) (hat : at0 = (n : Int))
   (hyes : scan spB y.cps.toList n ≠ n → ∀ (ta' : Tok) (h' : Heap) (tk' : Nat), Fr h₀ L h' m → News h₀ L h' ((x, instObj 272 dx) :: (dx, dictOf [⟨z1, .str (Str.ofString "text") k1, .str y t⟩, ⟨z2, .str (Str.ofString "begin") k2, .int b tb⟩, ⟨z3, .str (Str.ofString "is_whole") k3, .bool true⟩, ⟨z4, .str (Str.ofString "at") k4, .int (((scan spB y.cps.toList n : Nat) : Int)) ta'⟩] 4) :: rest) → Q .none { s with heap := h', toks := tk' })
   (hno : scan spB y.cps.toList n = n → ∀ (e ed : Addr) (zm zp : Int) (km kp : Tok) (msg : Str) (tm tp : Tok) (at1 : Int) (ta1 : Tok) (g h1 : Heap) (tk1 : Nat), Fr h₀ L g m → Air base g (envX cn cs L a ccd cl :: outer) e ed ((ed, fltDict zm zp km kp msg tm (b + (n : Int)) tp) :: ((x, instObj 272 dx) :: (dx, dictOf [⟨z1, .str (Str.ofString "text") k1, .str y t⟩, ⟨z2, .str (Str.ofString "begin") k2, .int b tb⟩, ⟨z3, .str (Str.ofString "is_whole") k3, .bool true⟩, ⟨z4, .str (Str.ofString "at") k4, .int (at1) ta1⟩] 4) :: rest)) h1 → g.UpToSlots h1 → E (.ref e) { s with heap := h1, toks := tk1 }) :
   wpAny (model PySem.Challenge.rw_xw0207_01.row.prog w) (ktrTop dp un gd cn cs L a ccd cl outer) (call (.ref 227) [.ref x]) Q E s := by
  k_with_none
  k_with "call builtin:len" => (k_here; (with_reducible show wpAny _ _ (call _ [Value.str _ _]) _ _ _); k_dflt (refine' len_nat ?k1z0 ?_; (case k1z0 => first | assumption | decide)); k_whole; intro t9 tk9; (try dsimp only))
  k_with "subscriptTail" => (k_here; (with_reducible show wpAny _ _ (subscriptTail _ _ (Value.str _ _) (Value.int _ _)) _ _ _); k_dflt (refine' item_nat ?k1z1 ?k2z1 ?k3z1 ?_; (case k1z1 => assumption); (case k2z1 => assumption); (case k3z1 => first | (simp only [decide_eq_true_eq] at *; omega) | (simp only [decide_eq_true_eq, decide_eq_false_iff_not] at *; omega) | omega)); k_whole; intro c9 t9 tk9 hc9 hb9; (try dsimp only))
  k_with "exec Raise some none" => (k_here; k_dflt (refine' Raise_val (w := by assumption) ?khz2 ?_; (case khz2 => exact rfl)); k_whole)
  k_with "FltUp" => (k_here; k_dflt (refine' FltUp.mk ?kXz3 ?kFz3 ?kNz3 ?_; (case kXz3 => k_asm); (case kFz3 => k_asm); (case kNz3 => k_asm)); k_whole)
  k_with "leaving ref" => (k_here; first | (k_dflt (refine' air_firstN ?kKz4 ?kFz4 ?kNz4 ?kfz4 ?knz4 ?_; (case kFz4 => k_asm); (case kNz4 => k_asm); (case kKz4 => k_asm); (case kfz4 => exact rfl); (case knz4 => assumption)); k_whole; intro h9 R9 U9; (try dsimp only)) | (k_dflt (refine' air_on ?kKz4 ?kFz4 ?kRz4 ?kUz4 ?_; (case kRz4 => assumption); (case kFz4 => assumption); (case kUz4 => assumption); (case kKz4 => assumption)); k_whole; intro h9 R9 U9; (try dsimp only)))
  k_with "call ref" => (k_here; k_dflt (refine' spaces_w ?k1z5 ?k2z5 ?k3z5 ?k4z5 ?k6z5 ?k7z5 ?k8z5 ?k9z5 ?k5z5 ?kKz5 ?kdz5 ?kuz5 ?knz5 ?klz5 ?katz5 ?_; (case k1z5 => k_asm); (case k2z5 => k_asm); (case k3z5 => k_asm); (case k4z5 => k_asm); (case k6z5 => assumption); (case k7z5 => assumption); (case k8z5 => assumption); (case k9z5 => first | assumption | exact ledR (by assumption) (by assumption)); (case k5z5 => k_asm); (case kKz5 => first | exact rfl | assumption); (case kdz5 => ktr_room); (case kuz5 => ktr_units); (case katz5 => exact rfl); (case klz5 => assumption); k_whole); intro tr9 t9 h9 tk9 F9 N9; (try dsimp only); (try k_sweep))
  k_with "call ref" => (k_here; k_dflt (refine' fault_w2 ?k1z6 ?k2z6 ?k3z6 ?k4z6 ?k6z6 ?k7z6 ?k8z6 ?k9z6 ?k5z6 ?kKz6 ?kdz6 ?kuz6 _ _ ?_; (case k1z6 => k_asm); (case k2z6 => k_asm); (case k3z6 => k_asm); (case k4z6 => k_asm); (case k6z6 => assumption); (case k7z6 => assumption); (case k8z6 => assumption); (case k9z6 => first | assumption | exact ledR (by assumption) (by assumption)); (case k5z6 => k_asm); (case kKz6 => first | exact rfl | assumption); (case kdz6 => ktr_room); (case kuz6 => ktr_units);  k_whole); intro e9 ed9 ta9 zm9 zp9 km9 kp9 tp9 h9 tk9 F9 N9 ne9; (try dsimp only); (try k_sweep))
  subst hat
  revert X; k_fill; intro X
  refine wpAny_call ?_
  k_dflt cell_enter
  k_steps
  · have e2 : b + (n : Int) = b + ((scan spB y.cps.toList n : Nat) : Int) := by omega
    rw [e2] at hno
    exact hno (by omega) _ _ _ _ _ _ _ _ _ _ _ _ _ _ (by assumption) (by assumption) (by assumption)
  · exact hyes (by omega) _ _ _ (by k_asm) (by k_asm)
end
section
open PySem PySem.W PyProof.Rows PySem.Calls
set_option maxHeartbeats 8000000
theorem looks_at_name_w {w : World} {mean : ExcName → Option Value} {mg mb : Str → Option Value} {dp un : Nat} {gd : Option (List Code)} {cn : Str} {cs : Scope} {a : Addr} {ccd : Value} {cl : List (Str × Addr)} {outer : List Env} {A₀ : Around} {base h₀ : Heap} {L : Addr} {m : Str → Option Value} {s : Shared} {Q E : Value → Shared → Prop} {y : Str} {t : Tok} {b : Int} {tb : Tok} {at0 : Int} {ta : Tok} {z1 z2 z3 z4 : Int} {k1 k2 k3 k4 : Tok} {x dx : Addr} {rest : List (Addr × Obj)}
   (B : Below A₀ base outer h₀) (F : Fr h₀ L s.heap m) (X : (K w.params).In h₀) (N : News h₀ L s.heap ((x, instObj 272 dx) :: (dx, dictOf [⟨z1, .str (Str.ofString "text") k1, .str y t⟩, ⟨z2, .str (Str.ofString "begin") k2, .int b tb⟩, ⟨z3, .str (Str.ofString "is_whole") k3, .bool true⟩, ⟨z4, .str (Str.ofString "at") k4, .int (at0) ta⟩] 4) :: rest)) (hyl : y.length < 1048576) (hy : Asc y) (hx : @LT.lt Nat _ dx x) (hr : ∀ p ∈ rest, p.1 ≠ dx) (T : Top q (looseW q [Str.ofString "DtdFault"]) mean mg mb h₀) (hk : cs.kind = .function)
   (hd : dp + 40 < recursionLimit) (hu : un + 80 < cLine) (n : Nat) (hat : at0 = (n : Int))
   (hret : ∀ (h' : Heap) (tk' : Nat), Fr h₀ L h' m → News h₀ L h' ((x, instObj 272 dx) :: (dx, dictOf [⟨z1, .str (Str.ofString "text") k1, .str y t⟩, ⟨z2, .str (Str.ofString "begin") k2, .int b tb⟩, ⟨z3, .str (Str.ofString "is_whole") k3, .bool true⟩, ⟨z4, .str (Str.ofString "at") k4, .int (at0) ta⟩] 4) :: rest) → Q (.bool ((y.cps.toList[n]?).any nsB)) { s with heap := h', toks := tk' }) :
   wpAny (model PySem.Challenge.rw_xw0207_01.row.prog w) (ktrTop dp un gd cn cs L a ccd cl outer) (call (.ref 234) [.ref x]) Q E s := by
  k_with_none
  k_with "call builtin:len" => (k_here; (with_reducible show wpAny _ _ (call _ [Value.str _ _]) _ _ _); k_dflt (refine' len_nat ?k1z0 ?_; (case k1z0 => first | assumption | decide)); k_whole; intro t9 tk9; (try dsimp only))
  k_with "subscriptTail" => (k_here; (with_reducible show wpAny _ _ (subscriptTail _ _ (Value.str _ _) (Value.int _ _)) _ _ _); k_dflt (refine' item_nat ?k1z1 ?k2z1 ?k3z1 ?_; (case k1z1 => assumption); (case k2z1 => assumption); (case k3z1 => first | (simp only [decide_eq_true_eq] at *; omega) | (simp only [decide_eq_true_eq, decide_eq_false_iff_not] at *; omega) | omega)); k_whole; intro c9 t9 tk9 hc9 hb9; (try dsimp only))
  k_with "exec Raise some none" => (k_here; k_dflt (refine' Raise_val (w := by assumption) ?khz2 ?_; (case khz2 => exact rfl)); k_whole)
  k_with "FltUp" => (k_here; k_dflt (refine' FltUp.mk ?kXz3 ?kFz3 ?kNz3 ?_; (case kXz3 => k_asm); (case kFz3 => k_asm); (case kNz3 => k_asm)); k_whole)
  k_with "leaving ref" => (k_here; first | (k_dflt (refine' air_firstN ?kKz4 ?kFz4 ?kNz4 ?kfz4 ?knz4 ?_; (case kFz4 => k_asm); (case kNz4 => k_asm); (case kKz4 => k_asm); (case kfz4 => exact rfl); (case knz4 => assumption)); k_whole; intro h9 R9 U9; (try dsimp only)) | (k_dflt (refine' air_on ?kKz4 ?kFz4 ?kRz4 ?kUz4 ?_; (case kRz4 => assumption); (case kFz4 => assumption); (case kUz4 => assumption); (case kKz4 => assumption)); k_whole; intro h9 R9 U9; (try dsimp only)))
  k_with "call ref" => (k_here; k_dflt (refine' is_start_w ?k1z5 ?k2z5 ?k3z5 ?k4z5 ?k5z5 ?kKz5 ?kdz5 ?kuz5 _ _ _ ?kxz5 ?kcz5 ?_; (case k1z5 => k_asm); (case k2z5 => k_asm); (case k3z5 => k_asm); (case k4z5 => k_asm); (case k5z5 => k_asm); (case kKz5 => first | exact rfl | assumption); (case kdz5 => ktr_room); (case kuz5 => ktr_units); (case kxz5 => exact rfl); (case kcz5 => assumption); k_whole); intro t9 h9 tk9 F9 N9; (try dsimp only); (try k_sweep))
  subst hat
  revert X; k_fill; intro X
  refine wpAny_call ?_
  k_dflt cell_enter
  k_steps
  · have e : ∀ c, y.cps.toList[n]? = some c → (y.cps.toList[n]?).any nsB = nsB c := fun c h => by rw [h]; rfl
    rw [e _ (by assumption)] at hret
    exact hret _ _ (by k_asm) (by k_asm)
  · have h1 : ¬ (n : Int) < y.length := by assumption
    have e : (y.cps.toList[n]?).any nsB = decide ((n : Int) < y.length) := by rw [List.getElem?_eq_none (by rw [len_list]; omega), decide_eq_false h1]; rfl
    rw [e] at hret
    exact hret _ _ (by k_asm) (by k_asm)
end
section
open PySem PySem.W PyProof.Rows PySem.Calls
set_option maxHeartbeats 8000000
theorem token_w {w : World} {mean : ExcName → Option Value} {mg mb : Str → Option Value} {dp un : Nat} {gd : Option (List Code)} {cn : Str} {cs : Scope} {a : Addr} {ccd : Value} {cl : List (Str × Addr)} {outer : List Env} {A₀ : Around} {base h₀ : Heap} {L : Addr} {m : Str → Option Value} {s : Shared} {Q E : Value → Shared → Prop} {y : Str} {t : Tok} {b : Int} {tb : Tok} {at0 : Int} {ta : Tok} {z1 z2 z3 z4 : Int} {k1 k2 k3 k4 : Tok} {x dx : Addr} {rest : List (Addr × Obj)}
   (B : Below A₀ base outer h₀) (F : Fr h₀ L s.heap m) (X : (K w.params).In h₀) (N : News h₀ L s.heap ((x, instObj 272 dx) :: (dx, dictOf [⟨z1, .str (Str.ofString "text") k1, .str y t⟩, ⟨z2, .str (Str.ofString "begin") k2, .int b tb⟩, ⟨z3, .str (Str.ofString "is_whole") k3, .bool true⟩, ⟨z4, .str (Str.ofString "at") k4, .int (at0) ta⟩] 4) :: rest)) (hyl : y.length < 1048576) (hy : Asc y) (hx : @LT.lt Nat _ dx x) (hr : ∀ p ∈ rest, p.1 ≠ dx) (T : Top q (looseW q [Str.ofString "DtdFault"]) mean mg mb h₀) (hk : cs.kind = .function)
   (hd : dp + 80 < recursionLimit) (hu : un + 160 < cLine) (n : Nat) (hn : n ≤ y.length) (hat : at0 = (n : Int))
   (hyes : scan ncB y.cps.toList n ≠ n → ∀ (tr ta' : Tok) (h' : Heap) (tk' : Nat), Fr h₀ L h' m → News h₀ L h' ((x, instObj 272 dx) :: (dx, dictOf [⟨z1, .str (Str.ofString "text") k1, .str y t⟩, ⟨z2, .str (Str.ofString "begin") k2, .int b tb⟩, ⟨z3, .str (Str.ofString "is_whole") k3, .bool true⟩, ⟨z4, .str (Str.ofString "at") k4, .int (((scan ncB y.cps.toList n : Nat) : Int)) ta'⟩] 4) :: rest) →
      Q (.str ⟨((y.cps.toList.drop n).takeWhile ncB).toArray⟩ tr) { s with heap := h', toks := tk' })
   (hno : scan ncB y.cps.toList n = n → ∀ (e ed : Addr) (zm zp : Int) (km kp : Tok) (msg : Str) (tm tp : Tok) (at1 : Int) (ta1 : Tok) (g h1 : Heap) (tk1 : Nat), Fr h₀ L g m → Air base g (envX cn cs L a ccd cl :: outer) e ed ((ed, fltDict zm zp km kp msg tm (b + (n : Int)) tp) :: ((x, instObj 272 dx) :: (dx, dictOf [⟨z1, .str (Str.ofString "text") k1, .str y t⟩, ⟨z2, .str (Str.ofString "begin") k2, .int b tb⟩, ⟨z3, .str (Str.ofString "is_whole") k3, .bool true⟩, ⟨z4, .str (Str.ofString "at") k4, .int (at1) ta1⟩] 4) :: rest)) h1 → g.UpToSlots h1 → E (.ref e) { s with heap := h1, toks := tk1 }) :
   wpAny (model PySem.Challenge.rw_xw0207_01.row.prog w) (ktrTop dp un gd cn cs L a ccd cl outer) (call (.ref 241) [.ref x]) Q E s := by
  k_with_none
  k_with "call builtin:len" => (k_here; (with_reducible show wpAny _ _ (call _ [Value.str _ _]) _ _ _); k_dflt (refine' len_nat ?k1z0 ?_; (case k1z0 => first | assumption | decide)); k_whole; intro t9 tk9; (try dsimp only))
  k_with "subscriptTail" => (k_here; (with_reducible show wpAny _ _ (subscriptTail _ _ (Value.str _ _) (Value.int _ _)) _ _ _); k_dflt (refine' item_nat ?k1z1 ?k2z1 ?k3z1 ?_; (case k1z1 => assumption); (case k2z1 => assumption); (case k3z1 => first | (simp only [decide_eq_true_eq] at *; omega) | (simp only [decide_eq_true_eq, decide_eq_false_iff_not] at *; omega) | omega)); k_whole; intro c9 t9 tk9 hc9 hb9; (try dsimp only))
  k_with "exec Raise some none" => (k_here; k_dflt (refine' Raise_val (w := by assumption) ?khz2 ?_; (case khz2 => exact rfl)); k_whole)
  k_with "FltUp" => (k_here; k_dflt (refine' FltUp.mk ?kXz3 ?kFz3 ?kNz3 ?_; (case kXz3 => k_asm); (case kFz3 => k_asm); (case kNz3 => k_asm)); k_whole)
  k_with "leaving ref" => (k_here; first | (k_dflt (refine' air_firstN ?kKz4 ?kFz4 ?kNz4 ?kfz4 ?knz4 ?_; (case kFz4 => k_asm); (case kNz4 => k_asm); (case kKz4 => k_asm); (case kfz4 => exact rfl); (case knz4 => assumption)); k_whole; intro h9 R9 U9; (try dsimp only)) | (k_dflt (refine' air_on ?kKz4 ?kFz4 ?kRz4 ?kUz4 ?_; (case kRz4 => assumption); (case kFz4 => assumption); (case kUz4 => assumption); (case kKz4 => assumption)); k_whole; intro h9 R9 U9; (try dsimp only)))
  k_with "call ref" => (k_here; k_dflt (refine' is_char_w ?k1z5 ?k2z5 ?k3z5 ?k4z5 ?k5z5 ?kKz5 ?kdz5 ?kuz5 _ _ _ ?kxz5 ?kcz5 ?_; (case k1z5 => k_asm); (case k2z5 => k_asm); (case k3z5 => k_asm); (case k4z5 => k_asm); (case k5z5 => k_asm); (case kKz5 => first | exact rfl | assumption); (case kdz5 => ktr_room); (case kuz5 => ktr_units); (case kxz5 => exact rfl); (case kcz5 => assumption); k_whole); intro t9 h9 tk9 F9 N9; (try dsimp only); (try k_sweep))
  k_with "call ref" => (k_here; k_dflt (refine' fault_w2 ?k1z6 ?k2z6 ?k3z6 ?k4z6 ?k6z6 ?k7z6 ?k8z6 ?k9z6 ?k5z6 ?kKz6 ?kdz6 ?kuz6 _ _ ?_; (case k1z6 => k_asm); (case k2z6 => k_asm); (case k3z6 => k_asm); (case k4z6 => k_asm); (case k6z6 => assumption); (case k7z6 => assumption); (case k8z6 => assumption); (case k9z6 => first | assumption | exact ledR (by assumption) (by assumption)); (case k5z6 => k_asm); (case kKz6 => first | exact rfl | assumption); (case kdz6 => ktr_room); (case kuz6 => ktr_units);  k_whole); intro e9 ed9 ta9 zm9 zp9 km9 kp9 tp9 h9 tk9 F9 N9 ne9; (try dsimp only); (try k_sweep))
  k_with "exec While" => (k_here; k_dflt (refine' While_led (fun (a9 : Int) (ta9 : Tok) => ((x, instObj 272 dx) :: (dx, dictOf [⟨z1, .str (Str.ofString "text") k1, .str y t⟩, ⟨z2, .str (Str.ofString "begin") k2, .int b tb⟩, ⟨z3, .str (Str.ofString "is_whole") k3, .bool true⟩, ⟨z4, .str (Str.ofString "at") k4, .int (a9) ta9⟩] 4) :: rest)) (fun a9 : Int => ∃ j : Nat, a9 = (j : Int) ∧ n ≤ j ∧ j ≤ y.length ∧ scan ncB y.cps.toList j = scan ncB y.cps.toList n) (fun a9 : Int => y.length - a9.toNat) ?kFy1 ?kNy1 ?kPy1 ?kTy1 ?kEy1; (case kFy1 => k_asm); (case kNy1 => k_asm); (case kPy1 => exact ⟨n, rfl, Nat.le_refl _, hn, rfl⟩); (case kEy1 => passes_own)); intro a9 t9 h9 tk9 F9 N9 P9; obtain ⟨j, rfl, hj1, hj2, hj3⟩ := P9)
  subst hat
  revert X; k_fill; intro X
  refine wpAny_call ?_
  k_dflt cell_enter
  k_steps
  · exact turnEnd (by k_asm) (by k_asm) (by omega) ⟨j + 1, by omega, by omega, by omega, (scan_hit (by assumption) (by assumption)).trans hj3⟩
  · have e : scan ncB y.cps.toList n = j := hj3.symm.trans (scan_stop (by assumption) (by assumption))
    have e2 : b + (n : Int) = b + (j : Int) := by omega
    rw [e2] at hno
    exact hno (by omega) _ _ _ _ _ _ _ _ _ _ _ _ _ _ (by assumption) (by assumption) (by assumption)
  · have e : scan ncB y.cps.toList n = j := hj3.symm.trans (scan_stop (by assumption) (by assumption))
    rw [slice_nat y hj1 hj2, ← e, take_scan]
    subst e
    exact hyes (by omega) _ _ _ _ (by k_asm) (by k_asm)
  · have e : scan ncB y.cps.toList n = j := hj3.symm.trans (scan_end (by rw [len_list]; omega))
    have e2 : b + (n : Int) = b + (j : Int) := by omega
    rw [e2] at hno
    exact hno (by omega) _ _ _ _ _ _ _ _ _ _ _ _ _ _ (by assumption) (by assumption) (by assumption)
  · have e : scan ncB y.cps.toList n = j := hj3.symm.trans (scan_end (by rw [len_list]; omega))
    rw [slice_nat y hj1 hj2, ← e, take_scan]
    subst e
    exact hyes (by omega) _ _ _ _ (by k_asm) (by k_asm)
end
section
open PySem PySem.W PyProof.Rows PySem.Calls
set_option maxHeartbeats 8000000
theorem name_w {w : World} {mean : ExcName → Option Value} {mg mb : Str → Option Value} {dp un : Nat} {gd : Option (List Code)} {cn : Str} {cs : Scope} {a : Addr} {ccd : Value} {cl : List (Str × Addr)} {outer : List Env} {A₀ : Around} {base h₀ : Heap} {L : Addr} {m : Str → Option Value} {s : Shared} {Q E : Value → Shared → Prop} {y : Str} {t : Tok} {b : Int} {tb : Tok} {at0 : Int} {ta : Tok} {z1 z2 z3 z4 : Int} {k1 k2 k3 k4 : Tok} {x dx : Addr} {rest : List (Addr × Obj)}
   (B : Below A₀ base outer h₀) (F : Fr h₀ L s.heap m) (X : (K w.params).In h₀) (N : News h₀ L s.heap ((x, instObj 272 dx) :: (dx, dictOf [⟨z1, .str (Str.ofString "text") k1, .str y t⟩, ⟨z2, .str (Str.ofString "begin") k2, .int b tb⟩, ⟨z3, .str (Str.ofString "is_whole") k3, .bool true⟩, ⟨z4, .str (Str.ofString "at") k4, .int (at0) ta⟩] 4) :: rest)) (hyl : y.length < 1048576) (hy : Asc y) (hx : @LT.lt Nat _ dx x) (hr : ∀ p ∈ rest, p.1 ≠ dx) (T : Top q (looseW q [Str.ofString "DtdFault"]) mean mg mb h₀) (hk : cs.kind = .function)
   (hd : dp + 120 < recursionLimit) (hu : un + 220 < cLine) (n : Nat) (hn : n ≤ y.length) (hat : at0 = (n : Int))
   (hyes : (y.cps.toList[n]?).any nsB = true → ∀ (tr ta' : Tok) (h' : Heap) (tk' : Nat), Fr h₀ L h' m → News h₀ L h' ((x, instObj 272 dx) :: (dx, dictOf [⟨z1, .str (Str.ofString "text") k1, .str y t⟩, ⟨z2, .str (Str.ofString "begin") k2, .int b tb⟩, ⟨z3, .str (Str.ofString "is_whole") k3, .bool true⟩, ⟨z4, .str (Str.ofString "at") k4, .int (((scan ncB y.cps.toList n : Nat) : Int)) ta'⟩] 4) :: rest) →
      Q (.str ⟨((y.cps.toList.drop n).takeWhile ncB).toArray⟩ tr) { s with heap := h', toks := tk' })
   (hno : (y.cps.toList[n]?).any nsB = false → ∀ (e ed : Addr) (zm zp : Int) (km kp : Tok) (msg : Str) (tm tp : Tok) (at1 : Int) (ta1 : Tok) (g h1 : Heap) (tk1 : Nat), Fr h₀ L g m → Air base g (envX cn cs L a ccd cl :: outer) e ed ((ed, fltDict zm zp km kp msg tm (b + (n : Int)) tp) :: ((x, instObj 272 dx) :: (dx, dictOf [⟨z1, .str (Str.ofString "text") k1, .str y t⟩, ⟨z2, .str (Str.ofString "begin") k2, .int b tb⟩, ⟨z3, .str (Str.ofString "is_whole") k3, .bool true⟩, ⟨z4, .str (Str.ofString "at") k4, .int (at1) ta1⟩] 4) :: rest)) h1 → g.UpToSlots h1 → E (.ref e) { s with heap := h1, toks := tk1 }) :
   wpAny (model PySem.Challenge.rw_xw0207_01.row.prog w) (ktrTop dp un gd cn cs L a ccd cl outer) (call (.ref 248) [.ref x]) Q E s := by
  k_with_none
  k_with "call builtin:len" => (k_here; (with_reducible show wpAny _ _ (call _ [Value.str _ _]) _ _ _); k_dflt (refine' len_nat ?k1z0 ?_; (case k1z0 => first | assumption | decide)); k_whole; intro t9 tk9; (try dsimp only))
  k_with "subscriptTail" => (k_here; (with_reducible show wpAny _ _ (subscriptTail _ _ (Value.str _ _) (Value.int _ _)) _ _ _); k_dflt (refine' item_nat ?k1z1 ?k2z1 ?k3z1 ?_; (case k1z1 => assumption); (case k2z1 => assumption); (case k3z1 => first | (simp only [decide_eq_true_eq] at *; omega) | (simp only [decide_eq_true_eq, decide_eq_false_iff_not] at *; omega) | omega)); k_whole; intro c9 t9 tk9 hc9 hb9; (try dsimp only))
  k_with "exec Raise some none" => (k_here; k_dflt (refine' Raise_val (w := by assumption) ?khz2 ?_; (case khz2 => exact rfl)); k_whole)
  k_with "FltUp" => (k_here; k_dflt (refine' FltUp.mk ?kXz3 ?kFz3 ?kNz3 ?_; (case kXz3 => k_asm); (case kFz3 => k_asm); (case kNz3 => k_asm)); k_whole)
  k_with "leaving ref" => (k_here; first | (k_dflt (refine' air_firstN ?kKz4 ?kFz4 ?kNz4 ?kfz4 ?knz4 ?_; (case kFz4 => k_asm); (case kNz4 => k_asm); (case kKz4 => k_asm); (case kfz4 => exact rfl); (case knz4 => assumption)); k_whole; intro h9 R9 U9; (try dsimp only)) | (k_dflt (refine' air_on ?kKz4 ?kFz4 ?kRz4 ?kUz4 ?_; (case kRz4 => assumption); (case kFz4 => assumption); (case kUz4 => assumption); (case kKz4 => assumption)); k_whole; intro h9 R9 U9; (try dsimp only)))
  k_with "call ref" => (k_here; k_dflt (refine' looks_at_name_w ?k1z5 ?k2z5 ?k3z5 ?k4z5 ?k6z5 ?k7z5 ?k8z5 ?k9z5 ?k5z5 ?kKz5 ?kdz5 ?kuz5 ?knz5 ?katz5 ?_; (case k1z5 => k_asm); (case k2z5 => k_asm); (case k3z5 => k_asm); (case k4z5 => k_asm); (case k6z5 => assumption); (case k7z5 => assumption); (case k8z5 => assumption); (case k9z5 => first | assumption | exact ledR (by assumption) (by assumption)); (case k5z5 => k_asm); (case kKz5 => first | exact rfl | assumption); (case kdz5 => ktr_room); (case kuz5 => ktr_units); (case katz5 => exact rfl); k_whole); intro h9 tk9 F9 N9; (try dsimp only); (try k_sweep))
  k_with "call ref" => (k_here; k_dflt (refine' token_w ?k1z6 ?k2z6 ?k3z6 ?k4z6 ?k6z6 ?k7z6 ?k8z6 ?k9z6 ?k5z6 ?kKz6 ?kdz6 ?kuz6 ?knz6 ?klz6 ?katz6 ?_ ?_; (case k1z6 => k_asm); (case k2z6 => k_asm); (case k3z6 => k_asm); (case k4z6 => k_asm); (case k6z6 => assumption); (case k7z6 => assumption); (case k8z6 => assumption); (case k9z6 => first | assumption | exact ledR (by assumption) (by assumption)); (case k5z6 => k_asm); (case kKz6 => first | exact rfl | assumption); (case kdz6 => ktr_room); (case kuz6 => ktr_units); (case katz6 => exact rfl); (case klz6 => assumption); k_whole; intro c9 tr9 t9 h9 tk9 F9 N9; (try dsimp only); (try k_sweep); rotate_left 1; k_whole; intro c9 e9 ed9 zm9 zp9 km9 kp9 ms9 tm9 tp9 at9 t9 g9 h9 tk9 F9 R9 U9; (try dsimp only); (try k_sweep); rotate_left 1))
  k_with "call ref" => (k_here; k_dflt (refine' fault_w2 ?k1z7 ?k2z7 ?k3z7 ?k4z7 ?k6z7 ?k7z7 ?k8z7 ?k9z7 ?k5z7 ?kKz7 ?kdz7 ?kuz7 _ _ ?_; (case k1z7 => k_asm); (case k2z7 => k_asm); (case k3z7 => k_asm); (case k4z7 => k_asm); (case k6z7 => assumption); (case k7z7 => assumption); (case k8z7 => assumption); (case k9z7 => assumption); (case k5z7 => k_asm); (case kKz7 => first | exact rfl | assumption); (case kdz7 => ktr_room); (case kuz7 => ktr_units);  k_whole); intro e9 ed9 ta9 zm9 zp9 km9 kp9 tp9 h9 tk9 F9 N9 ne9; (try dsimp only); (try k_sweep))
  subst hat
  revert X; k_fill; intro X
  refine wpAny_call ?_
  k_dflt cell_enter
  k_steps
  · exact hyes (by assumption) _ _ _ _ (by k_asm) (by k_asm)
  · exact absurd (by assumption) (name_scan (by assumption))
  · exact hno (by assumption) _ _ _ _ _ _ _ _ _ _ _ _ _ _ (by assumption) (by assumption) (by assumption)
end
section
open PySem PySem.W PyProof.Rows PyProof.V PySem.Calls PySem.Spec
set_option maxHeartbeats 8000000
/-- the values that hold these texts -/
def Strs (vs : List Value) (ks : List Str) : Prop := vs.length = ks.length ∧ ∀ (j : Nat) (v : Value), vs[j]? = some v → ∃ k t, ks[j]? = some k ∧ v = Value.str k t
section
open PySem.F
variable {prog : Program} {w : World} {A : Around} {E : Value → Shared → Prop} {s : Shared} {r d : Addr} {n : Nat} {P : Nat → Value → Prop} {OK : Heap → Prop}
theorem tup_codes {Q₁ : Value → Shared → Prop} (K : KdlSrc prog w "dict" r d n P OK) (hh : A.handled = none) (hok : OK s.heap) (hn : n ≤ sizeLine)
    (h : ∀ (h' : Heap) (tk : Nat) (acc : Array Value), (∀ b o, s.heap.get? b = some o → h'.get? b = some o) → ItemsOf P acc n → Q₁ (.ref h'.objs.size) { s with heap := h'.push { cls := .type "tuple", data := .seq acc }, toks := tk }) :
    codeAny (model prog w) A (.call (.builtin "tuple.__new__") ⟨[.type "tuple", .ref r], []⟩) (wants Q₁ E) s := by
  refine codeAny_of_tree ?_
  show wpAny _ A.in1 (do checkBuiltinCall "tuple.__new__" ⟨[.type "tuple", .ref r], []⟩; again (.builtin "tuple.__new__" ⟨[.type "tuple", .ref r], []⟩)) _ _ s
  refine wpAny_bind (wpAny_of_eq (newCall_tuple_1 _) (wpAny_pure ⟨plainId_quiet plain_tuple_new _, codeAny_builtin entry_tuple_new ?_⟩))
  rw [Around.under_plainId plain_tuple_new _]
  have hsub' := sub_tuple_self
  have hinit := init_tuple_lookup
  have hmh := madeHere_tuple
  have hTI := K.type s hok
  wp_walk using wpAny_typeOf hTI, kdu_collect (A := A.in1) K (show A.in1.handled = none from hh) hok hn
  intro h' tk acc hk hacc
  show wpAny _ _ (Builtin.Tuple.tupleExact acc.toList.toArray >>= fun v => ret v) _ _ _
  unfold Builtin.Tuple.tupleExact
  refine wpAny_bind (wpAny_newObj_type ?_ (by show acc.toList.toArray.size ≤ sizeLine; simp only [Array.toArray_toList]; rw [hacc.1]; exact hn))
  refine wpAny_pure ?_
  have e : acc.toList.toArray = acc := by simp
  rw [e]
  exact h h' tk acc hk hacc
theorem tup_call {Q : Value → Shared → Prop} (K : KdlSrc prog w "dict" r d n P OK) (hh : A.handled = none) (hok : OK s.heap) (hn : n ≤ sizeLine)
    (hQ : ∀ (h' : Heap) (tk : Nat) (acc : Array Value), (∀ b o, s.heap.get? b = some o → h'.get? b = some o) → ItemsOf P acc n → Q (.ref h'.objs.size) { s with heap := h'.push { cls := .type "tuple", data := .seq acc }, toks := tk }) :
    wpAny (model prog w) A (call (.type "tuple") [.ref r]) Q E s := by
  refine callType_codes (Q₁ := fun obj s₁ => s₁.TypeIs obj "tuple" ∧ Q obj s₁) called_tuple (typeCall_tuple_1 _) entry_object_init
    (tup_codes K hh hok hn fun h' tk acc hk hacc => ⟨⟨_, Heap.get?_push_size _ rfl, rfl⟩, hQ h' tk acc hk hacc⟩) fun obj s₁ h₁ => ?_
  exact ⟨h₁.1, args_object_init_2 obj _, object_init_meets called_tuple.init.lookup called_tuple.made (by decide) prog w A.in1 _ s₁ ⟨h₁.1, rfl, h₁.2⟩⟩
/-- a tuple of texts -/
abbrev tupOf (vs : List Value) : Obj := { cls := .type "tuple", data := .seq vs.toArray }
theorem tup_dict {Q : Value → Shared → Prop} {h₀ : Heap} {L D : Addr} {m : Str → Option Value} {news : List (Addr × Obj)} {o : Obj} {ks : List Str} {f : Str → Str × Value} (hf : ∀ k, (f k).1 = k) (hh : A.handled = none)
    (F : Fr h₀ L s.heap m) (N : News h₀ L s.heap news) (hp : (D, o) ∈ news) (lo : (D == sysModules) = false) (hd : o.IsDictOf (PySem.strKind prog w) (ks.map f)) (hn : ks.length ≤ sizeLine)
    (h : ∀ (T : Addr) (h' : Heap) (tk : Nat) (vs : List Value), Fr h₀ L h' m → News h₀ L h' ((T, tupOf vs) :: news) → (∀ q ∈ news, q.1 < T) → Strs vs ks → Q (.ref T) { s with heap := h', toks := tk }) :
    wpAny (model prog w) A (call (.type "tuple") [.ref D]) Q E s := by
  have hD : s.heap.DictOf (PySem.strKind prog w) D (ks.map f) := Heap.dictOf_iff.mpr ⟨o, (N _ hp).1, hd⟩
  obtain ⟨ep, hat⟩ := hD.dictAt
  refine tup_call (kdl_dict (knd := PySem.strKind prog w) (kvs := ks.map f) (ep := ep) lo) hh hat (by rw [List.length_map]; exact hn) fun h' tk acc hk hacc => ?_
  have N' : News h₀ L h' news := fun p hp => ⟨hk _ _ (N p hp).1, (N p hp).2⟩
  have e : acc = acc.toList.toArray := by simp
  rw [e]
  refine h _ _ tk acc.toList ((F.keeps hk).push _) (News.push (F.keeps hk) N' _ rfl) (fun q hq => Heap.lt_size (N' q hq).1) ⟨?_, fun j v q => ?_⟩
  · rw [Array.length_toList, hacc.1, List.length_map]
  · obtain ⟨k, x, hkx, hv⟩ := hacc.2 j v (by rw [← Array.getElem?_toList]; exact q)
    obtain ⟨t, rfl⟩ := Value.isStrOf_shape hv
    rw [List.getElem?_map] at hkx
    cases q2 : ks[j]? with
    | none => rw [q2] at hkx; cases hkx
    | some k' =>
      rw [q2] at hkx
      have h1 : f k' = (k, x) := Option.some.inj hkx
      have h2 := hf k'
      rw [h1] at h2
      have h3 : k = k' := h2
      exact ⟨k', t, rfl, by rw [h3]⟩
end
end
section
open PySem PySem.W PyProof.Rows PyProof.V PySem.Calls PySem.Spec
/-- the token at n -/
def tokAt (l : List Nat) (n : Nat) : Str := ⟨((l.drop n).takeWhile ncB).toArray⟩
/-- whether a token (or a name) stands at n -/
def tokOk (nota : Bool) (l : List Nat) (n : Nat) : Bool := if nota then (l[n]?).any nsB else scan ncB l n != n
/-- what a row of choices tells from n on, ks found -/
inductive Ans (nota : Bool) (l : List Nat) : List Str → Nat → Except Nat (List Str × Nat) → Prop
  | bad {ks : List Str} {n : Nat} : tokOk nota l (scan spB l n) = false → Ans nota l ks n (.error (scan spB l n))
  | twice {ks : List Str} {n : Nat} : tokOk nota l (scan spB l n) = true → tokAt l (scan spB l n) ∈ ks → Ans nota l ks n (.error (scan ncB l (scan spB l n)))
  | more {ks : List Str} {n : Nat} {r : Except Nat (List Str × Nat)} : tokOk nota l (scan spB l n) = true → tokAt l (scan spB l n) ∉ ks → l[scan spB l (scan ncB l (scan spB l n))]? = some 124 →
      Ans nota l (ks ++ [tokAt l (scan spB l n)]) (scan spB l (scan ncB l (scan spB l n)) + 1) r → Ans nota l ks n r
  | ended {ks : List Str} {n : Nat} : tokOk nota l (scan spB l n) = true → tokAt l (scan spB l n) ∉ ks → l[scan spB l (scan ncB l (scan spB l n))]? = some 41 →
      Ans nota l ks n (.ok (ks ++ [tokAt l (scan spB l n)], scan spB l (scan ncB l (scan spB l n)) + 1))
  | open_ {ks : List Str} {n : Nat} : tokOk nota l (scan spB l n) = true → tokAt l (scan spB l n) ∉ ks → l[scan spB l (scan ncB l (scan spB l n))]? ≠ some 124 → l[scan spB l (scan ncB l (scan spB l n))]? ≠ some 41 →
      Ans nota l ks n (.error (scan spB l (scan ncB l (scan spB l n))))
theorem Ans.det {nota : Bool} {l : List Nat} {ks : List Str} {n : Nat} {r r' : Except Nat (List Str × Nat)} (h : Ans nota l ks n r) (h' : Ans nota l ks n r') : r = r' := by
  induction h with
  | bad h1 =>
    cases h' <;> first | rfl | (rename_i h2 _; rw [h1] at h2; cases h2) | (rename_i h2 _ _; rw [h1] at h2; cases h2) | (rename_i h2 _ _ _; rw [h1] at h2; cases h2)
  | twice h1 h2 =>
    cases h' with
    | bad g1 => rw [h1] at g1; cases g1
    | twice _ _ => rfl
    | more _ g2 _ _ => exact absurd h2 g2
    | ended _ g2 _ => exact absurd h2 g2
    | open_ _ g2 _ _ => exact absurd h2 g2
  | more h1 h2 h3 _ ih =>
    cases h' with
    | bad g1 => rw [h1] at g1; cases g1
    | twice _ g2 => exact absurd g2 h2
    | more _ _ _ g => exact ih g
    | ended _ _ g3 => rw [h3] at g3; cases g3
    | open_ _ _ g3 _ => exact absurd h3 g3
  | ended h1 h2 h3 =>
    cases h' with
    | bad g1 => rw [h1] at g1; cases g1
    | twice _ g2 => exact absurd g2 h2
    | more _ _ g3 _ => rw [h3] at g3; cases g3
    | ended _ _ _ => rfl
    | open_ _ _ _ g4 => exact absurd h3 g4
  | open_ h1 h2 h3 h4 =>
    cases h' with
    | bad g1 => rw [h1] at g1; cases g1
    | twice _ g2 => exact absurd g2 h2
    | more _ _ g3 _ => exact absurd g3 h3
    | ended _ _ g4 => exact absurd g4 h4
    | open_ _ _ _ _ => rfl
theorem keys_in {ks : List Str} {k : Str} : (valueAt (ks.map fun k => (k, Value.bool true)) k).isSome = decide (k ∈ ks) := by
  rw [valueAt_isSome_eq_any, Bool.eq_iff_iff]
  simp only [List.any_map, List.any_eq_true, Function.comp, decide_eq_true_eq]
  exact ⟨fun ⟨x, hx, e⟩ => e ▸ hx, fun h => ⟨k, h, rfl⟩⟩
theorem keys_put {ks : List Str} {k : Str} (h : k ∉ ks) : stored (ks.map fun k => (k, Value.bool true)) k (.bool true) = (ks ++ [k]).map fun k => (k, Value.bool true) := by
  rw [stored_absent (by
    cases q : valueAt (ks.map fun k => (k, Value.bool true)) k with
    | none => rfl
    | some v =>
      have h1 := keys_in (ks := ks) (k := k)
      rw [q, decide_eq_false h] at h1
      cases h1) _, List.map_append]
  rfl
end
section
open PySem PySem.W PyProof.Rows PyProof.V PySem.Calls PySem.Spec
set_option maxHeartbeats 8000000
theorem lk_o : Str.ofString "(" = ⟨#[40]⟩ := by decide +kernel
theorem lk_c : Str.ofString ")" = ⟨#[41]⟩ := by decide +kernel
theorem lk_b : Str.ofString "|" = ⟨#[124]⟩ := by decide +kernel
theorem news_third {h₀ h : Heap} {L : Addr} {p q r : Addr × Obj} {rest : List (Addr × Obj)} (N : News h₀ L h (r :: p :: q :: rest)) : News h₀ L h (p :: q :: r :: rest) := fun z hz => N z (by
  simp only [List.mem_cons] at hz ⊢
  rcases hz with h | h | h | h
  · exact .inr (.inl h)
  · exact .inr (.inr (.inl h))
  · exact .inl h
  · exact .inr (.inr (.inr h)))
theorem news_third' {h₀ h : Heap} {L : Addr} {p q r : Addr × Obj} {rest : List (Addr × Obj)} (N : News h₀ L h (p :: q :: r :: rest)) : News h₀ L h (p :: q :: rest) := fun z hz => N z (by
  simp only [List.mem_cons] at hz ⊢
  rcases hz with h | h | h
  · exact .inl h
  · exact .inr (.inl h)
  · exact .inr (.inr (.inr h)))
theorem dict_lt {D x dx : Addr} {o o2 : Obj} {rest : List (Addr × Obj)} (l1 : ∀ p ∈ (x, o) :: (dx, o2) :: rest, p.1 < D) : @LT.lt Nat _ x D ∧ @LT.lt Nat _ dx D ∧ ∀ p ∈ rest, p.1 ≠ D :=
  ⟨l1 _ (.head _), l1 _ (.tail _ (.head _)), fun p hp => Nat.ne_of_lt (l1 p (.tail _ (.tail _ hp)))⟩
theorem at_le {y : Str} {n c : Nat} (h : y.cps.toList[n]? = some c) : n + 1 ≤ y.length := by
  obtain ⟨h1, _⟩ := List.getElem?_eq_some_iff.mp h
  rw [len_list] at h1
  exact h1
theorem scan_len {p : Nat → Bool} {y : Str} {j : Nat} (h : j ≤ y.length) : scan p y.cps.toList j ≤ y.length := by
  have := scan_le (p := p) (l := y.cps.toList) (j := j) (by rw [len_list]; exact h)
  rw [len_list] at this
  exact this
theorem ledR {D dx : Addr} {o : Obj} {rest : List (Addr × Obj)} (h : @LT.lt Nat _ dx D) (hr : ∀ p ∈ rest, p.1 ≠ dx) : ∀ p ∈ (D, o) :: rest, p.1 ≠ dx := fun p hp => by
  rcases List.mem_cons.mp hp with rfl | hp
  · exact Nat.ne_of_gt h
  · exact hr p hp
section
variable {prog : Program} {w : World} {A : Around} {E : Value → Shared → Prop} {Q : Flow → Shared → Prop} {s : Shared} {env : Env} {h₀ : Heap} {L : Addr} {test : Expr} {body : List Stmt} {pos : Pos} {m : Str → Option Value}
/-- the end of a turn of the loop over choices -/
def RcEnd (prog : Program) (w : World) (h₀ : Heap) (L : Addr) (s : Shared) (m : Str → Option Value) (led : Nat → Tok → Obj → List (Addr × Obj)) (name : Str) (nota : Bool) (l : List Nat) (len n0 : Nat) (Q : Flow → Shared → Prop) (n : Nat) (f : Flow) (s₃ : Shared) : Prop :=
  match f with
  | .next => ∃ h' tk n' ta o ks nm, s₃ = { s with heap := h', toks := tk } ∧ Fr h₀ L h' (fun y => if y = name then nm else m y) ∧ News h₀ L h' (led n' ta o) ∧ o.IsDictOf (PySem.strKind prog w) ((ks : List Str).map fun k => (k, Value.bool true)) ∧ n' ≤ len ∧ ks.length ≤ n' ∧ n < n' ∧ (∀ r, Ans nota l ks n' r → Ans nota l [] n0 r)
  | .cont => False
  | .brk => Q .next s₃
  | f => Q f s₃
theorem While_rc (led : Nat → Tok → Obj → List (Addr × Obj)) (name : Str) (nota : Bool) (l : List Nat) (len n0 : Nat) {ta0 : Tok} {o0 : Obj}
    (F : Fr h₀ L s.heap m) (N : News h₀ L s.heap (led n0 ta0 o0)) (hm : m name = none) (hd : o0.IsDictOf (PySem.strKind prog w) []) (hn0 : n0 ≤ len)
    (turn : ∀ n ta o ks nm h₁ tk₁, Fr h₀ L h₁ (fun y => if y = name then nm else m y) → News h₀ L h₁ (led n ta o) → o.IsDictOf (PySem.strKind prog w) ((ks : List Str).map fun k => (k, Value.bool true)) → n ≤ len → ks.length ≤ n → (∀ r, Ans nota l ks n r → Ans nota l [] n0 r) →
      wpAny (model prog w) A (isTrue test env (eval test env)) (fun b s₂ =>
        if b = true then wpAny (model prog w) A (execs body env) (RcEnd prog w h₀ L s m led name nota l len n0 Q n) E s₂ else Q .next s₂) E { s with heap := h₁, toks := tk₁ })
    (hE : PassesOwn (model prog w) A env E) :
    wpAny (model prog w) A (exec (.While test body [] pos) env) Q E s := by
  have em : m = fun y => if y = name then none else m y := by
    funext y
    split
    · rename_i e; rw [e, hm]
    · rfl
  refine While_inv2 (fun k m₁ ns => ∃ n ta o ks nm, k = len - n ∧ m₁ = (fun y => if y = name then nm else m y) ∧ ns = led n ta o ∧ o.IsDictOf (PySem.strKind prog w) ((ks : List Str).map fun k => (k, Value.bool true)) ∧ n ≤ len ∧ ks.length ≤ n ∧ (∀ r, Ans nota l ks n r → Ans nota l [] n0 r))
    F N ⟨n0, ta0, o0, [], none, rfl, em, rfl, hd, hn0, Nat.zero_le _, fun _ h => h⟩ ?_ hE
  rintro k m₁ ns h₁ tk₁ F₁ N₁ ⟨n, ta, o, ks, nm, rfl, rfl, rfl, hd₁, hn, hk, hr⟩
  refine wpAny_mono (turn n ta o ks nm h₁ tk₁ F₁ N₁ hd₁ hn hk hr) (fun b s₂ h₂ => ?_) fun _ _ x => x
  cases b with
  | false => exact h₂
  | true =>
    simp only [if_true] at h₂ ⊢
    refine wpAny_mono h₂ (fun f s₃ h₃ => ?_) fun _ _ x => x
    cases f with
    | next =>
      obtain ⟨h', tk, n', ta', o', ks', nm', rfl, F', N', hd', hn', hk', hlt, hr'⟩ := h₃
      exact ⟨h', tk, _, _, len - n', rfl, F', N', by omega, n', ta', o', ks', nm', rfl, rfl, rfl, hd', hn', hk', hr'⟩
    | cont => exact h₃.elim
    | brk => exact h₃
    | ret v => exact h₃
theorem rcEnd {led : Nat → Tok → Obj → List (Addr × Obj)} {name : Str} {nota : Bool} {l : List Nat} {len n0 n n' tk : Nat} {h' : Heap} {ta : Tok} {o : Obj} {ks : List Str} {v nm : Option Value}
    (F : Fr h₀ L h' (fun y => if y = name then v else if y = name then nm else m y)) (N : News h₀ L h' (led n' ta o)) (hd : o.IsDictOf (PySem.strKind prog w) (ks.map fun k => (k, Value.bool true)))
    (h1 : n' ≤ len) (h2 : ks.length ≤ n') (h3 : n < n') (h4 : ∀ r, Ans nota l ks n' r → Ans nota l [] n0 r) : RcEnd prog w h₀ L s m led name nota l len n0 Q n .next { s with heap := h', toks := tk } := by
  have e : (fun y => if y = name then v else if y = name then nm else m y) = (fun y => if y = name then v else m y) := by
    funext y
    split
    · rfl
    · rfl
  rw [e] at F
  exact ⟨h', tk, n', ta, o, ks, v, rfl, F, N, hd, h1, h2, h3, h4⟩
end
theorem tok_t {nota : Bool} {l : List Nat} {n : Nat} (e : nota = true) (h : (l[n]?).any nsB = true) : tokOk nota l n = true := by subst e; exact h
theorem tok_f {nota : Bool} {l : List Nat} {n : Nat} (e : nota = false) (h : scan ncB l n ≠ n) : tokOk nota l n = true := by subst e; simpa [tokOk] using h
theorem tok_tn {nota : Bool} {l : List Nat} {n : Nat} (e : nota = true) (h : (l[n]?).any nsB = false) : tokOk nota l n = false := by subst e; exact h
theorem tok_fn {nota : Bool} {l : List Nat} {n : Nat} (e : nota = false) (h : scan ncB l n = n) : tokOk nota l n = false := by subst e; simpa [tokOk] using h
theorem news_drop4 {h₀ h : Heap} {L : Addr} {a b c d : Addr × Obj} {rest : List (Addr × Obj)} (N : News h₀ L h (a :: b :: c :: d :: rest)) : News h₀ L h (a :: b :: c :: rest) := fun z hz => N z (by
  simp only [List.mem_cons] at hz ⊢
  rcases hz with h | h | h | h
  · exact .inl h
  · exact .inr (.inl h)
  · exact .inr (.inr (.inl h))
  · exact .inr (.inr (.inr (.inr h))))
end
section
open PySem PySem.W PyProof.Rows PySem.Calls
set_option maxHeartbeats 8000000
theorem air_drop4 {base g h : Heap} {l : List Env} {e ed : Addr} {a b c d : Addr × Obj} {rest : List (Addr × Obj)} (R : Air base g l e ed (a :: b :: c :: d :: rest) h) : Air base g l e ed (a :: b :: c :: rest) h := R.drop fun z hz => by
  simp only [List.mem_cons] at hz ⊢
  rcases hz with h | h | h | h
  · exact .inl h
  · exact .inr (.inl h)
  · exact .inr (.inr (.inl h))
  · exact .inr (.inr (.inr (.inr h)))
set_option maxHeartbeats 1000000 in
theorem read_choices_w {w : World} {mean : ExcName → Option Value} {mg mb : Str → Option Value} {dp un : Nat} {gd : Option (List Code)} {cn : Str} {cs : Scope} {a : Addr} {ccd : Value} {cl : List (Str × Addr)} {outer : List Env} {A₀ : Around} {base h₀ : Heap} {L : Addr} {m : Str → Option Value} {s : Shared} {Q E : Value → Shared → Prop} {y : Str} {t : Tok} {b : Int} {tb : Tok} {at0 : Int} {ta : Tok} {z1 z2 z3 z4 : Int} {k1 k2 k3 k4 : Tok} {x dx : Addr} {rest : List (Addr × Obj)}
   (B : Below A₀ base outer h₀) (F : Fr h₀ L s.heap m) (X : (K w.params).In h₀) (N : News h₀ L s.heap ((x, instObj 272 dx) :: (dx, dictOf [⟨z1, .str (Str.ofString "text") k1, .str y t⟩, ⟨z2, .str (Str.ofString "begin") k2, .int b tb⟩, ⟨z3, .str (Str.ofString "is_whole") k3, .bool true⟩, ⟨z4, .str (Str.ofString "at") k4, .int (at0) ta⟩] 4) :: rest)) (hyl : y.length < 1048576) (hy : Asc y) (hx : @LT.lt Nat _ dx x) (hr : ∀ p ∈ rest, p.1 ≠ dx) (T : Top q (looseW q [Str.ofString "DtdFault"]) mean mg mb h₀) (hk : cs.kind = .function)
   (hd : dp + 160 < recursionLimit) (hu : un + 300 < cLine) (n : Nat) (hn : n ≤ y.length) (hat : at0 = (n : Int)) (nota : Bool)
   (hyes : ∀ ks n', y.cps.toList[n]? = some 40 → Ans nota y.cps.toList [] (n + 1) (.ok (ks, n')) → ∀ (T9 : Addr) (vs : List Value) (ta' : Tok) (h' : Heap) (tk' : Nat), Fr h₀ L h' m → News h₀ L h' ((T9, tupOf vs) :: ((x, instObj 272 dx) :: (dx, dictOf [⟨z1, .str (Str.ofString "text") k1, .str y t⟩, ⟨z2, .str (Str.ofString "begin") k2, .int b tb⟩, ⟨z3, .str (Str.ofString "is_whole") k3, .bool true⟩, ⟨z4, .str (Str.ofString "at") k4, .int (((n' : Nat) : Int)) ta'⟩] 4) :: rest)) → Strs vs ks → Q (.ref T9) { s with heap := h', toks := tk' })
   (hno : ∀ p, (y.cps.toList[n]? = some 40 → Ans nota y.cps.toList [] (n + 1) (.error p)) → (y.cps.toList[n]? ≠ some 40 → p = n) → ∀ (e ed : Addr) (zm zp : Int) (km kp : Tok) (msg : Str) (tm tp : Tok) (at1 : Int) (ta1 : Tok) (g h1 : Heap) (tk1 : Nat), Fr h₀ L g m → Air base g (envX cn cs L a ccd cl :: outer) e ed ((ed, fltDict zm zp km kp msg tm (b + (p : Int)) tp) :: ((x, instObj 272 dx) :: (dx, dictOf [⟨z1, .str (Str.ofString "text") k1, .str y t⟩, ⟨z2, .str (Str.ofString "begin") k2, .int b tb⟩, ⟨z3, .str (Str.ofString "is_whole") k3, .bool true⟩, ⟨z4, .str (Str.ofString "at") k4, .int (at1) ta1⟩] 4) :: rest)) h1 → g.UpToSlots h1 → E (.ref e) { s with heap := h1, toks := tk1 }) :
   wpAny (model PySem.Challenge.rw_xw0207_01.row.prog w) (ktrTop dp un gd cn cs L a ccd cl outer) (call (.ref 95) [.ref x, .bool nota]) Q E s := by
  k_with_none
  k_with "call builtin:len" => (k_here; (with_reducible show wpAny _ _ (call _ [Value.str _ _]) _ _ _); k_dflt (refine' len_nat ?k1z0 ?_; (case k1z0 => first | assumption | decide)); k_whole; intro t9 tk9; (try dsimp only))
  k_with "subscriptTail" => (k_here; (with_reducible show wpAny _ _ (subscriptTail _ _ (Value.str _ _) (Value.int _ _)) _ _ _); k_dflt (refine' item_nat ?k1z1 ?k2z1 ?k3z1 ?_; (case k1z1 => assumption); (case k2z1 => assumption); (case k3z1 => first | (simp only [decide_eq_true_eq] at *; omega) | (simp only [decide_eq_true_eq, decide_eq_false_iff_not] at *; omega) | omega)); k_whole; intro c9 t9 tk9 hc9 hb9; (try dsimp only))
  k_with "exec Raise some none" => (k_here; k_dflt (refine' Raise_val (w := by assumption) ?khz2 ?_; (case khz2 => exact rfl)); k_whole)
  k_with "FltUp" => (k_here; k_dflt (refine' FltUp.mk ?kXz3 ?kFz3 ?kNz3 ?_; (case kXz3 => k_asm); (case kFz3 => k_asm); (case kNz3 => k_asm)); k_whole)
  k_with "leaving ref" => (k_here; first | (k_dflt (refine' air_firstN ?kKz4 ?kFz4 ?kNz4 ?kfz4 ?knz4 ?_; (case kFz4 => k_asm); (case kNz4 => k_asm); (case kKz4 => k_asm); (case kfz4 => exact rfl); (case knz4 => assumption)); k_whole; intro h9 R9 U9; (try dsimp only)) | (k_dflt (refine' air_on ?kKz4 ?kFz4 ?kRz4 ?kUz4 ?_; (case kRz4 => assumption); (case kFz4 => assumption); (case kUz4 => assumption); (case kKz4 => assumption)); k_whole; intro h9 R9 U9; (try dsimp only)))
  k_with "call ref" => (k_here; k_dflt (refine' spaces_w ?k1z5 ?k2z5 ?k3z5 ?k4z5 ?k6z5 ?k7z5 ?k8z5 ?k9z5 ?k5z5 ?kKz5 ?kdz5 ?kuz5 _ ?klz5 ?katz5 ?_; (case k1z5 => k_asm); (case k2z5 => k_asm); (case k3z5 => k_asm); (case k4z5 => k_asm); (case k6z5 => assumption); (case k7z5 => assumption); (case k8z5 => assumption); (case k9z5 => first | assumption | exact ledR (by assumption) (by assumption)); (case k5z5 => k_asm); (case kKz5 => first | exact rfl | assumption); (case kdz5 => ktr_room); (case kuz5 => ktr_units); (case katz5 => exact rfl); (case klz5 => (first | assumption | exact scan_len (by assumption) | exact scan_len (scan_len (by assumption)))); k_whole); intro tr9 t9 h9 tk9 F9 N9; (try dsimp only); (try k_sweep))
  k_with "call ref" => (k_here; k_dflt (refine' takes_w ?k1z6 ?k2z6 ?k3z6 ?k4z6 ?k6z6 ?k7z6 ?k8z6 ?k9z6 ?k5z6 ?kKz6 ?kdz6 ?kuz6 _ ?katz6 _ _ ?kwz6 _ ?_ ?_; (case k1z6 => k_asm); (case k2z6 => k_asm); (case k3z6 => k_asm); (case k4z6 => k_asm); (case k6z6 => assumption); (case k7z6 => assumption); (case k8z6 => assumption); (case k9z6 => first | assumption | exact ledR (by assumption) (by assumption)); (case k5z6 => k_asm); (case kKz6 => first | exact rfl | assumption); (case kdz6 => ktr_room); (case kuz6 => ktr_units); (case katz6 => exact rfl); (case kwz6 => first | exact lk_c | exact lk_b); k_whole; intro c9 t9 h9 tk9 F9 N9; (try dsimp only); (try k_sweep); rotate_left 1; k_whole; intro c9 h9 tk9 F9 N9; (try dsimp only); (try k_sweep); rotate_left 1))
  k_with "call ref" => (k_here; k_dflt (refine' expect_w ?k1z7 ?k2z7 ?k3z7 ?k4z7 ?k6z7 ?k7z7 ?k8z7 ?k9z7 ?k5z7 ?kKz7 ?kdz7 ?kuz7 _ ?katz7 _ _ ?kwz7 _ ?_ ?_; (case k1z7 => k_asm); (case k2z7 => k_asm); (case k3z7 => k_asm); (case k4z7 => k_asm); (case k6z7 => assumption); (case k7z7 => assumption); (case k8z7 => assumption); (case k9z7 => first | assumption | exact ledR (by assumption) (by assumption)); (case k5z7 => k_asm); (case kKz7 => first | exact rfl | assumption); (case kdz7 => ktr_room); (case kuz7 => ktr_units); (case katz7 => exact rfl); (case kwz7 => first | exact lk_o | exact lk_c); k_whole; intro c9 t9 h9 tk9 F9 N9; (try dsimp only); (try k_sweep); rotate_left 1; k_whole; intro c9 e9 ed9 zm9 zp9 km9 kp9 ms9 tm9 tp9 at9 t9 g9 h9 tk9 F9 R9 U9; (try dsimp only); (try k_sweep); rotate_left 1))
  k_with "call ref" => (k_here; k_dflt (refine' token_w ?k1z8 ?k2z8 ?k3z8 ?k4z8 ?k6z8 ?k7z8 ?k8z8 ?k9z8 ?k5z8 ?kKz8 ?kdz8 ?kuz8 _ ?klz8 ?katz8 ?_ ?_; (case k1z8 => k_asm); (case k2z8 => k_asm); (case k3z8 => k_asm); (case k4z8 => k_asm); (case k6z8 => assumption); (case k7z8 => assumption); (case k8z8 => assumption); (case k9z8 => first | assumption | exact ledR (by assumption) (by assumption)); (case k5z8 => k_asm); (case kKz8 => first | exact rfl | assumption); (case kdz8 => ktr_room); (case kuz8 => ktr_units); (case katz8 => exact rfl); (case klz8 => (first | assumption | exact scan_len (by assumption) | exact scan_len (scan_len (by assumption)))); k_whole; intro c9 tr9 t9 h9 tk9 F9 N9; (try dsimp only); (try k_sweep); rotate_left 1; k_whole; intro c9 e9 ed9 zm9 zp9 km9 kp9 ms9 tm9 tp9 at9 t9 g9 h9 tk9 F9 R9 U9; (try dsimp only); (try k_sweep); rotate_left 1))
  k_with "call ref" => (k_here; k_dflt (refine' name_w ?k1z9 ?k2z9 ?k3z9 ?k4z9 ?k6z9 ?k7z9 ?k8z9 ?k9z9 ?k5z9 ?kKz9 ?kdz9 ?kuz9 _ ?klz9 ?katz9 ?_ ?_; (case k1z9 => k_asm); (case k2z9 => k_asm); (case k3z9 => k_asm); (case k4z9 => k_asm); (case k6z9 => assumption); (case k7z9 => assumption); (case k8z9 => assumption); (case k9z9 => first | assumption | exact ledR (by assumption) (by assumption)); (case k5z9 => k_asm); (case kKz9 => first | exact rfl | assumption); (case kdz9 => ktr_room); (case kuz9 => ktr_units); (case katz9 => exact rfl); (case klz9 => (first | assumption | exact scan_len (by assumption) | exact scan_len (scan_len (by assumption)))); k_whole; intro c9 tr9 t9 h9 tk9 F9 N9; (try dsimp only); (try k_sweep); rotate_left 1; k_whole; intro c9 e9 ed9 zm9 zp9 km9 kp9 ms9 tm9 tp9 at9 t9 g9 h9 tk9 F9 R9 U9; (try dsimp only); (try k_sweep); rotate_left 1))
  k_with "call ref" => (k_here; k_dflt (refine' fault_w2 ?k1z10 ?k2z10 ?k3z10 ?k4z10 ?k6z10 ?k7z10 ?k8z10 ?k9z10 ?k5z10 ?kKz10 ?kdz10 ?kuz10 _ _ ?_; (case k1z10 => k_asm); (case k2z10 => k_asm); (case k3z10 => k_asm); (case k4z10 => k_asm); (case k6z10 => assumption); (case k7z10 => assumption); (case k8z10 => assumption); (case k9z10 => first | assumption | exact ledR (by assumption) (by assumption)); (case k5z10 => k_asm); (case kKz10 => first | exact rfl | assumption); (case kdz10 => ktr_room); (case kuz10 => ktr_units);  k_whole); intro e9 ed9 ta9 zm9 zp9 km9 kp9 tp9 h9 tk9 F9 N9 ne9; (try dsimp only); (try k_sweep))
  k_with "eval Dict nil nil" => (k_here; k_dflt (refine' newDict_K ?k1y1 ?k2y1 (TopRead.nolimit (by k_asm)) ?_; (case k1y1 => k_asm); (case k2y1 => k_asm); k_whole); intro D hD oD FD ND l1 lo hsD fsD hiD fiD; obtain ⟨hxD, hdD, hrD⟩ := dict_lt l1; have NR := news_third ND; clear ND l1 fsD hiD fiD; (try k_sweep))
  k_with "compareOp In str ref" => (k_here; k_dflt (refine' kda_in (knd := PySem.strKind _ _) ?kNy2 ?kpy2 ?kdy2 ?kly2 (strKind_is _ _ _ _) _ rfl ?_; (case kNy2 => k_asm); (case kpy2 => k_mem); (case kdy2 => assumption); (case kly2 => assumption)); rw [keys_in])
  k_with "setItem ref str" => (k_here; k_dflt (refine' kda_set (knd := PySem.strKind _ _) ?kFy3 ?kNy3 ?kUy3 ?kdy3 (strKind_is _ _ _ _) ?kzy3 ?_; (case kFy3 => k_asm); (case kNy3 => k_asm); (case kUy3 => k_updF); (case kdy3 => assumption); (case kzy3 => rw [List.length_map, sizeLine_eq]; omega)); intro h9 o9 F9 N9 hd9; (try dsimp only at N9); rw [keys_put (by assumption)] at hd9; (try k_sweep))
  k_with "call type:tuple" => (k_here; k_dflt (refine' tup_dict (f := fun k => (k, Value.bool true)) (fun _ => rfl) ?khy4 ?kFy4 ?kNy4 ?kpy4 ?kly4 ?kdy4 ?kny4 ?_; (case khy4 => exact rfl); (case kFy4 => k_asm); (case kNy4 => k_asm); (case kpy4 => k_mem); (case kly4 => assumption); (case kdy4 => assumption); (case kny4 => rw [sizeLine_eq]; simp only [List.length_append, List.length_cons, List.length_nil]; omega)); intro T9 h9 tk9 vs9 F9 N9 l9 S9; (try k_sweep))
  k_with "exec While" => (k_here; k_dflt (refine' While_rc (fun (n9 : Nat) (ta9 : Tok) (o9 : Obj) => ((x, instObj 272 dx) :: (dx, dictOf [⟨z1, .str (Str.ofString "text") k1, .str y t⟩, ⟨z2, .str (Str.ofString "begin") k2, .int b tb⟩, ⟨z3, .str (Str.ofString "is_whole") k3, .bool true⟩, ⟨z4, .str (Str.ofString "at") k4, .int ((n9 : Int)) ta9⟩] 4) :: (D, o9) :: rest)) (Str.ofString "name") nota y.cps.toList y.length (n + 1) ?kFy5 ?kNy5 ?kmy5 ?kdy5 ?kny5 ?kTy5 ?kEy5; (case kFy5 => k_asm); (case kNy5 => (try dsimp only); k_asm); (case kmy5 => with_unfolding_all exact rfl); (case kdy5 => exact hsD); (case kny5 => exact at_le (by assumption)); (case kEy5 => passes_own)); clear hsD; intro j t9 o9 ks nm h9 tk9 F9 N9 hd9 hj hk hA; (try dsimp only at N9))
  subst hat
  revert X; k_fill; intro X
  refine wpAny_call ?_
  k_dflt cell_enter
  k_steps
  · exact hno _ (fun _ => hA _ (.twice (tok_t (by assumption) (by assumption)) (by assumption))) (fun h => absurd (by assumption) h) _ _ _ _ _ _ _ _ _ _ _ _ _ _ (by assumption) (air_drop4 (by assumption)) (by assumption)
  · exact rcEnd (by assumption) (by assumption) (by assumption) (at_le (by assumption)) (by simp only [List.length_append, List.length_cons, List.length_nil]; have g1 := @scan_ge spB y.cps.toList j; have g2 := @scan_ge ncB y.cps.toList (scan spB y.cps.toList j); have g3 := @scan_ge spB y.cps.toList (scan ncB y.cps.toList (scan spB y.cps.toList j)); omega) (by have g1 := @scan_ge spB y.cps.toList j; have g2 := @scan_ge ncB y.cps.toList (scan spB y.cps.toList j); have g3 := @scan_ge spB y.cps.toList (scan ncB y.cps.toList (scan spB y.cps.toList j)); omega) (fun r hr => hA r (.more (tok_t (by assumption) (by assumption)) (by assumption) (by assumption) hr))
  · unfold RcEnd
    dsimp only
    k_steps
    exact hyes _ _ (by assumption) (hA _ (.ended (tok_t (by assumption) (by assumption)) (by assumption) (by assumption))) _ _ _ _ _ (by assumption) (news_drop4 (by assumption)) S9
  · exact hno _ (fun _ => hA _ (.open_ (tok_t (by assumption) (by assumption)) (by assumption) (by assumption) (by assumption))) (fun h => absurd (by assumption) h) _ _ _ _ _ _ _ _ _ _ _ _ _ _ (by assumption) (air_drop4 (by assumption)) (by assumption)
  · exact hno _ (fun _ => hA _ (.bad (tok_tn (by assumption) (by assumption)))) (fun h => absurd (by assumption) h) _ _ _ _ _ _ _ _ _ _ _ _ _ _ (by assumption) (air_drop4 (by assumption)) (by assumption)
  · exact hno _ (fun _ => hA _ (.twice (tok_f (by assumption) (by assumption)) (by assumption))) (fun h => absurd (by assumption) h) _ _ _ _ _ _ _ _ _ _ _ _ _ _ (by assumption) (air_drop4 (by assumption)) (by assumption)
  · exact rcEnd (by assumption) (by assumption) (by assumption) (at_le (by assumption)) (by simp only [List.length_append, List.length_cons, List.length_nil]; have g1 := @scan_ge spB y.cps.toList j; have g2 := @scan_ge ncB y.cps.toList (scan spB y.cps.toList j); have g3 := @scan_ge spB y.cps.toList (scan ncB y.cps.toList (scan spB y.cps.toList j)); omega) (by have g1 := @scan_ge spB y.cps.toList j; have g2 := @scan_ge ncB y.cps.toList (scan spB y.cps.toList j); have g3 := @scan_ge spB y.cps.toList (scan ncB y.cps.toList (scan spB y.cps.toList j)); omega) (fun r hr => hA r (.more (tok_f (by assumption) (by assumption)) (by assumption) (by assumption) hr))
  · unfold RcEnd
    dsimp only
    k_steps
    exact hyes _ _ (by assumption) (hA _ (.ended (tok_f (by assumption) (by assumption)) (by assumption) (by assumption))) _ _ _ _ _ (by assumption) (news_drop4 (by assumption)) S9
  · exact hno _ (fun _ => hA _ (.open_ (tok_f (by assumption) (by assumption)) (by assumption) (by assumption) (by assumption))) (fun h => absurd (by assumption) h) _ _ _ _ _ _ _ _ _ _ _ _ _ _ (by assumption) (air_drop4 (by assumption)) (by assumption)
  · exact hno _ (fun _ => hA _ (.bad (tok_fn (by assumption) (by assumption)))) (fun h => absurd (by assumption) h) _ _ _ _ _ _ _ _ _ _ _ _ _ _ (by assumption) (air_drop4 (by assumption)) (by assumption)
  · exact hno _ (fun h => absurd h (by assumption)) (fun _ => rfl) _ _ _ _ _ _ _ _ _ _ _ _ _ _ (by assumption) (by assumption) (by assumption)
end
section
open PySem PySem.W PyProof.Rows PyProof.V PySem.Calls PySem.Spec
/-- the eight plain kinds, as the module holds them -/
def kinds : List Str := [Str.ofString "CDATA", Str.ofString "IDREFS", Str.ofString "IDREF", Str.ofString "ID", Str.ofString "ENTITIES", Str.ofString "ENTITY", Str.ofString "NMTOKENS", Str.ofString "NMTOKEN"]
/-- what read_kind tells from n on: the kind, its choices and the place behind; or the place of a fault -/
inductive KAns (l : List Nat) (n : Nat) : Except Nat (Str × List Str × Nat) → Prop
  | enum_ok {ks : List Str} {n' : Nat} : l[n]? = some 40 → Ans false l [] (n + 1) (.ok (ks, n')) → KAns l n (.ok (Str.ofString "enumeration", ks, n'))
  | enum_bad {p : Nat} : l[n]? = some 40 → Ans false l [] (n + 1) (.error p) → KAns l n (.error p)
  | bad : l[n]? ≠ some 40 → (l[n]?).any nsB = false → KAns l n (.error n)
  | nota_gap : l[n]? ≠ some 40 → (l[n]?).any nsB = true → (tokAt l n == Str.ofString "NOTATION") = true → scan spB l (scan ncB l n) = scan ncB l n → KAns l n (.error (scan ncB l n))
  | nota_ok {ks : List Str} {n' : Nat} : l[n]? ≠ some 40 → (l[n]?).any nsB = true → (tokAt l n == Str.ofString "NOTATION") = true → scan spB l (scan ncB l n) ≠ scan ncB l n →
      l[scan spB l (scan ncB l n)]? = some 40 → Ans true l [] (scan spB l (scan ncB l n) + 1) (.ok (ks, n')) → KAns l n (.ok (Str.ofString "notation", ks, n'))
  | nota_bad {p : Nat} : l[n]? ≠ some 40 → (l[n]?).any nsB = true → (tokAt l n == Str.ofString "NOTATION") = true → scan spB l (scan ncB l n) ≠ scan ncB l n →
      (l[scan spB l (scan ncB l n)]? = some 40 → Ans true l [] (scan spB l (scan ncB l n) + 1) (.error p)) → (l[scan spB l (scan ncB l n)]? ≠ some 40 → p = scan spB l (scan ncB l n)) → KAns l n (.error p)
  | plain : l[n]? ≠ some 40 → (l[n]?).any nsB = true → (tokAt l n == Str.ofString "NOTATION") = false → (kinds.any (· == tokAt l n)) = true → KAns l n (.ok (tokAt l n, [], scan ncB l n))
  | other : l[n]? ≠ some 40 → (l[n]?).any nsB = true → (tokAt l n == Str.ofString "NOTATION") = false → (kinds.any (· == tokAt l n)) = false → KAns l n (.error n)
theorem tok_len {y : Str} {n : Nat} {p : Nat → Bool} : (⟨((y.cps.toList.drop n).takeWhile p).toArray⟩ : Str).length ≤ y.length := by
  have h1 := (List.takeWhile_sublist (l := y.cps.toList.drop n) p).length_le
  rw [List.length_drop, len_list] at h1
  show (List.toArray _).size ≤ _
  rw [List.size_toArray]
  omega
theorem cat_w {prog : Program} {w : World} {A : Around} {E : Value → Shared → Prop} {s : Shared} {x y : Str} {t u : Tok} {Q : Value → Shared → Prop} (hs : x.length + y.length ≤ 16777216) (h : ∀ t' k, Q (.str (x ++ y) t') { s with toks := k }) : wpAny (model prog w) A (binaryOp .Add (.str x t) (.str y u)) Q E s :=
  KXadd.add (Nat.le_refl _) (Nat.le_refl _) hs fun t' k _ => h t' k
theorem strs_nil : Strs [] [] := ⟨rfl, fun j v h => by simp at h⟩
theorem word_len : (Str.ofString "no kind of attributes: ").length = 23 := by decide +kernel
end
section
open PySem PySem.W PyProof.Rows PySem.Calls
set_option maxHeartbeats 8000000
set_option maxHeartbeats 1000000 in
theorem read_kind_w {w : World} {mean : ExcName → Option Value} {mg mb : Str → Option Value} {dp un : Nat} {gd : Option (List Code)} {cn : Str} {cs : Scope} {a : Addr} {ccd : Value} {cl : List (Str × Addr)} {outer : List Env} {A₀ : Around} {base h₀ : Heap} {L : Addr} {m : Str → Option Value} {s : Shared} {Q E : Value → Shared → Prop} {y : Str} {t : Tok} {b : Int} {tb : Tok} {at0 : Int} {ta : Tok} {z1 z2 z3 z4 : Int} {k1 k2 k3 k4 : Tok} {x dx : Addr} {rest : List (Addr × Obj)}
   (B : Below A₀ base outer h₀) (F : Fr h₀ L s.heap m) (X : (K w.params).In h₀) (N : News h₀ L s.heap ((x, instObj 272 dx) :: (dx, dictOf [⟨z1, .str (Str.ofString "text") k1, .str y t⟩, ⟨z2, .str (Str.ofString "begin") k2, .int b tb⟩, ⟨z3, .str (Str.ofString "is_whole") k3, .bool true⟩, ⟨z4, .str (Str.ofString "at") k4, .int (at0) ta⟩] 4) :: rest)) (hyl : y.length < 1048576) (hy : Asc y) (hx : @LT.lt Nat _ dx x) (hr : ∀ p ∈ rest, p.1 ≠ dx) (T : Top q (looseW q [Str.ofString "DtdFault"]) mean mg mb h₀) (hk : cs.kind = .function)
   (hd : dp + 200 < recursionLimit) (hu : un + 380 < cLine) (n : Nat) (hn : n ≤ y.length) (hat : at0 = (n : Int))
   (hyes : ∀ nm ks n', KAns y.cps.toList n (.ok (nm, ks, n')) → ∀ (R9 T9 : Addr) (vs : List Value) (tn ta' : Tok) (h' : Heap) (tk' : Nat), Fr h₀ L h' m → News h₀ L h' ((R9, tupOf [.str nm tn, .ref T9]) :: (T9, tupOf vs) :: ((x, instObj 272 dx) :: (dx, dictOf [⟨z1, .str (Str.ofString "text") k1, .str y t⟩, ⟨z2, .str (Str.ofString "begin") k2, .int b tb⟩, ⟨z3, .str (Str.ofString "is_whole") k3, .bool true⟩, ⟨z4, .str (Str.ofString "at") k4, .int (((n' : Nat) : Int)) ta'⟩] 4) :: rest)) → Strs vs ks → Q (.ref R9) { s with heap := h', toks := tk' })
   (hno : ∀ p, KAns y.cps.toList n (.error p) → ∀ (e ed : Addr) (zm zp : Int) (km kp : Tok) (msg : Str) (tm tp : Tok) (at1 : Int) (ta1 : Tok) (g h1 : Heap) (tk1 : Nat), Fr h₀ L g m → Air base g (envX cn cs L a ccd cl :: outer) e ed ((ed, fltDict zm zp km kp msg tm (b + (p : Int)) tp) :: ((x, instObj 272 dx) :: (dx, dictOf [⟨z1, .str (Str.ofString "text") k1, .str y t⟩, ⟨z2, .str (Str.ofString "begin") k2, .int b tb⟩, ⟨z3, .str (Str.ofString "is_whole") k3, .bool true⟩, ⟨z4, .str (Str.ofString "at") k4, .int (at1) ta1⟩] 4) :: rest)) h1 → g.UpToSlots h1 → E (.ref e) { s with heap := h1, toks := tk1 }) :
   wpAny (model PySem.Challenge.rw_xw0207_01.row.prog w) (ktrTop dp un gd cn cs L a ccd cl outer) (call (.ref 102) [.ref x]) Q E s := by
  k_with_none
  k_with "call builtin:len" => (k_here; (with_reducible show wpAny _ _ (call _ [Value.str _ _]) _ _ _); k_dflt (refine' len_nat ?k1z0 ?_; (case k1z0 => first | assumption | decide)); k_whole; intro t9 tk9; (try dsimp only))
  k_with "subscriptTail" => (k_here; (with_reducible show wpAny _ _ (subscriptTail _ _ (Value.str _ _) (Value.int _ _)) _ _ _); k_dflt (refine' item_nat ?k1z1 ?k2z1 ?k3z1 ?_; (case k1z1 => assumption); (case k2z1 => assumption); (case k3z1 => first | (simp only [decide_eq_true_eq] at *; omega) | (simp only [decide_eq_true_eq, decide_eq_false_iff_not] at *; omega) | omega)); k_whole; intro c9 t9 tk9 hc9 hb9; (try dsimp only))
  k_with "exec Raise some none" => (k_here; k_dflt (refine' Raise_val (w := by assumption) ?khz2 ?_; (case khz2 => exact rfl)); k_whole)
  k_with "FltUp" => (k_here; k_dflt (refine' FltUp.mk ?kXz3 ?kFz3 ?kNz3 ?_; (case kXz3 => k_asm); (case kFz3 => k_asm); (case kNz3 => k_asm)); k_whole)
  k_with "leaving ref" => (k_here; first | (k_dflt (refine' air_firstN ?kKz4 ?kFz4 ?kNz4 ?kfz4 ?knz4 ?_; (case kFz4 => k_asm); (case kNz4 => k_asm); (case kKz4 => k_asm); (case kfz4 => exact rfl); (case knz4 => assumption)); k_whole; intro h9 R9 U9; (try dsimp only)) | (k_dflt (refine' air_on ?kKz4 ?kFz4 ?kRz4 ?kUz4 ?_; (case kRz4 => assumption); (case kFz4 => assumption); (case kUz4 => assumption); (case kKz4 => assumption)); k_whole; intro h9 R9 U9; (try dsimp only)))
  k_with "call ref" => (k_here; k_dflt (refine' looks_w ?k1z5 ?k2z5 ?k3z5 ?k4z5 ?k6z5 ?k7z5 ?k8z5 ?k9z5 ?k5z5 ?kKz5 ?kdz5 ?kuz5 _ ?katz5 _ _ ?kwz5 _ ?_; (case k1z5 => k_asm); (case k2z5 => k_asm); (case k3z5 => k_asm); (case k4z5 => k_asm); (case k6z5 => assumption); (case k7z5 => assumption); (case k8z5 => assumption); (case k9z5 => first | assumption | exact ledR (by assumption) (by assumption)); (case k5z5 => k_asm); (case kKz5 => first | exact rfl | assumption); (case kdz5 => ktr_room); (case kuz5 => ktr_units); (case katz5 => exact rfl); (case kwz5 => exact lk_o); k_whole); intro h9 tk9 F9 N9; (try dsimp only); (try k_sweep))
  k_with "call ref" => (k_here; k_dflt (refine' read_choices_w ?k1z6 ?k2z6 ?k3z6 ?k4z6 ?k6z6 ?k7z6 ?k8z6 ?k9z6 ?k5z6 ?kKz6 ?kdz6 ?kuz6 _ ?klz6 ?katz6 _ ?_ ?_; (case k1z6 => k_asm); (case k2z6 => k_asm); (case k3z6 => k_asm); (case k4z6 => k_asm); (case k6z6 => assumption); (case k7z6 => assumption); (case k8z6 => assumption); (case k9z6 => first | assumption | exact ledR (by assumption) (by assumption)); (case k5z6 => k_asm); (case kKz6 => first | exact rfl | assumption); (case kdz6 => ktr_room); (case kuz6 => ktr_units); (case katz6 => exact rfl); (case klz6 => first | assumption | exact scan_len (by assumption) | exact scan_len (scan_len (by assumption))); k_whole; intro ks9 n9 c9 A9 T9 vs9 t9 h9 tk9 F9 N9 S9; (try dsimp only); (try k_sweep); rotate_left 1; k_whole; intro p9 A9 p9' e9 ed9 zm9 zp9 km9 kp9 ms9 tm9 tp9 at9 t9 g9 h9 tk9 F9 R9 U9; (try dsimp only); (try k_sweep); rotate_left 1))
  k_with "call ref" => (k_here; k_dflt (refine' need_spaces_w ?k1z7 ?k2z7 ?k3z7 ?k4z7 ?k6z7 ?k7z7 ?k8z7 ?k9z7 ?k5z7 ?kKz7 ?kdz7 ?kuz7 _ ?klz7 ?katz7 ?_ ?_; (case k1z7 => k_asm); (case k2z7 => k_asm); (case k3z7 => k_asm); (case k4z7 => k_asm); (case k6z7 => assumption); (case k7z7 => assumption); (case k8z7 => assumption); (case k9z7 => first | assumption | exact ledR (by assumption) (by assumption)); (case k5z7 => k_asm); (case kKz7 => first | exact rfl | assumption); (case kdz7 => ktr_room); (case kuz7 => ktr_units); (case katz7 => exact rfl); (case klz7 => first | assumption | exact scan_len (by assumption)); k_whole; intro c9 t9 h9 tk9 F9 N9; (try dsimp only); (try k_sweep); rotate_left 1; k_whole; intro c9 e9 ed9 zm9 zp9 km9 kp9 ms9 tm9 tp9 at9 t9 g9 h9 tk9 F9 R9 U9; (try dsimp only); (try k_sweep); rotate_left 1))
  k_with "call ref" => (k_here; k_dflt (refine' name_w ?k1z8 ?k2z8 ?k3z8 ?k4z8 ?k6z8 ?k7z8 ?k8z8 ?k9z8 ?k5z8 ?kKz8 ?kdz8 ?kuz8 _ ?klz8 ?katz8 ?_ ?_; (case k1z8 => k_asm); (case k2z8 => k_asm); (case k3z8 => k_asm); (case k4z8 => k_asm); (case k6z8 => assumption); (case k7z8 => assumption); (case k8z8 => assumption); (case k9z8 => first | assumption | exact ledR (by assumption) (by assumption)); (case k5z8 => k_asm); (case kKz8 => first | exact rfl | assumption); (case kdz8 => ktr_room); (case kuz8 => ktr_units); (case katz8 => exact rfl); (case klz8 => assumption); k_whole; intro c9 tr9 t9 h9 tk9 F9 N9; (try dsimp only); (try k_sweep); rotate_left 1; k_whole; intro c9 e9 ed9 zm9 zp9 km9 kp9 ms9 tm9 tp9 at9 t9 g9 h9 tk9 F9 R9 U9; (try dsimp only); (try k_sweep); rotate_left 1))
  k_with "call ref" => (k_here; k_dflt (refine' fault_at_w ?k1z9 ?k2z9 ?k3z9 ?k4z9 ?k6z9 ?k7z9 ?k8z9 ?k9z9 ?k5z9 ?kKz9 ?kdz9 ?kuz9 _ _ _ _ ?_; (case k1z9 => k_asm); (case k2z9 => k_asm); (case k3z9 => k_asm); (case k4z9 => k_asm); (case k6z9 => assumption); (case k7z9 => assumption); (case k8z9 => assumption); (case k9z9 => first | assumption | exact ledR (by assumption) (by assumption)); (case k5z9 => k_asm); (case kKz9 => first | exact rfl | assumption); (case kdz9 => ktr_room); (case kuz9 => ktr_units);  k_whole); intro e9 ed9 ta9 zm9 zp9 km9 kp9 tp9 h9 tk9 F9 N9 ne9; (try dsimp only); (try k_sweep))
  k_with "compareOp NotIn str ref" => (k_here; k_dflt (refine' notin_tuple_strs ?k1y1 ?k2y1 ?_; (case k1y1 => exact kun_topT (by k_asm) (by k_asm) (by k_is)); (case k2y1 => with_unfolding_all repeat constructor); k_whole))
  k_with "binaryOp Add str str" => (k_here; k_dflt (refine' cat_w ?kzy2 ?_; (case kzy2 => rw [word_len]; have g9 := @tok_len y n ncB; omega)); intro t9 tk9)
  subst hat
  revert X; k_fill; intro X
  refine wpAny_call ?_
  k_dflt cell_enter
  k_steps
  · exact hyes _ _ _ (.enum_ok (by assumption) (by assumption)) _ _ _ _ _ _ _ (by assumption) (by assumption) (by assumption)
  · exact hno _ (.enum_bad (by simpa using (‹(y.cps.toList[n]? == some 40) = true›)) (‹y.cps.toList[n]? = some 40 → _› (by simpa using (‹(y.cps.toList[n]? == some 40) = true›)))) _ _ _ _ _ _ _ _ _ _ _ _ _ _ (by assumption) (by assumption) (by assumption)
  · exact hyes _ _ _ (.nota_ok (by simpa using (‹(y.cps.toList[n]? == some 40) = false›)) (by assumption) (by assumption) (by assumption) (by assumption) (by assumption)) _ _ _ _ _ _ _ (by assumption) (by assumption) (by assumption)
  · exact hno _ (.nota_bad (by simpa using (‹(y.cps.toList[n]? == some 40) = false›)) (by assumption) (by assumption) (by assumption) (by assumption) (by assumption)) _ _ _ _ _ _ _ _ _ _ _ _ _ _ (by assumption) (by assumption) (by assumption)
  · exact hno _ (.nota_gap (by simpa using (‹(y.cps.toList[n]? == some 40) = false›)) (by assumption) (by assumption) (by assumption)) _ _ _ _ _ _ _ _ _ _ _ _ _ _ (by assumption) (by assumption) (by assumption)
  · exact hyes _ _ _ (.plain (by simpa using (‹(y.cps.toList[n]? == some 40) = false›)) (by assumption) (by assumption) (by assumption)) _ _ _ _ _ _ _ (by assumption) (by assumption) strs_nil
  · exact hno _ (.other (by simpa using (‹(y.cps.toList[n]? == some 40) = false›)) (by assumption) (by assumption) (by assumption)) _ _ _ _ _ _ _ _ _ _ _ _ _ _ (by assumption) (by assumption) (by assumption)
  · exact hno _ (.bad (by simpa using (‹(y.cps.toList[n]? == some 40) = false›)) (by assumption)) _ _ _ _ _ _ _ _ _ _ _ _ _ _ (by assumption) (by assumption) (by assumption)
end
section
open PySem PySem.W PyProof.Rows PyProof.V PySem.Calls PySem.Spec
set_option maxHeartbeats 8000000
/-- the end of a turn of a for loop -/
def ForEnd (h₀ : Heap) (L : Addr) (s : Shared) (I : Addr) (own : List (Addr × Obj)) (J : (Str → Option Value) → List (Addr × Obj) → Prop) (Q : Flow → Shared → Prop) (f : Flow) (s₃ : Shared) : Prop :=
  match f with
  | .next => ∃ h' tk m₂ news₂, s₃ = { s with heap := h', toks := tk } ∧ Fr h₀ L h' m₂ ∧ News h₀ L h' (news₂ ++ own) ∧ (∀ p ∈ news₂, p.1 ≠ I) ∧ J m₂ news₂
  | .cont => False
  | .brk => Q .next s₃
  | .ret v => Q (.ret v) s₃
theorem news_swap {h₀ h : Heap} {L : Addr} {a b : List (Addr × Obj)} (N : News h₀ L h (a ++ b)) : News h₀ L h (b ++ a) := fun p hp => N p (by
  rcases List.mem_append.mp hp with h | h
  · exact List.mem_append_right _ h
  · exact List.mem_append_left _ h)
section
variable {prog : Program} {w : World} {A : Around} {E : Value → Shared → Prop} {s : Shared} {env : Env} {h₀ : Heap} {x : Str} {body : List Stmt} {Q : Flow → Shared → Prop}
theorem loop_J {m₀ : Str → Option Value} {news : List (Addr × Obj)} {o : Obj} {n : Nat} {P : Nat → Value → Prop} {St : Nat → Heap → Prop}
    (W : Walks prog w A s.heap.objs.size [s.heap.objs.size] [s.heap.objs.size] n P St) (st : St 0 (s.heap.push o))
    (F : Fr h₀ env.locals s.heap m₀) (N : News h₀ env.locals s.heap news)
    (J : Nat → (Str → Option Value) → List (Addr × Obj) → Prop) (h0 : J 0 m₀ news)
    (turn : ∀ i v m₁ news₁ own h₁ tk₁, i < n → P i v → J i m₁ news₁ → (∀ q ∈ own, q.1 = s.heap.objs.size) → (∀ p ∈ news₁, p.1 ≠ s.heap.objs.size) →
      Fr h₀ env.locals h₁ (fun y => if y = x then some v else m₁ y) → News h₀ env.locals h₁ (news₁ ++ own) →
      wpAny (model prog w) A (execs body env) (ForEnd h₀ env.locals s s.heap.objs.size own (J (i + 1)) Q) E { s with heap := h₁, toks := tk₁ })
    (done : ∀ h' tk m' news', Fr h₀ env.locals h' m' → News h₀ env.locals h' news' → J n m' news' → Q .next { s with heap := h', toks := tk }) :
    LoopAtV prog w A h₀ env x body Q E (.ref s.heap.objs.size) { s with heap := s.heap.push o } := by
  refine ⟨s.heap.objs.size, [s.heap.objs.size], [s.heap.objs.size], n, P, St, m₀, news, J, rfl, W, ?_, ?_, ?_, st, F.push _, (fun p hp => ⟨Heap.get?_push_of_some _ (N p hp).1, (N p hp).2⟩), h0, ?_, ?_⟩
  · intro hm
    exact absurd F.ns.lt ((List.mem_singleton.mp hm) ▸ Nat.lt_irrefl _)
  · intro b hb
    rw [List.mem_singleton.mp hb]
    exact next_is_new F
  · intro p hp hI
    exact absurd (Heap.lt_size (N p hp).1) ((List.mem_singleton.mp hI) ▸ Nat.lt_irrefl _)
  · rintro i v m₁ news₁ s₁ own ⟨h₁, tk₁, rfl⟩ hi hP hJ hoff hsub _ _ _ F₁ N₁
    have z := turn i v m₁ news₁ own h₁ tk₁ hi hP hJ (fun q hq => List.mem_singleton.mp (hsub q hq)) (fun p hp e => hoff p hp (List.mem_singleton.mpr e)) F₁ (news_swap N₁)
    refine wpAny_mono z (fun f s₃ h₃ => ?_) fun _ _ e => e
    cases f with
    | next =>
      obtain ⟨h', tk, m₂, news₂, rfl, F₂, N₂, ha, hJ₂⟩ := h₃
      exact LoopStepV.next (LoopStepU.intro F₂ (news_swap N₂) (fun p hp hb => ha p hp (List.mem_singleton.mp hb)) hJ₂)
    | cont => exact h₃.elim
    | brk => exact LoopStepV.brk h₃
    | ret v => exact LoopStepV.ret h₃
  · intro h' tk m' news' F' N' _ hJ
    exact done h' tk m' news' F' N' hJ
theorem range_J {r : Addr} {t₀ u₀ v₀ : Tok} {k : Nat} {m₀ : Str → Option Value} {news : List (Addr × Obj)} (hh : A.handled = none) {b : Int} (hr : IsRange s.heap r 0 b 1 t₀ u₀ v₀) (hb : b = (k : Int)) (hk : k < 1048580)
    (F : Fr h₀ env.locals s.heap m₀) (N : News h₀ env.locals s.heap news)
    (J : Nat → (Str → Option Value) → List (Addr × Obj) → Prop) (h0 : J 0 m₀ news)
    (turn : ∀ i t m₁ news₁ own h₁ tk₁, i < k → J i m₁ news₁ → (∀ q ∈ own, q.1 = s.heap.objs.size) → (∀ p ∈ news₁, p.1 ≠ s.heap.objs.size) →
      Fr h₀ env.locals h₁ (fun y => if y = x then some (.int (i : Int) t) else m₁ y) → News h₀ env.locals h₁ (news₁ ++ own) →
      wpAny (model prog w) A (execs body env) (ForEnd h₀ env.locals s s.heap.objs.size own (J (i + 1)) Q) E { s with heap := h₁, toks := tk₁ })
    (done : ∀ h' tk m' news', Fr h₀ env.locals h' m' → News h₀ env.locals h' news' → J k m' news' → Q .next { s with heap := h', toks := tk }) :
    wpAny (model prog w) A (pyIter (.ref r)) (fun it s₂ => LoopAtV prog w A h₀ env x body Q E it s₂) E s := by
  subst hb
  have hsize : Builtin.Range.rangeSize 0 (k : Int) 1 = (k : Int) := by
    unfold Builtin.Range.rangeSize
    simp
    try omega
  have hsmall : Builtin.Range.small 0 (k : Int) 1 = true := by
    have f : ∀ z : Int, 0 ≤ z → z < 1048580 → Builtin.Range.rangeFitsLong z = true := fun z h1 h2 => by
      unfold Builtin.Range.rangeFitsLong
      simp
      omega
    have g0 := f 0 (by omega) (by omega)
    have g1 := f 1 (by omega) (by omega)
    have gk := f k (by omega) (by omega)
    unfold Builtin.Range.small
    simp [hsize, g0, g1, gk]
  refine wpAny_pyIter_range hr hsmall ?_
  refine loop_J (n := k) (Walks.range hh s.heap.objs.size 0 1 k) (by show IsRangeIter _ _ _ _ _; rw [hsize]; simpa using Heap.get?_push_size _ rfl) F N J h0 ?_ done
  rintro i v m₁ news₁ own h₁ tk₁ hi ⟨t, rfl⟩ hJ ho hn F₁ N₁
  have e : (0 : Int) + (i : Int) * 1 = i := by omega
  rw [e] at F₁
  exact turn i t m₁ news₁ own h₁ tk₁ hi hJ ho hn F₁ N₁
theorem str_J {y : Str} {t : Tok} {m₀ : Str → Option Value} {news : List (Addr × Obj)} (hh : A.handled = none)
    (F : Fr h₀ env.locals s.heap m₀) (N : News h₀ env.locals s.heap news)
    (J : Nat → (Str → Option Value) → List (Addr × Obj) → Prop) (h0 : J 0 m₀ news)
    (turn : ∀ i c t m₁ news₁ own h₁ tk₁, y.cps.toList[i]? = some c → J i m₁ news₁ → (∀ q ∈ own, q.1 = s.heap.objs.size) → (∀ p ∈ news₁, p.1 ≠ s.heap.objs.size) →
      Fr h₀ env.locals h₁ (fun z => if z = x then some (.str ⟨#[c]⟩ t) else m₁ z) → News h₀ env.locals h₁ (news₁ ++ own) →
      wpAny (model prog w) A (execs body env) (ForEnd h₀ env.locals s s.heap.objs.size own (J (i + 1)) Q) E { s with heap := h₁, toks := tk₁ })
    (done : ∀ h' tk m' news', Fr h₀ env.locals h' m' → News h₀ env.locals h' news' → J y.length m' news' → Q .next { s with heap := h', toks := tk }) :
    wpAny (model prog w) A (pyIter (.str y t)) (fun it s₂ => LoopAtV prog w A h₀ env x body Q E it s₂) E s := by
  refine wpAny_pyIter_str fun o St W st => ?_
  refine loop_J (W A hh) st F N J h0 ?_ done
  rintro i v m₁ news₁ own h₁ tk₁ hi hP hJ ho hn F₁ N₁
  obtain ⟨c, u, hc, rfl⟩ := hP
  exact turn i c u m₁ news₁ own h₁ tk₁ (by rw [Array.getElem?_toList]; exact hc) hJ ho hn F₁ N₁
end
end
section
open PySem PySem.W PyProof.Rows PyProof.V PySem.Calls PySem.Spec
set_option maxHeartbeats 8000000
/-- the begin of the word under way and the words before it, i places passed -/
def spl (y : Str) : Nat → Nat × List Str
  | 0 => (0, [])
  | i + 1 =>
    let z := spl y i
    if i = y.length ∨ (y.cps.toList[i]?).any spB = true then (i + 1, if z.1 < i then z.2 ++ [⟨((y.cps.toList.drop z.1).take (i - z.1)).toArray⟩] else z.2) else z
theorem strs_snoc {vs : List Value} {ks : List Str} {k : Str} {t : Tok} (h : Strs vs ks) : Strs (vs ++ [.str k t]) (ks ++ [k]) := by
  obtain ⟨hl, h⟩ := h
  refine ⟨by simp [hl], fun j v e => ?_⟩
  rcases Nat.lt_or_ge j vs.length with q | q
  · rw [List.getElem?_append_left q] at e
    obtain ⟨k', t', h1, h2⟩ := h j v e
    exact ⟨k', t', by rw [List.getElem?_append_left (by omega)]; exact h1, h2⟩
  · rw [List.getElem?_append_right q] at e
    have e0 : j - vs.length = 0 := by
      rcases Nat.eq_zero_or_pos (j - vs.length) with z | z
      · exact z
      · rw [List.getElem?_eq_none (by simp; omega)] at e; cases e
    rw [e0] at e
    have e1 : Value.str k t = v := by simpa using e
    exact ⟨k, t, by rw [List.getElem?_append_right (by omega), ← hl, e0]; rfl, e1.symm⟩
section
variable {prog : Program} {w : World} {A : Around} {E : Value → Shared → Prop} {s : Shared} {env : Env} {h₀ : Heap} {body : List Stmt} {Q : Flow → Shared → Prop}
/-- the state of space_split's loop, i places passed -/
def SplJ (y : Str) (m : Str → Option Value) (D : Addr) (news : List (Addr × Obj)) (i : Nat) (m₁ : Str → Option Value) (news₁ : List (Addr × Obj)) : Prop :=
  ∃ t P fs c, m₁ = (fun z => if z = Str.ofString "begin" then some (.int ((spl y i).1 : Int) t) else if z = Str.ofString "place" then P else m z) ∧ news₁ = (D, W.listOf (List.toArray fs) c) :: news ∧ Strs fs (spl y i).2 ∧ fs.length ≤ i
theorem lt_ne {D : Addr} {news : List (Addr × Obj)} (h : ∀ p ∈ news, p.1 < D) : ∀ p ∈ news, p.1 ≠ D := fun p hp => Nat.ne_of_lt (h p hp)
theorem For_spl {y : Str} {r D : Addr} {b : Int} {t₀ u₀ v₀ tb : Tok} {m : Str → Option Value} {p : Addr × Obj} {news : List (Addr × Obj)} (hh : A.handled = none) (hr : IsRange s.heap r 0 b 1 t₀ u₀ v₀) (hb : b = (y.length : Int) + 1) (hyl : y.length < 1048576) (hnD : ∀ p ∈ news, p.1 ≠ D)
    (F : Fr h₀ env.locals s.heap m) (N : News h₀ env.locals s.heap (p :: (D, W.listOf #[] 0) :: news)) (hm : m (Str.ofString "place") = none) (hb0 : m (Str.ofString "begin") = some (.int 0 tb))
    (turn : ∀ i t bt P fs c own h₁ tk₁, i ≤ y.length → Strs fs (spl y i).2 → fs.length ≤ i → (∀ q ∈ own, q.1 = s.heap.objs.size) → (∀ p ∈ news ++ own, p.1 ≠ D) → D ≠ s.heap.objs.size → (∀ p ∈ news, p.1 ≠ s.heap.objs.size) →
      Fr h₀ env.locals h₁ (fun z => if z = Str.ofString "place" then some (.int (i : Int) t) else if z = Str.ofString "begin" then some (.int ((spl y i).1 : Int) bt) else if z = Str.ofString "place" then P else m z) →
      News h₀ env.locals h₁ ((D, W.listOf (List.toArray fs) c) :: (news ++ own)) →
      wpAny (model prog w) A (execs body env) (ForEnd h₀ env.locals s s.heap.objs.size own (SplJ y m D news (i + 1)) Q) E { s with heap := h₁, toks := tk₁ })
    (done : ∀ h' tk bt P fs c, Fr h₀ env.locals h' (fun z => if z = Str.ofString "begin" then some (.int ((spl y (y.length + 1)).1 : Int) bt) else if z = Str.ofString "place" then P else m z) → News h₀ env.locals h' ((D, W.listOf (List.toArray fs) c) :: news) → Strs fs (spl y (y.length + 1)).2 → Q .next { s with heap := h', toks := tk }) :
    wpAny (model prog w) A (pyIter (.ref r)) (fun it s₂ => LoopAtV prog w A h₀ env (Str.ofString "place") body Q E it s₂) E s := by
  have em : m = (fun z => if z = Str.ofString "begin" then some (.int ((spl y 0).1 : Int) tb) else if z = Str.ofString "place" then none else m z) := by
    funext z
    split
    · rename_i e; rw [e, hb0]; rfl
    · split
      · rename_i e; rw [e, hm]
      · rfl
  have N1 : News h₀ env.locals s.heap ((D, W.listOf (List.toArray []) 0) :: news) := fun q hq => N q (.tail _ hq)
  refine range_J (k := y.length + 1) hh hr (by omega) (by omega) F N1 (SplJ y m D news) ⟨tb, none, [], 0, em, rfl, ⟨rfl, fun j v h => by simp at h⟩, Nat.zero_le _⟩ ?_ ?_
  · rintro i t m₁ news₁ own h₁ tk₁ hi ⟨bt, P, fs, c, rfl, rfl, hs, hl⟩ ho hn F₁ N₁
    refine turn i t bt P fs c own h₁ tk₁ (by omega) hs hl ho (fun p hp => ?_) (hn _ (.head _)) (fun p hp => hn _ (.tail _ hp)) F₁ N₁
    rcases List.mem_append.mp hp with h | h
    · exact hnD p h
    · rw [ho p h]
      exact fun e => hn _ (.head _) e.symm
  · rintro h' tk m' news' F' N' ⟨bt, P, fs, c, rfl, rfl, hs, hl⟩
    exact done h' tk bt P fs c F' N' hs
theorem spl_begin {y : Str} {D I : Addr} {m : Str → Option Value} {news own : List (Addr × Obj)} {i c tk : Nat} {L : Addr} {h' : Heap} {t : Tok} {b : Int} {V B P : Option Value} {fs : List Value}
    (F : Fr h₀ L h' (fun z => if z = Str.ofString "begin" then some (.int b t) else if z = Str.ofString "place" then V else if z = Str.ofString "begin" then B else if z = Str.ofString "place" then P else m z))
    (N : News h₀ L h' ((D, W.listOf (List.toArray fs) c) :: (news ++ own))) (hD : D ≠ I) (hn : ∀ p ∈ news, p.1 ≠ I) (hb : b = ((spl y (i + 1)).1 : Int)) (hs : Strs fs (spl y (i + 1)).2) (hl : fs.length ≤ i + 1) :
    ForEnd h₀ L s I own (SplJ y m D news (i + 1)) Q .next { s with heap := h', toks := tk } := by
  have e : (fun z => if z = Str.ofString "begin" then some (Value.int b t) else if z = Str.ofString "place" then V else if z = Str.ofString "begin" then B else if z = Str.ofString "place" then P else m z) =
      (fun z => if z = Str.ofString "begin" then some (Value.int ((spl y (i + 1)).1 : Int) t) else if z = Str.ofString "place" then V else m z) := by
    funext z
    rw [hb]
    split
    · rfl
    · split
      · rfl
      · rfl
  rw [e] at F
  refine ⟨h', tk, _, (D, W.listOf (List.toArray fs) c) :: news, rfl, F, N, fun p hp => ?_, t, V, fs, c, rfl, rfl, hs, hl⟩
  rcases List.mem_cons.mp hp with rfl | hp
  · exact hD
  · exact hn p hp
theorem spl_same {y : Str} {D I : Addr} {m : Str → Option Value} {news own : List (Addr × Obj)} {i c tk : Nat} {L : Addr} {h' : Heap} {t : Tok} {b : Int} {V P : Option Value} {fs : List Value}
    (F : Fr h₀ L h' (fun z => if z = Str.ofString "place" then V else if z = Str.ofString "begin" then some (.int b t) else if z = Str.ofString "place" then P else m z))
    (N : News h₀ L h' ((D, W.listOf (List.toArray fs) c) :: (news ++ own))) (hD : D ≠ I) (hn : ∀ p ∈ news, p.1 ≠ I) (hb : b = ((spl y (i + 1)).1 : Int)) (hs : Strs fs (spl y (i + 1)).2) (hl : fs.length ≤ i + 1) :
    ForEnd h₀ L s I own (SplJ y m D news (i + 1)) Q .next { s with heap := h', toks := tk } := by
  have ne : ¬ Str.ofString "begin" = Str.ofString "place" := by decide +kernel
  have e : (fun z => if z = Str.ofString "place" then V else if z = Str.ofString "begin" then some (Value.int b t) else if z = Str.ofString "place" then P else m z) =
      (fun z => if z = Str.ofString "begin" then some (Value.int ((spl y (i + 1)).1 : Int) t) else if z = Str.ofString "place" then V else m z) := by
    funext z
    rw [hb]
    by_cases h1 : z = Str.ofString "begin"
    · subst h1; rw [if_neg ne, if_pos rfl, if_pos rfl]
    · rw [if_neg h1, if_neg h1]
      by_cases h2 : z = Str.ofString "place"
      · rw [if_pos h2, if_pos h2]
      · rw [if_neg h2, if_neg h2, if_neg h2]
  rw [e] at F
  refine ⟨h', tk, _, (D, W.listOf (List.toArray fs) c) :: news, rfl, F, N, fun p hp => ?_, t, V, fs, c, rfl, rfl, hs, hl⟩
  rcases List.mem_cons.mp hp with rfl | hp
  · exact hD
  · exact hn p hp
end
theorem spl_yes {y : Str} {i : Nat} (h : i = y.length ∨ (y.cps.toList[i]?).any spB = true) : spl y (i + 1) = (i + 1, if (spl y i).1 < i then (spl y i).2 ++ [⟨((y.cps.toList.drop (spl y i).1).take (i - (spl y i).1)).toArray⟩] else (spl y i).2) := by
  show (if _ then _ else _) = _
  rw [if_pos h]
theorem spl_no {y : Str} {i : Nat} (h : ¬ (i = y.length ∨ (y.cps.toList[i]?).any spB = true)) : spl y (i + 1) = spl y i := by
  show (if _ then _ else _) = _
  rw [if_neg h]
end
section
open PySem PySem.W PyProof.Rows PySem.Calls
set_option maxHeartbeats 8000000
theorem any_at {l : List Nat} {i c : Nat} {p : Nat → Bool} (h : l[i]? = some c) (hp : p c = true) : (l[i]?).any p = true := by rw [h]; exact hp
theorem any_no {l : List Nat} {i c : Nat} {p : Nat → Bool} (h : l[i]? = some c) (hp : p c = false) : (l[i]?).any p = false := by rw [h]; exact hp
set_option maxHeartbeats 800000 in
theorem space_split_w {w : World} {mean : ExcName → Option Value} {mg mb : Str → Option Value} {dp un : Nat} {gd : Option (List Code)} {cn : Str} {cs : Scope} {a : Addr} {ccd : Value} {cl : List (Str × Addr)} {outer : List Env} {A₀ : Around} {base h₀ : Heap} {L : Addr} {m : Str → Option Value} {s : Shared} {Q E : Value → Shared → Prop} {news : List (Addr × Obj)}
   (B : Below A₀ base outer h₀) (F : Fr h₀ L s.heap m) (X : (K w.params).In h₀) (N : News h₀ L s.heap news) (T : Top q (looseW q [Str.ofString "DtdFault"]) mean mg mb h₀) (hk : cs.kind = .function)
   (hd : dp + 20 < recursionLimit) (hu : un + 40 < cLine) (y : Str) (t : Tok) (hyl : y.length < 1048576) (hy : Asc y)
   (hret : ∀ (D : Addr) (fs : List Value) (c : Nat) (h' : Heap) (tk' : Nat), Fr h₀ L h' m → News h₀ L h' ((D, W.listOf (List.toArray fs) c) :: news) → Strs fs (spl y (y.length + 1)).2 → Q (.ref D) { s with heap := h', toks := tk' }) :
   wpAny (model PySem.Challenge.rw_xw0207_01.row.prog w) (ktrTop dp un gd cn cs L a ccd cl outer) (call (.ref 80) [.str y t]) Q E s := by
  k_with_none
  k_with "call builtin:len" => (k_here; (with_reducible show wpAny _ _ (call _ [Value.str _ _]) _ _ _); k_dflt (refine' len_nat ?k1z0 ?_; (case k1z0 => first | assumption | decide)); k_whole; intro t9 tk9; (try dsimp only))
  k_with "subscriptTail" => (k_here; (with_reducible show wpAny _ _ (subscriptTail _ _ (Value.str _ _) (Value.int _ _)) _ _ _); k_dflt (refine' item_nat ?k1z1 ?k2z1 ?k3z1 ?_; (case k1z1 => assumption); (case k2z1 => assumption); (case k3z1 => first | (simp only [decide_eq_true_eq] at *; omega) | (simp only [decide_eq_true_eq, decide_eq_false_iff_not] at *; omega) | omega)); k_whole; intro c9 t9 tk9 hc9 hb9; (try dsimp only))
  k_with "exec Raise some none" => (k_here; k_dflt (refine' Raise_val (w := by assumption) ?khz2 ?_; (case khz2 => exact rfl)); k_whole)
  k_with "FltUp" => (k_here; k_dflt (refine' FltUp.mk ?kXz3 ?kFz3 ?kNz3 ?_; (case kXz3 => k_asm); (case kFz3 => k_asm); (case kNz3 => k_asm)); k_whole)
  k_with "leaving ref" => (k_here; first | (k_dflt (refine' air_firstN ?kKz4 ?kFz4 ?kNz4 ?kfz4 ?knz4 ?_; (case kFz4 => k_asm); (case kNz4 => k_asm); (case kKz4 => k_asm); (case kfz4 => exact rfl); (case knz4 => assumption)); k_whole; intro h9 R9 U9; (try dsimp only)) | (k_dflt (refine' air_on ?kKz4 ?kFz4 ?kRz4 ?kUz4 ?_; (case kRz4 => assumption); (case kFz4 => assumption); (case kUz4 => assumption); (case kKz4 => assumption)); k_whole; intro h9 R9 U9; (try dsimp only)))
  k_with "call ref" => (k_here; k_dflt (refine' is_space_w ?k1z5 ?k2z5 ?k3z5 ?k4z5 ?k5z5 ?kKz5 ?kdz5 ?kuz5 _ _ _ ?kxz5 ?kcz5 ?_; (case k1z5 => k_asm); (case k2z5 => k_asm); (case k3z5 => k_asm); (case k4z5 => k_asm); (case k5z5 => k_asm); (case kKz5 => first | exact rfl | assumption); (case kdz5 => ktr_room); (case kuz5 => ktr_units); (case kxz5 => exact rfl); (case kcz5 => assumption); k_whole); intro t9 h9 tk9 F9 N9; (try dsimp only); (try k_sweep))
  k_with "pyIter ref" => (k_here; k_dflt (refine' For_spl (y := y) ?khy1 ?kry1 ?kby1 ?kyy1 ?kqy1 ?kFy1 ?kNy1 ?kmy1 ?kuy1 ?kTy1 ?kDy1; (case khy1 => exact rfl); (case kry1 => assumption); (case kby1 => with_unfolding_all exact rfl); (case kyy1 => assumption); (case kFy1 => k_asm); (case kNy1 => k_asm); (case kqy1 => exact lt_ne (by assumption)); (case kmy1 => with_unfolding_all exact rfl); (case kuy1 => with_unfolding_all exact rfl)); (case' kTy1 => (intro i t9 bt9 P9 fs9 c9 own9 h9 tk9 hi9 hs9 hl9 ho9 hD9 hDI hnI F9 N9)); (case' kDy1 => (intro h9 tk9 bt9 P9 fs9 c9 F9 N9 hs9)))
  k_with "call builtin:list.append" => (k_here; k_dflt (refine' append_K ?k1y2 ?k2y2 ?k3y2 ?_ ?zy2; (case k1y2 => k_asm); (case k2y2 => k_asm); (case k3y2 => k_upd); (case zy2 => rw [sizeLine_eq]; simp only [List.size_toArray]; omega); k_whole); intro h9 F9 N9; (try k_sweep))
  k_with "subscriptTail Name Name str int" => (k_here; k_dflt (refine' item_nat ?k1y3 ?k2y3 ?k3y3 ?_; (case k1y3 => assumption); (case k2y3 => assumption); (case k3y3 => omega)); k_whole; intro c9 t9 tk9 hc9 hb9; (try dsimp only))
  revert X; k_fill; intro X
  refine wpAny_call ?_
  k_dflt cell_enter
  k_steps
  · exact hret _ _ _ _ _ (by k_asm) (by k_asm) hs9
  · have hy9 := @spl_yes y i (.inl (by omega))
    have e9 : Txt.slice y (some ((spl y i).1 : Int)) (some (i : Int)) = ⟨((y.cps.toList.drop (spl y i).1).take (i - (spl y i).1)).toArray⟩ := slice_nat y (by omega) hi9
    have lt9 : (spl y i).1 < i := by omega
    refine spl_begin (t := _) (c := _) (fs := _ ++ [_]) (by assumption) (by rw [← List.push_toArray]; assumption) hDI hnI (by rw [hy9]; rfl) ?_ (by simp; omega)
    rw [hy9, if_pos lt9, e9]
    exact strs_snoc hs9
  · have hy9 := @spl_yes y i (.inl (by omega))
    have ge9 : ¬ (spl y i).1 < i := by omega
    refine spl_begin (by assumption) (by assumption) hDI hnI (by rw [hy9]; rfl) ?_ (by omega)
    rw [hy9, if_neg ge9]
    exact hs9
  · have hy9 := @spl_yes y i (.inr (any_at (by assumption) (by assumption)))
    have e9 : Txt.slice y (some ((spl y i).1 : Int)) (some (i : Int)) = ⟨((y.cps.toList.drop (spl y i).1).take (i - (spl y i).1)).toArray⟩ := slice_nat y (by omega) hi9
    have lt9 : (spl y i).1 < i := by omega
    refine spl_begin (t := _) (c := _) (fs := _ ++ [_]) (by assumption) (by rw [← List.push_toArray]; assumption) hDI hnI (by rw [hy9]; rfl) ?_ (by simp; omega)
    rw [hy9, if_pos lt9, e9]
    exact strs_snoc hs9
  · have hy9 := @spl_yes y i (.inr (any_at (by assumption) (by assumption)))
    have ge9 : ¬ (spl y i).1 < i := by omega
    refine spl_begin (by assumption) (by assumption) hDI hnI (by rw [hy9]; rfl) ?_ (by omega)
    rw [hy9, if_neg ge9]
    exact hs9
  · have hy9 := @spl_no y i (not_or.mpr ⟨by omega, by rw [any_no (by assumption) (by assumption)]; exact Bool.false_ne_true⟩)
    refine spl_same (by assumption) (by assumption) hDI hnI (by rw [hy9]) ?_ (by omega)
    rw [hy9]
    exact hs9
end
section
open PySem PySem.W PyProof.Rows PySem.Calls
set_option maxHeartbeats 8000000
theorem strs_are : ∀ {vs : List Value} {ks : List Str}, Strs vs ks → StrsAre vs ks
  | [], [], _ => .nil
  | [], _ :: _, h => by have := h.1; simp at this
  | _ :: _, [], h => by have := h.1; simp at this
  | v :: vs, k :: ks, h => by
    obtain ⟨hl, h⟩ := h
    obtain ⟨k', t, h1, h2⟩ := h 0 v rfl
    have h3 : k = k' := Option.some.inj h1
    subst h2 h3
    exact .cons _ _ (strs_are ⟨by simpa using hl, fun j v e => h (j + 1) v e⟩)
theorem spl_weight (y : Str) : ∀ i, i ≤ y.length + 1 → ((spl y i).2.map (·.length)).sum + (spl y i).2.length ≤ (spl y i).1 ∧ (spl y i).1 ≤ i
  | 0, _ => by simp [spl]
  | i + 1, hi => by
    obtain ⟨h1, h2⟩ := spl_weight y i (by omega)
    by_cases c : i = y.length ∨ (y.cps.toList[i]?).any spB = true
    · rw [spl_yes c]
      refine ⟨?_, Nat.le_refl _⟩
      by_cases d : (spl y i).1 < i
      · simp only [if_pos d, List.map_append, List.sum_append, List.length_append, List.map_cons, List.map_nil, List.sum_cons, List.sum_nil, List.length_cons, List.length_nil]
        have e : (⟨((y.cps.toList.drop (spl y i).1).take (i - (spl y i).1)).toArray⟩ : Str).length ≤ i - (spl y i).1 := by
          show (List.toArray _).size ≤ _
          rw [List.size_toArray]
          exact List.length_take_le _ _
        omega
      · simp only [if_neg d]
        omega
    · rw [spl_no c]
      exact ⟨h1, by omega⟩
theorem one_sp : (Str.ofString " ").length = 1 := by decide +kernel
theorem spl_fits {y : Str} (h : y.length < 1048576) : ((spl y (y.length + 1)).2.map (·.length)).sum + (spl y (y.length + 1)).2.length * (Str.ofString " ").length ≤ 16777216 := by
  obtain ⟨h1, h2⟩ := spl_weight y (y.length + 1) (Nat.le_refl _)
  rw [one_sp]
  omega
theorem news_tail {h₀ h : Heap} {L : Addr} {p : Addr × Obj} {news : List (Addr × Obj)} (N : News h₀ L h (p :: news)) : News h₀ L h news := fun q hq => N q (.tail _ hq)
set_option maxHeartbeats 600000 in
theorem collapsed_w {w : World} {mean : ExcName → Option Value} {mg mb : Str → Option Value} {dp un : Nat} {gd : Option (List Code)} {cn : Str} {cs : Scope} {a : Addr} {ccd : Value} {cl : List (Str × Addr)} {outer : List Env} {A₀ : Around} {base h₀ : Heap} {L : Addr} {m : Str → Option Value} {s : Shared} {Q E : Value → Shared → Prop} {news : List (Addr × Obj)}
   (B : Below A₀ base outer h₀) (F : Fr h₀ L s.heap m) (X : (K w.params).In h₀) (N : News h₀ L s.heap news) (T : Top q (looseW q [Str.ofString "DtdFault"]) mean mg mb h₀) (hk : cs.kind = .function)
   (hd : dp + 40 < recursionLimit) (hu : un + 80 < cLine) (y : Str) (t : Tok) (hyl : y.length < 1048576) (hy : Asc y)
   (hret : ∀ (t' : Tok) (h' : Heap) (tk' : Nat), Fr h₀ L h' m → News h₀ L h' news → Q (.str (Txt.join (Str.ofString " ") (spl y (y.length + 1)).2) t') { s with heap := h', toks := tk' }) :
   wpAny (model PySem.Challenge.rw_xw0207_01.row.prog w) (ktrTop dp un gd cn cs L a ccd cl outer) (call (.ref 87) [.str y t]) Q E s := by
  k_with_none
  k_with "call builtin:len" => (k_here; (with_reducible show wpAny _ _ (call _ [Value.str _ _]) _ _ _); k_dflt (refine' len_nat ?k1z0 ?_; (case k1z0 => first | assumption | decide)); k_whole; intro t9 tk9; (try dsimp only))
  k_with "subscriptTail" => (k_here; (with_reducible show wpAny _ _ (subscriptTail _ _ (Value.str _ _) (Value.int _ _)) _ _ _); k_dflt (refine' item_nat ?k1z1 ?k2z1 ?k3z1 ?_; (case k1z1 => assumption); (case k2z1 => assumption); (case k3z1 => first | (simp only [decide_eq_true_eq] at *; omega) | (simp only [decide_eq_true_eq, decide_eq_false_iff_not] at *; omega) | omega)); k_whole; intro c9 t9 tk9 hc9 hb9; (try dsimp only))
  k_with "exec Raise some none" => (k_here; k_dflt (refine' Raise_val (w := by assumption) ?khz2 ?_; (case khz2 => exact rfl)); k_whole)
  k_with "FltUp" => (k_here; k_dflt (refine' FltUp.mk ?kXz3 ?kFz3 ?kNz3 ?_; (case kXz3 => k_asm); (case kFz3 => k_asm); (case kNz3 => k_asm)); k_whole)
  k_with "leaving ref" => (k_here; first | (k_dflt (refine' air_firstN ?kKz4 ?kFz4 ?kNz4 ?kfz4 ?knz4 ?_; (case kFz4 => k_asm); (case kNz4 => k_asm); (case kKz4 => k_asm); (case kfz4 => exact rfl); (case knz4 => assumption)); k_whole; intro h9 R9 U9; (try dsimp only)) | (k_dflt (refine' air_on ?kKz4 ?kFz4 ?kRz4 ?kUz4 ?_; (case kRz4 => assumption); (case kFz4 => assumption); (case kUz4 => assumption); (case kKz4 => assumption)); k_whole; intro h9 R9 U9; (try dsimp only)))
  k_with "call ref" => (k_here; k_dflt (refine' space_split_w ?k1z5 ?k2z5 ?k3z5 ?k4z5 ?k5z5 ?kKz5 ?kdz5 ?kuz5 _ ?ktz5 ?klz5 ?kyz5 ?_; (case k1z5 => k_asm); (case k2z5 => k_asm); (case k3z5 => k_asm); (case k4z5 => k_asm); (case k5z5 => k_asm); (case kKz5 => first | exact rfl | assumption); (case kdz5 => ktr_room); (case kuz5 => ktr_units); (case klz5 => assumption); (case kyz5 => assumption); k_whole); intro D9 fs9 c9 h9 tk9 F9 N9 S9; (try dsimp only); (try k_sweep))
  k_with "call builtin:str.join" => (k_here; k_dflt (refine' join_list ?k1y1 ?k2y1 ?k3y1 ?_; (case k1y1 => exact News.isList (by k_asm) (by k_mem)); (case k2y1 => exact strs_are (by assumption)); (case k3y1 => exact spl_fits hyl); k_whole); intro t9 tk9)
  revert X; k_fill; intro X
  refine wpAny_call ?_
  k_dflt cell_enter
  k_steps
  all_goals exact hret _ _ _ (by k_asm) (news_tail (by assumption))
end
section
open PySem PySem.W PyProof.Rows PyProof.V PySem.Calls PySem.Spec
set_option maxHeartbeats 8000000
/-- the signs that a public name may have -/
def pubB (c : Nat) : Bool := smB c || (decide (65 ≤ c) && decide (c ≤ 90)) || (decide (48 ≤ c) && decide (c ≤ 57)) || [32, 13, 10, 45, 39, 40, 41, 43, 44, 46, 47, 58, 61, 63, 59, 33, 42, 35, 64, 36, 95, 37].contains c
theorem pub_occ : ∀ c, c < 128 → (Builtin.Str.occurrences (Str.ofString " \x0d\n-'()+,./:=?;!*#@$_%") ⟨#[c]⟩ 0 (Str.ofString " \x0d\n-'()+,./:=?;!*#@$_%").length 1).isEmpty = !([32, 13, 10, 45, 39, 40, 41, 43, 44, 46, 47, 58, 61, 63, 59, 33, 42, 35, 64, 36, 95, 37].contains c) := by decide +kernel
section
variable {prog : Program} {w : World} {A : Around} {E : Value → Shared → Prop} {s : Shared} {env : Env} {h₀ : Heap} {body : List Stmt} {Q : Flow → Shared → Prop}
def PubJ (u : Str) (m : Str → Option Value) (news : List (Addr × Obj)) (i : Nat) (m₁ : Str → Option Value) (news₁ : List (Addr × Obj)) : Prop :=
  (∃ A B, m₁ = (fun z => if z = Str.ofString "is_letter" then A else if z = Str.ofString "sign" then B else m z)) ∧ news₁ = news ∧ (∀ c ∈ u.cps.toList.take i, pubB c = true)
theorem For_pub {u : Str} {t₀ : Tok} {m : Str → Option Value} {p q : Addr × Obj} {rest : List (Addr × Obj)} (hh : A.handled = none) (hu : Asc u)
    (F : Fr h₀ env.locals s.heap m) (N : News h₀ env.locals s.heap (p :: q :: rest)) (hm : m (Str.ofString "is_letter") = none) (hm2 : m (Str.ofString "sign") = none)
    (turn : ∀ i c t A' B own h₁ tk₁, u.cps.toList[i]? = some c → c < 128 → (∀ c ∈ u.cps.toList.take i, pubB c = true) → (∀ q' ∈ own, q'.1 = s.heap.objs.size) → (∀ p' ∈ p :: q :: rest, p'.1 ≠ s.heap.objs.size) → (∀ p' ∈ own, p'.1 ≠ q.1) →
      Fr h₀ env.locals h₁ (fun z => if z = Str.ofString "sign" then some (.str ⟨#[c]⟩ t) else if z = Str.ofString "is_letter" then A' else if z = Str.ofString "sign" then B else m z) →
      News h₀ env.locals h₁ (p :: q :: (rest ++ own)) →
      wpAny (model prog w) A (execs body env) (ForEnd h₀ env.locals s s.heap.objs.size own (PubJ u m (p :: q :: rest) (i + 1)) Q) E { s with heap := h₁, toks := tk₁ })
    (done : ∀ h' tk A' B, Fr h₀ env.locals h' (fun z => if z = Str.ofString "is_letter" then A' else if z = Str.ofString "sign" then B else m z) → News h₀ env.locals h' (p :: q :: rest) → (∀ c ∈ u.cps.toList, pubB c = true) → Q .next { s with heap := h', toks := tk }) :
    wpAny (model prog w) A (pyIter (.str u t₀)) (fun it s₂ => LoopAtV prog w A h₀ env (Str.ofString "sign") body Q E it s₂) E s := by
  have em : m = (fun z => if z = Str.ofString "is_letter" then none else if z = Str.ofString "sign" then none else m z) := by
    funext z
    split
    · rename_i e; rw [e, hm]
    · split
      · rename_i e; rw [e, hm2]
      · rfl
  refine str_J hh F N (PubJ u m (p :: q :: rest)) ⟨⟨none, none, em⟩, rfl, fun c h => by simp at h⟩ ?_ ?_
  · rintro i c t m₁ news₁ own h₁ tk₁ hc ⟨⟨A', B, rfl⟩, rfl, hp⟩ ho hn F₁ N₁
    exact turn i c t A' B own h₁ tk₁ hc (hu c (List.mem_of_getElem? hc)) hp ho hn (fun p' hp' => by rw [ho p' hp']; exact fun e => hn q (.tail _ (.head _)) e.symm) F₁ N₁
  · rintro h' tk m' news' F' N' ⟨⟨A', B, rfl⟩, rfl, hp⟩
    refine done h' tk A' B F' N' fun c hc => hp c ?_
    rw [List.take_of_length_le (by rw [len_list]; exact Nat.le_refl _)]
    exact hc
theorem pub_next {u : Str} {m : Str → Option Value} {I L : Addr} {p q : Addr × Obj} {rest own : List (Addr × Obj)} {i c tk : Nat} {h' : Heap} {A' A'' B B' : Option Value}
    (F : Fr h₀ L h' (fun z => if z = Str.ofString "is_letter" then A' else if z = Str.ofString "sign" then B else if z = Str.ofString "is_letter" then A'' else if z = Str.ofString "sign" then B' else m z))
    (N : News h₀ L h' (p :: q :: (rest ++ own))) (hn : ∀ p' ∈ p :: q :: rest, p'.1 ≠ I) (hc : u.cps.toList[i]? = some c) (hp : ∀ c ∈ u.cps.toList.take i, pubB c = true) (hb : pubB c = true) :
    ForEnd h₀ L s I own (PubJ u m (p :: q :: rest) (i + 1)) Q .next { s with heap := h', toks := tk } := by
  have e : (fun z => if z = Str.ofString "is_letter" then A' else if z = Str.ofString "sign" then B else if z = Str.ofString "is_letter" then A'' else if z = Str.ofString "sign" then B' else m z) =
      (fun z => if z = Str.ofString "is_letter" then A' else if z = Str.ofString "sign" then B else m z) := by
    funext z
    split
    · rfl
    · split
      · rfl
      · rfl
  rw [e] at F
  refine ⟨h', tk, _, p :: q :: rest, rfl, F, N, hn, ⟨A', B, rfl⟩, rfl, fun c' h => ?_⟩
  rw [List.take_add_one, hc] at h
  rcases List.mem_append.mp h with h | h
  · exact hp c' h
  · have e2 : c' = c := by simpa using h
    rw [e2]; exact hb
end
end
section
open PySem PySem.W PyProof.Rows PySem.Calls
set_option maxHeartbeats 8000000
theorem own_apart {dx : Addr} {rest own : List (Addr × Obj)} (hr : ∀ p ∈ rest, p.1 ≠ dx) (ho : ∀ p ∈ own, p.1 ≠ dx) : ∀ p ∈ rest ++ own, p.1 ≠ dx := fun p hp => by
  rcases List.mem_append.mp hp with h | h
  · exact hr p h
  · exact ho p h
theorem air_own {base g h : Heap} {l : List Env} {e ed : Addr} {a b c : Addr × Obj} {rest own : List (Addr × Obj)} (R : Air base g l e ed (a :: b :: c :: (rest ++ own)) h) : Air base g l e ed (a :: b :: c :: rest) h := R.drop fun z hz => by
  simp only [List.mem_cons, List.mem_append] at hz ⊢
  rcases hz with h | h | h | h
  · exact .inl h
  · exact .inr (.inl h)
  · exact .inr (.inr (.inl h))
  · exact .inr (.inr (.inr (.inl h)))
theorem pub_in {c : Nat} (hc : c < 128) (h : (Builtin.Str.occurrences (Str.ofString " \x0d\n-'()+,./:=?;!*#@$_%") ⟨#[c]⟩ 0 (Str.ofString " \x0d\n-'()+,./:=?;!*#@$_%").length 1).isEmpty = false) : pubB c = true := by
  rw [pub_occ c hc] at h
  have h' := Eq.mp (Bool.not_eq_false' _) h
  unfold pubB
  rw [h', Bool.or_true]
theorem pub_out {c : Nat} (hc : c < 128) (h : (Builtin.Str.occurrences (Str.ofString " \x0d\n-'()+,./:=?;!*#@$_%") ⟨#[c]⟩ 0 (Str.ofString " \x0d\n-'()+,./:=?;!*#@$_%").length 1).isEmpty = true) (h1 : (smB c || (decide (65 ≤ c) && decide (c ≤ 90)) || (decide (48 ≤ c) && decide (c ≤ 57))) = false) : pubB c = false := by
  rw [pub_occ c hc] at h
  unfold pubB
  rw [h1, Bool.false_or]
  simpa using h
set_option maxHeartbeats 800000 in
theorem public_name_w {w : World} {mean : ExcName → Option Value} {mg mb : Str → Option Value} {dp un : Nat} {gd : Option (List Code)} {cn : Str} {cs : Scope} {a : Addr} {ccd : Value} {cl : List (Str × Addr)} {outer : List Env} {A₀ : Around} {base h₀ : Heap} {L : Addr} {m : Str → Option Value} {s : Shared} {Q E : Value → Shared → Prop} {y : Str} {t : Tok} {b : Int} {tb : Tok} {at0 : Int} {ta : Tok} {z1 z2 z3 z4 : Int} {k1 k2 k3 k4 : Tok} {x dx : Addr} {rest : List (Addr × Obj)}
   (B : Below A₀ base outer h₀) (F : Fr h₀ L s.heap m) (X : (K w.params).In h₀) (N : News h₀ L s.heap ((x, instObj 272 dx) :: (dx, dictOf [⟨z1, .str (Str.ofString "text") k1, .str y t⟩, ⟨z2, .str (Str.ofString "begin") k2, .int b tb⟩, ⟨z3, .str (Str.ofString "is_whole") k3, .bool true⟩, ⟨z4, .str (Str.ofString "at") k4, .int (at0) ta⟩] 4) :: rest)) (hyl : y.length < 1048576) (hy : Asc y) (hx : @LT.lt Nat _ dx x) (hr : ∀ p ∈ rest, p.1 ≠ dx) (T : Top q (looseW q [Str.ofString "DtdFault"]) mean mg mb h₀) (hk : cs.kind = .function)
   (hd : dp + 80 < recursionLimit) (hu : un + 160 < cLine) (u : Str) (tu : Tok) (hul : u.length < 1048576) (hua : Asc u)
   (hyes : (∀ c ∈ u.cps.toList, pubB c = true) → ∀ (t' : Tok) (h' : Heap) (tk' : Nat), Fr h₀ L h' m → News h₀ L h' ((x, instObj 272 dx) :: (dx, dictOf [⟨z1, .str (Str.ofString "text") k1, .str y t⟩, ⟨z2, .str (Str.ofString "begin") k2, .int b tb⟩, ⟨z3, .str (Str.ofString "is_whole") k3, .bool true⟩, ⟨z4, .str (Str.ofString "at") k4, .int (at0) ta⟩] 4) :: rest) → Q (.str (Txt.join (Str.ofString " ") (spl u (u.length + 1)).2) t') { s with heap := h', toks := tk' })
   (hno : (∃ c ∈ u.cps.toList, pubB c = false) → ∀ (e ed : Addr) (zm zp : Int) (km kp : Tok) (msg : Str) (tm tp : Tok) (at1 : Int) (ta1 : Tok) (g h1 : Heap) (tk1 : Nat), Fr h₀ L g m → Air base g (envX cn cs L a ccd cl :: outer) e ed ((ed, fltDict zm zp km kp msg tm (b + at0) tp) :: ((x, instObj 272 dx) :: (dx, dictOf [⟨z1, .str (Str.ofString "text") k1, .str y t⟩, ⟨z2, .str (Str.ofString "begin") k2, .int b tb⟩, ⟨z3, .str (Str.ofString "is_whole") k3, .bool true⟩, ⟨z4, .str (Str.ofString "at") k4, .int (at1) ta1⟩] 4) :: rest)) h1 → g.UpToSlots h1 → E (.ref e) { s with heap := h1, toks := tk1 }) :
   wpAny (model PySem.Challenge.rw_xw0207_01.row.prog w) (ktrTop dp un gd cn cs L a ccd cl outer) (call (.ref 109) [.ref x, .str u tu]) Q E s := by
  k_with_none
  k_with "call builtin:len" => (k_here; (with_reducible show wpAny _ _ (call _ [Value.str _ _]) _ _ _); k_dflt (refine' len_nat ?k1z0 ?_; (case k1z0 => first | assumption | decide)); k_whole; intro t9 tk9; (try dsimp only))
  k_with "subscriptTail" => (k_here; (with_reducible show wpAny _ _ (subscriptTail _ _ (Value.str _ _) (Value.int _ _)) _ _ _); k_dflt (refine' item_nat ?k1z1 ?k2z1 ?k3z1 ?_; (case k1z1 => assumption); (case k2z1 => assumption); (case k3z1 => first | (simp only [decide_eq_true_eq] at *; omega) | (simp only [decide_eq_true_eq, decide_eq_false_iff_not] at *; omega) | omega)); k_whole; intro c9 t9 tk9 hc9 hb9; (try dsimp only))
  k_with "exec Raise some none" => (k_here; k_dflt (refine' Raise_val (w := by assumption) ?khz2 ?_; (case khz2 => exact rfl)); k_whole)
  k_with "FltUp" => (k_here; k_dflt (refine' FltUp.mk ?kXz3 ?kFz3 ?kNz3 ?_; (case kXz3 => k_asm); (case kFz3 => k_asm); (case kNz3 => k_asm)); k_whole)
  k_with "leaving ref" => (k_here; first | (k_dflt (refine' air_firstN ?kKz4 ?kFz4 ?kNz4 ?kfz4 ?knz4 ?_; (case kFz4 => k_asm); (case kNz4 => k_asm); (case kKz4 => k_asm); (case kfz4 => exact rfl); (case knz4 => assumption)); k_whole; intro h9 R9 U9; (try dsimp only)) | (k_dflt (refine' air_on ?kKz4 ?kFz4 ?kRz4 ?kUz4 ?_; (case kRz4 => assumption); (case kFz4 => assumption); (case kUz4 => assumption); (case kKz4 => assumption)); k_whole; intro h9 R9 U9; (try dsimp only)))
  k_with "call ref" => (k_here; k_dflt (refine' collapsed_w ?k1z5 ?k2z5 ?k3z5 ?k4z5 ?k5z5 ?kKz5 ?kdz5 ?kuz5 _ _ ?klz5 ?kyz5 ?_; (case k1z5 => k_asm); (case k2z5 => k_asm); (case k3z5 => k_asm); (case k4z5 => k_asm); (case k5z5 => k_asm); (case kKz5 => first | exact rfl | assumption); (case kdz5 => ktr_room); (case kuz5 => ktr_units); (case klz5 => assumption); (case kyz5 => assumption); k_whole); intro t9 h9 tk9 F9 N9; (try dsimp only); (try k_sweep))
  k_with "call ref" => (k_here; k_dflt (refine' fault_w2 ?k1z6 ?k2z6 ?k3z6 ?k4z6 ?k6z6 ?k7z6 ?k8z6 ?k9z6 ?k5z6 ?kKz6 ?kdz6 ?kuz6 _ _ ?_; (case k1z6 => k_asm); (case k2z6 => k_asm); (case k3z6 => k_asm); (case k4z6 => k_asm); (case k6z6 => assumption); (case k7z6 => assumption); (case k8z6 => assumption); (case k9z6 => first | assumption | exact ledR (by assumption) (by assumption)); (case k5z6 => k_asm); (case kKz6 => first | exact rfl | assumption); (case kdz6 => ktr_room); (case kuz6 => ktr_units);  k_whole); intro e9 ed9 ta9 zm9 zp9 km9 kp9 tp9 h9 tk9 F9 N9 ne9; (try dsimp only); (try k_sweep))
  k_with "exec For" => (k_here; with_unfolding_all (refine' For_invVF ?k0y1 ?k1y1 ?k2y1 ?_; (case k0y1 => k_asm); (case k1y1 => exact rfl); (case k2y1 => exact rfl)))
  k_with "pyIter str" => (k_here; k_dflt (refine' For_pub ?khy2 ?kuy2 ?kFy2 ?kNy2 ?kmy2 ?kny2 ?kTy2 ?kDy2; (case khy2 => exact rfl); (case kuy2 => assumption); (case kFy2 => k_asm); (case kNy2 => k_asm); (case kmy2 => with_unfolding_all exact rfl); (case kny2 => with_unfolding_all exact rfl)); (case' kTy2 => (intro i c9 t9 A9 B9 own9 h9 tk9 hc9 hb9 hp9 ho9 hn9 hx9 F9 N9; have hr9 := own_apart hr hx9; (try dsimp only at hr9))); (case' kDy2 => (intro h9 tk9 A9 B9 F9 N9 hp9)))
  revert X; k_fill; intro X
  refine wpAny_call ?_
  k_dflt cell_enter
  k_steps
  · exact hyes hp9 _ _ _ (by k_asm) (by k_asm)
  all_goals first
    | (refine pub_next (by assumption) (by assumption) hn9 hc9 hp9 ?_; first | exact pub_in hb9 (by assumption) | (unfold pubB smB; simp only [Bool.or_eq_true, Bool.and_eq_true, decide_eq_true_eq]; simp only [lst_a, lst_z, lst_A, lst_Z, lst_0, lst_9, one_lt, Bool.not_eq_true', decide_eq_false_iff_not, decide_eq_true_eq] at *; omega))
    | (refine hno ⟨c9, List.mem_of_getElem? hc9, pub_out hb9 (by assumption) ?_⟩ _ _ _ _ _ _ _ _ _ _ _ _ _ _ (by assumption) (air_own (by assumption)) (by assumption); unfold smB; rw [Bool.eq_false_iff]; intro z9; simp only [Bool.or_eq_true, Bool.and_eq_true, decide_eq_true_eq] at z9; simp only [lst_a, lst_z, lst_A, lst_Z, lst_0, lst_9, one_lt, Bool.not_eq_true', decide_eq_false_iff_not, decide_eq_true_eq] at *; omega)
end
section
open PySem PySem.W PyProof.Rows PySem.Calls
set_option maxHeartbeats 8000000
/-- a source's two numbers -/
def SrcOk (a b : Int) : Prop := 0 ≤ a ∧ 0 ≤ b ∧ b < 2147483647
abbrev srcObj (a b : Int) (ta tb : Tok) (c : Nat) : Obj := W.listOf (List.toArray [.int a ta, .int b tb]) c
theorem fm_lt {x n : Int} (hn : 0 < n) : 0 ≤ x.fmod n ∧ x.fmod n < n := ⟨Int.fmod_nonneg_of_pos x hn, Int.fmod_lt_of_pos x hn⟩
theorem mul_low {prog : Program} {w : World} {A : Around} {E : Value → Shared → Prop} {s : Shared} {x y : Int} {t u : Tok} {Q : Value → Shared → Prop} (hx : 0 ≤ x ∧ x < 2147483647)
    (h : ∀ t' k, Q (.int (x * y) t') { s with toks := k }) : wpAny (model prog w) A (binaryOp .Mult (.int x t) (.int y u)) Q E s :=
  PyProof.Rows.mul_int (h _ _) (IntMulOk.of_left (intBits_le_iff.mpr (by omega)))
set_option maxHeartbeats 600000 in
theorem take_w0 {w : World} {mean : ExcName → Option Value} {mg mb : Str → Option Value} {dp un : Nat} {gd : Option (List Code)} {cn : Str} {cs : Scope} {a : Addr} {ccd : Value} {cl : List (Str × Addr)} {outer : List Env} {A₀ : Around} {base h₀ : Heap} {L : Addr} {m : Str → Option Value} {s : Shared} {Q E : Value → Shared → Prop} {news : List (Addr × Obj)}
   (B : Below A₀ base outer h₀) (F : Fr h₀ L s.heap m) (X : (K w.params).In h₀) (N : News h₀ L s.heap news) (T : Top q (looseW q [Str.ofString "DtdFault"]) mean mg mb h₀) (hk : cs.kind = .function) {S : Addr} {sa sb : Int} {ta tb : Tok} {c : Nat} {rest : List (Addr × Obj)}
   (hd : dp + 10 < recursionLimit) (hu : un + 20 < cLine) (hnews : news = (S, srcObj sa sb ta tb c) :: rest) (hr : ∀ p ∈ rest, p.1 ≠ S) (hs : SrcOk sa sb) (n : Nat) (z : Int) (hz : z = (n : Int)) (tn : Tok) (hn : 1 ≤ n) (hn2 : n ≤ 64)
   (hret : ∀ (r : Nat) (a' b' : Int) (ta' tb' tr : Tok) (c' : Nat) (h' : Heap) (tk' : Nat), Fr h₀ L h' m → News h₀ L h' ((S, srcObj a' b' ta' tb' c') :: rest) → SrcOk a' b' → r < n → Q (.int (r : Int) tr) { s with heap := h', toks := tk' }) :
   wpAny (model PySem.Challenge.rw_xw0207_01.row.prog w) (ktrTop dp un gd cn cs L a ccd cl outer) (call (.ref 290) [.ref S, .int z tn]) Q E s := by
  k_with_none
  k_with "call builtin:len" => (k_here; (with_reducible show wpAny _ _ (call _ [Value.str _ _]) _ _ _); k_dflt (refine' len_nat ?k1z0 ?_; (case k1z0 => first | assumption | decide)); k_whole; intro t9 tk9; (try dsimp only))
  k_with "subscriptTail" => (k_here; (with_reducible show wpAny _ _ (subscriptTail _ _ (Value.str _ _) (Value.int _ _)) _ _ _); k_dflt (refine' item_nat ?k1z1 ?k2z1 ?k3z1 ?_; (case k1z1 => assumption); (case k2z1 => assumption); (case k3z1 => first | (simp only [decide_eq_true_eq] at *; omega) | (simp only [decide_eq_true_eq, decide_eq_false_iff_not] at *; omega) | omega)); k_whole; intro c9 t9 tk9 hc9 hb9; (try dsimp only))
  k_with "exec Raise some none" => (k_here; k_dflt (refine' Raise_val (w := by assumption) ?khz2 ?_; (case khz2 => exact rfl)); k_whole)
  k_with "FltUp" => (k_here; k_dflt (refine' FltUp.mk ?kXz3 ?kFz3 ?kNz3 ?_; (case kXz3 => k_asm); (case kFz3 => k_asm); (case kNz3 => k_asm)); k_whole)
  k_with "leaving ref" => (k_here; first | (k_dflt (refine' air_firstN ?kKz4 ?kFz4 ?kNz4 ?kfz4 ?knz4 ?_; (case kFz4 => k_asm); (case kNz4 => k_asm); (case kKz4 => k_asm); (case kfz4 => exact rfl); (case knz4 => assumption)); k_whole; intro h9 R9 U9; (try dsimp only)) | (k_dflt (refine' air_on ?kKz4 ?kFz4 ?kRz4 ?kUz4 ?_; (case kRz4 => assumption); (case kFz4 => assumption); (case kUz4 => assumption); (case kKz4 => assumption)); k_whole; intro h9 R9 U9; (try dsimp only)))
  k_with "binaryOp Mult int int" => (k_here; k_dflt (refine' mul_low ?kxy1 ?_; (case kxy1 => exact fm_lt (by decide))); intro t9 tk9)
  subst hnews hz
  obtain ⟨ha, hb0, hb1⟩ := hs
  revert X; k_fill; intro X
  refine wpAny_call ?_
  k_dflt cell_enter
  k_steps
  · have f := @fm_lt sa (n : Int) (by omega)
    have e : ((sa.fmod (n : Int)).toNat : Int) = sa.fmod n := by omega
    have h1 := hret (sa.fmod n).toNat (sa.fdiv n) sb
    rw [e] at h1
    exact h1 _ _ _ _ _ _ (by k_asm) (by assumption) ⟨Int.fdiv_nonneg ha (by omega), hb0, hb1⟩ (by omega)
  · have f1 := @fm_lt (sb * 39373 + 7) 2147483647 (by decide)
    generalize hy : (sb * 39373 + 7).fmod 2147483647 = y at f1
    have f := @fm_lt (((y * y).fmod 2147483629).fdiv 32) (n : Int) (by omega)
    have e : ((((y * y).fmod 2147483629).fdiv 32).fmod (n : Int)).toNat = (((y * y).fmod 2147483629).fdiv 32).fmod (n : Int) := by omega
    have h1 := hret ((((y * y).fmod 2147483629).fdiv 32).fmod (n : Int)).toNat sa y
    rw [e] at h1
    subst hy
    exact h1 _ _ _ _ _ _ (by k_asm) (by assumption) ⟨ha, f1.1, f1.2⟩ (by omega)
theorem take_w {w : World} {mean : ExcName → Option Value} {mg mb : Str → Option Value} {dp un : Nat} {gd : Option (List Code)} {cn : Str} {cs : Scope} {a : Addr} {ccd : Value} {cl : List (Str × Addr)} {outer : List Env} {A₀ : Around} {base h₀ : Heap} {L : Addr} {m : Str → Option Value} {s : Shared} {Q E : Value → Shared → Prop} {news : List (Addr × Obj)}
   (B : Below A₀ base outer h₀) (F : Fr h₀ L s.heap m) (X : (K w.params).In h₀) (N : News h₀ L s.heap news) (T : Top q (looseW q [Str.ofString "DtdFault"]) mean mg mb h₀) (hk : cs.kind = .function) {S : Addr} {sa sb : Int} {ta tb : Tok} {c : Nat} {g : Obj → List (Addr × Obj)}
   (hd : dp + 10 < recursionLimit) (hu : un + 20 < cLine) (U : UpdF S (srcObj sa sb ta tb c) news g) (hs : SrcOk sa sb) (n : Nat) (z : Int) (hz : z = (n : Int)) (tn : Tok) (hn : 1 ≤ n) (hn2 : n ≤ 64)
   (hret : ∀ (r : Nat) (a' b' : Int) (ta' tb' tr : Tok) (c' : Nat) (h' : Heap) (tk' : Nat), Fr h₀ L h' m → News h₀ L h' (g (srcObj a' b' ta' tb' c')) → SrcOk a' b' → r < n → Q (.int (r : Int) tr) { s with heap := h', toks := tk' }) :
   wpAny (model PySem.Challenge.rw_xw0207_01.row.prog w) (ktrTop dp un gd cn cs L a ccd cl outer) (call (.ref 290) [.ref S, .int z tn]) Q E s := by
  obtain ⟨pre, post, rfl, hg, h1, h2⟩ := U.split
  have N2 : News h₀ L s.heap ((S, srcObj sa sb ta tb c) :: (pre ++ post)) := fun p hp => N p (by
    rcases List.mem_cons.mp hp with rfl | hp
    · exact List.mem_append_right _ (.head _)
    · rcases List.mem_append.mp hp with hp | hp
      · exact List.mem_append_left _ hp
      · exact List.mem_append_right _ (.tail _ hp))
  refine take_w0 B F X N2 T hk hd hu rfl (fun p hp => ?_) hs n z hz tn hn hn2 fun r a' b' ta' tb' tr c' h' tk' F' N' h3 h4 => hret r a' b' ta' tb' tr c' h' tk' F' ?_ h3 h4
  · rcases List.mem_append.mp hp with hp | hp
    · exact h1 p hp
    · exact h2 p hp
  · rw [hg]
    exact fun p hp => N' p (by
      rcases List.mem_append.mp hp with hp | hp
      · exact .tail _ (List.mem_append_left _ hp)
      · rcases List.mem_cons.mp hp with rfl | hp
        · exact .head _
        · exact .tail _ (List.mem_append_right _ hp))
/-- the texts that a list holds -/
theorem strs_get {vs : List Value} {ks : List Str} (j : Nat) (h : Strs vs ks) (hj : j < ks.length) : ∃ k t, k ∈ ks ∧ vs[j]? = some (.str k t) := by
  obtain ⟨hl, h⟩ := h
  have hv : vs[j]? = some vs[j] := List.getElem?_eq_getElem (by omega)
  obtain ⟨k, t, h1, h2⟩ := h j _ hv
  exact ⟨k, t, List.mem_of_getElem? h1, by rw [hv, h2]⟩
end
section
open PySem PySem.W PyProof.Rows PySem.Calls
set_option maxHeartbeats 8000000
theorem item_any {prog : Program} {w : World} {A : Around} {E : Value → Shared → Prop} {s : Shared} {value slice : PySem.Expr} {l : Addr} {vs : List Value} {k : Nat} {u : Tok} {v : Value} {Q : Value → Shared → Prop}
    (hl : s.heap.IsList l vs.toArray) (hhi : k < 1048576) (hx : vs[k]? = some v) (h : Q v s)
    (hs : subscripted slice false (.ref l) (.int k u) = operate [.ref l, .int k u] (getItem (.ref l) (.int k u)) := by with_unfolding_all rfl) :
    wpAny (model prog w) A (subscriptTail value slice (.ref l) (.int k u)) Q E s :=
  tail_any hl.typeIs slot_list_getitem.lookup (wpAny_getItem_list hl (by omega) (by omega) (by simpa using hx) h) hs
theorem len_lst {prog : Program} {w : World} {A : Around} {E : Value → Shared → Prop} {s : Shared} {l : Addr} {vs : List Value} {Q : Value → Shared → Prop} (hl : s.heap.IsList l vs.toArray) (hz : vs.length < 1048577)
    (h : ∀ t k, Q (.int (vs.length : Int) t) { s with toks := k }) : wpAny (model prog w) A (call (.builtin "len") [.ref l]) Q E s :=
  PyProof.Rows.len_list hl (by rw [List.size_toArray]; omega) (by rw [List.size_toArray]; exact h _ _)
set_option maxHeartbeats 600000 in
theorem one_w0 {w : World} {mean : ExcName → Option Value} {mg mb : Str → Option Value} {dp un : Nat} {gd : Option (List Code)} {cn : Str} {cs : Scope} {a : Addr} {ccd : Value} {cl : List (Str × Addr)} {outer : List Env} {A₀ : Around} {base h₀ : Heap} {L : Addr} {m : Str → Option Value} {s : Shared} {Q E : Value → Shared → Prop} {news : List (Addr × Obj)}
   (B : Below A₀ base outer h₀) (F : Fr h₀ L s.heap m) (X : (K w.params).In h₀) (N : News h₀ L s.heap news) (T : Top q (looseW q [Str.ofString "DtdFault"]) mean mg mb h₀) (hk : cs.kind = .function) {S T₁ : Addr} {sa sb : Int} {ta tb : Tok} {c cT : Nat} {rest : List (Addr × Obj)} {vs : List Value} {ks : List Str}
   (hd : dp + 20 < recursionLimit) (hu : un + 40 < cLine) (hnews : news = (S, srcObj sa sb ta tb c) :: (T₁, W.listOf vs.toArray cT) :: rest) (hr : ∀ p ∈ rest, p.1 ≠ S) (hT : @Ne Nat T₁ S) (hS : Strs vs ks) (hn : 1 ≤ ks.length) (hn2 : ks.length ≤ 64) (hs : SrcOk sa sb)
   (hret : ∀ (k : Str) (a' b' : Int) (ta' tb' tr : Tok) (c' : Nat) (h' : Heap) (tk' : Nat), Fr h₀ L h' m → News h₀ L h' ((S, srcObj a' b' ta' tb' c') :: (T₁, W.listOf vs.toArray cT) :: rest) → SrcOk a' b' → k ∈ ks → Q (.str k tr) { s with heap := h', toks := tk' }) :
   wpAny (model PySem.Challenge.rw_xw0207_01.row.prog w) (ktrTop dp un gd cn cs L a ccd cl outer) (call (.ref 297) [.ref S, .ref T₁]) Q E s := by
  k_with_none
  k_with "call builtin:len" => (k_here; (with_reducible show wpAny _ _ (call _ [Value.str _ _]) _ _ _); k_dflt (refine' len_nat ?k1z0 ?_; (case k1z0 => first | assumption | decide)); k_whole; intro t9 tk9; (try dsimp only))
  k_with "subscriptTail" => (k_here; (with_reducible show wpAny _ _ (subscriptTail _ _ (Value.str _ _) (Value.int _ _)) _ _ _); k_dflt (refine' item_nat ?k1z1 ?k2z1 ?k3z1 ?_; (case k1z1 => assumption); (case k2z1 => assumption); (case k3z1 => first | (simp only [decide_eq_true_eq] at *; omega) | (simp only [decide_eq_true_eq, decide_eq_false_iff_not] at *; omega) | omega)); k_whole; intro c9 t9 tk9 hc9 hb9; (try dsimp only))
  k_with "exec Raise some none" => (k_here; k_dflt (refine' Raise_val (w := by assumption) ?khz2 ?_; (case khz2 => exact rfl)); k_whole)
  k_with "FltUp" => (k_here; k_dflt (refine' FltUp.mk ?kXz3 ?kFz3 ?kNz3 ?_; (case kXz3 => k_asm); (case kFz3 => k_asm); (case kNz3 => k_asm)); k_whole)
  k_with "leaving ref" => (k_here; first | (k_dflt (refine' air_firstN ?kKz4 ?kFz4 ?kNz4 ?kfz4 ?knz4 ?_; (case kFz4 => k_asm); (case kNz4 => k_asm); (case kKz4 => k_asm); (case kfz4 => exact rfl); (case knz4 => assumption)); k_whole; intro h9 R9 U9; (try dsimp only)) | (k_dflt (refine' air_on ?kKz4 ?kFz4 ?kRz4 ?kUz4 ?_; (case kRz4 => assumption); (case kFz4 => assumption); (case kUz4 => assumption); (case kKz4 => assumption)); k_whole; intro h9 R9 U9; (try dsimp only)))
  k_with "call ref" => (k_here; k_dflt (refine' take_w ?k1z5 ?k2z5 ?k3z5 ?k4z5 ?k5z5 ?kKz5 ?kdz5 ?kuz5 ?kUz5 ?ksz5 _ _ ?kzz5 _ ?knz5 ?kn2z5 ?_; (case k1z5 => k_asm); (case k2z5 => k_asm); (case k3z5 => k_asm); (case k4z5 => k_asm); (case k5z5 => k_asm); (case kKz5 => first | exact rfl | assumption); (case kdz5 => ktr_room); (case kuz5 => ktr_units); (case kUz5 => k_updF); (case ksz5 => assumption); (case kzz5 => exact rfl); (case knz5 => assumption); (case kn2z5 => assumption); k_whole); intro r9 sa9 sb9 ta9 tb9 tr9 c9 h9 tk9 F9 N9 hs9 hr9; obtain ⟨k9, t9, hk9, hv9⟩ := strs_get r9 (by assumption) (by omega); (try dsimp only); (try k_sweep))
  have hvl := hS.1
  have hn' : 1 ≤ vs.length := by omega
  have hn2' : vs.length ≤ 64 := by omega
  have hTS : @Ne Nat S T₁ := fun e => hT e.symm
  k_with "subscriptTail" => (k_here; k_dflt (refine' item_any ?kly1 ?khy1 ?kxy1 ?_; (case kly1 => exact News.isList (by k_asm) (by k_mem)); (case khy1 => omega); (case kxy1 => assumption)); k_whole)
  k_with "call builtin:len" => (k_here; k_dflt (refine' len_lst ?kly2 ?kzy2 ?_; (case kly2 => exact News.isList (by k_asm) (by k_mem)); (case kzy2 => omega)); intro t9 tk9)
  subst hnews
  revert X; k_fill; intro X
  refine wpAny_call ?_
  k_dflt cell_enter
  k_steps
  exact hret _ _ _ _ _ _ _ _ _ (by k_asm) (by k_asm) (by assumption) (by assumption)
theorem one_w {w : World} {mean : ExcName → Option Value} {mg mb : Str → Option Value} {dp un : Nat} {gd : Option (List Code)} {cn : Str} {cs : Scope} {a : Addr} {ccd : Value} {cl : List (Str × Addr)} {outer : List Env} {A₀ : Around} {base h₀ : Heap} {L : Addr} {m : Str → Option Value} {s : Shared} {Q E : Value → Shared → Prop} {news : List (Addr × Obj)}
   (B : Below A₀ base outer h₀) (F : Fr h₀ L s.heap m) (X : (K w.params).In h₀) (N : News h₀ L s.heap news) (T : Top q (looseW q [Str.ofString "DtdFault"]) mean mg mb h₀) (hk : cs.kind = .function) {S T₁ : Addr} {sa sb : Int} {ta tb : Tok} {c cT : Nat} {g : Obj → List (Addr × Obj)} {vs : List Value} {ks : List Str}
   (hd : dp + 20 < recursionLimit) (hu : un + 40 < cLine) (U : UpdF S (srcObj sa sb ta tb c) news g) (hT : @Ne Nat T₁ S) (hm : (T₁, W.listOf vs.toArray cT) ∈ news) (hS : Strs vs ks) (hn : 1 ≤ ks.length) (hn2 : ks.length ≤ 64) (hs : SrcOk sa sb)
   (hret : ∀ (k : Str) (a' b' : Int) (ta' tb' tr : Tok) (c' : Nat) (h' : Heap) (tk' : Nat), Fr h₀ L h' m → News h₀ L h' (g (srcObj a' b' ta' tb' c')) → SrcOk a' b' → k ∈ ks → Q (.str k tr) { s with heap := h', toks := tk' }) :
   wpAny (model PySem.Challenge.rw_xw0207_01.row.prog w) (ktrTop dp un gd cn cs L a ccd cl outer) (call (.ref 297) [.ref S, .ref T₁]) Q E s := by
  obtain ⟨pre, post, rfl, hg, h1, h2⟩ := U.split
  have N2 : News h₀ L s.heap ((S, srcObj sa sb ta tb c) :: (T₁, W.listOf vs.toArray cT) :: (pre ++ post)) := fun p hp => N p (by
    rcases List.mem_cons.mp hp with rfl | hp
    · exact List.mem_append_right _ (.head _)
    · rcases List.mem_cons.mp hp with rfl | hp
      · exact hm
      · rcases List.mem_append.mp hp with hp | hp
        · exact List.mem_append_left _ hp
        · exact List.mem_append_right _ (.tail _ hp))
  refine one_w0 B F X N2 T hk hd hu rfl (fun p hp => ?_) hT hS hn hn2 hs fun k a' b' ta' tb' tr c' h' tk' F' N' h3 h4 => hret k a' b' ta' tb' tr c' h' tk' F' ?_ h3 h4
  · rcases List.mem_append.mp hp with hp | hp
    · exact h1 p hp
    · exact h2 p hp
  · rw [hg]
    exact fun p hp => N' p (by
      rcases List.mem_append.mp hp with hp | hp
      · exact .tail _ (.tail _ (List.mem_append_left _ hp))
      · rcases List.mem_cons.mp hp with rfl | hp
        · exact .head _
        · exact .tail _ (.tail _ (List.mem_append_right _ hp)))
end
section
open PySem PySem.W PyProof.Rows PySem.Calls
set_option maxHeartbeats 8000000
set_option maxHeartbeats 400000 in
theorem scanner_w {w : World} {mean : ExcName → Option Value} {mg mb : Str → Option Value} {dp un : Nat} {gd : Option (List Code)} {cn : Str} {cs : Scope} {a : Addr} {ccd : Value} {cl : List (Str × Addr)} {outer : List Env} {A₀ : Around} {base h₀ : Heap} {L : Addr} {m : Str → Option Value} {s : Shared} {Q E : Value → Shared → Prop} {news : List (Addr × Obj)}
   (B : Below A₀ base outer h₀) (F : Fr h₀ L s.heap m) (X : (K w.params).In h₀) (N : News h₀ L s.heap news) (T : Top q (looseW q [Str.ofString "DtdFault"]) mean mg mb h₀) (hk : cs.kind = .function)
   (hd : dp + 40 < recursionLimit) (hu : un + 80 < cLine) (y : Str) (t : Tok) (b : Int) (tb : Tok)
   (hret : ∀ (x dx : Addr) (z1 z2 z3 z4 : Int) (k1 k2 k3 k4 ta : Tok) (h' : Heap) (tk' : Nat), Fr h₀ L h' m → (∀ p ∈ news, p.1 < dx) → @LT.lt Nat _ dx x → News h₀ L h' ((x, instObj 272 dx) :: (dx, dictOf [⟨z1, .str (Str.ofString "text") k1, .str y t⟩, ⟨z2, .str (Str.ofString "begin") k2, .int b tb⟩, ⟨z3, .str (Str.ofString "is_whole") k3, .bool true⟩, ⟨z4, .str (Str.ofString "at") k4, .int 0 ta⟩] 4) :: news) → Q (.ref x) { s with heap := h', toks := tk' }) :
   wpAny (model PySem.Challenge.rw_xw0207_01.row.prog w) (ktrTop dp un gd cn cs L a ccd cl outer) (call (.ref 272) [.str y t, .int b tb]) Q E s := by
  k_with_none
  k_with "call builtin:len" => (k_here; (with_reducible show wpAny _ _ (call _ [Value.str _ _]) _ _ _); k_dflt (refine' len_nat ?k1z0 ?_; (case k1z0 => first | assumption | decide)); k_whole; intro t9 tk9; (try dsimp only))
  k_with "subscriptTail" => (k_here; (with_reducible show wpAny _ _ (subscriptTail _ _ (Value.str _ _) (Value.int _ _)) _ _ _); k_dflt (refine' item_nat ?k1z1 ?k2z1 ?k3z1 ?_; (case k1z1 => assumption); (case k2z1 => assumption); (case k3z1 => first | (simp only [decide_eq_true_eq] at *; omega) | (simp only [decide_eq_true_eq, decide_eq_false_iff_not] at *; omega) | omega)); k_whole; intro c9 t9 tk9 hc9 hb9; (try dsimp only))
  k_with "exec Raise some none" => (k_here; k_dflt (refine' Raise_val (w := by assumption) ?khz2 ?_; (case khz2 => exact rfl)); k_whole)
  k_with "FltUp" => (k_here; k_dflt (refine' FltUp.mk ?kXz3 ?kFz3 ?kNz3 ?_; (case kXz3 => k_asm); (case kFz3 => k_asm); (case kNz3 => k_asm)); k_whole)
  k_with "leaving ref" => (k_here; first | (k_dflt (refine' air_firstN ?kKz4 ?kFz4 ?kNz4 ?kfz4 ?knz4 ?_; (case kFz4 => k_asm); (case kNz4 => k_asm); (case kKz4 => k_asm); (case kfz4 => exact rfl); (case knz4 => assumption)); k_whole; intro h9 R9 U9; (try dsimp only)) | (k_dflt (refine' air_on ?kKz4 ?kFz4 ?kRz4 ?kUz4 ?_; (case kRz4 => assumption); (case kFz4 => assumption); (case kUz4 => assumption); (case kKz4 => assumption)); k_whole; intro h9 R9 U9; (try dsimp only)))
  revert X; k_fill; intro X
  (k_dflt (refine' call_cls ?k1 ?k2 ?k3 ?k4 ?k5 ?k6 ?_; (case k1 => k_asm); (case k2 => k_asm); (case k3 => k_asm); (case k4 => k_is); (case k5 => k_is); (case k6 => k_is); k_whole; intro x' d' h' F' N' l1 l2; (try k_lt l1); (try k_lt2 l2); (try k_sweep)))
  (k_dflt (refine' code_def ?k1 ?k2 ?k3 ?k4 ?k5 ?kA ?kF ?kK ?k6 ?k7 ?k8 ?k9 ?kB ?_ ?c2 ?c3 ?c4 ?c5; (case kA => exact rfl); (case kF => exact rfl); (case kK => assumption); (case k1 => k_asm); (case k2 => k_asm); (case k3 => k_asm); (case k4 => k_asm); (case k5 => k_asm); (case k6 => k_is); (case k7 => k_is); (case k8 => ktr_room); (case k9 => first | exact binds_K (by k_in) rfl (by k_is) rfl rfl rfl | exact BindsTo.of_eq rfl); (case c5 => decide); (case kB => exact locs rfl); (case c2 => exact rfl); (case c3 => exact rfl); (case c4 => exact rfl); k_whole; intro g' L' h' FG' F' N' B' X' T'; (try dsimp only); (try k_lift B'); (try k_fold)))
  k_steps
  all_goals exact hret _ _ _ _ _ _ _ _ _ _ _ _ _ (by k_asm) (by assumption) (by assumption) (by k_asm)
set_option maxHeartbeats 400000 in
theorem scanner_w1 {w : World} {mean : ExcName → Option Value} {mg mb : Str → Option Value} {dp un : Nat} {gd : Option (List Code)} {cn : Str} {cs : Scope} {a : Addr} {ccd : Value} {cl : List (Str × Addr)} {outer : List Env} {A₀ : Around} {base h₀ : Heap} {L : Addr} {m : Str → Option Value} {s : Shared} {Q E : Value → Shared → Prop} {news : List (Addr × Obj)}
   (B : Below A₀ base outer h₀) (F : Fr h₀ L s.heap m) (X : (K w.params).In h₀) (N : News h₀ L s.heap news) (T : Top q (looseW q [Str.ofString "DtdFault"]) mean mg mb h₀) (hk : cs.kind = .function)
   (hd : dp + 40 < recursionLimit) (hu : un + 80 < cLine) (y : Str) (t : Tok) 
   (hret : ∀ (tb : Tok) (x dx : Addr) (z1 z2 z3 z4 : Int) (k1 k2 k3 k4 ta : Tok) (h' : Heap) (tk' : Nat), Fr h₀ L h' m → (∀ p ∈ news, p.1 < dx) → @LT.lt Nat _ dx x → News h₀ L h' ((x, instObj 272 dx) :: (dx, dictOf [⟨z1, .str (Str.ofString "text") k1, .str y t⟩, ⟨z2, .str (Str.ofString "begin") k2, .int 0 tb⟩, ⟨z3, .str (Str.ofString "is_whole") k3, .bool true⟩, ⟨z4, .str (Str.ofString "at") k4, .int 0 ta⟩] 4) :: news) → Q (.ref x) { s with heap := h', toks := tk' }) :
   wpAny (model PySem.Challenge.rw_xw0207_01.row.prog w) (ktrTop dp un gd cn cs L a ccd cl outer) (call (.ref 272) [.str y t]) Q E s := by
  k_with_none
  k_with "call builtin:len" => (k_here; (with_reducible show wpAny _ _ (call _ [Value.str _ _]) _ _ _); k_dflt (refine' len_nat ?k1z0 ?_; (case k1z0 => first | assumption | decide)); k_whole; intro t9 tk9; (try dsimp only))
  k_with "subscriptTail" => (k_here; (with_reducible show wpAny _ _ (subscriptTail _ _ (Value.str _ _) (Value.int _ _)) _ _ _); k_dflt (refine' item_nat ?k1z1 ?k2z1 ?k3z1 ?_; (case k1z1 => assumption); (case k2z1 => assumption); (case k3z1 => first | (simp only [decide_eq_true_eq] at *; omega) | (simp only [decide_eq_true_eq, decide_eq_false_iff_not] at *; omega) | omega)); k_whole; intro c9 t9 tk9 hc9 hb9; (try dsimp only))
  k_with "exec Raise some none" => (k_here; k_dflt (refine' Raise_val (w := by assumption) ?khz2 ?_; (case khz2 => exact rfl)); k_whole)
  k_with "FltUp" => (k_here; k_dflt (refine' FltUp.mk ?kXz3 ?kFz3 ?kNz3 ?_; (case kXz3 => k_asm); (case kFz3 => k_asm); (case kNz3 => k_asm)); k_whole)
  k_with "leaving ref" => (k_here; first | (k_dflt (refine' air_firstN ?kKz4 ?kFz4 ?kNz4 ?kfz4 ?knz4 ?_; (case kFz4 => k_asm); (case kNz4 => k_asm); (case kKz4 => k_asm); (case kfz4 => exact rfl); (case knz4 => assumption)); k_whole; intro h9 R9 U9; (try dsimp only)) | (k_dflt (refine' air_on ?kKz4 ?kFz4 ?kRz4 ?kUz4 ?_; (case kRz4 => assumption); (case kFz4 => assumption); (case kUz4 => assumption); (case kKz4 => assumption)); k_whole; intro h9 R9 U9; (try dsimp only)))
  revert X; k_fill; intro X
  (k_dflt (refine' call_cls ?k1 ?k2 ?k3 ?k4 ?k5 ?k6 ?_; (case k1 => k_asm); (case k2 => k_asm); (case k3 => k_asm); (case k4 => k_is); (case k5 => k_is); (case k6 => k_is); k_whole; intro x' d' h' F' N' l1 l2; (try k_lt l1); (try k_lt2 l2); (try k_sweep)))
  (k_dflt (refine' code_def ?k1 ?k2 ?k3 ?k4 ?k5 ?kA ?kF ?kK ?k6 ?k7 ?k8 ?k9 ?kB ?_ ?c2 ?c3 ?c4 ?c5; (case kA => exact rfl); (case kF => exact rfl); (case kK => assumption); (case k1 => k_asm); (case k2 => k_asm); (case k3 => k_asm); (case k4 => k_asm); (case k5 => k_asm); (case k6 => k_is); (case k7 => k_is); (case k8 => ktr_room); (case k9 => first | exact binds_K (by k_in) rfl (by k_is) rfl rfl rfl | exact BindsTo.of_eq rfl); (case c5 => decide); (case kB => exact locs rfl); (case c2 => exact rfl); (case c3 => exact rfl); (case c4 => exact rfl); k_whole; intro g' L' h' FG' F' N' B' X' T'; (try dsimp only); (try k_lift B'); (try k_fold)))
  k_steps
  all_goals exact hret _ _ _ _ _ _ _ _ _ _ _ _ _ _ (by k_asm) (by assumption) (by assumption) (by k_asm)
end
section
open PySem PySem.W PyProof.Rows PySem.Calls PySem.Spec
set_option maxHeartbeats 8000000
theorem ns_slots {h h' : Heap} {L : Addr} {m : Str → Option Value} (hn : h.Ns L m) (up : ∀ o, h.get? L = some o → ∃ sl, h'.get? L = some { o with slots := sl }) : h'.Ns L m := by
  obtain ⟨o, es, ep, ho, hd, hk, hf⟩ := hn
  obtain ⟨sl, hs⟩ := up o ho
  exact ⟨_, es, ep, hs, hd, hk, hf⟩
/-- a ground that a catch below has turned, and all that stands on it -/
structure Turned (A₀ : Around) (base : Heap) (outer : List Env) (KF : Frag) (p : Program) (loose : List Str) (mean : ExcName → Option Value) (mg mb : Str → Option Value) (h₀ : Heap) (L : Addr) (m : Str → Option Value) (news : List (Addr × Obj)) (h g : Heap) : Prop where
  turn : KtsTurn (outer.filterMap (·.frame)) h₀ g
  fr : Fr g L h m
  news : News g L h news
  below : Below A₀ base outer g
  inn : KF.In g
  top : Top p loose mean mg mb g
  dicts : KtsDicts (outer.filterMap (·.frame)) g
section
variable {A₀ : Around} {base : Heap} {outer : List Env} {KF : Frag} {p : Program} {loose : List Str} {mean : ExcName → Option Value} {mg mb : Str → Option Value} {h₀ g g' h' : Heap} {L L' : Addr} {m m' : Str → Option Value} {news' : List (Addr × Obj)}
theorem turn_back (B : Below A₀ base outer h₀) (FG : Fr h₀ L g m) (T' : KtsTurn (L :: outer.filterMap (·.frame)) g g') (F' : Fr g' L' h' m') (N' : News g' L' h' news') (XB : KF.In base) (TB : Top p loose mean mg mb base) (D : KtsDicts (outer.filterMap (·.frame)) h₀) :
    ∃ g₂, Turned A₀ base outer KF p loose mean mg mb h₀ L m news' h' g₂ := by
  have nL : h₀.get? L = none := kts_self FG
  have up : ∀ b o, g.get? b = some o → ∃ sl, g'.get? b = some { o with slots := sl } := fun b o e => T'.up e
  have oth : ∀ b o, h₀.get? b = some o → b ∉ outer.filterMap (·.frame) → h'.get? b = some o := fun b o e hm => F'.keep _ _ (T'.other b o (FG.keep b o e) fun q => by
    rcases List.mem_cons.mp q with rfl | q
    · rw [nL] at e; cases e
    · exact hm q)
  obtain ⟨T₁, S₁⟩ := kts_turn_at (h := h') (fs := outer.filterMap (·.frame)) (g := h₀) (fun b hb => let ⟨_, o, ho, _⟩ := B.frames.mem hb; ⟨o, ho⟩) oth fun b o e _ => let ⟨sl, hs⟩ := up b o (FG.keep b o e); ⟨sl, F'.keep _ _ hs⟩
  have st : base.StaysIn (ktsHeap h' (outer.filterMap (·.frame)) h₀) := fun b o e => T₁.other b o (B.stays b o e) fun hm => by
    rw [(B.frames.mem hm).1] at e; cases e
  refine ⟨ktsHeap h' (outer.filterMap (·.frame)) h₀, T₁, ⟨ns_slots FG.ns fun o ho => let ⟨sl, hs⟩ := up L o ho; ⟨sl, F'.keep _ _ hs⟩, S₁, by rw [T₁.size]; exact FG.above⟩, fun q hq => ⟨(N' q hq).1, fun e => ?_, T₁.none_ _ ?_⟩,
    ⟨B.stack, st, B.frames.of_keeps fun b o e _ => let ⟨sl, hs⟩ := T₁.up e; ⟨_, hs, rfl⟩⟩, XB.keeps st, TB.keeps st, D.turn T₁⟩
  · obtain ⟨o, es, ep, ho, _⟩ := FG.ns
    obtain ⟨sl, hs⟩ := up L o ho
    have := (N' q hq).2.2
    rw [e, hs] at this
    cases this
  · cases e : h₀.get? q.1 with
    | none => rfl
    | some o =>
      obtain ⟨sl, hs⟩ := up _ _ (FG.keep _ _ e)
      have := (N' q hq).2.2
      rw [hs] at this
      cases this
/-- the way out of a frame whose try has caught: the caller's ground may have turned -/
def LeaveT (A₀ : Around) (base : Heap) (outer : List Env) (KF : Frag) (p : Program) (loose : List Str) (mean : ExcName → Option Value) (mg mb : Str → Option Value) (h₀ : Heap) (L : Addr) (m : Str → Option Value) (g : Heap) (R : Result → Shared → Prop) (v : Value) (s' : Shared) : Prop :=
  ∃ g' L' m' news', KtsTurn (L :: outer.filterMap (·.frame)) g g' ∧ Fr g' L' s'.heap m' ∧ News g' L' s'.heap news' ∧ ∀ g₂, Turned A₀ base outer KF p loose mean mg mb h₀ L m news' s'.heap g₂ → R (.ok (.ret v)) s'
theorem leaveT_ {R : Result → Shared → Prop} {v : Value} {s' : Shared} (F' : Fr g' L' s'.heap m') (N' : News g' L' s'.heap news') (T' : KtsTurn (L :: outer.filterMap (·.frame)) g g')
    (k : ∀ g₂, Turned A₀ base outer KF p loose mean mg mb h₀ L m news' s'.heap g₂ → R (.ok (.ret v)) s') : LeaveT A₀ base outer KF p loose mean mg mb h₀ L m g R v s' := ⟨g', L', m', news', T', F', N', k⟩
variable {prog : Program} {w : World} {A : Around} {s : Shared} {env : Env} {news : List (Addr × Obj)} {R : Result → Shared → Prop} {name qual : Str} {params : Arguments} {body : List Stmt} {scope : Scope} {dV kV doc pm cdv ct oc : Value} {an od : Option Addr} {osl : Array (Option Value)} {f : Addr} {args : Args} {binds : List (Str × Value)}
theorem code_turn (B : Below A₀ base outer h₀) (F : Fr h₀ L s.heap m) (X₀ : KF.In h₀) (N : News h₀ L s.heap news) (T : Top p loose mean mg mb h₀) (XB : KF.In base) (TB : Top p loose mean mg mb base) (D : KtsDicts (outer.filterMap (·.frame)) h₀)
    (hA : A.frames = some (env :: outer)) (hf : env.frame = some L) (hke : env.scope.kind = .function)
    (ho : KF.lookup f = some ⟨oc, od, .func (fnOf name qual params body scope dV kV doc pm an cdv ct), osl⟩) (hcd : codeIn KF cdv qual = true) (hroom : A.depth < recursionLimit)
    (hbind : BindsTo s (fnOf name qual params body scope dV kV doc pm an cdv ct) args binds) (hloc : ∀ y ∈ binds, scope.names.lookup y.1 = some .local)
    (h : ∀ g L' h₁, Fr h₀ L g m → Fr g L' h₁ (fun y => binds.reverse.lookup y) → News g L' h₁ news → Below A base (env :: outer) g → KF.In g → Top p loose mean mg mb g → KtsDicts ((env :: outer).filterMap (·.frame)) g → KtsTurn ((env :: outer).filterMap (·.frame)) g g →
      wpAny (model prog w) (A.deeper (envOf qual scope L' f cdv)) (execs body (envOf qual scope L' f cdv))
        (fun fl s' => LeaveT A₀ base outer KF p loose mean mg mb h₀ L m g R (match fl with | .ret v => v | _ => .none) s')
        (fun e s' => wpAny (model prog w) (A.deeper (envOf qual scope L' f cdv)) (leaving (envOf qual scope L' f cdv) e) (fun _ s'' => R (.error e) s'') (fun e' s'' => R (.error e') s'') s')
        { s with heap := h₁, toks := s.toks + binds.length })
    (hco : scope.isCoroutine = false) (hgen : scope.isGenerator = false) (hk : scope.kind = .function)
    (hcell : ∀ x ∈ scope.names, x.2 ≠ .cell) : codeAny (model prog w) A (.call (.ref f) args) R s := by
  have X := X₀.keeps F.keep
  obtain ⟨FG, BG, st, _⟩ := groundX (R := R) B F N hA hf hke
  have DG : KtsDicts ((env :: outer).filterMap (·.frame)) (hideAll s.heap (news.map (·.1))) := fun b hb => by
    rw [List.filterMap_cons, hf] at hb
    rcases List.mem_cons.mp hb with rfl | hb
    · obtain ⟨o, es, ep, ho, hd, _⟩ := FG.ns
      exact ⟨o, es, ep, ho, hd⟩
    · obtain ⟨o, es, n, ho, hd⟩ := D b hb
      exact ⟨o, es, n, st b o ho, hd⟩
  refine codeAny_call_def (fd := fnOf name qual params body scope dV kV doc pm an cdv ct) (body := body) (binds := binds) hroom (X _ _ ho) rfl (T.nolimit.keeps F.keep) (codeRec_of X hcd) rfl hbind hcell hloc (fun h₁ hns hk₁ => ?_) hco hgen hk
  refine wpAny_mono (h _ s.heap.objs.size h₁ FG ⟨hns, fun b o e => hk₁ b o (of_hideAll _ e), Nat.le_of_eq (hideAll_size _ _)⟩
    (fun p hp => ⟨hk₁ _ _ (N p hp).1, Nat.ne_of_lt (Heap.lt_size (N p hp).1), hideAll_none _ (List.mem_map_of_mem hp)⟩) BG (X₀.keeps st) (T.keeps st) DG KtsTurn.refl) (fun fl s' hl => ?_) fun _ _ y => y
  obtain ⟨g', L', m', news', T', F', N', k⟩ := hl
  obtain ⟨g₂, Z⟩ := turn_back (KF := KF) B FG T' F' N' XB TB D
  exact k g₂ Z
theorem Turned.drop {h : Heap} {news₂ : List (Addr × Obj)} (Z : Turned A₀ base outer KF p loose mean mg mb h₀ L m news h g) (hs : ∀ q ∈ news₂, q ∈ news) : Turned A₀ base outer KF p loose mean mg mb h₀ L m news₂ h g :=
  ⟨Z.turn, Z.fr, fun q hq => Z.news q (hs q hq), Z.below, Z.inn, Z.top, Z.dicts⟩
/-- where nothing stands below, no ground turns -/
theorem Turned.flat {h : Heap} (Z : Turned A₀ base [] KF p loose mean mg mb h₀ L m news h g) : Fr h₀ L h m ∧ News h₀ L h news := by
  have k : ∀ b o, h₀.get? b = some o → g.get? b = some o := fun b o e => Z.turn.other b o e fun q => by simp at q
  refine ⟨⟨Z.fr.ns, fun b o e => Z.fr.keep b o (k b o e), by have := Z.fr.above; rw [Z.turn.size] at this; exact this⟩, fun q hq => ⟨(Z.news q hq).1, (Z.news q hq).2.1, ?_⟩⟩
  cases e : h₀.get? q.1 with
  | none => rfl
  | some o =>
    have := (Z.news q hq).2.2
    rw [k _ _ e] at this
    cases this
end
end
section
open PySem PySem.W PyProof.Rows PySem.Calls PySem.Spec Builtin Builtin.ObjectAttr
set_option maxHeartbeats 4000000
section
variable {prog : Program} {w : World} {A : Around} {E : Value → Shared → Prop} {s : Shared} {e : Addr} {ox : Obj} {od : Option Obj} {name : Str} {tk : Tok} {v : Value}
theorem flt_ga_entry {Q : Fin → Shared → Prop} (X : (K w.params).In s.heap) (I : InstAt s.heap e ox 147 od) (hf : findObj (K w.params) 147 od name = some (.value v)) (hq : Q (.done (.ret v)) s) :
    wpAny (model prog w) A (Builtin.«object.__getattribute__» ⟨[.ref e, .str name tk], []⟩) Q E s := by
  have L0 := I.type (M := model prog w)
  have L3 := looks_find (M := model prog w) X I hf
  obtain ⟨h, g, d, t, os⟩ := s
  repeat (any_goals (first | assumption | with_reducible refine L0.here ?_ | with_reducible refine L3.here ?_ | wp_step))
theorem flt_ga_call {R : Result → Shared → Prop} (X : (K w.params).In s.heap) (I : InstAt s.heap e ox 147 od) (hf : findObj (K w.params) 147 od name = some (.value v)) (hq : R (.ok (.ret v)) s) :
    codeAny (model prog w) A (.call (.builtin "BaseException.__getattribute__") ⟨[.ref e, .str name tk], []⟩) R s := by
  have FB := PySem.F.attrBase_Exception
  have hk : builtinKind "BaseException.__getattribute__" = some .slot := by decide +kernel
  have hsplit : splitId "BaseException.__getattribute__" = some ("BaseException", "__getattribute__") := by decide +kernel
  have sub : Looks (model prog w) s.heap (isInstance (.ref e) (.type "BaseException")) true := I.type.andThen (looks_subIn X (by kernel_rfl))
  exact codeAny_call_builtin FB.ga.plain PySem.F.entry_bexc_ga (@check_slot (model prog w) _ _ s "BaseException.__getattribute__" "BaseException" "__getattribute__" (.ref e) [.str name tk] [] _ hk hsplit sub (PySem.F.args_bexc_ga _ _) (flt_ga_entry X I hf hq))
theorem flt_get {expr : Bool} {Q : Value → Shared → Prop} (X : (K w.params).In s.heap) (I : InstAt s.heap e ox 147 od) (hf : findObj (K w.params) 147 od name = some (.value v)) (hh : handedIn v = true) (h : Q v { s with toks := s.toks + 1 }) :
    wpAny (model prog w) A (getAttr (.ref e) name expr) Q E s := by
  have FB := PySem.F.attrBase_Exception
  have f3 := FB.ga.bind (.ref e)
  have L0 := I.type (M := model prog w)
  have L1 : Looks (model prog w) s.heap (typeLookup (.ref 147) "__getattribute__") (some (.builtin "BaseException.__getattribute__")) := looks_findIn X (by kernel_rfl)
  have L2 : Looks (model prog w) s.heap (typeLookup (.ref 147) "__getattr__") none := looks_findIn X (by kernel_rfl)
  have hx0 : (expr && onTheHeap (Value.builtin "BaseException.__getattribute__")) = false := by cases expr <;> rfl
  have hx2 : (Value.builtin "BaseException.__getattribute__" == Value.builtin "object.__getattribute__") = false := by decide +kernel
  have hx1 : (onTheHeap (Value.ref 147) && Value.builtin "BaseException.__getattribute__" == Value.builtin "object.__getattribute__") = false := by rw [hx2]; rfl
  have hho : handedOut v = pure v := handedOut_of hh
  obtain ⟨hp, g, d, t, os⟩ := s
  unfold getAttr getAttrBy
  refine wpAny_bind (wpAny_mkText (wpAny_holding (wpAny_bind (L0.at (wpAny_bind (L1.at ?_))))))
  show wpAny _ _ (if (onTheHeap (Value.ref 147) && Value.builtin "BaseException.__getattribute__" == Value.builtin "object.__getattribute__") = true then _ else _) _ _ _
  rw [hx1, if_neg (by simp)]
  unfold getAttrByItsOwn hookBefore
  rw [if_pos (show onTheHeap (Value.ref 147) = true from rfl)]
  refine wpAny_bind (L2.at ?_)
  repeat (any_goals (first | assumption | wp_step))
  refine flt_ga_call (s := ⟨hp, g, d, _, os⟩) X I hf ?_
  repeat (any_goals (first | assumption | wp_step))
  all_goals trace_state
theorem held_place {P : Params} {zm zp pl : Int} {km kp tm tp : Tok} {msg : Str} : findObj (K P) 147 (some (fltDict zm zp km kp msg tm pl tp)) (Str.ofString "place") = some (.value (.int pl tp)) :=
  findObj_own (attr := none) (by kernel_rfl) (by kernel_rfl) (by kernel_rfl) (by with_unfolding_all rfl)
theorem held_inst {h₀ h : Heap} {L e ed : Addr} {news : List (Addr × Obj)} {vs : Array Value} {sl : Array (Option Value)} {es : List DictEntry} {n : Nat} (N : News h₀ L h news) (h1 : (e, heldObj ed vs sl) ∈ news) (h2 : (ed, dictOf es n) ∈ news) : InstAt h e (heldObj ed vs sl) 147 (some (dictOf es n)) := ⟨(N _ h1).1, rfl, rfl, (N _ h2).1⟩
end
end
section
open PySem PySem.W PyProof.Rows PySem.Calls
set_option maxHeartbeats 8000000
theorem lt_apart {dx : Addr} {news : List (Addr × Obj)} (h : ∀ p ∈ news, p.1 < dx) : ∀ p ∈ news, p.1 ≠ dx := fun p hp => Nat.ne_of_lt (h p hp)
set_option maxHeartbeats 800000 in
theorem kind_bad_w {w : World} {mean : ExcName → Option Value} {mg mb : Str → Option Value} {dp un : Nat} {gd : Option (List Code)} {cn : Str} {cs : Scope} {a : Addr} {ccd : Value} {cl : List (Str × Addr)} {outer : List Env} {A₀ : Around} {base h₀ : Heap} {L : Addr} {m : Str → Option Value} {s : Shared} {Q E : Value → Shared → Prop} {news : List (Addr × Obj)}
   (B : Below A₀ base outer h₀) (F : Fr h₀ L s.heap m) (X : (K w.params).In h₀) (N : News h₀ L s.heap news) (T : Top q (looseW q [Str.ofString "DtdFault"]) mean mg mb h₀) (hk : cs.kind = .function) (XB : (K w.params).In base) (TB : Top q (looseW q [Str.ofString "DtdFault"]) mean mg mb base) (D : KtsDicts (outer.filterMap (·.frame)) h₀)
   (hd : dp + 260 < recursionLimit) (hu : un + 480 < cLine) (y : Str) (t : Tok) (hyl : y.length < 1048576) (hy : Asc y) (b : Int) (tb : Tok) (td : Tok) (pl : Value)
   (hK : ∀ r, KAns y.cps.toList 0 r → ∃ p, r = .error p ∧ (pl = .none ∨ ∃ tp, pl = .int (p : Int) tp))
   (hret : ∀ (h' g₂ : Heap) (tk' : Nat), Turned A₀ base outer (K w.params) q (looseW q [Str.ofString "DtdFault"]) mean mg mb h₀ L m news h' g₂ → Q (.bool true) { s with heap := h', toks := tk' }) :
   wpAny (model PySem.Challenge.rw_xw0207_01.row.prog w) (ktrTop dp un gd cn cs L a ccd cl outer) (call (.ref 304) [.str y t, .int b tb, .str (Str.ofString "refused") td, pl]) Q E s := by
  k_with_none
  k_with "call builtin:len" => (k_here; (with_reducible show wpAny _ _ (call _ [Value.str _ _]) _ _ _); k_dflt (refine' len_nat ?k1z0 ?_; (case k1z0 => first | assumption | decide)); k_whole; intro t9 tk9; (try dsimp only))
  k_with "subscriptTail" => (k_here; (with_reducible show wpAny _ _ (subscriptTail _ _ (Value.str _ _) (Value.int _ _)) _ _ _); k_dflt (refine' item_nat ?k1z1 ?k2z1 ?k3z1 ?_; (case k1z1 => assumption); (case k2z1 => assumption); (case k3z1 => first | (simp only [decide_eq_true_eq] at *; omega) | (simp only [decide_eq_true_eq, decide_eq_false_iff_not] at *; omega) | omega)); k_whole; intro c9 t9 tk9 hc9 hb9; (try dsimp only))
  k_with "exec Raise some none" => (k_here; k_dflt (refine' Raise_val (w := by assumption) ?khz2 ?_; (case khz2 => exact rfl)); k_whole)
  k_with "FltUp" => (k_here; k_dflt (refine' FltUp.mk ?kXz3 ?kFz3 ?kNz3 ?_; (case kXz3 => k_asm); (case kFz3 => k_asm); (case kNz3 => k_asm)); k_whole)
  k_with "leaving ref" => (k_here; first | (k_dflt (refine' air_firstN ?kKz4 ?kFz4 ?kNz4 ?kfz4 ?knz4 ?_; (case kFz4 => k_asm); (case kNz4 => k_asm); (case kKz4 => k_asm); (case kfz4 => exact rfl); (case knz4 => assumption)); k_whole; intro h9 R9 U9; (try dsimp only)) | (k_dflt (refine' air_on ?kKz4 ?kFz4 ?kRz4 ?kUz4 ?_; (case kRz4 => assumption); (case kFz4 => assumption); (case kUz4 => assumption); (case kKz4 => assumption)); k_whole; intro h9 R9 U9; (try dsimp only)))
  k_with "call ref" => (k_here; k_dflt (refine' scanner_w ?k1z5 ?k2z5 ?k3z5 ?k4z5 ?k5z5 ?kKz5 ?kdz5 ?kuz5 _ _ _ _ ?_; (case k1z5 => k_asm); (case k2z5 => k_asm); (case k3z5 => k_asm); (case k4z5 => k_asm); (case k5z5 => k_asm); (case kKz5 => first | exact rfl | assumption); (case kdz5 => ktr_room); (case kuz5 => ktr_units);  k_whole); intro x9 dx9 z19 z29 z39 z49 k19 k29 k39 k49 ta9 h9 tk9 F9 l8 l9 N9; have hr9 := lt_apart l8; (try dsimp only); (try k_sweep))
  k_with "call ref" => (k_here; k_dflt (refine' read_kind_w ?k1z6 ?k2z6 ?k3z6 ?k4z6 ?k6z6 ?k7z6 ?k8z6 ?k9z6 ?k5z6 ?kKz6 ?kdz6 ?kuz6 _ ?klz6 ?katz6 ?_ ?_; (case k1z6 => k_asm); (case k2z6 => k_asm); (case k3z6 => k_asm); (case k4z6 => k_asm); (case k6z6 => assumption); (case k7z6 => assumption); (case k8z6 => assumption); (case k9z6 => first | assumption | exact ledR (by assumption) (by assumption)); (case k5z6 => k_asm); (case kKz6 => first | exact rfl | assumption); (case kdz6 => ktr_room); (case kuz6 => ktr_units); (case katz6 => exact rfl); (case klz6 => exact Nat.zero_le _); k_whole; intro nm9 ks9 n9 A9 R9 T9 vs9 tn9 t9 h9 tk9 F9 N9 S9; (try dsimp only); (try k_sweep); rotate_left 1; k_whole; intro p9 A9 e9 ed9 zm9 zp9 km9 kp9 ms9 tm9 tp9 at9 t9 g9 h9 tk9 F9 R9 U9; (try dsimp only); (try k_sweep); rotate_left 1))
  k_with "noteFrame ref" => (k_here; k_dflt (refine' air_caught_as ?kRz7 ?kFz7 ?kKz7 ?kUz7 ?kXz7 ?kTz7 ?kDz7 ?k0z7 ?ktz7 ?_; (case kRz7 => assumption); (case kFz7 => assumption); (case kKz7 => assumption); (case kUz7 => assumption); (case kXz7 => assumption); (case kTz7 => assumption); (case kDz7 => assumption); (case k0z7 => assumption); (case ktz7 => exact test_name (c := .ref 147) (Or.inl (by kernel_rfl)) (by kernel_rfl) rfl rfl (by decide)); k_whole); intro h9 g9 tk9 vs9 sl9 T9 F9 N9 B9 X9 P9 D9; (try dsimp only))
  k_with "getAttr ref" => (k_here; k_dflt (refine' flt_get ?kXz8 ?kIz8 ?kfz8 ?khz8 ?_; (case kXz8 => exact Frag.In.keeps (by k_asm) (Fr.keep (by k_asm))); (case kIz8 => exact held_inst (by k_asm) (by k_mem) (by k_mem)); (case kfz8 => exact held_place); (case khz8 => k_handed); k_whole))
  k_with "compareOp Is" => (k_here; (rcases hK _ (by assumption) with ⟨p0, e0, hp0 | ⟨tp0, hp0⟩⟩ <;> (subst hp0; cases e0)))
  k_with "storeName" => (k_here; (exfalso; obtain ⟨_, hz, _⟩ := hK (.ok _) (by assumption); cases hz))
  revert X; k_fill; intro X
  refine wpAny_call ?_
  (k_dflt (refine' code_turn ?k1 ?k2 ?k3 ?k4 ?k5 ?XB ?TB ?D ?kA ?kF ?kK ?k6 ?k7 ?k8 ?k9 ?kB ?_ ?c2 ?c3 ?c4 ?c5; (case kA => exact rfl); (case kF => exact rfl); (case kK => assumption); (case k1 => k_asm); (case k2 => k_asm); (case XB => assumption); (case TB => assumption); (case D => assumption); (case k3 => k_asm); (case k4 => k_asm); (case k5 => k_asm); (case k6 => k_is); (case k7 => k_is); (case k8 => ktr_room); (case k9 => first | exact BindsTo.of_eq rfl | exact binds_K (by k_in) rfl (by k_is) rfl rfl rfl); (case kB => exact locs rfl); (case c2 => exact rfl); (case c3 => exact rfl); (case c4 => exact rfl); (case c5 => decide); k_whole; intro g' L' h' FG' F' N' B' X' T' D' T0'; (try dsimp only); (try k_lift B'); (try k_fold)))
  k_steps
  · exact leaveT_ (by k_asm) (by k_asm) (by assumption) fun g₂ Z => hret _ _ _ (Z.drop fun p hp => .tail _ (.tail _ (.tail _ (.tail _ hp))))
  · rw [BEq.rfl]
    exact leaveT_ (by k_asm) (by k_asm) (by assumption) fun g₂ Z => hret _ _ _ (Z.drop fun p hp => .tail _ (.tail _ (.tail _ (.tail _ hp))))
end
section
open PySem PySem.W PyProof.Rows PySem.Calls
set_option maxHeartbeats 8000000
theorem reads_strs {h : Heap} : ∀ {vs : List Value} {ks : List Str}, Strs vs ks → ReadsAll h vs (ks.map PyData.str) []
  | [], [], _ => .nil
  | [], _ :: _, h => by have := h.1; simp at this
  | _ :: _, [], h => by have := h.1; simp at this
  | v :: vs, k :: ks, h => by
    obtain ⟨hl, h⟩ := h
    obtain ⟨k', t, h1, h2⟩ := h 0 v rfl
    have h3 : k = k' := Option.some.inj h1
    subst h2 h3
    exact .cons (as := []) (bs := []) (.str _ _) (reads_strs ⟨by simpa using hl, fun j v e => h (j + 1) v e⟩)
abbrev kindD (nm : Str) (ks : List Str) : PyData := .tuple [.str nm, .tuple (ks.map PyData.str)]
theorem eqv_kind {nm : Str} {ks : List Str} (h : SeqAt.shaped (kindD nm ks) = true) : PyData.eqv (kindD nm ks) (kindD nm ks) = true := by
  unfold SeqAt.shaped at h
  exact SeqAt.eqv_refl _ (Bool.and_eq_true_iff.mp h).1
theorem eqv_not (nm k : Str) (ks : List Str) : PyData.eqv (kindD nm ks) (.str k) = false := by simp [PyData.eqv]
theorem reads_kind {h₀ h : Heap} {L R₁ T₁ : Addr} {news : List (Addr × Obj)} {nm : Str} {tn : Tok} {vs : List Value} {ks : List Str} (N : News h₀ L h news) (h1 : (R₁, tupOf [.str nm tn, .ref T₁]) ∈ news) (h2 : (T₁, tupOf vs) ∈ news) (S : Strs vs ks) : Reads h (.ref R₁) (kindD nm ks) [] :=
  .tuple (N _ h1).1 rfl rfl (.cons (as := []) (bs := []) (.str _ _) (.cons (as := []) (bs := []) (.tuple (N _ h2).1 rfl rfl (reads_strs S)) .nil))
theorem kind_one {l : List Nat} {nm nm' : Str} {ks ks' : List Str} {p p' : Nat} (h : ∀ r, KAns l 0 r → r = .ok (nm, ks, p)) (a : KAns l 0 (.ok (nm', ks', p'))) : nm' = nm ∧ ks' = ks ∧ p' = p := by
  have := h _ a
  cases this
  exact ⟨rfl, rfl, rfl⟩
theorem kind_not {l : List Nat} {nm : Str} {ks : List Str} {p p' : Nat} (h : ∀ r, KAns l 0 r → r = .ok (nm, ks, p)) (a : KAns l 0 (.error p')) : False := by
  have := h _ a
  cases this
theorem eq_kinds {prog : Program} {w : World} {A : Around} {E : Value → Shared → Prop} {s : Shared} {Q : Value → Shared → Prop} {h₀ : Heap} {L R₁ T₁ R₂ T₂ : Addr} {news : List (Addr × Obj)} {nm : Str} {tn tn2 : Tok} {vs vs2 : List Value} {ks : List Str} (N : News h₀ L s.heap news)
    (h1 : (R₁, tupOf [.str nm tn, .ref T₁]) ∈ news) (h2 : (T₁, tupOf vs) ∈ news) (S : Strs vs ks) (h3 : (R₂, tupOf [.str nm tn2, .ref T₂]) ∈ news) (h4 : (T₂, tupOf vs2) ∈ news) (S2 : Strs vs2 ks) (hL : SeqAt.shaped (kindD nm ks) = true) (hu : A.units + 64 < cLine)
    (h : Q (.bool true) s) : wpAny (model prog w) A (compareOp .Eq (.ref R₁) (.ref R₂)) Q E s :=
  eq_dataH (reads_kind N h1 h2 S) (reads_kind N h3 h4 S2) hL hL hu (by rw [eqv_kind hL]; exact h)
set_option maxHeartbeats 800000 in
theorem kind_ok_w {w : World} {mean : ExcName → Option Value} {mg mb : Str → Option Value} {dp un : Nat} {gd : Option (List Code)} {cn : Str} {cs : Scope} {a : Addr} {ccd : Value} {cl : List (Str × Addr)} {outer : List Env} {A₀ : Around} {base h₀ : Heap} {L : Addr} {m : Str → Option Value} {s : Shared} {Q E : Value → Shared → Prop} {news : List (Addr × Obj)}
   (B : Below A₀ base outer h₀) (F : Fr h₀ L s.heap m) (X : (K w.params).In h₀) (N : News h₀ L s.heap news) (T : Top q (looseW q [Str.ofString "DtdFault"]) mean mg mb h₀) (hk : cs.kind = .function) (XB : (K w.params).In base) (TB : Top q (looseW q [Str.ofString "DtdFault"]) mean mg mb base) (D : KtsDicts (outer.filterMap (·.frame)) h₀) {R₁ T₁ : Addr} {nm : Str} {tn : Tok} {vs : List Value} {ks : List Str}
   (hd : dp + 260 < recursionLimit) (hu : un + 480 < cLine) (y : Str) (t : Tok) (hyl : y.length < 1048576) (hy : Asc y) (b : Int) (tb : Tok) (p : Nat) (tp : Tok)
   (hR : (R₁, tupOf [.str nm tn, .ref T₁]) ∈ news) (hT : (T₁, tupOf vs) ∈ news) (hS : Strs vs ks) (hL : SeqAt.shaped (kindD nm ks) = true)
   (hK : ∀ r, KAns y.cps.toList 0 r → r = .ok (nm, ks, p))
   (hret : ∀ (h' g₂ : Heap) (tk' : Nat), Turned A₀ base outer (K w.params) q (looseW q [Str.ofString "DtdFault"]) mean mg mb h₀ L m news h' g₂ → Q (.bool true) { s with heap := h', toks := tk' }) :
   wpAny (model PySem.Challenge.rw_xw0207_01.row.prog w) (ktrTop dp un gd cn cs L a ccd cl outer) (call (.ref 304) [.str y t, .int b tb, .ref R₁, .int (p : Int) tp]) Q E s := by
  k_with_none
  k_with "call builtin:len" => (k_here; (with_reducible show wpAny _ _ (call _ [Value.str _ _]) _ _ _); k_dflt (refine' len_nat ?k1z0 ?_; (case k1z0 => first | assumption | decide)); k_whole; intro t9 tk9; (try dsimp only))
  k_with "subscriptTail" => (k_here; (with_reducible show wpAny _ _ (subscriptTail _ _ (Value.str _ _) (Value.int _ _)) _ _ _); k_dflt (refine' item_nat ?k1z1 ?k2z1 ?k3z1 ?_; (case k1z1 => assumption); (case k2z1 => assumption); (case k3z1 => first | (simp only [decide_eq_true_eq] at *; omega) | (simp only [decide_eq_true_eq, decide_eq_false_iff_not] at *; omega) | omega)); k_whole; intro c9 t9 tk9 hc9 hb9; (try dsimp only))
  k_with "exec Raise some none" => (k_here; k_dflt (refine' Raise_val (w := by assumption) ?khz2 ?_; (case khz2 => exact rfl)); k_whole)
  k_with "FltUp" => (k_here; k_dflt (refine' FltUp.mk ?kXz3 ?kFz3 ?kNz3 ?_; (case kXz3 => k_asm); (case kFz3 => k_asm); (case kNz3 => k_asm)); k_whole)
  k_with "leaving ref" => (k_here; first | (k_dflt (refine' air_firstN ?kKz4 ?kFz4 ?kNz4 ?kfz4 ?knz4 ?_; (case kFz4 => k_asm); (case kNz4 => k_asm); (case kKz4 => k_asm); (case kfz4 => exact rfl); (case knz4 => assumption)); k_whole; intro h9 R9 U9; (try dsimp only)) | (k_dflt (refine' air_on ?kKz4 ?kFz4 ?kRz4 ?kUz4 ?_; (case kRz4 => assumption); (case kFz4 => assumption); (case kUz4 => assumption); (case kKz4 => assumption)); k_whole; intro h9 R9 U9; (try dsimp only)))
  k_with "call ref" => (k_here; k_dflt (refine' scanner_w ?k1z5 ?k2z5 ?k3z5 ?k4z5 ?k5z5 ?kKz5 ?kdz5 ?kuz5 _ _ _ _ ?_; (case k1z5 => k_asm); (case k2z5 => k_asm); (case k3z5 => k_asm); (case k4z5 => k_asm); (case k5z5 => k_asm); (case kKz5 => first | exact rfl | assumption); (case kdz5 => ktr_room); (case kuz5 => ktr_units);  k_whole); intro x9 dx9 z19 z29 z39 z49 k19 k29 k39 k49 ta9 h9 tk9 F9 l8 l9 N9; have hr9 := lt_apart l8; (try dsimp only); (try k_sweep))
  k_with "call ref" => (k_here; k_dflt (refine' read_kind_w ?k1z6 ?k2z6 ?k3z6 ?k4z6 ?k6z6 ?k7z6 ?k8z6 ?k9z6 ?k5z6 ?kKz6 ?kdz6 ?kuz6 _ ?klz6 ?katz6 ?_ ?_; (case k1z6 => k_asm); (case k2z6 => k_asm); (case k3z6 => k_asm); (case k4z6 => k_asm); (case k6z6 => assumption); (case k7z6 => assumption); (case k8z6 => assumption); (case k9z6 => first | assumption | exact ledR (by assumption) (by assumption)); (case k5z6 => k_asm); (case kKz6 => first | exact rfl | assumption); (case kdz6 => ktr_room); (case kuz6 => ktr_units); (case katz6 => exact rfl); (case klz6 => exact Nat.zero_le _); k_whole; intro nm9 ks9 n9 A9 R9 T9 vs9 tn9 t9 h9 tk9 F9 N9 S9; obtain ⟨e91, e92, e93⟩ := kind_one (by assumption) A9; subst e91 e92 e93; (try dsimp only); (try k_sweep); rotate_left 1; k_whole; intro p9 A9; exact (kind_not (by assumption) A9).elim; (try dsimp only); (try k_sweep); rotate_left 1))
  k_with "compareOp Eq ref ref" => (k_here; k_dflt (refine' eq_kinds ?jNz7 ?j1z7 ?j2z7 ?j3z7 ?j4z7 ?j5z7 ?j6z7 ?j7z7 ?juz7 ?_; (case jNz7 => k_asm); (case j1z7 => k_mem); (case j2z7 => k_mem); (case j3z7 => assumption); (case j4z7 => repeat (first | assumption | refine List.Mem.tail _ ?_)); (case j5z7 => repeat (first | assumption | refine List.Mem.tail _ ?_)); (case j6z7 => assumption); (case j7z7 => assumption); (case juz7 => ktr_units)))
  k_with "compareOp NotEq ref str" => (k_here; k_dflt (refine' ne_dataH (reads_kind ?kNy1 ?k1y1 ?k2y1 hS) (.str _ _) hL ?ksy1 ?kuy1 ?_; (case kNy1 => k_asm); (case k1y1 => repeat (first | exact hR | refine List.Mem.tail _ ?_)); (case k2y1 => repeat (first | exact hT | refine List.Mem.tail _ ?_)); (case ksy1 => decide +kernel); (case kuy1 => ktr_units)); rw [eqv_not])
  revert X; k_fill; intro X
  refine wpAny_call ?_
  (k_dflt (refine' code_turn ?k1 ?k2 ?k3 ?k4 ?k5 ?XB ?TB ?D ?kA ?kF ?kK ?k6 ?k7 ?k8 ?k9 ?kB ?_ ?c2 ?c3 ?c4 ?c5; (case kA => exact rfl); (case kF => exact rfl); (case kK => assumption); (case k1 => k_asm); (case k2 => k_asm); (case XB => assumption); (case TB => assumption); (case D => assumption); (case k3 => k_asm); (case k4 => k_asm); (case k5 => k_asm); (case k6 => k_is); (case k7 => k_is); (case k8 => ktr_room); (case k9 => first | exact BindsTo.of_eq rfl | exact binds_K (by k_in) rfl (by k_is) rfl rfl rfl); (case kB => exact locs rfl); (case c2 => exact rfl); (case c3 => exact rfl); (case c4 => exact rfl); (case c5 => decide); k_whole; intro g' L' h' FG' F' N' B' X' T' D' T0'; (try dsimp only); (try k_lift B'); (try k_fold)))
  k_steps
  rw [BEq.rfl]
  exact leaveT_ (by k_asm) (by k_asm) KtsTurn.refl fun g₂ Z => hret _ _ _ (Z.drop fun p hp => .tail _ (.tail _ (.tail _ (.tail _ hp))))
end
section
open PySem PySem.W PyProof.Rows PyProof.V PySem.Calls PySem.Spec
set_option maxHeartbeats 8000000
section
variable {prog : Program} {w : World} {A : Around} {E : Value → Shared → Prop} {s : Shared} {env : Env} {h₀ : Heap} {x : Str} {body : List Stmt} {Q : Flow → Shared → Prop}
theorem loop_J2 {m₀ : Str → Option Value} {news : List (Addr × Obj)} {o : Obj} {n : Nat} {P : Nat → Value → Prop} {St : Nat → Heap → Prop}
    (W : Walks prog w A s.heap.objs.size [s.heap.objs.size] [s.heap.objs.size] n P St) (st : St 0 (s.heap.push o))
    (hIo : ∀ i h, St i h → ∃ o, h.get? s.heap.objs.size = some o) (F : Fr h₀ env.locals s.heap m₀) (N : News h₀ env.locals s.heap news)
    (J : Nat → (Str → Option Value) → List (Addr × Obj) → Prop) (h0 : J 0 m₀ news)
    (turn : ∀ i v m₁ news₁ own h₁ tk₁, i < n → P i v → J i m₁ news₁ → (∀ q ∈ own, q.1 = s.heap.objs.size) → (∃ q ∈ own, q.1 = s.heap.objs.size) → (∀ p ∈ news₁, p.1 ≠ s.heap.objs.size) →
      Fr h₀ env.locals h₁ (fun y => if y = x then some v else m₁ y) → News h₀ env.locals h₁ (news₁ ++ own) →
      wpAny (model prog w) A (execs body env) (ForEnd h₀ env.locals s s.heap.objs.size own (J (i + 1)) Q) E { s with heap := h₁, toks := tk₁ })
    (done : ∀ h' tk m' news', Fr h₀ env.locals h' m' → News h₀ env.locals h' news' → J n m' news' → Q .next { s with heap := h', toks := tk }) :
    LoopAtV prog w A h₀ env x body Q E (.ref s.heap.objs.size) { s with heap := s.heap.push o } := by
  refine ⟨s.heap.objs.size, [s.heap.objs.size], [s.heap.objs.size], n, P, St, m₀, news, J, rfl, W, ?_, ?_, ?_, st, F.push _, (fun p hp => ⟨Heap.get?_push_of_some _ (N p hp).1, (N p hp).2⟩), h0, ?_, ?_⟩
  · intro hm
    exact absurd F.ns.lt ((List.mem_singleton.mp hm) ▸ Nat.lt_irrefl _)
  · intro b hb
    rw [List.mem_singleton.mp hb]
    exact next_is_new F
  · intro p hp hI
    exact absurd (Heap.lt_size (N p hp).1) ((List.mem_singleton.mp hI) ▸ Nat.lt_irrefl _)
  · rintro i v m₁ news₁ s₁ own ⟨h₁, tk₁, rfl⟩ hi hP hJ hoff hsub _ hall hst₁ F₁ N₁
    have z := turn i v m₁ news₁ own h₁ tk₁ hi hP hJ (fun q hq => List.mem_singleton.mp (hsub q hq)) (let ⟨o, ho⟩ := hIo _ _ hst₁; ⟨_, hall _ (List.mem_singleton.mpr rfl) (next_is_new F) o ho, rfl⟩) (fun p hp e => hoff p hp (List.mem_singleton.mpr e)) F₁ (news_swap N₁)
    refine wpAny_mono z (fun f s₃ h₃ => ?_) fun _ _ e => e
    cases f with
    | next =>
      obtain ⟨h', tk, m₂, news₂, rfl, F₂, N₂, ha, hJ₂⟩ := h₃
      exact LoopStepV.next (LoopStepU.intro F₂ (news_swap N₂) (fun p hp hb => ha p hp (List.mem_singleton.mp hb)) hJ₂)
    | cont => exact h₃.elim
    | brk => exact LoopStepV.brk h₃
    | ret v => exact LoopStepV.ret h₃
  · intro h' tk m' news' F' N' _ hJ
    exact done h' tk m' news' F' N' hJ
theorem str_J2 {y : Str} {t : Tok} {m₀ : Str → Option Value} {news : List (Addr × Obj)} (hh : A.handled = none) (ha : y.cps.all (· < 128) = true)
    (F : Fr h₀ env.locals s.heap m₀) (N : News h₀ env.locals s.heap news)
    (J : Nat → (Str → Option Value) → List (Addr × Obj) → Prop) (h0 : J 0 m₀ news)
    (turn : ∀ i c t m₁ news₁ own h₁ tk₁, y.cps.toList[i]? = some c → J i m₁ news₁ → (∀ q ∈ own, q.1 = s.heap.objs.size) → (∃ q ∈ own, q.1 = s.heap.objs.size) → (∀ p ∈ news₁, p.1 ≠ s.heap.objs.size) →
      Fr h₀ env.locals h₁ (fun z => if z = x then some (.str ⟨#[c]⟩ t) else m₁ z) → News h₀ env.locals h₁ (news₁ ++ own) →
      wpAny (model prog w) A (execs body env) (ForEnd h₀ env.locals s s.heap.objs.size own (J (i + 1)) Q) E { s with heap := h₁, toks := tk₁ })
    (done : ∀ h' tk m' news', Fr h₀ env.locals h' m' → News h₀ env.locals h' news' → J y.length m' news' → Q .next { s with heap := h', toks := tk }) :
    wpAny (model prog w) A (pyIter (.str y t)) (fun it s₂ => LoopAtV prog w A h₀ env x body Q E it s₂) E s := by
  refine wpAny_pyIter_ascii ha ?_
  refine loop_J2 (Walks.strAscii hh s.heap.objs.size y t) ⟨_, Heap.get?_push_size _ rfl, rfl, rfl⟩ (fun i h st => let ⟨o, ho, _⟩ := st; ⟨o, ho⟩) F N J h0 ?_ done
  rintro i v m₁ news₁ own h₁ tk₁ hi hP hJ ho hx hn F₁ N₁
  obtain ⟨c, u, hc, rfl⟩ := hP
  exact turn i c u m₁ news₁ own h₁ tk₁ (by rw [Array.getElem?_toList]; exact hc) hJ ho hx hn F₁ N₁
end
end
section
open PySem PySem.W PyProof.Rows PyProof.V PySem.Calls PySem.Spec
set_option maxHeartbeats 8000000
/-- the three sorts of blanks that a public name may have -/
def bl3 (c : Nat) : Bool := c == 32 || c == 13 || c == 10
/-- the words that the law has gathered, and the word under way -/
def wst (l : List Nat) : List Str × List Nat := l.foldl (fun z c => if bl3 c then (z.1 ++ [⟨z.2.toArray⟩], []) else (z.1, z.2 ++ [c])) ([], [])
theorem wst_snoc (l : List Nat) (c : Nat) : wst (l ++ [c]) = if bl3 c then ((wst l).1 ++ [⟨(wst l).2.toArray⟩], []) else ((wst l).1, (wst l).2 ++ [c]) := by
  unfold wst
  rw [List.foldl_append]
  rfl
theorem plain_occ : ∀ c, c < 128 → (Builtin.Str.occurrences (Str.ofString "-'()+,./:=?;!*#@$_%") ⟨#[c]⟩ 0 (Str.ofString "-'()+,./:=?;!*#@$_%").length 1).isEmpty = !([45, 39, 40, 41, 43, 44, 46, 47, 58, 61, 63, 59, 33, 42, 35, 64, 36, 95, 37].contains c) := by decide +kernel
theorem bl_occ : ∀ c, c < 128 → (Builtin.Str.occurrences (Str.ofString " \x0d\n") ⟨#[c]⟩ 0 (Str.ofString " \x0d\n").length 1).isEmpty = !(bl3 c) := by decide +kernel
/-- a sign of a public name that is no blank -/
def plB (c : Nat) : Bool := (decide (48 ≤ c) && decide (c ≤ 57)) || (decide (65 ≤ c) && decide (c ≤ 90)) || (decide (97 ≤ c) && decide (c ≤ 122)) || [45, 39, 40, 41, 43, 44, 46, 47, 58, 61, 63, 59, 33, 42, 35, 64, 36, 95, 37].contains c
theorem pub_is : ∀ c, c < 128 → (plB c || bl3 c) = pubB c := by decide +kernel
theorem wst_len (l : List Nat) : (wst l).1.length + (wst l).2.length ≤ l.length ∧ (wst l).1.length ≤ l.length := by
  have key : ∀ (l : List Nat) (a : List Str) (b : List Nat), let z := l.foldl (fun z c => if bl3 c then (z.1 ++ [⟨z.2.toArray⟩], []) else (z.1, z.2 ++ [c])) (a, b); z.1.length + z.2.length ≤ a.length + b.length + l.length ∧ z.1.length ≤ a.length + l.length := by
    intro l
    induction l with
    | nil => intro a b; simp
    | cons c l ih =>
      intro a b
      rw [List.foldl_cons]
      by_cases h : bl3 c
      · simp only [h, if_true]
        have := ih (a ++ [⟨b.toArray⟩]) []
        simp only [List.length_append, List.length_cons, List.length_nil] at this ⊢
        omega
      · simp only [h, Bool.false_eq_true, if_false]
        have := ih a (b ++ [c])
        simp only [List.length_append, List.length_cons, List.length_nil] at this ⊢
        omega
  have := key l [] []
  simp only [List.length_nil] at this
  unfold wst
  omega
theorem news_tail' {h₀ h : Heap} {L : Addr} {p : Addr × Obj} {news : List (Addr × Obj)} (N : News h₀ L h (p :: news)) : News h₀ L h news := fun q hq => N q (.tail _ hq)
theorem asc_all {y : Str} (h : Asc y) : y.cps.all (· < 128) = true := by
  rw [← Array.all_toList, List.all_eq_true]
  exact fun c hc => decide_eq_true (h c hc)
theorem wst_weight (l : List Nat) : ((wst l).1.map (·.length)).sum + (wst l).1.length + (wst l).2.length = l.length := by
  have key : ∀ (l : List Nat) (a : List Str) (b : List Nat), let z := l.foldl (fun z c => if bl3 c then (z.1 ++ [⟨z.2.toArray⟩], []) else (z.1, z.2 ++ [c])) (a, b); (z.1.map (·.length)).sum + z.1.length + z.2.length = (a.map (·.length)).sum + a.length + b.length + l.length := by
    intro l
    induction l with
    | nil => intro a b; simp
    | cons c l ih =>
      intro a b
      rw [List.foldl_cons]
      by_cases h : bl3 c
      · simp only [h, if_true]
        have := ih (a ++ [⟨b.toArray⟩]) []
        have e : (⟨b.toArray⟩ : Str).length = b.length := by show (List.toArray b).size = _; simp
        simp only [List.length_append, List.length_cons, List.length_nil, List.map_append, List.sum_append, List.map_cons, List.map_nil, List.sum_cons, List.sum_nil, e] at this ⊢
        omega
      · simp only [h, Bool.false_eq_true, if_false]
        have := ih a (b ++ [c])
        simp only [List.length_append, List.length_cons, List.length_nil] at this ⊢
        omega
  have := key l [] []
  simpa [wst] using this
theorem sum_filter (p : Str → Bool) : ∀ ks : List Str, ((ks.filter p).map (·.length)).sum ≤ (ks.map (·.length)).sum ∧ (ks.filter p).length ≤ ks.length
  | [] => by simp
  | k :: ks => by
    obtain ⟨h1, h2⟩ := sum_filter p ks
    by_cases h : p k = true
    · rw [List.filter_cons_of_pos h]
      simp only [List.map_cons, List.sum_cons, List.length_cons]
      omega
    · rw [List.filter_cons_of_neg h]
      simp only [List.map_cons, List.sum_cons, List.length_cons]
      omega
theorem wst_fits {u : Str} (h : u.length < 65536) (p : Str → Bool) : ((((wst u.cps.toList).1 ++ [(⟨(wst u.cps.toList).2.toArray⟩ : Str)]).filter p).map (·.length)).sum + (((wst u.cps.toList).1 ++ [(⟨(wst u.cps.toList).2.toArray⟩ : Str)]).filter p).length * (Str.ofString " ").length ≤ 16777216 := by
  have e1 : (Str.ofString " ").length = 1 := by decide +kernel
  have h1 := wst_weight u.cps.toList
  have h2 := sum_filter p ((wst u.cps.toList).1 ++ [(⟨(wst u.cps.toList).2.toArray⟩ : Str)])
  have e : (⟨(wst u.cps.toList).2.toArray⟩ : Str).length = (wst u.cps.toList).2.length := by show (List.toArray _).size = _; simp
  simp only [List.length_append, List.length_cons, List.length_nil, List.map_append, List.sum_append, List.map_cons, List.map_nil, List.sum_cons, List.sum_nil, e] at h2
  rw [len_list] at h1
  rw [e1]
  omega
section
variable {prog : Program} {w : World} {A : Around} {E : Value → Shared → Prop} {s : Shared} {env : Env} {h₀ : Heap} {body : List Stmt} {Q : Flow → Shared → Prop}
/-- the frame of the loop over a public name's signs -/
def prF (m : Str → Option Value) (W : Value) (b : Bool) (A B C : Option Value) (z : Str) : Option Value :=
  if z = Str.ofString "words" then some W else if z = Str.ofString "is_let" then some (.bool b) else if z = Str.ofString "is_plain" then A else if z = Str.ofString "code" then B else if z = Str.ofString "sign" then C else m z
def PrJ (u : Str) (m : Str → Option Value) (news : List (Addr × Obj)) (i : Nat) (m₁ : Str → Option Value) (news₁ : List (Addr × Obj)) : Prop :=
  ∃ D gs t c A B C, m₁ = prF m (.ref D) ((u.cps.toList.take i).all pubB) A B C ∧ news₁ = (D, W.listOf (List.toArray (gs ++ [Value.str ⟨(wst (u.cps.toList.take i)).2.toArray⟩ t])) c) :: news ∧ Strs gs (wst (u.cps.toList.take i)).1
theorem prF_start {m : Str → Option Value} {W : Value} (h1 : m (Str.ofString "is_plain") = none) (h2 : m (Str.ofString "code") = none) (h3 : m (Str.ofString "sign") = none) :
    (fun z => if z = Str.ofString "words" then some W else if z = Str.ofString "is_let" then some (Value.bool true) else m z) = prF m W true none none none := by
  funext z
  unfold prF
  by_cases e1 : z = Str.ofString "words"
  · rw [if_pos e1, if_pos e1]
  · by_cases e2 : z = Str.ofString "is_let"
    · rw [if_neg e1, if_pos e2, if_neg e1, if_pos e2]
    · rw [if_neg e1, if_neg e2, if_neg e1, if_neg e2]
      by_cases e3 : z = Str.ofString "is_plain"
      · rw [if_pos e3, e3, h1]
      · rw [if_neg e3]
        by_cases e4 : z = Str.ofString "code"
        · rw [if_pos e4, e4, h2]
        · rw [if_neg e4]
          by_cases e5 : z = Str.ofString "sign"
          · rw [if_pos e5, e5, h3]
          · rw [if_neg e5]
theorem For_pr {u : Str} {t₀ tw : Tok} {D : Addr} {cD : Nat} {p : Addr × Obj} {m : Str → Option Value} {news : List (Addr × Obj)} (hh : A.handled = none) (hu : Asc u)
    (F : Fr h₀ env.locals s.heap (fun z => if z = Str.ofString "words" then some (Value.ref D) else if z = Str.ofString "is_let" then some (Value.bool true) else m z)) (N : News h₀ env.locals s.heap (p :: (D, W.listOf (List.toArray [Value.str (Str.ofString "") tw]) cD) :: news))
    (h1 : m (Str.ofString "is_plain") = none) (h2 : m (Str.ofString "code") = none) (h3 : m (Str.ofString "sign") = none)
    (turn : ∀ i c t D' gs t' c' A' B C own h₁ tk₁, u.cps.toList[i]? = some c → c < 128 → Strs gs (wst (u.cps.toList.take i)).1 → (∀ q' ∈ own, q'.1 = s.heap.objs.size) → (∃ q' ∈ own, q'.1 = s.heap.objs.size) → (∀ p' ∈ news, p'.1 ≠ s.heap.objs.size) →
      Fr h₀ env.locals h₁ (fun z => if z = Str.ofString "sign" then some (.str ⟨#[c]⟩ t) else prF m (.ref D') ((u.cps.toList.take i).all pubB) A' B C z) →
      News h₀ env.locals h₁ ((D', W.listOf (List.toArray (gs ++ [Value.str ⟨(wst (u.cps.toList.take i)).2.toArray⟩ t'])) c') :: (news ++ own)) →
      wpAny (model prog w) A (execs body env) (ForEnd h₀ env.locals s s.heap.objs.size own (PrJ u m news (i + 1)) Q) E { s with heap := h₁, toks := tk₁ })
    (done : ∀ h' tk D' gs t' c' A' B C, Fr h₀ env.locals h' (prF m (.ref D') (u.cps.toList.all pubB) A' B C) → News h₀ env.locals h' ((D', W.listOf (List.toArray (gs ++ [Value.str ⟨(wst u.cps.toList).2.toArray⟩ t'])) c') :: news) → Strs gs (wst u.cps.toList).1 → Q .next { s with heap := h', toks := tk }) :
    wpAny (model prog w) A (pyIter (.str u t₀)) (fun it s₂ => LoopAtV prog w A h₀ env (Str.ofString "sign") body Q E it s₂) E s := by
  rw [prF_start h1 h2 h3] at F
  have N := news_tail' N
  refine str_J2 hh (asc_all hu) F N (PrJ u m news) ⟨D, [], tw, cD, none, none, none, by simp, by simp [wst]; decide +kernel, ⟨rfl, fun j v h => by simp at h⟩⟩ ?_ ?_
  · rintro i c t m₁ news₁ own h₁ tk₁ hc ⟨D', gs, t', c', A', B, C, rfl, rfl, hg⟩ ho hx hn F₁ N₁
    exact turn i c t D' gs t' c' A' B C own h₁ tk₁ hc (hu c (List.mem_of_getElem? hc)) hg ho hx (fun p hp => hn p (.tail _ hp)) F₁ N₁
  · rintro h' tk m' news' F' N' ⟨D', gs, t', c', A', B, C, rfl, rfl, hg⟩
    have e : u.cps.toList.take u.length = u.cps.toList := List.take_of_length_le (by rw [len_list]; exact Nat.le_refl _)
    rw [e] at F' N' hg
    exact done h' tk D' gs t' c' A' B C F' N' hg
theorem pr_next {u : Str} {m : Str → Option Value} {I L D D' : Addr} {news own : List (Addr × Obj)} {i tk cD : Nat} {h' : Heap} {b' b : Bool} {A' A'' B B' C C' : Option Value} {gs : List Value} {k : Str} {t : Tok}
    (F : Fr h₀ L h' (fun z => if z = Str.ofString "words" then some (Value.ref D) else if z = Str.ofString "is_let" then some (Value.bool b') else if z = Str.ofString "is_plain" then A' else if z = Str.ofString "code" then B else if z = Str.ofString "sign" then C else prF m (.ref D') b A'' B' C' z))
    (N : News h₀ L h' ((D, W.listOf (List.toArray (gs ++ [Value.str k t])) cD) :: (news ++ own))) (hD : D ≠ I) (hn : ∀ p' ∈ news, p'.1 ≠ I) (hb : b' = (u.cps.toList.take (i + 1)).all pubB)
    (hk : k = ⟨(wst (u.cps.toList.take (i + 1))).2.toArray⟩) (hg : Strs gs (wst (u.cps.toList.take (i + 1))).1) :
    ForEnd h₀ L s I own (PrJ u m news (i + 1)) Q .next { s with heap := h', toks := tk } := by
  have e : (fun z => if z = Str.ofString "words" then some (Value.ref D) else if z = Str.ofString "is_let" then some (Value.bool b') else if z = Str.ofString "is_plain" then A' else if z = Str.ofString "code" then B else if z = Str.ofString "sign" then C else prF m (.ref D') b A'' B' C' z) =
      prF m (.ref D) b' A' B C := by
    funext z
    unfold prF
    by_cases e1 : z = Str.ofString "words"
    · rw [if_pos e1, if_pos e1]
    · by_cases e2 : z = Str.ofString "is_let"
      · rw [if_neg e1, if_pos e2, if_neg e1, if_pos e2]
      · by_cases e3 : z = Str.ofString "is_plain"
        · rw [if_neg e1, if_neg e2, if_pos e3, if_neg e1, if_neg e2, if_pos e3]
        · by_cases e4 : z = Str.ofString "code"
          · rw [if_neg e1, if_neg e2, if_neg e3, if_pos e4, if_neg e1, if_neg e2, if_neg e3, if_pos e4]
          · by_cases e5 : z = Str.ofString "sign"
            · rw [if_neg e1, if_neg e2, if_neg e3, if_neg e4, if_pos e5, if_neg e1, if_neg e2, if_neg e3, if_neg e4, if_pos e5]
            · simp only [e1, e2, e3, e4, e5, if_false]
  rw [e] at F
  subst hb hk
  refine ⟨h', tk, _, (D, _) :: news, rfl, F, N, fun p hp => ?_, D, gs, t, cD, A', B, C, rfl, rfl, hg⟩
  rcases List.mem_cons.mp hp with rfl | hp
  · exact hD
  · exact hn p hp
end
theorem take_step {l : List Nat} {i c : Nat} (h : l[i]? = some c) : l.take (i + 1) = l.take i ++ [c] := by
  rw [List.take_add_one, h]; rfl
/-- the words that space_split finds are the words that the law gathers, the empty ones left out -/
theorem spl_wst {u : Str} (hp : ∀ c ∈ u.cps.toList, pubB c = true) : ∀ i, i ≤ u.length →
    (wst (u.cps.toList.take i)).2 = (u.cps.toList.drop (spl u i).1).take (i - (spl u i).1) ∧ (spl u i).1 ≤ i ∧ (spl u i).2 = (wst (u.cps.toList.take i)).1.filter (fun k => k != ⟨#[]⟩)
  | 0, _ => by simp [spl, wst]
  | i + 1, hi => by
    obtain ⟨h1, h2, h3⟩ := spl_wst hp i (by omega)
    have hi' : i < u.cps.toList.length := by rw [len_list]; omega
    obtain ⟨c, hc⟩ : ∃ c, u.cps.toList[i]? = some c := ⟨_, List.getElem?_eq_getElem hi'⟩
    have hpc := hp c (List.mem_of_getElem? hc)
    have hsb : spB c = bl3 c := by
      have hb : c ≠ 9 := by rintro rfl; exact absurd hpc (by decide +kernel)
      unfold spB bl3
      rw [Bool.eq_iff_iff]
      simp only [Bool.or_eq_true, beq_iff_eq]
      omega
    rw [take_step hc, wst_snoc]
    by_cases hb : bl3 c = true
    · have hy := @spl_yes u i (.inr (by rw [hc]; show spB c = true; rw [hsb]; exact hb))
      rw [hy]
      simp only [hb, if_true]
      refine ⟨by simp, Nat.le_refl _, ?_⟩
      rw [List.filter_append, ← h3]
      by_cases hlt : (spl u i).1 < i
      · rw [if_pos hlt, ← h1]
        have : ((⟨(wst (u.cps.toList.take i)).2.toArray⟩ : Str) != ⟨#[]⟩) = true := by
          rw [bne_iff_ne]
          intro e
          have e2 : (wst (u.cps.toList.take i)).2 = [] := by
            have := congrArg (fun s : Str => s.cps.toList) e
            simpa using this
          rw [h1] at e2
          have := congrArg List.length e2
          simp only [List.length_take, List.length_drop, List.length_nil] at this
          omega
        simp [this]
      · rw [if_neg hlt]
        have e2 : (wst (u.cps.toList.take i)).2 = [] := by
          rw [h1]
          have : i - (spl u i).1 = 0 := by omega
          rw [this]; rfl
        rw [e2]
        simp
    · have hn := @spl_no u i (not_or.mpr ⟨by omega, by rw [hc]; show ¬ spB c = true; rw [hsb]; exact hb⟩)
      rw [hn]
      simp only [hb, Bool.false_eq_true, if_false]
      refine ⟨?_, by omega, h3⟩
      rw [h1]
      have e1 : i + 1 - (spl u i).1 = (i - (spl u i).1) + 1 := by omega
      rw [e1, List.take_add_one, List.getElem?_drop]
      have e2 : (spl u i).1 + (i - (spl u i).1) = i := by omega
      rw [e2, hc]
      rfl
theorem spl_words {u : Str} (hp : ∀ c ∈ u.cps.toList, pubB c = true) : (spl u (u.length + 1)).2 = ((wst u.cps.toList).1 ++ [(⟨(wst u.cps.toList).2.toArray⟩ : Str)]).filter (fun k => k != (⟨#[]⟩ : Str)) := by
  obtain ⟨h1, h2, h3⟩ := spl_wst hp u.length (Nat.le_refl _)
  have e : u.cps.toList.take u.length = u.cps.toList := List.take_of_length_le (by rw [len_list]; exact Nat.le_refl _)
  rw [e] at h1 h3
  rw [@spl_yes u u.length (.inl rfl), List.filter_append, ← h3]
  by_cases hlt : (spl u u.length).1 < u.length
  · simp only [if_pos hlt]
    rw [← h1]
    have : ((⟨(wst u.cps.toList).2.toArray⟩ : Str) != ⟨#[]⟩) = true := by
      rw [bne_iff_ne]
      intro e
      have e2 : (wst u.cps.toList).2 = [] := by
        have := congrArg (fun s : Str => s.cps.toList) e
        simpa using this
      rw [h1] at e2
      have := congrArg List.length e2
      simp only [List.length_take, List.length_drop, List.length_nil, len_list] at this
      omega
    simp [this]
  · simp only [if_neg hlt]
    have e2 : (wst u.cps.toList).2 = [] := by
      rw [h1]
      have : u.length - (spl u u.length).1 = 0 := by omega
      rw [this]; rfl
    rw [e2]
    simp
end
section
open PySem PySem.W PyProof.Rows PyProof.V PySem.Calls PySem.Spec
set_option maxHeartbeats 4000000
section
variable {prog : Program} {w : World} {A : Around} {h₀ : Heap} {L : Addr} {m : Str → Option Value} {env : Env} {ct elt : Expr} {x : Str} {scope : Scope} {cl : List (Str × Addr)} {s : Shared} {S : List (Addr × Obj) → Prop} {Fin : List Value → List (Addr × Obj) → Prop} {news : List (Addr × Obj)}
/-- a comprehension over texts that keeps those that p holds of -/
theorem rest_texts {vs : List Value} {ks : List Str} (p : Str → Bool) (hs : Strs vs ks)
    (turn : ∀ (k : Str) (t : Tok) I oI C oC D m₂ ys h tk (E' : Value → Shared → Prop), LCg.NsObj oC m₂ → m₂ x = some (.str k t) → Fr h₀ L h m → News h₀ L h ((I, oI) :: (C, oC) :: (D, LCg.lst ys) :: news) → LCg.Off3 I C D news → ((@Ne Nat I C) ∧ (@Ne Nat I D) ∧ (@Ne Nat C D)) →
      wpAny (model prog w) A (isTrue ct (compEnvC scope cl C env) (eval ct (compEnvC scope cl C env))) (fun ok s' => if ok = true then
        wpAny (model prog w) A (eval elt (compEnvC scope cl C env)) (LCg.CompEnd h₀ L m { s with heap := h, toks := tk } I oI C oC D (LCg.lst ys) S (fun y news' => news' = news ∧ p k = true ∧ ∃ t', y = .str k t')) E' s'
        else LCg.CompEnd h₀ L m { s with heap := h, toks := tk } I oI C oC D (LCg.lst ys) S (fun _ news' => news' = news ∧ p k = false) Value.none s') E' { s with heap := h, toks := tk })
    (fin : ∀ ys, Strs ys (ks.filter p) → Fin ys news) : LCt.CompRestT prog w A h₀ L m env ct elt x scope cl s S (fun i v => vs.toArray[i]? = some v) Fin vs.length 0 [] news := by
  have key : ∀ (j i : Nat) (ys : List Value), i + j = vs.length → Strs ys ((ks.take i).filter p) → LCt.CompRestT prog w A h₀ L m env ct elt x scope cl s S (fun i v => vs.toArray[i]? = some v) Fin j i ys news := by
    intro j
    induction j with
    | zero =>
      intro i ys hi hy
      have e : i = ks.length := by have := hs.1; omega
      subst e
      rw [List.take_length] at hy
      exact LCt.CompRestT.zero (fin ys hy)
    | succ j ih =>
      intro i ys hi hy
      refine LCt.CompRestT.succ ?_
      intro v I oI C oC D m₂ h tk E' hv hC hx F N off ne
      obtain ⟨k, t, hk, hv'⟩ := hs.2 i v (by simpa using hv)
      rw [hv'] at hx
      refine wpAny_mono (turn k t I oI C oC D m₂ ys h tk E' hC hx F N off ne) (fun ok s₂ hq => ?_) fun _ _ e => e
      cases ok with
      | true =>
        simp only [if_true] at hq ⊢
        refine wpAny_mono hq (fun y s₃ hq => ?_) fun _ _ e => e
        obtain ⟨h', tk', nw, e, F', N', off', hS, hn, hp, t', hy'⟩ := hq
        rw [hn] at N' off' hS
        refine ⟨h', tk', news, e, F', N', off', hS, ?_⟩
        rw [hy']
        refine ih (i + 1) _ (by omega) ?_
        rw [List.take_add_one, hk, List.filter_append]
        have : List.filter p [k] = [k] := by simp [hp]
        show Strs _ (_ ++ List.filter p [k])
        rw [this]
        exact strs_snoc hy
      | false =>
        simp only [Bool.false_eq_true, if_false] at hq ⊢
        obtain ⟨h', tk', nw, e, F', N', off', hS, hn, hp⟩ := hq
        rw [hn] at N' off' hS
        refine ⟨h', tk', news, e, F', N', off', hS, ?_⟩
        refine ih (i + 1) _ (by omega) ?_
        rw [List.take_add_one, hk, List.filter_append]
        have : List.filter p [k] = [] := by simp [hp]
        show Strs _ (_ ++ List.filter p [k])
        rw [this, List.append_nil]
        exact hy
  exact key vs.length 0 [] (by omega) ⟨rfl, fun j v h => by simp at h⟩
end
end
section
open PySem PySem.W PyProof.Rows PySem.Calls
set_option maxHeartbeats 8000000
def CutAt (b : Bool) (s : Shared) (v : Value) (s' : Shared) : Prop := v = .bool b ∧ ∃ k, s' = { s with toks := k }
theorem bool_cut {M : Model} {A : Around} {E : Value → Shared → Prop} {s : Shared} {t : Sem Value} {Q : Value → Shared → Prop} (b : Bool) (h : wpAny M A t (CutAt b s) E s) (k : ∀ k, Q (.bool b) { s with toks := k }) : wpAny M A t Q E s :=
  wpAny_mono h (fun v s' z => by obtain ⟨rfl, k', rfl⟩ := z; exact k k') fun _ _ x => x
section
variable {prog : Program} {w : World} {A : Around} {E : Value → Shared → Prop} {s : Shared} {h₀ : Heap} {L a b l : Addr} {m : Str → Option Value} {news : List (Addr × Obj)} {vs gs : List Value} {v x : Value} {Q : Value → Shared → Prop} {value slice : PySem.Expr} {vl vu : Value} {u : Tok}
theorem add_snoc (F : Fr h₀ L s.heap m) (N : News h₀ L s.heap news) (ha : s.heap.IsList a (List.toArray vs)) (hb : s.heap.IsList b #[x])
    (h : ∀ D h', Fr h₀ L h' m → News h₀ L h' ((D, W.listOf (List.toArray (vs ++ [x])) 0) :: news) → (∀ p ∈ news, p.1 < D) → Q (.ref D) { s with heap := h' })
    (hz : vs.length < 1048576) : wpAny (model prog w) A (binaryOp .Add (.ref a) (.ref b)) Q E s :=
  kmk_add_lit F N ha hb (by simp) h (by rw [sizeLine_eq]; simp; omega)
theorem cut_last (F : Fr h₀ L s.heap m) (N : News h₀ L s.heap news) (hl : s.heap.IsList l (List.toArray (gs ++ [v])))
    (h : ∀ D h', Fr h₀ L h' m → News h₀ L h' ((D, W.listOf (List.toArray gs) 0) :: news) → (∀ p ∈ news, p.1 < D) → Q (.ref D) { s with heap := h' })
    (hs : subscripted slice false (.ref l) (.ref s.heap.objs.size) = operate [.ref s.heap.objs.size, .ref l] (getItem (.ref l) (.ref s.heap.objs.size))) (ht : ∀ r, letTemporaryGo value (.ref l) r = pure ()) (hz : gs.length < 1048576) :
    wpAny (model prog w) A (subscriptTail value slice (.ref l) (.ref s.heap.objs.size)) Q E { s with heap := s.heap.push { cls := .type "slice", data := .fields #[.none, .int (-1) u, .none] } } := by
  refine kmk_slice_lit F N hl .none (.int _ _) ?_ h hs ht (by rw [sizeLine_eq]; simp; omega)
  have e : sliceBounds none (some (-1)) none (List.toArray (gs ++ [v])).size = (((0 : Nat) : Int), ((gs.length : Nat) : Int), 1) := by
    simp only [sliceBounds, Option.getD_none, show (1 : Int) > 0 by decide, if_true, show (-1 : Int) < 0 by decide, List.size_toArray, List.length_append, List.length_cons, List.length_nil]
    congr 1
    congr 1
    omega
  rw [kmk_pick_nat _ e]
  simp
end
theorem gs_small {u : Str} {i c : Nat} {gs : List Value} (hul : u.length < 65536) (hc : u.cps.toList[i]? = some c) (h : Strs gs (wst (u.cps.toList.take i)).1) : gs.length < 65536 ∧ (wst (u.cps.toList.take i)).2.length < 65536 := by
  have h1 := h.1
  have h2 := wst_len (u.cps.toList.take i)
  have h3 : (u.cps.toList.take i).length ≤ u.cps.toList.length := by rw [List.length_take]; omega
  rw [len_list] at h3
  omega
theorem gs_small' {u : Str} {gs : List Value} (hul : u.length < 65536) (h : Strs gs (wst u.cps.toList).1) : gs.length < 65536 := by
  have h1 := h.1
  have h2 := wst_len u.cps.toList
  rw [len_list] at h2
  omega
theorem apart_own {D I : Addr} {l own : List (Addr × Obj)} (h : ∀ p ∈ l, p.1 < D) (hx : ∃ q ∈ own, q.1 = I) (hs : ∀ q ∈ own, q ∈ l) : D ≠ I := by
  obtain ⟨q, hq, rfl⟩ := hx
  exact Nat.ne_of_gt (h q (hs q hq))
theorem str_snoc (x : List Nat) (c : Nat) : (⟨x.toArray⟩ : Str) ++ (⟨#[c]⟩ : Str) = ⟨(x ++ [c]).toArray⟩ := Str.ext' (by rw [PySem.Str.cps_append]; simp)
theorem bl_no {c : Nat} (hc : c < 128) (h : (Builtin.Str.occurrences (Str.ofString " \x0d\n") ⟨#[c]⟩ 0 (Str.ofString " \x0d\n").length 1).isEmpty = true) : bl3 c = false := by
  rw [bl_occ c hc] at h
  simpa using h
theorem bl_yes {c : Nat} (hc : c < 128) (h : (Builtin.Str.occurrences (Str.ofString " \x0d\n") ⟨#[c]⟩ 0 (Str.ofString " \x0d\n").length 1).isEmpty = false) : bl3 c = true := by
  rw [bl_occ c hc] at h
  simpa using h
theorem news_pick {h₀ h : Heap} {L : Addr} {p : Addr × Obj} {l r : List (Addr × Obj)} (N : News h₀ L h (p :: l)) (hs : ∀ q ∈ r, q ∈ l) : News h₀ L h (p :: r) := fun q hq => N q (by
  rcases List.mem_cons.mp hq with rfl | hq
  · exact .head _
  · exact .tail _ (hs q hq))
theorem mt_str : (⟨(([] : List Nat)).toArray⟩ : Str) = Str.ofString "" := by decide +kernel
theorem lt_apart' {dx : Addr} {news : List (Addr × Obj)} (h : ∀ p ∈ news, p.1 < dx) : ∀ p ∈ news, p.1 ≠ dx := fun p hp => Nat.ne_of_lt (h p hp)
theorem asc_nil : Asc (Str.ofString "") := by
  have e : (Str.ofString "").cps.toList = [] := by decide +kernel
  intro c hc
  rw [e] at hc
  cases hc
theorem len_nil : (Str.ofString "").length < 1048576 := by decide +kernel
theorem mt_str2 : (⟨#[]⟩ : Str) = Str.ofString "" := by decide +kernel
theorem same_words {u : Str} (hp : ∀ c ∈ u.cps.toList, pubB c = true) : (Txt.join (Str.ofString " ") (spl u (u.length + 1)).2 == Txt.join (Str.ofString " ") (List.filter (fun k => k != Str.ofString "") ((wst u.cps.toList).1 ++ [(⟨(wst u.cps.toList).2.toArray⟩ : Str)]))) = true := by
  rw [spl_words hp, mt_str2]
  exact BEq.rfl
theorem all_pub {u : Str} (hp : ∀ c ∈ u.cps.toList, pubB c = true) : u.cps.toList.all pubB = true := List.all_eq_true.mpr hp
theorem not_pub {u : Str} (hp : ∃ c ∈ u.cps.toList, pubB c = false) : u.cps.toList.all pubB = false := by
  obtain ⟨c, hc, h⟩ := hp
  rw [Bool.eq_false_iff]
  intro z
  rw [List.all_eq_true.mp z c hc] at h
  cases h
set_option maxHeartbeats 1000000 in
theorem public_right_w {w : World} {mean : ExcName → Option Value} {mg mb : Str → Option Value} {dp un : Nat} {gd : Option (List Code)} {cn : Str} {cs : Scope} {a : Addr} {ccd : Value} {cl : List (Str × Addr)} {outer : List Env} {A₀ : Around} {base h₀ : Heap} {L : Addr} {m : Str → Option Value} {s : Shared} {Q E : Value → Shared → Prop} {news : List (Addr × Obj)}
   (B : Below A₀ base outer h₀) (F : Fr h₀ L s.heap m) (X : (K w.params).In h₀) (N : News h₀ L s.heap news) (T : Top q (looseW q [Str.ofString "DtdFault"]) mean mg mb h₀) (hk : cs.kind = .function) (XB : (K w.params).In base) (TB : Top q (looseW q [Str.ofString "DtdFault"]) mean mg mb base) (D : KtsDicts (outer.filterMap (·.frame)) h₀)
   (hd : dp + 160 < recursionLimit) (hu : un + 300 < cLine) (u : Str) (tu : Tok) (hul : u.length < 65536) (hua : Asc u)
   (hret : ∀ (h' g₂ : Heap) (tk' : Nat), Turned A₀ base outer (K w.params) q (looseW q [Str.ofString "DtdFault"]) mean mg mb h₀ L m news h' g₂ → Q (.bool true) { s with heap := h', toks := tk' }) :
   wpAny (model PySem.Challenge.rw_xw0207_01.row.prog w) (ktrTop dp un gd cn cs L a ccd cl outer) (call (.ref 328) [.str u tu]) Q E s := by
  k_with_none
  k_with "call builtin:len" => (k_here; (with_reducible show wpAny _ _ (call _ [Value.str _ _]) _ _ _); k_dflt (refine' len_nat ?k1z0 ?_; (case k1z0 => first | assumption | decide)); k_whole; intro t9 tk9; (try dsimp only))
  k_with "subscriptTail" => (k_here; (with_reducible show wpAny _ _ (subscriptTail _ _ (Value.str _ _) (Value.int _ _)) _ _ _); k_dflt (refine' item_nat ?k1z1 ?k2z1 ?k3z1 ?_; (case k1z1 => assumption); (case k2z1 => assumption); (case k3z1 => first | (simp only [decide_eq_true_eq] at *; omega) | (simp only [decide_eq_true_eq, decide_eq_false_iff_not] at *; omega) | omega)); k_whole; intro c9 t9 tk9 hc9 hb9; (try dsimp only))
  k_with "exec Raise some none" => (k_here; k_dflt (refine' Raise_val (w := by assumption) ?khz2 ?_; (case khz2 => exact rfl)); k_whole)
  k_with "FltUp" => (k_here; k_dflt (refine' FltUp.mk ?kXz3 ?kFz3 ?kNz3 ?_; (case kXz3 => k_asm); (case kFz3 => k_asm); (case kNz3 => k_asm)); k_whole)
  k_with "leaving ref" => (k_here; first | (k_dflt (refine' air_firstN ?kKz4 ?kFz4 ?kNz4 ?kfz4 ?knz4 ?_; (case kFz4 => k_asm); (case kNz4 => k_asm); (case kKz4 => k_asm); (case kfz4 => exact rfl); (case knz4 => assumption)); k_whole; intro h9 R9 U9; (try dsimp only)) | (k_dflt (refine' air_on ?kKz4 ?kFz4 ?kRz4 ?kUz4 ?_; (case kRz4 => assumption); (case kFz4 => assumption); (case kUz4 => assumption); (case kKz4 => assumption)); k_whole; intro h9 R9 U9; (try dsimp only)))
  k_with "binaryOp Add ref ref" => (k_here; k_dflt (refine' add_snoc ?jFz5 ?jNz5 ?jaz5 ?jbz5 ?_ ?jzz5; (case jFz5 => k_asm); (case jNz5 => k_asm); (case jaz5 => exact News.isList (by k_asm) (by k_mem)); (case jbz5 => exact News.isList (by k_asm) (by k_mem)); (case jzz5 => first | assumption | omega | (simp only [List.length_append, List.length_cons, List.length_nil]; omega))); intro D9 h9 F9 N9 l9)
  k_with "subscriptTail Name Slice ref ref" => (k_here; k_dflt (refine' cut_last ?jFz6 ?jNz6 ?jlz6 ?_ ?jsz6 ?jtz6 ?jzz6; (case jFz6 => k_asm); (case jNz6 => k_asm); (case jlz6 => exact News.isList (by k_asm) (by k_mem)); (case jsz6 => with_unfolding_all rfl); (case jtz6 => kmk_pure); (case jzz6 => first | assumption | omega)); intro D9 h9 F9 N9 l9)
  k_with "subscriptTail" => (k_here; (with_reducible show wpAny _ _ (subscriptTail _ _ (Value.ref _) (Value.int _ _)) _ _ _); k_dflt (refine' item_last ?jlz7 ?_; (case jlz7 => exact News.isList (by k_asm) (by k_mem))); k_whole)
  k_with "eval ListComp" => (k_here; k_dflt (refine LCt.ListComp_T (F₀ := by k_asm) (by with_unfolding_all rfl) (by decide) (by rfl) (by decide) (by rfl) ?_))
  k_with "CompSrcT" => (k_here; k_dflt (refine LCt.CompSrcT.ledger (its := List.toArray _) (by rfl) (by k_asm) (by k_asm) (by k_mem) ?kzz9 ?_; (case kzz9 => (rw [sizeLine_eq]; simp only [List.size_toArray, List.length_append, List.length_cons, List.length_nil]; omega)); intro g'; refine' rest_texts (fun k => k != Str.ofString "") ?hsz9 ?turnz9 ?finz9; (case hsz9 => exact strs_snoc (by assumption)); (case' turnz9 => (intro k9 t9 I9 oI9 C9 oC9 D9 m9 ys9 h9 tk9 E9 hC9 hx9 F9 N9 off9 ne9)); (case' finz9 => (intro ys9 hS9))))
  k_with "CompEnd" => (k_here; k_dflt (refine LCg.CompEnd.intro (by assumption) (by k_asm) _ (fun p hp => hp) (by assumption) (Or.inr ⟨_, by k_mem, rfl, _, rfl⟩) ?_); first | exact ⟨rfl, by assumption, _, rfl⟩ | exact ⟨rfl, by assumption⟩)
  k_with "noteFrame ref" => (k_here; k_dflt (refine' air_caught ?kRz11 ?kFz11 ?kKz11 ?kUz11 ?kXz11 ?kTz11 ?kDz11 ?k0z11 ?ktz11 ?_; (case kRz11 => assumption); (case kFz11 => assumption); (case kKz11 => assumption); (case kUz11 => assumption); (case kXz11 => assumption); (case kTz11 => assumption); (case kDz11 => assumption); (case k0z11 => assumption); (case ktz11 => exact test_name (c := .ref 147) (Or.inl (by kernel_rfl)) (by kernel_rfl) rfl rfl (by decide)); k_whole); intro h9 g9 vs9 sl9 T9 F9 N9 B9 X9 P9 D9; (try dsimp only))
  k_with "call ref" => (k_here; k_dflt (refine' scanner_w1 ?k1z12 ?k2z12 ?k3z12 ?k4z12 ?k5z12 ?kKz12 ?kdz12 ?kuz12 _ _ ?_; (case k1z12 => k_asm); (case k2z12 => k_asm); (case k3z12 => k_asm); (case k4z12 => k_asm); (case k5z12 => k_asm); (case kKz12 => first | exact rfl | assumption); (case kdz12 => ktr_room); (case kuz12 => ktr_units);  k_whole); intro tb9 x9 dx9 z19 z29 z39 z49 k19 k29 k39 k49 ta9 h9 tk9 F9 l8 l9 N9; have hr9 := lt_apart' l8; (try dsimp only); (try k_sweep))
  k_with "call ref" => (k_here; k_dflt (refine' public_name_w ?k1z13 ?k2z13 ?k3z13 ?k4z13 ?k6z13 ?k7z13 ?k8z13 ?k9z13 ?k5z13 ?kKz13 ?kdz13 ?kuz13 _ _ ?klz13 ?kyz13 ?_ ?_; (case k1z13 => k_asm); (case k2z13 => k_asm); (case k3z13 => k_asm); (case k4z13 => k_asm); (case k6z13 => assumption); (case k7z13 => assumption); (case k8z13 => assumption); (case k9z13 => first | assumption | exact ledR (by assumption) (by assumption)); (case k5z13 => k_asm); (case kKz13 => first | exact rfl | assumption); (case kdz13 => ktr_room); (case kuz13 => ktr_units); (case klz13 => omega); (case kyz13 => assumption); k_whole; intro hp9 t9 h9 tk9 F9 N9; (try dsimp only); (try k_sweep); rotate_left 1; k_whole; intro hp9 e9 ed9 zm9 zp9 km9 kp9 ms9 tm9 tp9 at9 t9 g9 h9 tk9 F9 R9 U9; (try dsimp only); (try k_sweep); rotate_left 1))
  have hny9 := asc_nil
  have hnl9 := len_nil
  k_with "call builtin:str.join" => (k_here; k_dflt (refine' join_list ?k1y3 ?k2y3 ?k3y3 ?_; (case k1y3 => exact News.isList (by k_asm) (by k_mem)); (case k2y3 => exact strs_are (by assumption)); (case k3y3 => exact wst_fits hul _); k_whole); intro t9 tk9)
  k_with "exec For" => (k_here; with_unfolding_all (refine' For_invVF ?k0y4 ?k1y4 ?k2y4 ?_; (case k0y4 => k_asm); (case k1y4 => exact rfl); (case k2y4 => exact rfl)))
  k_with "pyIter str" => (k_here; k_dflt (refine' For_pr ?khy5 ?kuy5 ?kFy5 ?kNy5 ?kmy5 ?kny5 ?koy5 ?kTy5 ?kDy5; (case khy5 => exact rfl); (case kuy5 => assumption); (case kFy5 => k_asm); (case kNy5 => k_asm); (case kmy5 => with_unfolding_all exact rfl); (case kny5 => with_unfolding_all exact rfl); (case koy5 => with_unfolding_all exact rfl)); (case' kTy5 => (intro i c9 t9 D9 gs9 tw9 cw9 A9 B9 C9 own9 h9 tk9 hc9 hb9 hg9 ho9 hx9 hn9 F9 N9; have hgl9 := gs_small hul hc9 hg9; (try dsimp only at N9))); (case' kDy5 => (intro h9 tk9 D9 gs9 tw9 cw9 A9 B9 C9 F9 N9 hg9; have hgl9 := gs_small' hul hg9; (try dsimp only at N9))))
  k_with "eval BoolOp" => (k_here; (fail_if_success (with_reducible show wpAny _ _ _ (CutAt _ _) _ _)); first
    | ((with_reducible show wpAny _ _ (eval (Expr.BoolOp _ [_, _, _, _] _) _) _ _ _); refine bool_cut (plB c9) ?_ (fun tk9 => ?_))
    | ((with_reducible show wpAny _ _ (eval (Expr.BoolOp _ [_, Expr.BoolOp _ _ _] _) _) _ _ _); refine bool_cut ((u.cps.toList.take i).all pubB && pubB c9) ?_ (fun tk9 => ?_)))
  revert X; k_fill; intro X
  refine wpAny_call ?_
  (k_dflt (refine' code_turn ?k1 ?k2 ?k3 ?k4 ?k5 ?XB ?TB ?D ?kA ?kF ?kK ?k6 ?k7 ?k8 ?k9 ?kB ?_ ?c2 ?c3 ?c4 ?c5; (case kA => exact rfl); (case kF => exact rfl); (case kK => assumption); (case k1 => k_asm); (case k2 => k_asm); (case XB => assumption); (case TB => assumption); (case D => assumption); (case k3 => k_asm); (case k4 => k_asm); (case k5 => k_asm); (case k6 => k_is); (case k7 => k_is); (case k8 => ktr_room); (case k9 => first | exact BindsTo.of_eq rfl | exact binds_K (by k_in) rfl (by k_is) rfl rfl rfl); (case kB => exact locs rfl); (case c2 => exact rfl); (case c3 => exact rfl); (case c4 => exact rfl); (case c5 => decide); k_whole; intro g' L' h' FG' F' N' B' X' T' D' T0'; (try dsimp only); (try k_lift B'); (try k_fold)))
  k_steps
  · rw [all_pub (by assumption)]
    exact leaveT_ (by k_asm) (by k_asm) KtsTurn.refl fun g₂ Z => hret _ _ _ (Z.drop fun p hp => by repeat (first | exact hp | refine List.Mem.tail _ ?_))
  · rw [same_words (by assumption)]
    exact leaveT_ (by k_asm) (by k_asm) KtsTurn.refl fun g₂ Z => hret _ _ _ (Z.drop fun p hp => by repeat (first | exact hp | refine List.Mem.tail _ ?_))
  · rw [not_pub (by assumption)]
    exact leaveT_ (by k_asm) (by k_asm) (by assumption) fun g₂ Z => hret _ _ _ (Z.drop fun p hp => by repeat (first | exact hp | refine List.Mem.tail _ ?_))
  all_goals try
      (refine ⟨congrArg Value.bool ?_, _, rfl⟩; first
      | (have h9 : plB c9 = true := (by unfold plB; rw [Bool.or_eq_true]; left; simp only [Bool.or_eq_true, Bool.and_eq_true, decide_eq_true_eq]; simp only [decide_eq_true_eq, decide_eq_false_iff_not] at *; omega); rw [h9]; simp only [decide_eq_true_eq]; omega)
      | (rw [plain_occ c9 hb9, Bool.not_not]; unfold plB; symm; rw [Bool.or_eq_right_iff_imp]; intro z9; exfalso; simp only [Bool.or_eq_true, Bool.and_eq_true, decide_eq_true_eq] at z9; simp only [decide_eq_true_eq, decide_eq_false_iff_not] at *; omega)
      | (rw [← pub_is c9 hb9]; simp [*]; done)
      | (rw [bl_occ c9 hb9, Bool.not_not, ← pub_is c9 hb9]; simp [*]; done)
      | (rw [‹(List.take i u.cps.toList).all pubB = false›]; rfl))
  · have hbl9 := bl_no hb9 (by assumption)
    refine pr_next (by assumption) (news_pick (by k_asm) (fun q hq => .tail _ (.tail _ (.tail _ hq)))) (apart_own (by assumption) hx9 (fun q hq => by simp [hq])) hn9 ?_ ?_ ?_
    · rw [take_step hc9, List.all_append]; simp
    · rw [take_step hc9, wst_snoc, hbl9, str_snoc]; rfl
    · rw [take_step hc9, wst_snoc, hbl9]; exact hg9
  · have hbl9 := bl_yes hb9 (by assumption)
    refine pr_next (by assumption) (news_pick (by k_asm) (fun q hq => .tail _ (.tail _ hq))) (apart_own (by assumption) hx9 (fun q hq => by simp [hq])) hn9 ?_ ?_ ?_
    · rw [take_step hc9, List.all_append]; simp
    · rw [take_step hc9, wst_snoc, hbl9]; exact mt_str.symm
    · rw [take_step hc9, wst_snoc, hbl9]; exact strs_snoc hg9
end
section
open PySem PySem.W PyProof.Rows PyProof.V PySem.Calls PySem.Spec
set_option maxHeartbeats 4000000
theorem rng_size (k : Nat) : Builtin.Range.rangeSize 0 (k : Int) 1 = (k : Int) := by
  unfold Builtin.Range.rangeSize
  simp
  try omega
theorem rng_small {k : Nat} (hk : k < 1048580) : Builtin.Range.small 0 (k : Int) 1 = true := by
  have f : ∀ z : Int, 0 ≤ z → z < 1048580 → Builtin.Range.rangeFitsLong z = true := fun z h1 h2 => by
    unfold Builtin.Range.rangeFitsLong
    simp
    omega
  have g0 := f 0 (by omega) (by omega)
  have g1 := f 1 (by omega) (by omega)
  have gk := f k (by omega) (by omega)
  unfold Builtin.Range.small
  simp [rng_size, g0, g1, gk]
section
variable {prog : Program} {w : World} {A : Around} {h₀ : Heap} {L : Addr} {m : Str → Option Value} {env : Env} {elt : Expr} {x : Str} {scope : Scope} {cl : List (Str × Addr)} {s : Shared} {P : Nat → Value → Prop} {Fin : List Value → List (Addr × Obj) → Prop}
/-- the end of a draw within a comprehension -/
def DrawEnd (h₀ : Heap) (L : Addr) (m : Str → Option Value) (s : Shared) (pre : List (Addr × Obj)) (G : Obj → List (Addr × Obj)) (ks : List Str) (y : Value) (s₂ : Shared) : Prop :=
  ∃ h' tk k t sa sb ta tb c, y = .str k t ∧ s₂ = { s with heap := h', toks := tk } ∧ Fr h₀ L h' m ∧ News h₀ L h' (pre ++ G (srcObj sa sb ta tb c)) ∧ SrcOk sa sb ∧ k ∈ ks
theorem drawEnd {s : Shared} {pre : List (Addr × Obj)} {G : Obj → List (Addr × Obj)} {ks : List Str} {h' : Heap} {tk : Nat} {k : Str} {t : Tok} {sa sb : Int} {ta tb : Tok} {c : Nat} (F : Fr h₀ L h' m) (N : News h₀ L h' (pre ++ G (srcObj sa sb ta tb c))) (hs : SrcOk sa sb) (hk : k ∈ ks) :
    DrawEnd h₀ L m s pre G ks (.str k t) { s with heap := h', toks := tk } := ⟨h', tk, k, t, sa, sb, ta, tb, c, rfl, rfl, F, N, hs, hk⟩
/-- a comprehension over a range whose element is a draw -/
theorem rest_draws {n : Nat} {ks : List Str} (G : Obj → List (Addr × Obj)) {sa sb : Int} {ta tb : Tok} {c : Nat} (h0 : SrcOk sa sb)
    (hoff : ∀ I C D o o', LCg.Off3 I C D (G o) → LCg.Off3 I C D (G o'))
    (turn : ∀ sa sb ta tb c I oI C oC D m₂ ys h tk (E' : Value → Shared → Prop), SrcOk sa sb → LCg.NsObj oC m₂ → Fr h₀ L h m → News h₀ L h ((I, oI) :: (C, oC) :: (D, LCg.lst ys) :: G (srcObj sa sb ta tb c)) → LCg.Off3 I C D (G (srcObj sa sb ta tb c)) → ((@Ne Nat I C) ∧ (@Ne Nat I D) ∧ (@Ne Nat C D)) →
      wpAny (model prog w) A (eval elt (compEnvC scope cl C env)) (DrawEnd h₀ L m { s with heap := h, toks := tk } [(I, oI), (C, oC), (D, LCg.lst ys)] G ks) E' { s with heap := h, toks := tk })
    (fin : ∀ ys zs sa sb ta tb c, SrcOk sa sb → Strs ys zs → zs.length = n → (∀ k ∈ zs, k ∈ ks) → Fin ys (G (srcObj sa sb ta tb c))) :
    LCg.CompRest prog w A h₀ L m env elt x scope cl s (fun _ => True) P Fin n 0 [] (G (srcObj sa sb ta tb c)) := by
  have key : ∀ (j i : Nat) (ys : List Value) (zs : List Str) (sa sb : Int) (ta tb : Tok) (c : Nat), i + j = n → SrcOk sa sb → Strs ys zs → zs.length = i → (∀ k ∈ zs, k ∈ ks) →
      LCg.CompRest prog w A h₀ L m env elt x scope cl s (fun _ => True) P Fin j i ys (G (srcObj sa sb ta tb c)) := by
    intro j
    induction j with
    | zero =>
      intro i ys zs sa sb ta tb c hi hs hy hl hk
      exact LCg.CompRest.zero (fin ys zs sa sb ta tb c hs hy (by omega) hk)
    | succ j ih =>
      intro i ys zs sa sb ta tb c hi hs hy hl hk
      refine LCg.CompRest.succ ?_
      intro v I oI C oC D m₂ h tk E' _ hC _ F N off ne
      refine wpAny_mono (turn sa sb ta tb c I oI C oC D m₂ ys h tk E' hs hC F N off ne) (fun y s₂ hq => ?_) fun _ _ e => e
      obtain ⟨h', tk', k, t, sa', sb', ta', tb', c', rfl, rfl, F', N', hs', hk'⟩ := hq
      refine ⟨h', tk', _, rfl, F', N', hoff I C D _ _ off, trivial, ?_⟩
      refine ih (i + 1) _ (zs ++ [k]) sa' sb' ta' tb' c' (by omega) hs' (strs_snoc hy) (by simp [hl]) fun k'' h'' => ?_
      rcases List.mem_append.mp h'' with h'' | h''
      · exact hk _ h''
      · rw [List.mem_singleton.mp h'']; exact hk'
  exact key n 0 [] [] sa sb ta tb c (by omega) h0 ⟨rfl, fun j v h => by simp at h⟩ rfl (fun k h => by simp at h)
end
end
section
open PySem PySem.W PyProof.Rows PyProof.V PySem.Calls PySem.Spec
set_option maxHeartbeats 4000000
section
variable {prog : Program} {w : World} {A : Around} {E : Value → Shared → Prop} {s : Shared} {env : Env} {h₀ : Heap} {target : Expr} {body : List Stmt} {Q : Flow → Shared → Prop} {keep : List (Addr × Obj)}
theorem unr_mono {L : Addr} {s₁ : Shared} {its : List (Addr × Obj)} {rest rest' : (Str → Option Value) → List (Addr × Obj) → Prop} {f : Flow} {s₂ : Shared} (hr : ∀ m n, rest m n → rest' m n) (h : UnrPostW h₀ L s₁ its rest Q f s₂) : UnrPostW h₀ L s₁ its rest' Q f s₂ := by
  cases f with
  | ret v => exact h
  | brk => exact h
  | next => obtain ⟨h', tk, m', n', e, F, N, o, r⟩ := h; exact ⟨h', tk, m', n', e, F, N, o, hr _ _ r⟩
  | cont => obtain ⟨h', tk, m', n', e, F, N, o, r⟩ := h; exact ⟨h', tk, m', n', e, F, N, o, hr _ _ r⟩
/-- a for loop over enumerate of a list of the ledger, by what holds ahead of each turn -/
theorem enum_inv {vs : List Value} {I : Addr} (J : Nat → (Str → Option Value) → List (Addr × Obj) → Prop) (hk : ∀ i m n, J i m n → SubL keep n)
    (turn : ∀ i v T t h tk m news o₁ o₂, vs[i]? = some v → J i m news → IsTup h T #[.int (i : Int) t, v] → Fr h₀ env.locals h m → News h₀ env.locals h ((I + 1, o₁) :: (I, o₂) :: news) →
      wpAny (model prog w) A (assign target env (.ref T)) (fun _ s₂ => wpAny (model prog w) A (execs body env) (UnrPostW h₀ env.locals { s with heap := h, toks := tk } [(I + 1, o₁), (I, o₂)] (J (i + 1)) Q) E s₂) E { s with heap := h, toks := tk })
    (fin : ∀ m news h tk, J vs.length m news → Fr h₀ env.locals h m → News h₀ env.locals h news → Q .next { s with heap := h, toks := tk }) :
    ∀ (j i : Nat) m news, i + j = vs.length → J i m news → ItemsRest prog w A E h₀ env target body Q s [(I + 1, "enumerate"), (I, "list_iterator")] keep (enumItems i (vs.drop i)) m news := by
  intro j
  induction j with
  | zero =>
    intro i m news hi hJ
    have e : vs.drop i = [] := List.drop_eq_nil_of_le (by omega)
    rw [e]
    refine ItemsRest.zero fun h tk F N => fin m news h tk ?_ F N
    have : i = vs.length := by omega
    rw [← this]; exact hJ
  | succ j ih =>
    intro i m news hi hJ
    have hlt : i < vs.length := by omega
    rw [List.drop_eq_getElem_cons hlt]
    refine ItemsRest.pair fun T t h tk hT F => ?_
    refine AllObj.cons fun o₁ _ => AllObj.cons fun o₂ _ => AllObj.nil fun N => ?_
    refine wpAny_mono (turn i vs[i] T t h tk m news o₁ o₂ (List.getElem?_eq_getElem hlt) hJ hT F N) (fun _ s₂ h₂ => wpAny_mono h₂ (fun f s₃ h₃ => unr_mono (fun m' n' hj => ⟨hk _ _ _ hj, ih (i + 1) m' n' (by omega) hj⟩) h₃) fun _ _ e => e) fun _ _ e => e
end
end
section
open PySem PySem.W PyProof.Rows PyProof.V PySem.Calls PySem.Spec
set_option maxHeartbeats 4000000
/-- the texts of a row, each once -/
def dd (ks : List Str) : List Str := ks.foldl (fun acc k => if k ∈ acc then acc else acc ++ [k]) []
theorem dd_snoc (ks : List Str) (k : Str) : dd (ks ++ [k]) = if k ∈ dd ks then dd ks else dd ks ++ [k] := by
  unfold dd
  rw [List.foldl_append]
  rfl
theorem dd_len (ks : List Str) : (dd ks).length ≤ ks.length := by
  have key : ∀ (ks acc : List Str), (ks.foldl (fun acc k => if k ∈ acc then acc else acc ++ [k]) acc).length ≤ acc.length + ks.length := by
    intro ks
    induction ks with
    | nil => intro acc; simp
    | cons k ks ih =>
      intro acc
      rw [List.foldl_cons]
      refine Nat.le_trans (ih _) ?_
      split
      · simp only [List.length_cons]; omega
      · simp only [List.length_append, List.length_cons, List.length_nil]; omega
  have := key ks []
  simpa [dd] using this
section
variable {prog : Program} {w : World} {A : Around} {E : Value → Shared → Prop} {s : Shared} {R : Result → Shared → Prop} {I : Addr} {fp wr : List Addr} {G : Array GenState → Array GenState → Prop} {n : Nat} {P : Nat → Value → Prop} {St : Nat → Shared → Prop}
def SetHas (prog : Program) (w : World) (h : Heap) (S : Addr) (ks : List Str) : Prop := h.SetOf (strKind prog w) S (fun k => decide (k ∈ dd ks)) (dd ks).length
theorem set_step {h : Heap} {S : Addr} {ks : List Str} {k : Str} (hs : h.SetOf (strKind prog w) S (fun k' => decide (k' ∈ dd ks) || decide (k' = k)) (if decide (k ∈ dd ks) then (dd ks).length else (dd ks).length + 1)) : SetHas prog w h S (ks ++ [k]) := by
  refine SetOf_congr hs (fun k' => ?_) ?_
  · rw [dd_snoc]
    by_cases h1 : k ∈ dd ks
    · rw [if_pos h1]
      by_cases h2 : k' = k
      · subst h2; simp [h1]
      · simp [h2]
    · rw [if_neg h1]
      simp [List.mem_append]
  · rw [dd_snoc]
    by_cases h1 : k ∈ dd ks <;> simp [h1]
theorem set_fill (W : WalksS prog w A.in1 I fp wr G n P St) (S : Addr) (hSf : S ∉ fp) (ks : List Str) (hlen : ks.length = n) (hval : ∀ i v, P i v → ∃ k t, ks[i]? = some k ∧ v = .str k t) (hb : n + 1 < scanBound) :
    ∀ (k i : Nat) (s : Shared), n - i = k → i ≤ n → St i s → SetHas prog w s.heap S (ks.take i) →
      (∀ s', Moved (S :: wr) G s s' → SetHas prog w s'.heap S ks → R (.ok (.ret .none)) s') →
      codeAny (model prog w) A (.builtin "set.update.loop" ⟨[.ref S, .ref I], []⟩) R s := by
  have hSw : S ∉ wr := fun h => hSf (W.sub _ h)
  have hsub : ∀ b ∈ wr, b ∈ S :: wr := fun b hb => List.mem_cons_of_mem _ hb
  intro k
  induction k with
  | zero =>
    intro i s hk hi hst hS hR
    have hin : i = n := by omega
    subst hin
    rw [← hlen, List.take_length] at hS
    refine codeAny_builtin PyProof.Rows.F.entry_set_update_loop ?_
    rw [Around.under_plainId PyProof.Rows.F.plain_set_update_loop _]
    show wpAny _ A.in1 (pyNext (.ref I) >>= _) _ _ s
    refine wpAny_bind (W.done s _ _ hst fun s' hm => ?_)
    show wpAny _ A.in1 (ret Value.none) _ _ s'
    exact wpAny_pure (hR s' (hm.mono hsub) (by
      obtain ⟨o, es, ep, t, ho, rest⟩ := hS
      exact ⟨o, es, ep, t, hm.heap S _ hSw ho, rest⟩))
  | succ k ih =>
    intro i s hk hi hst hS hR
    have hlt : i < n := by omega
    refine codeAny_builtin PyProof.Rows.F.entry_set_update_loop ?_
    rw [Around.under_plainId PyProof.Rows.F.plain_set_update_loop _]
    show wpAny _ A.in1 (pyNext (.ref I) >>= _) _ _ s
    refine wpAny_bind (W.item i s _ _ hlt hst fun v s' hP hst' hm => ?_)
    obtain ⟨x, t, hx, rfl⟩ := hval i v hP
    have hS' : SetHas prog w s'.heap S (ks.take i) := by
      obtain ⟨o, es, ep, tb, ho, rest⟩ := hS
      exact ⟨o, es, ep, tb, hm.heap S _ hSw ho, rest⟩
    show wpAny _ A.in1 (holding [Value.str x t] (setAdd S (.str x t)) >>= _) _ _ s'
    refine wpAny_bind (wpAny_holding ?_)
    unfold setAdd
    refine wpAny_holding ?_
    refine wpAny_bind ((strKind prog w).pyHash (k := x) (strKind_is _ _ _ _) ?_)
    have hroom : (dd (ks.take i)).length + 1 < scanBound := by have h1 := dd_len (ks.take i); rw [List.length_take] at h1; omega
    refine wpAny_setAddHashed_of (knd := strKind prog w) (s := { s' with toks := s'.toks + 1 }) (strKind_is _ _ _ _) rfl hS' hroom fun h' hsb hS2 => ?_
    have hSi : SetHas prog w h' S (ks.take (i + 1)) := by
      rw [List.take_add_one, hx]
      exact set_step hS2
    refine wpAny_pure ⟨plainId_quiet PyProof.Rows.F.plain_set_update_loop _, ih (i + 1) _ (by omega) hlt (W.frame _ s' _ _ hst' (Nat.le_succ _) fun b hb o e => ?_) hSi fun s'' hm'' hS'' => ?_⟩
    · rw [hsb.2 b (fun h : b = S => hSf (by rw [← h]; exact hb))]; exact e
    · refine hR s'' (Moved.trans W.gtrans ((hm.mono hsub).then_heap (Nat.le_succ _) fun b o hb e => ?_) hm'') hS''
      rw [hsb.2 b (fun h : b = S => hb (by rw [h]; exact List.mem_cons_self))]; exact e
theorem call_set_texts {l : Addr} {vs : List Value} {ks : List Str} {Q : Value → Shared → Prop}
    (hh : A.handled = none) (hl : s.heap.IsList l vs.toArray) (hi : Strs vs ks) (hb : ks.length + 1 < scanBound)
    (h : ∀ (h' : Heap) (tk : Nat), SetHas prog w h' s.heap.objs.size ks → (∀ b o, b < s.heap.objs.size → s.heap.get? b = some o → h'.get? b = some o) → Q (.ref s.heap.objs.size) { s with heap := h', toks := tk }) :
    wpAny (model prog w) A (call (.type "set") [.ref l]) Q E s := by
  obtain ⟨c, tl, hmro⟩ := PySem.F.called_set.mro
  have hmade := PySem.F.called_set.made
  have hsub := PySem.F.called_set.sub
  refine wpAny_call (codeAny_of_tree ?_)
  show wpAny _ _ (callAny (.type "set") _) _ _ _
  refine wpAny_pure ⟨Code.quiet_builtin _ (by decide +kernel), codeAny_builtin PySem.F.entry_type_call ?_⟩
  rw [Around.under_plain (weight_type_call_type "set" [.ref l] []) rfl]
  have h1 := PySem.F.called_set.notType
  have h2 := PySem.F.called_set.canCreate
  have hct := PySem.F.typeCall_set_1 (.ref l)
  repeat (any_goals (first | assumption | wp_step))
  refine codeAny_mono (code_set_new_1 (.ref l) (E := E) (Q₁ := fun obj s₁ => ∃ led : Bool, obj = .ref s.heap.objs.size ∧ s₁ = { s with heap := s.heap.push { cls := .type "set", dict := none, data := .set #[] 0 (.fresh 0 0 led) } }) fun led => ⟨led, rfl, rfl⟩) fun r s₁ hr => ?_
  rcases r with e | (_ | _ | _ | obj) <;> first | exact hr | exact hr.elim | skip
  all_goals first | exact hr | exact hr.elim | skip
  obtain ⟨led, rfl, rfl⟩ := hr
  have hS : (s.heap.push { cls := .type "set", dict := none, data := .set #[] 0 (.fresh 0 0 led) }).get? s.heap.objs.size = some { cls := .type "set", dict := none, data := .set #[] 0 (.fresh 0 0 led) } := Heap.get?_push_size _ rfl
  have hT : Shared.TypeIs { s with heap := s.heap.push { cls := .type "set", dict := none, data := .set #[] 0 (.fresh 0 0 led) } } (.ref s.heap.objs.size) "set" := ⟨_, hS, rfl⟩
  have hli := PySem.F.called_set.init.lookup
  have hbi := PySem.F.called_set.init.bind (.ref s.heap.objs.size)
  repeat (any_goals (first | assumption | wp_step))
  refine codeAny_mono (codeAny_call_builtin (R := wants (fun r s₂ => r = .none ∧ ∃ h' tk, s₂ = { s with heap := h', toks := tk } ∧ SetHas prog w h' s.heap.objs.size ks ∧ (∀ b o, b < s.heap.objs.size → s.heap.get? b = some o → h'.get? b = some o)) E)
    PySem.F.called_set.init.plain PySem.F.entry_set_init (check_set_init_1 hT ?_)) fun r₂ s₂ hr₂ => ?_
  · obtain ⟨ol, hol, hcl, nl, hdl⟩ := hl
    obtain ⟨ocls, odict, odata, oslots⟩ := ol
    simp only at hcl hdl
    subst hcl hdl
    have hol' : (s.heap.push { cls := .type "set", dict := none, data := .set #[] 0 (.fresh 0 0 led) }).get? l = some { cls := .type "list", dict := odict, data := .seq vs.toArray nl, slots := oslots } := Heap.get?_push_of_some _ hol
    have hsls := PySem.F.sub_list_set
    have hslf := PySem.F.sub_list_frozenset
    have hne : (Value.type "list" == Value.type "dict") = false := by decide
    have hl1 : (s.heap.push { cls := .type "set", dict := none, data := .set #[] 0 (.fresh 0 0 led) }).IsList l vs.toArray := ⟨_, hol', rfl, nl, rfl⟩
    unfold Builtin.«set.__init__» noKeywords Builtin.Frozenset.updateFrom
    generalize hPI : pyIter = PI
    wp_walk
    subst hPI
    refine wpAny_pyIter_list hl1 ?_
    refine wpAny_bind (wpAny_runValue ?_)
    have hlS : l < s.heap.objs.size := Heap.lt_size hol
    have hh3 : A.in1.in1.in1.handled = none := by simp [hh]
    have hneI : l ≠ (s.heap.push { cls := .type "set", dict := none, data := .set #[] 0 (.fresh 0 0 led) }).objs.size := by
      rw [Heap.size_push]; exact Nat.ne_of_lt (Nat.lt_succ_of_lt hlS)
    have hSf : s.heap.objs.size ∉ [(s.heap.push { cls := .type "set", dict := none, data := .set #[] 0 (.fresh 0 0 led) }).objs.size, l] := by
      rw [Heap.size_push]; simp only [List.mem_cons, List.mem_singleton, List.not_mem_nil, or_false, not_or]
      exact ⟨Nat.ne_of_lt (Nat.lt_succ_self _), Nat.ne_of_gt hlS⟩
    refine set_fill ((Walks.list hh3 _ l hneI vs.toArray).toS) s.heap.objs.size hSf ks (by rw [List.size_toArray]; exact hi.1.symm) (fun i v hv => hi.2 i v (by simpa using hv)) (by rw [List.size_toArray, hi.1]; exact hb) (vs.toArray.size - 0) 0 _ (by omega) (Nat.zero_le _)
      ⟨⟨_, Heap.get?_push_size _ rfl, rfl, rfl⟩, (hl1.push _)⟩ ?hS0 ?hR
    case hS0 =>
      have hget : ((s.heap.push { cls := .type "set", dict := none, data := .set #[] 0 (.fresh 0 0 led) }).push { cls := .type "list_iterator", data := .fields #[.ref l, .int 0 0] }).get? s.heap.objs.size
          = some { cls := .type "set", dict := none, data := .set #[] 0 (.fresh 0 0 led) } := Heap.get?_push_of_some _ hS
      exact SetOf_congr ((setObjOf_fresh (knd := strKind prog w) led).setOf hget (by unfold scanBound; omega)) (fun _ => by simp [dd]) (by simp [dd])
    case hR =>
      intro s' hm hS'
      obtain ⟨h', g', d', tk', os'⟩ := s'
      have eg : g' = s.gens := hm.gens
      have ed : d' = s.drawn := hm.drawn
      have eo : os' = s.os := hm.os
      subst eg ed eo
      show wpAny _ _ _ _ _ _
      refine wpAny_pure ?_
      show wpAny _ _ (ret Value.none) _ _ _
      refine wpAny_pure ⟨rfl, h', tk', rfl, hS', fun b o hb e => ?_⟩
      have hb1 : b ≠ s.heap.objs.size := Nat.ne_of_lt hb
      have hb2 : b ≠ (s.heap.push { cls := .type "set", dict := none, data := .set #[] 0 (.fresh 0 0 led) }).objs.size := by
        rw [Heap.size_push]; exact Nat.ne_of_lt (Nat.lt_succ_of_lt hb)
      exact hm.heap b o (by simp only [List.mem_cons, List.mem_singleton, List.not_mem_nil, or_false, not_or]; exact ⟨hb1, hb2⟩) (Heap.get?_push_of_some _ (Heap.get?_push_of_some _ e))
  · rcases r₂ with e | (_ | _ | _ | r) <;> first | exact hr₂ | exact hr₂.elim | skip
    all_goals first | exact hr₂ | exact hr₂.elim | skip
    obtain ⟨rfl, h', tk, rfl, hS', hk'⟩ := hr₂
    repeat (any_goals (first | assumption | wp_step))
    exact h _ _ hS' hk'
end
end
section
open PySem PySem.W PyProof.Rows PyProof.V PySem.Calls PySem.Spec
set_option maxHeartbeats 4000000
section
variable {prog : Program} {w : World} {A : Around} {E : Value → Shared → Prop} {s : Shared}
theorem set_K {h₀ : Heap} {L l : Addr} {m : Str → Option Value} {news : List (Addr × Obj)} {c : Nat} {vs : List Value} {ks : List Str} {Q : Value → Shared → Prop} (hh : A.handled = none) (F : Fr h₀ L s.heap m) (N : News h₀ L s.heap news) (hm : (l, W.listOf (List.toArray vs) c) ∈ news) (hi : Strs vs ks) (hb : ks.length + 1 < scanBound)
    (h : ∀ S o h' tk, Fr h₀ L h' m → News h₀ L h' ((S, o) :: news) → (∀ p ∈ news, p.1 < S) → o.SetObjOf (strKind prog w) (fun k => decide (k ∈ dd ks)) (dd ks).length → Q (.ref S) { s with heap := h', toks := tk }) :
    wpAny (model prog w) A (call (.type "set") [.ref l]) Q E s := by
  refine call_set_texts hh (News.isList N hm) hi hb fun h' tk hS hk => ?_
  obtain ⟨o, ho, hso⟩ := Heap.SetOf.objOf hS
  have hLlt := F.ns.lt
  refine h _ o h' tk ⟨F.ns.at' fun o' e => hk L o' hLlt e, fun b o' e => hk b o' (Heap.lt_size (F.keep b o' e)) (F.keep b o' e), F.above⟩ (fun p hp => ?_) (fun p hp => Heap.lt_size (N p hp).1) hso
  rcases List.mem_cons.mp hp with rfl | hp
  · refine ⟨ho, Nat.ne_of_gt hLlt, ?_⟩
    cases hq : h₀.get? s.heap.objs.size with
    | none => rfl
    | some o' => exact absurd (Heap.lt_size (F.keep _ _ hq)) (Nat.lt_irrefl _)
  · exact ⟨hk _ _ (Heap.lt_size (N p hp).1) (N p hp).1, (N p hp).2.1, (N p hp).2.2⟩
theorem len_set_K {h₀ : Heap} {L S : Addr} {o : Obj} {news : List (Addr × Obj)} {ks : List Str} {Q : Value → Shared → Prop} (N : News h₀ L s.heap news) (hm : (S, o) ∈ news) (ho : o.SetObjOf (strKind prog w) (fun k => decide (k ∈ dd ks)) (dd ks).length) (hb : ks.length < 1048576)
    (h : ∀ t k, Q (.int ((dd ks).length : Int) t) { s with toks := k }) : wpAny (model prog w) A (call (.builtin "len") [.ref S]) Q E s := by
  obtain ⟨hex, es, ep, t, hd, _, _, hn, hf⟩ := ho
  have h1 := dd_len ks
  exact PySem.call_len_set (N _ hm).1 hex hd hf (by rw [hn]; omega) (by rw [hn]; exact h _ _)
end
end
section
open PySem PySem.W PyProof.Rows PyProof.V PySem.Calls PySem.Spec
set_option maxHeartbeats 4000000
def tokS : List Str := [Str.ofString "a", Str.ofString "b", Str.ofString "c-1", Str.ofString "2", Str.ofString "-"]
def gapS : List Str := [Str.ofString "", Str.ofString " ", Str.ofString "\n\t"]
def endS : List Str := [Str.ofString ")", Str.ofString ")", Str.ofString "", Str.ofString "|)", Str.ofString ",a)"]
/-- a row of choices as the law writes it, its end not yet there -/
inductive Row : List Str → Str → Prop
  | start {g : Str} : g ∈ gapS → Row [] (Str.ofString "(" ++ g)
  | more {ks : List Str} {x k p g : Str} : Row ks x → k ∈ tokS → g ∈ gapS → (ks = [] → p = Str.ofString "") → (ks ≠ [] → ∃ g1 ∈ gapS, p = Str.ofString "|" ++ g1) → Row (ks ++ [k]) (x ++ p ++ k ++ g)
/-- whether a row is let -/
def okB (nota : Bool) (ks : List Str) (e : Str) : Bool := decide (ks ≠ []) && (e == Str.ofString ")") && ((((dd ks).length : Nat) : Int) == ((ks.length : Nat) : Int)) && !(nota && (ks.any (· == Str.ofString "2") || ks.any (· == Str.ofString "-")))
theorem short {k : Str} {ks : List Str} (h : k ∈ ks) (d : ks.all (fun k => decide (k.length ≤ 16)) = true := by decide +kernel) : k.length ≤ 16 := by
  have := List.all_eq_true.mp d k h
  exact of_decide_eq_true this
theorem len_app (a b : Str) : (a ++ b).length = a.length + b.length := by
  show (a ++ b).cps.size = a.cps.size + b.cps.size
  rw [PySem.Str.cps_append, Array.size_append]
theorem strs_cons {k : Str} {t : Tok} {vs : List Value} {ks : List Str} (h : Strs vs ks) : Strs (.str k t :: vs) (k :: ks) := by
  refine ⟨by simp [h.1], fun j v e => ?_⟩
  cases j with
  | zero => exact ⟨k, t, rfl, (Option.some.inj e).symm⟩
  | succ j => exact h.2 j v e
theorem strs3 {k0 k1 k2 : Str} {t0 t1 t2 : Tok} : Strs [.str k0 t0, .str k1 t1, .str k2 t2] [k0, k1, k2] := Mine.strs_cons (Mine.strs_cons (Mine.strs_cons Mine.strs_nil))
theorem strs5 {k0 k1 k2 k3 k4 : Str} {t0 t1 t2 t3 t4 : Tok} : Strs [.str k0 t0, .str k1 t1, .str k2 t2, .str k3 t3, .str k4 t4] [k0, k1, k2, k3, k4] := Mine.strs_cons (Mine.strs_cons (Mine.strs_cons (Mine.strs_cons (Mine.strs_cons Mine.strs_nil))))
theorem strs8 {k0 k1 k2 k3 k4 k5 k6 k7 : Str} {t0 t1 t2 t3 t4 t5 t6 t7 : Tok} : Strs [.str k0 t0, .str k1 t1, .str k2 t2, .str k3 t3, .str k4 t4, .str k5 t5, .str k6 t6, .str k7 t7] [k0, k1, k2, k3, k4, k5, k6, k7] := Mine.strs_cons (Mine.strs_cons (Mine.strs_cons (Mine.strs_cons (Mine.strs_cons (Mine.strs_cons (Mine.strs_cons (Mine.strs_cons Mine.strs_nil)))))))
theorem take_nil_of {zs : List Str} {i : Nat} (h : ¬ (0 : Int) < (i : Int)) : zs.take i = [] := by
  have : i = 0 := by omega
  subst this
  rfl
theorem take_ne {zs : List Str} {i : Nat} (h0 : 0 < i) (h : i < zs.length) : zs.take i ≠ [] := by
  intro e
  have := congrArg List.length e
  rw [List.length_take, List.length_nil] at this
  omega
theorem len_one : (Str.ofString "(").length = 1 ∧ (Str.ofString "|").length = 1 ∧ (Str.ofString "").length = 0 := by decide +kernel
theorem lay_in {ks : List Str} (d : ks.all (fun k => PyData.strOk k) = true) : ∀ zs : List Str, (∀ k ∈ zs, k ∈ ks) → PyData.canLayAll0 (zs.map PyData.str) = true ∧ PyData.depthAll (zs.map PyData.str) = 0
  | [], _ => by simp [PyData.canLayAll0, PyData.depthAll]
  | k :: zs, h => by
    obtain ⟨h1, h2⟩ := lay_in d zs fun k hk => h k (.tail _ hk)
    have h3 := List.all_eq_true.mp d k (h k (.head _))
    simp [PyData.canLayAll0, PyData.canLay0, PyData.depthAll, PyData.depth, h1, h2, h3]
theorem tokS_ok : tokS.all (fun k => PyData.strOk k) = true := by decide +kernel
theorem shaped_in {zs : List Str} (h : ∀ k ∈ zs, k ∈ tokS) : SeqAt.shaped (.list (zs.map PyData.str)) = true := by
  obtain ⟨h1, h2⟩ := lay_in tokS_ok zs h
  simp [SeqAt.shaped, PyData.canLay0, PyData.depth, h1, h2]
theorem shaped_kindD {nm : Str} {zs : List Str} (hn : PyData.strOk nm = true) (h : ∀ k ∈ zs, k ∈ tokS) : SeqAt.shaped (kindD nm zs) = true := by
  obtain ⟨h1, h2⟩ := lay_in tokS_ok zs h
  simp [SeqAt.shaped, PyData.canLay0, PyData.canLayAll0, PyData.depth, PyData.depthAll, h1, h2, hn]
section
variable {nota : Bool} {zs : List Str} {e : Str}
theorem okB_f1 (h : ¬ zs ≠ []) : okB nota zs e = false := by unfold okB; rw [decide_eq_false h]; simp
theorem okB_f2 (h : (e == Str.ofString ")") = false) : okB nota zs e = false := by unfold okB; rw [h]; simp
theorem dd_eq (h : (dd zs).length = zs.length) : ((((dd zs).length : Nat) : Int) == ((zs.length : Nat) : Int)) = true := by rw [h]; exact BEq.rfl
theorem okB_f3 (h : ¬ (dd zs).length = zs.length) : okB nota zs e = false := by
  have h' : ((((dd zs).length : Nat) : Int) == ((zs.length : Nat) : Int)) = false := by
    rw [beq_eq_false_iff_ne]; omega
  unfold okB; rw [h']; simp
theorem okB_f4 (hn : nota = true) (h : zs.any (fun x => x == Str.ofString "2") = true) : okB nota zs e = false := by unfold okB; rw [hn, h]; simp
theorem okB_f5 (hn : nota = true) (h : zs.any (fun x => x == Str.ofString "-") = true) : okB nota zs e = false := by unfold okB; rw [hn, h]; simp
theorem okB_t1 (h1 : zs ≠ []) (h2 : (e == Str.ofString ")") = true) (h3 : (dd zs).length = zs.length) (hn : nota = false) : okB nota zs e = true := by unfold okB; rw [decide_eq_true h1, h2, dd_eq h3, hn]; rfl
theorem okB_t2 (h1 : zs ≠ []) (h2 : (e == Str.ofString ")") = true) (h3 : (dd zs).length = zs.length) (h4 : zs.any (fun x => x == Str.ofString "2") = false) (h5 : zs.any (fun x => x == Str.ofString "-") = false) : okB nota zs e = true := by unfold okB; rw [decide_eq_true h1, h2, dd_eq h3, h4, h5]; cases nota <;> rfl
end
theorem news_two {h₀ h : Heap} {L : Addr} {p q : Addr × Obj} {l r : List (Addr × Obj)} (N : News h₀ L h (p :: q :: l)) (hs : ∀ z ∈ r, z ∈ l) : News h₀ L h (p :: q :: r) := fun z hz => N z (by
  rcases List.mem_cons.mp hz with rfl | hz
  · exact .head _
  · rcases List.mem_cons.mp hz with rfl | hz
    · exact .tail _ (.head _)
    · exact .tail _ (.tail _ (hs z hz)))
theorem news_one {h₀ h : Heap} {L : Addr} {p : Addr × Obj} {l r : List (Addr × Obj)} (N : News h₀ L h (p :: l)) (hs : ∀ z ∈ r, z ∈ l) : News h₀ L h (p :: r) := fun z hz => N z (by
  rcases List.mem_cons.mp hz with rfl | hz
  · exact .head _
  · exact .tail _ (hs z hz))
theorem updTail {d : Addr} {o : Obj} {p : Addr × Obj} {r : List (Addr × Obj)} {g : Obj → List (Addr × Obj)} (h2 : UpdF d o r g) (h1 : p.1 ≠ d) : UpdF d o (p :: r) (fun o' => p :: g o') := .tail h1 h2
theorem updF_eq {S : Addr} {o : Obj} {news : List (Addr × Obj)} {g : Obj → List (Addr × Obj)} (U : UpdF S o news g) : g o = news := by
  obtain ⟨pre, post, e, hg, _, _⟩ := U.split
  rw [hg, e]
theorem updF_adr {S : Addr} {o : Obj} {news : List (Addr × Obj)} {g : Obj → List (Addr × Obj)} (U : UpdF S o news g) (o1 o2 : Obj) : (g o2).map (·.1) = (g o1).map (·.1) := by
  obtain ⟨pre, post, _, hg, _, _⟩ := U.split
  rw [hg, hg]
  simp
theorem updF_mem {S : Addr} {o : Obj} {news : List (Addr × Obj)} {g : Obj → List (Addr × Obj)} (U : UpdF S o news g) (o1 : Obj) : (S, o1) ∈ g o1 := by
  obtain ⟨pre, post, _, hg, _, _⟩ := U.split
  rw [hg]
  exact List.mem_append_right _ (.head _)
theorem updF_off {S : Addr} {o : Obj} {news : List (Addr × Obj)} {g : Obj → List (Addr × Obj)} (U : UpdF S o news g) (I C D : Addr) (o1 o2 : Obj) (h : LCg.Off3 I C D (g o1)) : LCg.Off3 I C D (g o2) := by
  refine LCg.Off3.of fun p hp => ?_
  have h1 : p.1 ∈ (g o1).map (·.1) := by rw [← updF_adr U o1 o2]; exact List.mem_map_of_mem hp
  obtain ⟨q, hq, e⟩ := List.mem_map.mp h1
  rw [← e]
  exact h.mem q hq
section
variable {prog : Program} {w : World} {A : Around} {E : Value → Shared → Prop} {s : Shared} {env : Env} {h₀ : Heap} {body : List Stmt} {Q : Flow → Shared → Prop}
def chF (m : Str → Option Value) (x : Str) (tt : Tok) (A B : Option Value) (z : Str) : Option Value :=
  if z = Str.ofString "text" then some (.str x tt) else if z = Str.ofString "one" then A else if z = Str.ofString "at" then B else m z
def ChJ (zs : List Str) (m : Str → Option Value) (G : Obj → List (Addr × Obj)) (i : Nat) (m₁ : Str → Option Value) (news₁ : List (Addr × Obj)) : Prop :=
  ∃ x tt A B sa sb ta tb c, m₁ = chF m x tt A B ∧ news₁ = G (srcObj sa sb ta tb c) ∧ SrcOk sa sb ∧ Row (zs.take i) x ∧ x.length ≤ 20 + 80 * i
theorem chF_start {m : Str → Option Value} {x : Str} {tt : Tok} (h1 : m (Str.ofString "one") = none) (h2 : m (Str.ofString "at") = none) : (fun z => if z = Str.ofString "text" then some (Value.str x tt) else m z) = chF m x tt none none := by
  funext z
  unfold chF
  by_cases e1 : z = Str.ofString "text"
  · rw [if_pos e1, if_pos e1]
  · rw [if_neg e1, if_neg e1]
    by_cases e2 : z = Str.ofString "one"
    · rw [if_pos e2, e2, h1]
    · rw [if_neg e2]
      by_cases e3 : z = Str.ofString "at"
      · rw [if_pos e3, e3, h2]
      · rw [if_neg e3]
theorem ch_next {zs : List Str} {m : Str → Option Value} {G : Obj → List (Addr × Obj)} {I L : Addr} {i tk : Nat} {h' : Heap} {x k p g : Str} {tt tt' tk' ta : Tok} {A B : Option Value} {sa sb : Int} {tsa tsb : Tok} {c : Nat} {o₁ o₂ : Obj} {all : List (Addr × Obj)}
    (F : Fr h₀ L h' (fun z => if z = Str.ofString "text" then some (Value.str (x ++ p ++ k ++ g) tt) else if z = Str.ofString "one" then some (.str k tk') else if z = Str.ofString "at" then some (.int (i : Int) ta) else chF m x tt' A B z))
    (N : News h₀ L h' all) (hs : ∀ q ∈ (I + 1, o₁) :: (I, o₂) :: G (srcObj sa sb tsa tsb c), q ∈ all) (hI : ∀ o, ∀ q ∈ G o, q.1 < I) (hok : SrcOk sa sb) (hk : zs[i]? = some k) (hR : Row (zs.take i) x) (hks : k ∈ tokS) (hg : g ∈ gapS)
    (hp0 : zs.take i = [] → p = Str.ofString "") (hp1 : zs.take i ≠ [] → ∃ g1 ∈ gapS, p = Str.ofString "|" ++ g1) (hl : x.length ≤ 20 + 80 * i) (hl2 : p.length ≤ 40) (hl3 : k.length ≤ 16) (hl4 : g.length ≤ 16) :
    UnrEndW h₀ L s [(I + 1, o₁), (I, o₂)] (ChJ zs m G (i + 1)) { s with heap := h', toks := tk } := by
  have e : (fun z => if z = Str.ofString "text" then some (Value.str (x ++ p ++ k ++ g) tt) else if z = Str.ofString "one" then some (Value.str k tk') else if z = Str.ofString "at" then some (Value.int (i : Int) ta) else chF m x tt' A B z) = chF m (x ++ p ++ k ++ g) tt (some (.str k tk')) (some (.int (i : Int) ta)) := by
    funext z
    unfold chF
    by_cases e1 : z = Str.ofString "text"
    · rw [if_pos e1, if_pos e1]
    · by_cases e2 : z = Str.ofString "one"
      · rw [if_neg e1, if_pos e2, if_neg e1, if_pos e2]
      · by_cases e3 : z = Str.ofString "at"
        · rw [if_neg e1, if_neg e2, if_pos e3, if_neg e1, if_neg e2, if_pos e3]
        · simp only [e1, e2, e3, if_false]
  rw [e] at F
  refine ⟨h', tk, _, G (srcObj sa sb tsa tsb c), rfl, F, fun q hq => N q (hs q (by simpa using hq)), fun q hq r hr => ?_, _, tt, _, _, sa, sb, tsa, tsb, c, rfl, rfl, hok, ?_, ?_⟩
  · have h1 := hI _ q hq
    rcases List.mem_cons.mp hr with rfl | hr
    · exact Nat.ne_of_lt (Nat.lt_succ_of_lt h1)
    · rw [List.mem_singleton.mp hr]
      exact Nat.ne_of_lt h1
  · rw [List.take_add_one, hk]
    exact .more hR hks hg hp0 hp1
  · simp only [len_app]
    omega
theorem For_ch {l : Addr} {n : Nat} {vs : List Value} {zs : List Str} {m : Str → Option Value} {x : Str} {tt : Tok} {sa sb : Int} {tsa tsb : Tok} {c : Nat} {elts : List Expr} {kk : Nat} {pos : Pos} {news : List (Addr × Obj)} {S : Addr} {G : Obj → List (Addr × Obj)} (hh : A.handled = none) (U : UpdF S (srcObj sa sb tsa tsb c) news G)
    (F : Fr h₀ env.locals s.heap (fun z => if z = Str.ofString "text" then some (Value.str x tt) else m z)) (N : News h₀ env.locals s.heap news) (hm : ∀ o, (l, W.listOf (List.toArray vs) n) ∈ G o) (h1 : m (Str.ofString "one") = none) (h2 : m (Str.ofString "at") = none)
    (hS : Strs vs zs) (hok : SrcOk sa sb) (hR : Row [] x) (hl : x.length ≤ 20) (hz : ∀ k ∈ zs, k ∈ tokS)
    (turn : ∀ i k t T tT x tt A' B sa sb ta tb c h tk I o₁ o₂, zs[i]? = some k → k ∈ tokS → SrcOk sa sb → Row (zs.take i) x → x.length ≤ 20 + 80 * i → i < zs.length → IsTup h T #[.int (i : Int) t, .str k tT] → Fr h₀ env.locals h (chF m x tt A' B) → News h₀ env.locals h ((I + 1, o₁) :: (I, o₂) :: G (srcObj sa sb ta tb c)) → (∀ o, ∀ q ∈ G o, q.1 < I) → @LT.lt Nat _ S I →
      wpAny (model prog w) A (assign (.Tuple elts kk pos) env (.ref T)) (fun _ s₂ => wpAny (model prog w) A (execs body env) (UnrPostW h₀ env.locals { s with heap := h, toks := tk } [(I + 1, o₁), (I, o₂)] (ChJ zs m G (i + 1)) Q) E s₂) E { s with heap := h, toks := tk })
    (done : ∀ h tk x tt A' B sa sb ta tb c, SrcOk sa sb → Row zs x → x.length ≤ 20 + 80 * zs.length → Fr h₀ env.locals h (chF m x tt A' B) → News h₀ env.locals h (G (srcObj sa sb ta tb c)) → Q .next { s with heap := h, toks := tk }) :
    wpAny (model prog w) A (call (.type "enumerate") [.ref l]) (fun xv s₁ => wpAny (model prog w) A (pyIter xv) (fun it s₂ => TurnsAt prog w A h₀ env (.Tuple elts kk pos) body Q E it s₂) E s₁) E s := by
  rw [chF_start h1 h2] at F
  have hGa := updF_adr U
  rw [← updF_eq U] at N
  refine ktu_enum hh F N (hm _) rfl rfl rfl fun I hI => ?_
  have hI' : ∀ o, ∀ q ∈ G o, q.1 < I := fun o q hq => by
    have h3 : q.1 ∈ (G (srcObj sa sb tsa tsb c)).map (·.1) := by rw [hGa o]; exact List.mem_map_of_mem hq
    obtain ⟨q', hq', e⟩ := List.mem_map.mp h3
    rw [← e]; exact hI q' hq'
  have hvl := hS.1
  refine enum_inv (ChJ zs m G) (fun i m' n' hj => ?_) ?_ ?_ vs.length 0 _ _ (by omega) ⟨x, tt, none, none, sa, sb, tsa, tsb, c, rfl, rfl, hok, by simpa using hR, by omega⟩
  · obtain ⟨_, _, _, _, sa, sb, ta, tb, c, _, rfl, _⟩ := hj
    exact ⟨hm _, trivial⟩
  · rintro i v T t h tk m' news o₁ o₂ hv ⟨x, tt, A', B, sa, sb, ta, tb, c, rfl, rfl, hok, hR, hl⟩ hT F N
    obtain ⟨k, tT, hk, rfl⟩ := hS.2 i v hv
    have hi : i < zs.length := (List.getElem?_eq_some_iff.mp hk).1
    exact turn i k t T tT x tt A' B sa sb ta tb c h tk I o₁ o₂ hk (hz k (List.mem_of_getElem? hk)) hok hR hl hi hT F N hI' (hI' (srcObj 0 0 0 0 0) _ (updF_mem U _))
  · rintro m' news h tk ⟨x, tt, A', B, sa, sb, ta, tb, c, rfl, rfl, hok, hR, hl⟩ F N
    rw [hvl] at hR hl
    rw [List.take_length] at hR
    exact done h tk x tt A' B sa sb ta tb c hok hR hl F N
theorem ne_nil_lst {L l l2 : Addr} {n n2 : Nat} {news : List (Addr × Obj)} {vs : List Value} {zs : List Str} {Q : Value → Shared → Prop} (N : News h₀ L s.heap news) (h1 : (l, W.listOf (List.toArray vs) n) ∈ news) (h2 : (l2, W.listOf #[] n2) ∈ news) (hS : Strs vs zs) (hL : SeqAt.shaped (.list (zs.map PyData.str)) = true) (hu : A.units + 64 < cLine)
    (h : Q (.bool (decide (zs ≠ []))) s) : wpAny (model prog w) A (compareOp .NotEq (.ref l) (.ref l2)) Q E s := by
  refine ne_dataH (.list (N _ h1).1 rfl rfl (reads_strs hS)) (.list (as := []) (N _ h2).1 rfl rfl .nil) hL (by decide +kernel) hu ?_
  have e : (!PyData.eqv (.list (zs.map PyData.str)) (.list [])) = decide (zs ≠ []) := by
    cases zs with
    | nil => simp [PyData.eqv, PyData.eqvAll]
    | cons k zs => simp [PyData.eqv, PyData.eqvAll]
  rw [e]
  exact h
end
section
variable {prog : Program} {w : World} {A : Around} {h₀ : Heap} {L : Addr} {m : Str → Option Value} {env : Env} {elt : Expr} {x : Str} {scope : Scope} {cl : List (Str × Addr)} {s : Shared} {P : Nat → Value → Prop} {Fin : List Value → List (Addr × Obj) → Prop} {news : List (Addr × Obj)} {g : Obj → List (Addr × Obj)} {S : Addr}
theorem rest_drawsU {n : Nat} {ks : List Str} {sa sb : Int} {ta tb : Tok} {c : Nat} (U : UpdF S (srcObj sa sb ta tb c) news g) (h0 : SrcOk sa sb)
    (turn : ∀ sa sb ta tb c I oI C oC D m₂ ys h tk (E' : Value → Shared → Prop), SrcOk sa sb → LCg.NsObj oC m₂ → Fr h₀ L h m → News h₀ L h ((I, oI) :: (C, oC) :: (D, LCg.lst ys) :: g (srcObj sa sb ta tb c)) → LCg.Off3 I C D (g (srcObj sa sb ta tb c)) → ((@Ne Nat I C) ∧ (@Ne Nat I D) ∧ (@Ne Nat C D)) →
      wpAny (model prog w) A (eval elt (compEnvC scope cl C env)) (DrawEnd h₀ L m { s with heap := h, toks := tk } [(I, oI), (C, oC), (D, LCg.lst ys)] g ks) E' { s with heap := h, toks := tk })
    (fin : ∀ ys zs sa sb ta tb c, SrcOk sa sb → Strs ys zs → zs.length = n → (∀ k ∈ zs, k ∈ ks) → Fin ys (g (srcObj sa sb ta tb c))) :
    LCg.CompRest prog w A h₀ L m env elt x scope cl s (fun _ => True) P Fin n 0 [] news := by
  rw [← updF_eq U]
  exact rest_draws g h0 (updF_off U) turn fin
end
end
section
open PySem PySem.W PyProof.Rows PySem.Calls
set_option maxHeartbeats 8000000
set_option maxHeartbeats 3000000 in
theorem choices_w {w : World} {mean : ExcName → Option Value} {mg mb : Str → Option Value} {dp un : Nat} {gd : Option (List Code)} {cn : Str} {cs : Scope} {a : Addr} {ccd : Value} {cl : List (Str × Addr)} {outer : List Env} {A₀ : Around} {base h₀ : Heap} {L : Addr} {m : Str → Option Value} {s : Shared} {Q E : Value → Shared → Prop} {news : List (Addr × Obj)}
   (B : Below A₀ base outer h₀) (F : Fr h₀ L s.heap m) (X : (K w.params).In h₀) (N : News h₀ L s.heap news) (T : Top q (looseW q [Str.ofString "DtdFault"]) mean mg mb h₀) (hk : cs.kind = .function) {S : Addr} {sa sb : Int} {ta tb : Tok} {c : Nat} {rest : List (Addr × Obj)}
   (hd : dp + 60 < recursionLimit) (hu : un + 140 < cLine) (hnews : news = (S, srcObj sa sb ta tb c) :: rest) (hr : ∀ p ∈ rest, p.1 ≠ S) (hs : SrcOk sa sb) (nota : Bool)
   (hyes : ∀ zs x e, Row zs x → e ∈ endS → (∀ k ∈ zs, k ∈ tokS) → zs.length < 4 → okB nota zs e = true → ∀ (C₁ T₁ : Addr) (vs : List Value) (sa' sb' : Int) (ta' tb' t1 : Tok) (c' : Nat) (h' : Heap) (tk' : Nat), Fr h₀ L h' m → News h₀ L h' ((C₁, tupOf [.str (x ++ e) t1, .ref T₁]) :: (T₁, tupOf vs) :: (S, srcObj sa' sb' ta' tb' c') :: rest) → SrcOk sa' sb' → Strs vs zs → @LT.lt Nat _ S T₁ → @LT.lt Nat _ T₁ C₁ → Q (.ref C₁) { s with heap := h', toks := tk' })
   (hno : ∀ zs x e, Row zs x → e ∈ endS → (∀ k ∈ zs, k ∈ tokS) → zs.length < 4 → okB nota zs e = false → ∀ (C₁ : Addr) (sa' sb' : Int) (ta' tb' t1 t2 : Tok) (c' : Nat) (h' : Heap) (tk' : Nat), Fr h₀ L h' m → News h₀ L h' ((C₁, tupOf [.str (x ++ e) t1, .str (Str.ofString "refused") t2]) :: (S, srcObj sa' sb' ta' tb' c') :: rest) → SrcOk sa' sb' → @LT.lt Nat _ S C₁ → Q (.ref C₁) { s with heap := h', toks := tk' }) :
   wpAny (model PySem.Challenge.rw_xw0207_01.row.prog w) (ktrTop dp un gd cn cs L a ccd cl outer) (call (.ref 309) [.ref S, .bool nota]) Q E s := by
  k_with_none
  k_with "call builtin:len" => (k_here; (with_reducible show wpAny _ _ (call _ [Value.str _ _]) _ _ _); k_dflt (refine' len_nat ?k1z0 ?_; (case k1z0 => first | assumption | decide)); k_whole; intro t9 tk9; (try dsimp only))
  k_with "subscriptTail" => (k_here; (with_reducible show wpAny _ _ (subscriptTail _ _ (Value.str _ _) (Value.int _ _)) _ _ _); k_dflt (refine' item_nat ?k1z1 ?k2z1 ?k3z1 ?_; (case k1z1 => assumption); (case k2z1 => assumption); (case k3z1 => first | (simp only [decide_eq_true_eq] at *; omega) | (simp only [decide_eq_true_eq, decide_eq_false_iff_not] at *; omega) | omega)); k_whole; intro c9 t9 tk9 hc9 hb9; (try dsimp only))
  k_with "exec Raise some none" => (k_here; k_dflt (refine' Raise_val (w := by assumption) ?khz2 ?_; (case khz2 => exact rfl)); k_whole)
  k_with "FltUp" => (k_here; k_dflt (refine' FltUp.mk ?kXz3 ?kFz3 ?kNz3 ?_; (case kXz3 => k_asm); (case kFz3 => k_asm); (case kNz3 => k_asm)); k_whole)
  k_with "leaving ref" => (k_here; first | (k_dflt (refine' air_firstN ?kKz4 ?kFz4 ?kNz4 ?kfz4 ?knz4 ?_; (case kFz4 => k_asm); (case kNz4 => k_asm); (case kKz4 => k_asm); (case kfz4 => exact rfl); (case knz4 => assumption)); k_whole; intro h9 R9 U9; (try dsimp only)) | (k_dflt (refine' air_on ?kKz4 ?kFz4 ?kRz4 ?kUz4 ?_; (case kRz4 => assumption); (case kFz4 => assumption); (case kUz4 => assumption); (case kKz4 => assumption)); k_whole; intro h9 R9 U9; (try dsimp only)))
  k_with "my k_updF" => first | exact UpdF.head (by k_all) | exact updTail (by k_extra "my k_updF") (by k_ne)
  k_with "call ref" => (k_here; k_dflt (refine' take_w ?k1z6 ?k2z6 ?k3z6 ?k4z6 ?k5z6 ?kKz6 ?kdz6 ?kuz6 ?kUz6 ?ksz6 _ _ ?kzz6 _ ?knz6 ?kn2z6 ?_; (case k1z6 => k_asm); (case k2z6 => k_asm); (case k3z6 => k_asm); (case k4z6 => k_asm); (case k5z6 => k_asm); (case kKz6 => first | exact rfl | assumption); (case kdz6 => ktr_room); (case kuz6 => ktr_units); (case kUz6 => k_extra "my k_updF"); (case ksz6 => assumption); (case kzz6 => first | exact (rfl : (4 : Int) = ((4 : Nat) : Int)) | exact (rfl : (50 : Int) = ((50 : Nat) : Int)) | exact (rfl : (9 : Int) = ((9 : Nat) : Int))); (case knz6 => decide); (case kn2z6 => decide); k_whole); intro r9 sa9 sb9 ta9 tb9 tr9 c9 h9 tk9 F9 N9 hs9 hr9; (try dsimp only at N9); (first | (replace hr9 : r9 < 4 := hr9) | (replace hr9 : r9 < 50 := hr9) | (replace hr9 : r9 < 9 := hr9)); (try dsimp only); (try k_sweep))
  k_with "call ref" => (k_here; k_dflt (refine' one_w ?k1z7 ?k2z7 ?k3z7 ?k4z7 ?k5z7 ?kKz7 ?kdz7 ?kuz7 ?kUz7 ?kTz7 ?kmz7 ?kSz7 ?knz7 ?kn2z7 ?ksz7 ?_; (case k1z7 => k_asm); (case k2z7 => k_asm); (case k3z7 => k_asm); (case k4z7 => k_asm); (case k5z7 => k_asm); (case kKz7 => first | exact rfl | assumption); (case kdz7 => ktr_room); (case kuz7 => ktr_units); (case kUz7 => k_extra "my k_updF"); (case kmz7 => k_mem); (case kTz7 => k_ne); (case kSz7 => first | exact strs3 | exact strs5 | exact strs8); (case ksz7 => assumption); (case knz7 => exact Nat.le_of_ble_eq_true rfl); (case kn2z7 => exact Nat.le_of_ble_eq_true rfl); k_whole); intro k9 sa9 sb9 ta9 tb9 tr9 c9 h9 tk9 F9 N9 hs9 hk9; (try dsimp only at N9); have hb9 := short hk9; (try dsimp only); (try k_sweep))
  k_with "exec Assign cons ListComp" => (k_here; k_dflt (refine LCg.Assign_ListComp_U (F₀ := by k_asm) (by rfl) (by with_unfolding_all rfl) (by with_unfolding_all rfl) (by decide) (by rfl) (by decide) (by rfl) (by rfl) (by rfl) ?_))
  k_with "CompSrc" => (k_here; k_dflt (refine LCg.CompSrc.range (by rfl) (by k_asm) (by k_asm) (by assumption) (rng_small (by omega)) (rng_size _) ?kzz9 ?_; (case kzz9 => (rw [sizeLine_eq]; omega)); intro g'; refine' rest_drawsU ?kUz9 ?ksz9 ?turnz9 ?finz9; (case kUz9 => k_extra "my k_updF"); (case ksz9 => assumption); (case' turnz9 => (intro sa9 sb9 ta9 tb9 c9 I9 oI9 C9 oC9 D9 m9 ys9 h9 tk9 E9 hs9 hC9 F9 N9 off9 ne9; (try dsimp only at N9 off9); (try simp only [LCg.Off3, and_true] at off9))); (case' finz9 => (intro ys9 zs9 sa9 sb9 ta9 tb9 c9 hs9 hS9 hl9 hk9; have hv9 := hS9.1))))
  k_with "DrawEnd" => (exact drawEnd (by k_asm) (fun p hp => (by assumption : News _ _ _ (_ :: _)) p (.tail _ hp)) (by assumption) (by assumption))
  k_with "compareOp NotEq ref ref" => (k_here; k_dflt (refine' ne_nil_lst ?jNz11 ?j1z11 ?j2z11 ?j3z11 ?jLz11 ?juz11 ?_; (case jNz11 => k_asm); (case j1z11 => k_mem); (case j2z11 => k_mem); (case j3z11 => assumption); (case jLz11 => exact shaped_in (by assumption)); (case juz11 => ktr_units)))
  k_with "call type:set" => (k_here; k_dflt (refine' set_K ?jhz12 ?jFz12 ?jNz12 ?jmz12 ?jiz12 ?jbz12 ?_; (case jhz12 => exact rfl); (case jFz12 => k_asm); (case jNz12 => k_asm); (case jmz12 => k_mem); (case jiz12 => assumption); (case jbz12 => (unfold scanBound; omega))); intro S9 o9 h9 tk9 F9 N9 l9 ho9; (try k_lt l9))
  k_with "call builtin:len" => (k_here; first | (k_dflt (refine' len_set_K ?jNz13 ?jmz13 ?joz13 ?jbz13 ?_; (case jNz13 => k_asm); (case jmz13 => k_mem); (case joz13 => assumption); (case jbz13 => omega)); intro t9 tk9) | (k_dflt (refine' len_lst ?klz13 ?kzz13 ?_; (case klz13 => exact News.isList (by k_asm) (by k_mem)); (case kzz13 => omega)); intro t9 tk9))
  k_with "compareOp In str ref" => (k_here; k_dflt (refine' in_list_strs ?jlz14 ?jiz14 ?_; (case jlz14 => exact News.isList (by k_asm) (by k_mem)); (case jiz14 => exact strs_are (by assumption))))
  k_with "call type:tuple" => (k_here; k_dflt (refine' kde_tupleOf ?k1z15 ?k2z15 ?k3z15 ?k4z15 ?k5z15 ?_; (case k1z15 => k_asm); (case k2z15 => k_asm); (case k3z15 => exact News.isList (by k_asm) (by k_mem)); (case k4z15 => (simp only [List.size_toArray]; omega)); (case k5z15 => exact rfl); k_whole); intro D' h' F' N' l1; (try k_lt l1))
  k_with "exec For Tuple Call" => (k_here; with_unfolding_all (refine' For_turns ?kFz16 ?_; (case kFz16 => k_asm)))
  k_with "call type:enumerate" => (k_here; k_dflt (refine' For_ch ?hhz17 ?Uz17 ?Fz17 ?Nz17 ?hmz17 ?h1z17 ?h2z17 ?hSz17 ?hokz17 ?hRz17 ?hlz17 ?hzz17 ?turnz17 ?donez17; (case hhz17 => exact rfl); (case Fz17 => k_asm); (case Nz17 => k_asm); (case Uz17 => k_extra "my k_updF"); (case hmz17 => (intro o; k_mem)); (case h1z17 => with_unfolding_all exact rfl); (case h2z17 => with_unfolding_all exact rfl); (case hSz17 => assumption); (case hokz17 => assumption); (case hRz17 => exact .start (by assumption)); (case hlz17 => (have hl9 := len_one; simp only [len_app]; omega)); (case hzz17 => assumption); (case' turnz17 => (intro i9 k9 t9 T9 tT9 x9 tt9 A9 B9 sa9 sb9 ta9 tb9 c9 h9 tk9 I9 o19 o29 hk9 hkt9 hs9 hR9 hl9 hi9 hT9 F9 N9 hI9 hSI9; (try dsimp only at N9); have hb9 := short hkt9; have hc9 := len_one)); (case' donez17 => (intro h9 tk9 x9 tt9 A9 B9 sa9 sb9 ta9 tb9 c9 hs9 hR9 hl9 F9 N9; (try dsimp only at N9); have hc9 := len_one))))
  k_with "binaryOp Add str str" => (k_here; k_dflt (refine' cat_w ?kzy4 ?_; (case kzy4 => (simp only [len_app]; omega))); intro t9 tk9)
  subst hnews
  revert X; k_fill; intro X
  refine wpAny_call ?_
  (k_dflt (refine' code_defC ?k1 ?k2 ?k3 ?k4 ?k5 ?kA ?kF ?kK ?k6 ?k7 ?k8 ?k9 ?kB ?kD ?_ ?c2 ?c3 ?c4; (case kA => exact rfl); (case kF => exact rfl); (case kK => assumption); (case k1 => k_asm); (case k2 => k_asm); (case k3 => k_asm); (case k4 => k_asm); (case k5 => k_asm); (case k6 => k_is); (case k7 => k_is); (case k8 => ktr_room); (case k9 => first | exact BindsTo.of_eq rfl | exact binds_K (by k_in) rfl (by k_is) rfl rfl rfl); (case kB => exact rfl); (case kD => decide +kernel); (case c2 => exact rfl); (case c3 => exact rfl); (case c4 => exact rfl); k_whole; intro g' L' h' tk' cells' FG' F' N' Y' B' X' T' l1; (try k_lt l1); k_cells Y'; (try simp only [List.cons_append, List.nil_append] at N'); (try dsimp only); (try k_lift B'); (try k_fold)))
  k_steps
  all_goals first
    | exact hno _ _ _ (by assumption) (by assumption) (by assumption) (by omega) (by first | exact okB_f1 (by assumption) | exact okB_f2 (by assumption) | exact okB_f3 (by omega) | exact okB_f4 (by assumption) (by assumption) | exact okB_f5 (by assumption) (by assumption)) _ _ _ _ _ _ _ _ _ _ (by k_asm) (news_one (by k_asm) (fun q hq => by repeat (first | exact hq | refine List.Mem.tail _ ?_))) (by assumption) (by omega)
    | exact hyes _ _ _ (by assumption) (by assumption) (by assumption) (by omega) (by first | exact okB_t1 (by assumption) (by assumption) (by omega) (by assumption) | exact okB_t2 (by assumption) (by assumption) (by omega) (by assumption) (by assumption)) _ _ _ _ _ _ _ _ _ _ _ (by k_asm) (news_two (by k_asm) (fun q hq => by repeat (first | exact hq | refine List.Mem.tail _ ?_))) (by assumption) (by assumption) (by omega) (by omega)
    | exact ch_next (by assumption) (by k_asm) (fun q hq => hq) (by assumption) (by assumption) (by assumption) (by assumption) (by assumption) (by assumption) (fun _ => rfl) (fun h => absurd (take_nil_of (by assumption)) h) (by assumption) (by omega) (by assumption) (by assumption)
    | exact ch_next (by assumption) (by k_asm) (fun q hq => hq) (by assumption) (by assumption) (by assumption) (by assumption) (by assumption) (by assumption) (fun h => absurd h (take_ne (by omega) (by assumption))) (fun _ => ⟨_, by assumption, rfl⟩) (by assumption) (by simp only [len_app]; omega) (by assumption) (by assumption)
end
section
open PySem PySem.W PyProof.Rows PyProof.V PySem.Calls PySem.Spec
set_option maxHeartbeats 4000000
abbrev lst (x : Str) : List Nat := x.cps.toList
theorem lst_app (a b : Str) : lst (a ++ b) = lst a ++ lst b := by
  show (a ++ b).cps.toList = _
  rw [PySem.Str.cps_append, Array.toList_append]
def okS (nota : Bool) (s : List Nat) : Bool := if nota then s.head?.any nsB else !(s.takeWhile ncB).isEmpty
def runS (nota : Bool) : Nat → List Str → List Nat → Option (List Str × List Nat)
  | 0, _, _ => none
  | f + 1, ks, s =>
    if okS nota (s.dropWhile spB) then
      if (⟨((s.dropWhile spB).takeWhile ncB).toArray⟩ : Str) ∈ ks then none else
      match ((s.dropWhile spB).dropWhile ncB).dropWhile spB with
      | 124 :: c => runS nota f (ks ++ [⟨((s.dropWhile spB).takeWhile ncB).toArray⟩]) c
      | 41 :: c => some (ks ++ [⟨((s.dropWhile spB).takeWhile ncB).toArray⟩], c)
      | _ => none
    else none
theorem drop_scan (p : Nat → Bool) (l : List Nat) (n : Nat) : l.drop (scan p l n) = (l.drop n).dropWhile p := by
  unfold scan
  rw [← List.drop_drop]
  have h := List.takeWhile_append_dropWhile (p := p) (l := l.drop n)
  have h2 : (l.drop n).drop ((l.drop n).takeWhile p).length = ((l.drop n).takeWhile p ++ (l.drop n).dropWhile p).drop ((l.drop n).takeWhile p).length := by rw [h]
  rw [h2, List.drop_left]
theorem at_head (l : List Nat) (n : Nat) : l[n]? = (l.drop n).head? := by rw [List.head?_drop]
theorem tok_okS (nota : Bool) (l : List Nat) (n : Nat) : tokOk nota l n = okS nota (l.drop n) := by
  unfold tokOk okS
  cases nota
  · simp only [Bool.false_eq_true, if_false]
    unfold scan
    cases h : (l.drop n).takeWhile ncB with
    | nil => simp
    | cons c r =>
      simp only [List.length_cons, List.isEmpty_cons, Bool.not_false, bne_iff_ne]
      omega
  · simp only [if_true]
    rw [at_head]
theorem drop_cons {l : List Nat} {n c : Nat} (h : l[n]? = some c) : l.drop n = c :: l.drop (n + 1) := by
  obtain ⟨hl, e⟩ := List.getElem?_eq_some_iff.mp h
  rw [List.drop_eq_getElem_cons hl, e]
def RunR (nota : Bool) (f : Nat) (ks : List Str) (l : List Nat) (n : Nat) : Except Nat (List Str × Nat) → Prop
  | .ok (zs, m) => ∃ c, runS nota f ks (l.drop n) = some (zs, c) ∧ m + c.length = l.length
  | .error _ => runS nota f ks (l.drop n) = none
/-- the machine on places and the machine on what is left -/
theorem run_of {nota : Bool} {l : List Nat} {ks : List Str} {n : Nat} {r : Except Nat (List Str × Nat)} (h : Ans nota l ks n r) : ∀ f, l.length - n < f → RunR nota f ks l n r := by
  induction h with
  | bad h1 =>
    intro f hf
    obtain ⟨f, rfl⟩ : ∃ f', f = f' + 1 := ⟨f - 1, by omega⟩
    rw [tok_okS, drop_scan] at h1
    show runS _ _ _ _ = none
    unfold runS
    rw [h1]
    rfl
  | twice h1 h2 =>
    intro f hf
    obtain ⟨f, rfl⟩ : ∃ f', f = f' + 1 := ⟨f - 1, by omega⟩
    rw [tok_okS, drop_scan] at h1
    unfold tokAt at h2
    rw [drop_scan] at h2
    show runS _ _ _ _ = none
    unfold runS
    rw [h1, if_pos rfl, if_pos h2]
  | @more ks n r h1 h2 h3 h4 ih =>
    intro f hf
    obtain ⟨f, rfl⟩ : ∃ f', f = f' + 1 := ⟨f - 1, by omega⟩
    have hb := (List.getElem?_eq_some_iff.mp h3).1
    have g1 := @scan_ge spB l n
    have g2 := @scan_ge ncB l (scan spB l n)
    have g3 := @scan_ge spB l (scan ncB l (scan spB l n))
    have hc := drop_cons h3
    have ih' := ih f (by omega)
    have e : runS nota (f + 1) ks (l.drop n) = runS nota f (ks ++ [tokAt l (scan spB l n)]) (l.drop (scan spB l (scan ncB l (scan spB l n)) + 1)) := by
      rw [drop_scan, drop_scan, drop_scan] at hc
      rw [tok_okS, drop_scan] at h1
      unfold tokAt at h2 ⊢
      rw [drop_scan] at h2 ⊢
      conv => lhs; unfold runS
      rw [h1, if_pos rfl, if_neg h2, hc]
      rfl
    unfold RunR at ih' ⊢
    rw [e]
    exact ih'
  | @ended ks n h1 h2 h3 =>
    intro f hf
    obtain ⟨f, rfl⟩ : ∃ f', f = f' + 1 := ⟨f - 1, by omega⟩
    have hb := (List.getElem?_eq_some_iff.mp h3).1
    have hc := drop_cons h3
    refine ⟨l.drop (scan spB l (scan ncB l (scan spB l n)) + 1), ?_, by rw [List.length_drop]; omega⟩
    rw [drop_scan, drop_scan, drop_scan] at hc
    rw [tok_okS, drop_scan] at h1
    unfold tokAt at h2 ⊢
    rw [drop_scan] at h2 ⊢
    conv => lhs; unfold runS
    rw [h1, if_pos rfl, if_neg h2, hc]
    rfl
  | @open_ ks n h1 h2 h3 h4 =>
    intro f hf
    obtain ⟨f, rfl⟩ : ∃ f', f = f' + 1 := ⟨f - 1, by omega⟩
    rw [at_head, drop_scan, drop_scan, drop_scan] at h3 h4
    rw [tok_okS, drop_scan] at h1
    unfold tokAt at h2
    rw [drop_scan] at h2
    show runS _ _ _ _ = none
    unfold runS
    rw [h1, if_pos rfl, if_neg h2]
    split
    · rename_i c e; rw [e] at h3; simp at h3
    · rename_i c e; rw [e] at h4; simp at h4
    · rfl
/-- the rows behind the first token -/
inductive Blk : List Str → List Nat → Prop
  | nil : Blk [] []
  | cons {k g1 g : Str} {zs : List Str} {w : List Nat} : k ∈ tokS → g1 ∈ gapS → g ∈ gapS → Blk zs w → Blk (k :: zs) (124 :: (lst g1 ++ (lst k ++ (lst g ++ w))))
theorem Blk.snoc {k g1 g : Str} (hk : k ∈ tokS) (h1 : g1 ∈ gapS) (hg : g ∈ gapS) : ∀ {zs : List Str} {w : List Nat}, Blk zs w → Blk (zs ++ [k]) (w ++ (124 :: (lst g1 ++ (lst k ++ lst g)))) := by
  intro zs w h
  induction h with
  | nil =>
    have := Blk.cons hk h1 hg Blk.nil
    simpa using this
  | cons a b c d ih =>
    have := Blk.cons a b c ih
    simpa using this
theorem lst_par : lst (Str.ofString "(") = [40] := by decide +kernel
theorem lst_bar : lst (Str.ofString "|") = [124] := by decide +kernel
theorem lst_mt : lst (Str.ofString "") = [] := by decide +kernel
theorem row_form {zs : List Str} {x : Str} (h : Row zs x) : (zs = [] ∧ ∃ g ∈ gapS, lst x = 40 :: lst g) ∨ ∃ g k g' zs' w, g ∈ gapS ∧ k ∈ tokS ∧ g' ∈ gapS ∧ zs = k :: zs' ∧ lst x = 40 :: (lst g ++ (lst k ++ (lst g' ++ w))) ∧ Blk zs' w := by
  induction h with
  | @start g hg =>
    refine .inl ⟨rfl, g, hg, ?_⟩
    rw [lst_app, lst_par]
    rfl
  | @more ks x k p g _ hk hg h0 h1 ih =>
    refine .inr ?_
    rcases ih with ⟨rfl, g0, hg0, e⟩ | ⟨g0, k0, g0', zs', w, a, b, c, rfl, e, hB⟩
    · rw [h0 rfl]
      refine ⟨g0, k, g, [], [], hg0, hk, hg, rfl, ?_, .nil⟩
      rw [lst_app, lst_app, lst_app, e, lst_mt]
      simp
    · obtain ⟨g1, hg1, rfl⟩ := h1 (by simp)
      refine ⟨g0, k0, g0', zs' ++ [k], _, a, b, c, rfl, ?_, hB.snoc hk hg1 hg⟩
      rw [lst_app, lst_app, lst_app, lst_app, e, lst_bar]
      simp
theorem tok_facts : ∀ k ∈ tokS, (lst k).all ncB = true ∧ (lst k).head?.any spB = false ∧ (lst k).isEmpty = false := by decide +kernel
theorem gap_facts : ∀ g ∈ gapS, (lst g).all spB = true := by decide +kernel
def okT (nota : Bool) (k : Str) : Bool := if nota then (lst k).head?.any nsB else true
theorem okT_is : ∀ k ∈ tokS, okT true k = !(k == Str.ofString "2" || k == Str.ofString "-") := by decide +kernel
theorem dw_app {p : Nat → Bool} {a b : List Nat} (h : a.all p = true) : (a ++ b).dropWhile p = b.dropWhile p := by
  induction a with
  | nil => rfl
  | cons c a ih =>
    simp only [List.all_cons, Bool.and_eq_true] at h
    rw [List.cons_append, List.dropWhile_cons, if_pos h.1]
    exact ih h.2
theorem tw_app {p : Nat → Bool} {a b : List Nat} (h : a.all p = true) (hb : b.head?.any p = false) : (a ++ b).takeWhile p = a ∧ (a ++ b).dropWhile p = b := by
  induction a with
  | nil =>
    cases b with
    | nil => exact ⟨rfl, rfl⟩
    | cons c b =>
      have hc : p c = false := by simpa using hb
      simp [List.takeWhile_cons, List.dropWhile_cons, hc]
  | cons c a ih =>
    simp only [List.all_cons, Bool.and_eq_true] at h
    obtain ⟨h1, h2⟩ := ih h.2
    rw [List.cons_append, List.takeWhile_cons, List.dropWhile_cons, if_pos h.1, if_pos h.1, h1, h2]
    exact ⟨rfl, rfl⟩
theorem gap_head {g : Str} {R : List Nat} (hg : g ∈ gapS) (h : R.head?.any ncB = false) : (lst g ++ R).head?.any ncB = false := by
  have hf := gap_facts g hg
  cases e : lst g with
  | nil => exact h
  | cons c r =>
    rw [e] at hf
    simp only [List.all_cons, Bool.and_eq_true] at hf
    have h1 := hf.1
    show ncB c = false
    unfold spB at h1
    simp only [Bool.or_eq_true, beq_iff_eq] at h1
    rcases h1 with ((h1 | h1) | h1) | h1 <;> subst h1 <;> decide
def fin (nota : Bool) (f : Nat) (ks : List Str) (tail : List Nat) : Option (List Str × List Nat) :=
  match tail.dropWhile spB with
  | 124 :: c => runS nota f ks c
  | 41 :: c => some (ks, c)
  | _ => none
theorem run_tok {nota : Bool} {f : Nat} {ks : List Str} {k g : Str} {R : List Nat} (hk : k ∈ tokS) (hg : g ∈ gapS) (hR : R.head?.any ncB = false) : runS nota (f + 1) ks (lst g ++ (lst k ++ R)) = if okT nota k && !decide (k ∈ ks) then fin nota f (ks ++ [k]) R else none := by
  obtain ⟨h1, h2, h3⟩ := tok_facts k hk
  have e1 : (lst g ++ (lst k ++ R)).dropWhile spB = lst k ++ R := by
    rw [dw_app (gap_facts g hg)]
    cases e : lst k with
    | nil => rw [e] at h3; cases h3
    | cons c r =>
      rw [e] at h2
      have hc : spB c = false := h2
      rw [List.cons_append, List.dropWhile_cons, hc]
      rfl
  obtain ⟨e2, e3⟩ := tw_app h1 hR
  have e4 : okS nota (lst k ++ R) = okT nota k := by
    unfold okS okT
    cases nota
    · rw [e2]; simp [h3]
    · cases e : lst k with
      | nil => rw [e] at h3; cases h3
      | cons c r => rfl
  have e5 : (⟨(lst k).toArray⟩ : Str) = k := Str.ext' (by simp)
  unfold runS
  rw [e1, e2, e3, e4, e5]
  cases okT nota k
  · rfl
  · by_cases hm : k ∈ ks
    · simp [hm]
    · simp [hm, fin]
def good (nota : Bool) : List Str → List Str → Bool
  | _, [] => true
  | ks, k :: zs => okT nota k && !decide (k ∈ ks) && good nota (ks ++ [k]) zs
theorem run_blk {nota : Bool} {zs : List Str} {w tail : List Nat} (hB : Blk zs w) (ht : tail.head?.any ncB = false) : ∀ {k g g' : Str} {ks : List Str} {f : Nat}, k ∈ tokS → g ∈ gapS → g' ∈ gapS →
    runS nota (f + zs.length + 1) ks (lst g ++ (lst k ++ (lst g' ++ (w ++ tail)))) = if good nota ks (k :: zs) then fin nota f (ks ++ k :: zs) tail else none := by
  induction hB with
  | nil =>
    intro k g g' ks f hk hg hg'
    show runS nota (f + 0 + 1) ks (lst g ++ (lst k ++ (lst g' ++ tail))) = _
    rw [run_tok hk hg (gap_head hg' ht)]
    have e : fin nota f (ks ++ [k]) (lst g' ++ tail) = fin nota f (ks ++ [k]) tail := by
      unfold fin
      rw [dw_app (gap_facts g' hg')]
    rw [e]
    unfold good good
    rw [Bool.and_true]
  | @cons k2 g1 g2 zs w hk2 hg1 hg2 hB ih =>
    intro k g g' ks f hk hg hg'
    rw [run_tok hk hg (gap_head hg' rfl)]
    have e : fin nota (f + (k2 :: zs).length) (ks ++ [k]) (lst g' ++ (124 :: (lst g1 ++ (lst k2 ++ (lst g2 ++ w))) ++ tail)) = runS nota (f + zs.length + 1) (ks ++ [k]) (lst g1 ++ (lst k2 ++ (lst g2 ++ (w ++ tail)))) := by
      unfold fin
      rw [dw_app (gap_facts g' hg')]
      have e0 : ((124 :: (lst g1 ++ (lst k2 ++ (lst g2 ++ w))) ++ tail : List Nat)).dropWhile spB = 124 :: (lst g1 ++ (lst k2 ++ (lst g2 ++ (w ++ tail)))) := by
        rw [List.cons_append, List.dropWhile_cons]
        simp [spB]
      rw [e0]
      rfl
    rw [e, ih hk2 hg1 hg2]
    have e2 : ks ++ [k] ++ k2 :: zs = ks ++ k :: k2 :: zs := by simp
    rw [e2]
    conv => rhs; unfold good
    cases okT nota k && !decide (k ∈ ks) <;> rfl
end
section
open PySem PySem.W PyProof.Rows PyProof.V PySem.Calls PySem.Spec
set_option maxHeartbeats 4000000
theorem fold_le : ∀ (zs ks : List Str), (zs.foldl (fun acc k => if k ∈ acc then acc else acc ++ [k]) ks).length ≤ ks.length + zs.length
  | [], ks => by simp
  | k :: zs, ks => by
    rw [List.foldl_cons]
    split
    · have := fold_le zs ks; simp only [List.length_cons]; omega
    · have := fold_le zs (ks ++ [k]); simp only [List.length_append, List.length_cons, List.length_nil] at this ⊢; omega
theorem good_len : ∀ (zs ks : List Str), (zs.foldl (fun acc k => if k ∈ acc then acc else acc ++ [k]) ks).length = ks.length + zs.length ↔ good false ks zs = true
  | [], ks => by simp [good]
  | k :: zs, ks => by
    rw [List.foldl_cons]
    unfold good
    by_cases hm : k ∈ ks
    · rw [if_pos hm]
      have := fold_le zs ks
      simp only [List.length_cons, hm, decide_true, Bool.not_true, Bool.and_false, Bool.false_and, Bool.false_eq_true, iff_false]
      omega
    · rw [if_neg hm]
      have ih := good_len zs (ks ++ [k])
      have e : okT false k = true := rfl
      rw [e]
      simp only [hm, decide_false, Bool.not_false, Bool.and_true, Bool.true_and]
      rw [← ih]
      simp only [List.length_append, List.length_cons, List.length_nil]
      omega
theorem good_all (nota : Bool) : ∀ (zs ks : List Str), good nota ks zs = (good false ks zs && zs.all (okT nota))
  | [], ks => by simp [good]
  | k :: zs, ks => by
    have e : okT false k = true := rfl
    unfold good
    rw [good_all nota zs (ks ++ [k]), List.all_cons, e]
    cases okT nota k <;> cases decide (k ∈ ks) <;> cases good false (ks ++ [k]) zs <;> simp
theorem all_okT : ∀ {zs : List Str}, (∀ k ∈ zs, k ∈ tokS) → zs.all (okT true) = !(zs.any (· == Str.ofString "2") || zs.any (· == Str.ofString "-"))
  | [], _ => rfl
  | k :: zs, h => by
    rw [List.all_cons, List.any_cons, List.any_cons, all_okT fun k hk => h k (.tail _ hk), okT_is k (h k (.head _))]
    cases k == Str.ofString "2" <;> cases k == Str.ofString "-" <;> cases zs.any (· == Str.ofString "2") <;> cases zs.any (· == Str.ofString "-") <;> rfl
theorem good_is {nota : Bool} {zs : List Str} (h : ∀ k ∈ zs, k ∈ tokS) : good nota [] zs = (((((dd zs).length : Nat) : Int) == ((zs.length : Nat) : Int)) && !(nota && (zs.any (· == Str.ofString "2") || zs.any (· == Str.ofString "-")))) := by
  rw [good_all]
  have e1 : good false [] zs = ((((dd zs).length : Nat) : Int) == ((zs.length : Nat) : Int)) := by
    have := good_len zs []
    rw [Bool.eq_iff_iff, ← this, beq_iff_eq]
    show (dd zs).length = 0 + zs.length ↔ _
    omega
  rw [e1]
  cases nota
  · have : zs.all (okT false) = true := List.all_eq_true.mpr fun _ _ => rfl
    rw [this]; simp
  · rw [all_okT h]; simp
abbrev behS : List Str := [Str.ofString "", Str.ofString " x", Str.ofString "\t#"]
theorem tail_head : ∀ e ∈ endS, ∀ b ∈ behS, (lst e ++ lst b).head?.any ncB = false := by decide +kernel
theorem l_close : lst (Str.ofString ")") = [41] := by decide +kernel
theorem l_pipe : lst (Str.ofString "|)") = [124, 41] := by decide +kernel
theorem l_comma : lst (Str.ofString ",a)") = [44, 97, 41] := by decide +kernel
theorem l_x : lst (Str.ofString " x") = [32, 120] := by decide +kernel
theorem l_t : lst (Str.ofString "\t#") = [9, 35] := by decide +kernel
theorem end_eq {e : Str} (h : e ∈ endS) : (e = Str.ofString ")" ∧ lst e = [41] ∧ (e == Str.ofString ")") = true) ∨ ((lst e = [] ∨ lst e = [124, 41] ∨ lst e = [44, 97, 41]) ∧ (e == Str.ofString ")") = false) := by
  unfold endS at h
  simp only [List.mem_cons, List.not_mem_nil, or_false] at h
  rcases h with rfl | rfl | rfl | rfl | rfl
  · exact .inl ⟨rfl, l_close, BEq.rfl⟩
  · exact .inl ⟨rfl, l_close, BEq.rfl⟩
  · exact .inr ⟨.inl lst_mt, by decide +kernel⟩
  · exact .inr ⟨.inr (.inl l_pipe), by decide +kernel⟩
  · exact .inr ⟨.inr (.inr l_comma), by decide +kernel⟩
theorem beh_eq {b : Str} (h : b ∈ behS) : lst b = [] ∨ lst b = [32, 120] ∨ lst b = [9, 35] := by
  unfold behS at h
  simp only [List.mem_cons, List.not_mem_nil, or_false] at h
  rcases h with rfl | rfl | rfl
  · exact .inl lst_mt
  · exact .inr (.inl l_x)
  · exact .inr (.inr l_t)
theorem fin_is {nota : Bool} {f : Nat} {ks : List Str} {e b : Str} (he : e ∈ endS) (hb : b ∈ behS) : fin nota (f + 1) ks (lst e ++ lst b) = if e == Str.ofString ")" then some (ks, lst b) else none := by
  rcases end_eq he with ⟨_, h1, h2⟩ | ⟨h1, h2⟩
  · rw [h1, h2]
    rfl
  · rw [h2]
    rcases h1 with h1 | h1 | h1 <;> rcases beh_eq hb with h3 | h3 | h3 <;> rw [h1, h3] <;> cases nota <;> rfl
theorem run_none {nota : Bool} {f : Nat} {g e b : Str} (hg : g ∈ gapS) (he : e ∈ endS) (hb : b ∈ behS) : runS nota (f + 1) [] (lst g ++ (lst e ++ lst b)) = none := by
  unfold runS
  rw [dw_app (gap_facts g hg)]
  rcases end_eq he with ⟨_, h1, h2⟩ | ⟨h1, h2⟩
  · rcases beh_eq hb with h3 | h3 | h3 <;> rw [h1, h3] <;> cases nota <;> rfl
  · rcases h1 with h1 | h1 | h1 <;> rcases beh_eq hb with h3 | h3 | h3 <;> rw [h1, h3] <;> cases nota <;> rfl
theorem row_run {nota : Bool} {zs : List Str} {x e b : Str} {f : Nat} (h : Row zs x) (hz : ∀ k ∈ zs, k ∈ tokS) (he : e ∈ endS) (hb : b ∈ behS) (hf : zs.length + 3 ≤ f) :
    ∃ s, lst x ++ (lst e ++ lst b) = 40 :: s ∧ runS nota f [] s = if okB nota zs e then some (zs, lst b) else none := by
  rcases row_form h with ⟨rfl, g, hg, ex⟩ | ⟨g, k, g', zs', w, hg, hk, hg', rfl, ex, hB⟩
  · refine ⟨lst g ++ (lst e ++ lst b), by rw [ex]; rfl, ?_⟩
    obtain ⟨f, rfl⟩ : ∃ f', f = f' + 1 := ⟨f - 1, by omega⟩
    rw [run_none hg he hb, okB_f1 (by simp)]
    rfl
  · refine ⟨lst g ++ (lst k ++ (lst g' ++ (w ++ (lst e ++ lst b)))), by rw [ex]; simp, ?_⟩
    obtain ⟨f, rfl⟩ : ∃ f', f = f' + 1 + zs'.length + 1 := ⟨f - zs'.length - 2, by simp only [List.length_cons] at hf; omega⟩
    rw [run_blk hB (tail_head e he b hb) hk hg hg', good_is hz, List.nil_append, fin_is he hb]
    unfold okB
    have e1 : decide (k :: zs' ≠ []) = true := by simp
    rw [e1]
    cases e == Str.ofString ")" <;> cases ((((dd (k :: zs')).length : Nat) : Int) == (((k :: zs').length : Nat) : Int)) <;> cases (nota && ((k :: zs').any (· == Str.ofString "2") || (k :: zs').any (· == Str.ofString "-"))) <;> rfl
/-- a text of an enumeration -/
theorem enum_K {zs : List Str} {x e b : Str} (h : Row zs x) (hz : ∀ k ∈ zs, k ∈ tokS) (he : e ∈ endS) (hb : b ∈ behS) {r : Except Nat (Str × List Str × Nat)} (a : KAns (lst (x ++ e ++ b)) 0 r) :
    if okB false zs e then r = .ok (Str.ofString "enumeration", zs, (x ++ e).length) else ∃ p, r = .error p := by
  have e0 : lst (x ++ e ++ b) = lst x ++ (lst e ++ lst b) := by rw [lst_app, lst_app, List.append_assoc]
  obtain ⟨s, h1, h2⟩ := row_run (f := zs.length + (lst (x ++ e ++ b)).length + 5) (nota := false) h hz he hb (by omega)
  have hl : (lst (x ++ e ++ b)).length = (x ++ e).length + (lst b).length := by
    rw [lst_app, List.length_append]
    congr 1
  rw [e0, h1] at a hl h2
  cases a with
  | enum_ok a1 a2 =>
    obtain ⟨c, h3, h4⟩ := run_of a2 (zs.length + (40 :: s).length + 5) (by omega)
    rw [Nat.zero_add, List.drop_succ_cons, List.drop_zero, h2] at h3
    cases hB : okB false zs e
    · rw [hB] at h3; cases h3
    · rw [hB] at h3
      cases h3
      rw [if_pos rfl]
      have : (x ++ e).length = _ := Nat.add_right_cancel (hl.symm.trans h4.symm)
      rw [this]
  | enum_bad a1 a2 =>
    have h3 := run_of a2 (zs.length + (40 :: s).length + 5) (by omega)
    unfold RunR at h3
    rw [Nat.zero_add, List.drop_succ_cons, List.drop_zero, h2] at h3
    cases hB : okB false zs e
    · exact ⟨_, rfl⟩
    · rw [hB] at h3; cases h3
  | bad a1 _ => exact absurd rfl a1
  | nota_gap a1 _ _ _ => exact absurd rfl a1
  | nota_ok a1 _ _ _ _ _ => exact absurd rfl a1
  | nota_bad a1 _ _ _ _ _ => exact absurd rfl a1
  | plain a1 _ _ _ => exact absurd rfl a1
  | other a1 _ _ _ => exact absurd rfl a1
end
section
open PySem PySem.W PyProof.Rows PyProof.V PySem.Calls PySem.Spec
set_option maxHeartbeats 4000000
abbrev gapN : List Str := [Str.ofString "", Str.ofString " ", Str.ofString "\r\n"]
abbrev NOT : Str := Str.ofString "NOTATION"
theorem lst_not : lst NOT = [78, 79, 84, 65, 84, 73, 79, 78] := by decide +kernel
theorem gapN_facts : ∀ g ∈ gapN, (lst g).all spB = true ∧ (g == Str.ofString "") = (lst g).isEmpty := by decide +kernel
theorem nota_K {zs : List Str} {x e b g : Str} (h : Row zs x) (hz : ∀ k ∈ zs, k ∈ tokS) (he : e ∈ endS) (hb : b ∈ behS) (hg : g ∈ gapN) {r : Except Nat (Str × List Str × Nat)} (a : KAns (lst (NOT ++ g ++ (x ++ e) ++ b)) 0 r) :
    if (g == Str.ofString "") = false ∧ okB true zs e = true then r = .ok (Str.ofString "notation", zs, (NOT ++ g ++ (x ++ e)).length) else ∃ p, r = .error p := by
  have e0 : lst (NOT ++ g ++ (x ++ e) ++ b) = lst NOT ++ (lst g ++ (lst x ++ (lst e ++ lst b))) := by rw [lst_app, lst_app, lst_app, lst_app]; simp only [List.append_assoc]
  obtain ⟨s, h1, h2⟩ := row_run (f := zs.length + (lst (NOT ++ g ++ (x ++ e) ++ b)).length + 5) (nota := true) h hz he hb (by omega)
  have hl : (lst (NOT ++ g ++ (x ++ e) ++ b)).length = (NOT ++ g ++ (x ++ e)).length + (lst b).length := by
    rw [lst_app, List.length_append]
    congr 1
  obtain ⟨g1, g2⟩ := gapN_facts g hg
  rw [e0, h1] at a hl h2
  have f1 : (lst NOT).all ncB = true := by decide +kernel
  have f2 : (lst g ++ 40 :: s).head?.any ncB = false := by
    cases e : lst g with
    | nil => rfl
    | cons c r =>
      rw [e] at g1
      simp only [List.all_cons, Bool.and_eq_true] at g1
      have h1 := g1.1
      show ncB c = false
      unfold spB at h1
      simp only [Bool.or_eq_true, beq_iff_eq] at h1
      rcases h1 with ((h1 | h1) | h1) | h1 <;> subst h1 <;> decide
  have f3 : (40 :: s).head?.any spB = false := rfl
  obtain ⟨t1, d1⟩ := tw_app f1 f2
  obtain ⟨t2, d2⟩ := tw_app g1 f3
  have l8 : (lst NOT).length = 8 := by rw [lst_not]; rfl
  have c1 : scan ncB (lst NOT ++ (lst g ++ 40 :: s)) 0 = 8 := by
    unfold scan
    rw [List.drop_zero, t1, l8]
  have dr8 : (lst NOT ++ (lst g ++ 40 :: s)).drop 8 = lst g ++ 40 :: s := by rw [← l8, List.drop_left]
  have c2 : scan spB (lst NOT ++ (lst g ++ 40 :: s)) 8 = 8 + (lst g).length := by
    unfold scan
    rw [dr8, t2]
  have c3 : tokAt (lst NOT ++ (lst g ++ 40 :: s)) 0 = NOT := by
    unfold tokAt
    rw [List.drop_zero, t1]
  have c4 : (tokAt (lst NOT ++ (lst g ++ 40 :: s)) 0 == Str.ofString "NOTATION") = true := by rw [c3]; exact BEq.rfl
  have dr : (lst NOT ++ (lst g ++ 40 :: s)).drop (8 + (lst g).length) = 40 :: s := by rw [← List.drop_drop, dr8, List.drop_left]
  have c5 : (lst NOT ++ (lst g ++ 40 :: s))[8 + (lst g).length]? = some 40 := by rw [at_head, dr]; rfl
  have dr' : (lst NOT ++ (lst g ++ 40 :: s)).drop (8 + (lst g).length + 1) = s := by rw [← List.drop_drop, dr]; rfl
  have hd0 : (lst NOT ++ (lst g ++ 40 :: s))[0]? = some 78 := by rw [lst_not]; rfl
  have ge : (lst g).isEmpty = decide ((lst g).length = 0) := by cases lst g <;> simp
  generalize hL : lst NOT ++ (lst g ++ 40 :: s) = l at *
  rw [g2]
  cases a with
  | enum_ok a1 _ => rw [hd0] at a1; cases a1
  | enum_bad a1 _ => rw [hd0] at a1; cases a1
  | bad _ a1 => rw [hd0] at a1; cases a1
  | plain _ _ a1 _ => rw [c4] at a1; cases a1
  | other _ _ a1 _ => rw [c4] at a1; cases a1
  | nota_gap _ _ _ a1 =>
    rw [c1, c2] at a1
    rw [if_neg ?_]
    · exact ⟨_, rfl⟩
    · rw [ge, decide_eq_true (by omega)]
      simp
  | nota_ok _ _ _ a1 a2 a3 =>
    rw [c1, c2] at a1 a3
    obtain ⟨c, h3, h4⟩ := run_of a3 (zs.length + l.length + 5) (by omega)
    rw [dr', h2] at h3
    cases hB : okB true zs e
    · rw [hB] at h3; cases h3
    · rw [hB] at h3
      cases h3
      rw [if_pos ⟨by rw [ge]; exact decide_eq_false (by omega), rfl⟩]
      have : (NOT ++ g ++ (x ++ e)).length = _ := Nat.add_right_cancel (hl.symm.trans h4.symm)
      rw [this]
  | nota_bad _ _ _ a1 a2 a3 =>
    rw [c1, c2] at a1 a2 a3
    have h3 := run_of (a2 c5) (zs.length + l.length + 5) (by omega)
    unfold RunR at h3
    rw [dr', h2] at h3
    cases hB : okB true zs e
    · rw [if_neg (by simp)]; exact ⟨_, rfl⟩
    · rw [hB] at h3; cases h3
theorem enum_ok {zs : List Str} {x e b : Str} (h : Row zs x) (hz : ∀ k ∈ zs, k ∈ tokS) (he : e ∈ endS) (hb : b ∈ behS) (ho : okB false zs e = true) (r : Except Nat (Str × List Str × Nat)) (a : KAns (x ++ e ++ b).cps.toList 0 r) : r = .ok (Str.ofString "enumeration", zs, (x ++ e).length) := by
  have := enum_K h hz he hb a
  rw [if_pos ho] at this
  exact this
theorem enum_bad {zs : List Str} {x e b : Str} (h : Row zs x) (hz : ∀ k ∈ zs, k ∈ tokS) (he : e ∈ endS) (hb : b ∈ behS) (ho : okB false zs e = false) (r : Except Nat (Str × List Str × Nat)) (a : KAns (x ++ e ++ b).cps.toList 0 r) : ∃ p, r = .error p ∧ (Value.none = .none ∨ ∃ tp, Value.none = .int (p : Int) tp) := by
  have := enum_K h hz he hb a
  rw [if_neg (by rw [ho]; simp)] at this
  obtain ⟨p, e⟩ := this
  exact ⟨p, e, .inl rfl⟩
theorem nota_ok {zs : List Str} {x e b g : Str} (h : Row zs x) (hz : ∀ k ∈ zs, k ∈ tokS) (he : e ∈ endS) (hb : b ∈ behS) (hg : g ∈ gapN) (h1 : (g == Str.ofString "") = false) (ho : okB true zs e = true) (r : Except Nat (Str × List Str × Nat)) (a : KAns (NOT ++ g ++ (x ++ e) ++ b).cps.toList 0 r) : r = .ok (Str.ofString "notation", zs, (NOT ++ g ++ (x ++ e)).length) := by
  have := nota_K h hz he hb hg a
  rw [if_pos ⟨h1, ho⟩] at this
  exact this
theorem nota_bad {zs : List Str} {x e b g : Str} (h : Row zs x) (hz : ∀ k ∈ zs, k ∈ tokS) (he : e ∈ endS) (hb : b ∈ behS) (hg : g ∈ gapN) (ho : (g == Str.ofString "") = true ∨ okB true zs e = false) (r : Except Nat (Str × List Str × Nat)) (a : KAns (NOT ++ g ++ (x ++ e) ++ b).cps.toList 0 r) : ∃ p, r = .error p ∧ (Value.none = .none ∨ ∃ tp, Value.none = .int (p : Int) tp) := by
  have := nota_K h hz he hb hg a
  rw [if_neg (by rcases ho with ho | ho <;> rw [ho] <;> simp)] at this
  obtain ⟨p, e⟩ := this
  exact ⟨p, e, .inl rfl⟩
/- a row of choices and its place: computed -/
def ansF (nota : Bool) (l : List Nat) : Nat → List Str → Nat → Except Nat (List Str × Nat)
  | 0, _, n => .error n
  | f + 1, ks, n =>
    if tokOk nota l (scan spB l n) then
      if tokAt l (scan spB l n) ∈ ks then .error (scan ncB l (scan spB l n)) else
      if l[scan spB l (scan ncB l (scan spB l n))]? = some 124 then ansF nota l f (ks ++ [tokAt l (scan spB l n)]) (scan spB l (scan ncB l (scan spB l n)) + 1) else
      if l[scan spB l (scan ncB l (scan spB l n))]? = some 41 then .ok (ks ++ [tokAt l (scan spB l n)], scan spB l (scan ncB l (scan spB l n)) + 1) else
      .error (scan spB l (scan ncB l (scan spB l n)))
    else .error (scan spB l n)
theorem ansF_of {nota : Bool} {l : List Nat} {ks : List Str} {n : Nat} {r : Except Nat (List Str × Nat)} (h : Ans nota l ks n r) : ∀ f, l.length - n < f → r = ansF nota l f ks n := by
  induction h with
  | bad h1 =>
    intro f hf
    obtain ⟨f, rfl⟩ : ∃ f', f = f' + 1 := ⟨f - 1, by omega⟩
    unfold ansF
    rw [h1]
    rfl
  | twice h1 h2 =>
    intro f hf
    obtain ⟨f, rfl⟩ : ∃ f', f = f' + 1 := ⟨f - 1, by omega⟩
    unfold ansF
    rw [h1, if_pos rfl, if_pos h2]
  | @more ks n r h1 h2 h3 h4 ih =>
    intro f hf
    obtain ⟨f, rfl⟩ : ∃ f', f = f' + 1 := ⟨f - 1, by omega⟩
    have hb := (List.getElem?_eq_some_iff.mp h3).1
    have g1 := @scan_ge spB l n
    have g2 := @scan_ge ncB l (scan spB l n)
    have g3 := @scan_ge spB l (scan ncB l (scan spB l n))
    have ih' := ih f (by omega)
    unfold ansF
    rw [h1, if_pos rfl, if_neg h2, if_pos h3]
    exact ih'
  | @ended ks n h1 h2 h3 =>
    intro f hf
    obtain ⟨f, rfl⟩ : ∃ f', f = f' + 1 := ⟨f - 1, by omega⟩
    unfold ansF
    rw [h1, if_pos rfl, if_neg h2, if_neg (by rw [h3]; simp), if_pos h3]
  | @open_ ks n h1 h2 h3 h4 =>
    intro f hf
    obtain ⟨f, rfl⟩ : ∃ f', f = f' + 1 := ⟨f - 1, by omega⟩
    unfold ansF
    rw [h1, if_pos rfl, if_neg h2, if_neg h3, if_neg h4]
def named (nm : Str) : Except Nat (List Str × Nat) → Except Nat (Str × List Str × Nat)
  | .ok (ks, n) => .ok (nm, ks, n)
  | .error p => .error p
def kansF (l : List Nat) : Except Nat (Str × List Str × Nat) :=
  if l[0]? = some 40 then named (Str.ofString "enumeration") (ansF false l (l.length + 1) [] 1) else
  if (l[0]?).any nsB = false then .error 0 else
  if (tokAt l 0 == Str.ofString "NOTATION") = true then
    if scan spB l (scan ncB l 0) = scan ncB l 0 then .error (scan ncB l 0) else
    if l[scan spB l (scan ncB l 0)]? = some 40 then named (Str.ofString "notation") (ansF true l (l.length + 1) [] (scan spB l (scan ncB l 0) + 1)) else .error (scan spB l (scan ncB l 0))
  else if (kinds.any (· == tokAt l 0)) = true then .ok (tokAt l 0, [], scan ncB l 0) else .error 0
theorem kansF_of {l : List Nat} {r : Except Nat (Str × List Str × Nat)} (a : KAns l 0 r) : r = kansF l := by
  cases a with
  | enum_ok a1 a2 => unfold kansF; rw [if_pos a1, ← ansF_of a2 _ (by omega)]; rfl
  | enum_bad a1 a2 => unfold kansF; rw [if_pos a1, ← ansF_of a2 _ (by omega)]; rfl
  | bad a1 a2 => unfold kansF; rw [if_neg a1, if_pos a2]
  | nota_gap a1 a2 a3 a4 => unfold kansF; rw [if_neg a1, if_neg (by rw [a2]; simp), if_pos a3, if_pos a4]
  | nota_ok a1 a2 a3 a4 a5 a6 => unfold kansF; rw [if_neg a1, if_neg (by rw [a2]; simp), if_pos a3, if_neg a4, if_pos a5, ← ansF_of a6 _ (by omega)]; rfl
  | nota_bad a1 a2 a3 a4 a5 a6 =>
    unfold kansF
    rw [if_neg a1, if_neg (by rw [a2]; simp), if_pos a3, if_neg a4]
    by_cases h : l[scan spB l (scan ncB l 0)]? = some 40
    · rw [if_pos h, ← ansF_of (a5 h) _ (by omega)]; rfl
    · rw [if_neg h, a6 h]
  | plain a1 a2 a3 a4 => unfold kansF; rw [if_neg a1, if_neg (by rw [a2]; simp), if_neg (by rw [a3]; simp), if_pos a4]
  | other a1 a2 a3 a4 => unfold kansF; rw [if_neg a1, if_neg (by rw [a2]; simp), if_neg (by rw [a3]; simp), if_neg (by rw [a4]; simp)]
/-- whether a computed answer is the one told -/
def isOk (nm : Str) (ks : List Str) (p : Nat) : Except Nat (Str × List Str × Nat) → Bool
  | .ok (nm', ks', p') => nm' == nm && decide (ks' = ks) && p' == p
  | .error _ => false
def isBad (p : Nat) : Except Nat (Str × List Str × Nat) → Bool
  | .ok _ => false
  | .error p' => p' == p
theorem isOk_of {nm : Str} {ks : List Str} {p : Nat} {l : List Nat} (h : isOk nm ks p (kansF l) = true) {r : Except Nat (Str × List Str × Nat)} (a : KAns l 0 r) : r = .ok (nm, ks, p) := by
  rw [kansF_of a]
  generalize kansF l = z at h
  match z, h with
  | .ok (nm', ks', p'), h =>
    simp only [isOk, Bool.and_eq_true, beq_iff_eq, decide_eq_true_eq] at h
    obtain ⟨⟨h1, h2⟩, h3⟩ := h
    rw [h1, h2, h3]
theorem isBad_of {p : Nat} {l : List Nat} (h : isBad p (kansF l) = true) {r : Except Nat (Str × List Str × Nat)} (a : KAns l 0 r) : r = .error p := by
  rw [kansF_of a]
  generalize kansF l = z at h
  match z, h with
  | .error p', h =>
    have := (beq_iff_eq (a := p') (b := p)).mp h
    rw [this]
abbrev wordS : List Str := [Str.ofString "CDATA", Str.ofString "ID", Str.ofString "IDREF", Str.ofString "IDREFS", Str.ofString "ENTITY", Str.ofString "ENTITIES", Str.ofString "NMTOKEN", Str.ofString "NMTOKENS"]
abbrev badS : List Str := [Str.ofString "cdata", Str.ofString "IDS", Str.ofString "ENTITYS", Str.ofString "NOTATIONS", Str.ofString "a", Str.ofString "", Str.ofString "1", Str.ofString " ID"]
theorem word_all : ∀ k ∈ wordS, ∀ b ∈ behS, isOk k [] k.length (kansF (lst (k ++ b))) = true := by decide +kernel
theorem bad_all : ∀ k ∈ badS, ∀ b ∈ behS, isBad 0 (kansF (lst (k ++ b))) = true := by decide +kernel
theorem word_K {k b : Str} (hk : k ∈ wordS) (hb : b ∈ behS) {r : Except Nat (Str × List Str × Nat)} (a : KAns (lst (k ++ b)) 0 r) : r = .ok (k, [], k.length) := isOk_of (word_all k hk b hb) a
theorem bad_K {k b : Str} (hk : k ∈ badS) (hb : b ∈ behS) {r : Except Nat (Str × List Str × Nat)} (a : KAns (lst (k ++ b)) 0 r) : r = .error 0 := isBad_of (bad_all k hk b hb) a
theorem bad_0 {k b : Str} {t : Tok} (hk : k ∈ badS) (hb : b ∈ behS) (r : Except Nat (Str × List Str × Nat)) (a : KAns (k ++ b).cps.toList 0 r) : ∃ p, r = .error p ∧ (Value.int 0 t = .none ∨ ∃ tp, Value.int 0 t = .int (p : Int) tp) := ⟨0, bad_K hk hb a, .inr ⟨t, rfl⟩⟩
theorem word_ok {k b : Str} (hk : k ∈ wordS) (hb : b ∈ behS) (r : Except Nat (Str × List Str × Nat)) (a : KAns (k ++ b).cps.toList 0 r) : r = .ok (k, [], k.length) := word_K hk hb a
theorem word_strOk : wordS.all (fun k => PyData.strOk k) = true := by decide +kernel
theorem word_shaped {k : Str} (hk : k ∈ wordS) : SeqAt.shaped (kindD k []) = true := shaped_kindD (List.all_eq_true.mp word_strOk k hk) (by simp)
theorem enum_shaped {zs : List Str} (h : ∀ k ∈ zs, k ∈ tokS) : SeqAt.shaped (kindD (Str.ofString "enumeration") zs) = true := shaped_kindD (by decide +kernel) h
theorem nota_shaped {zs : List Str} (h : ∀ k ∈ zs, k ∈ tokS) : SeqAt.shaped (kindD (Str.ofString "notation") zs) = true := shaped_kindD (by decide +kernel) h
theorem pick_news {h₀ h : Heap} {L S : Addr} {o : Obj} {news rest : List (Addr × Obj)} (N : News h₀ L h news) (h1 : (S, o) ∈ news) (h2 : ∀ q ∈ rest, q ∈ news) : News h₀ L h ((S, o) :: rest) := fun q hq => N q (by
  rcases List.mem_cons.mp hq with rfl | hq
  · exact h1
  · exact h2 q hq)
theorem pick {S : Addr} {o : Obj} {news rest : List (Addr × Obj)} (h1 : (S, o) ∈ news) (h2 : ∀ q ∈ rest, q ∈ news) : ∀ q ∈ (S, o) :: rest, q ∈ news := fun q hq => by
  rcases List.mem_cons.mp hq with rfl | hq
  · exact h1
  · exact h2 q hq
theorem not_len : (Str.ofString "NOTATION").length = 8 := by decide +kernel
theorem asc_list {ks : List Str} (d : ks.all (fun k => (lst k).all (fun c => decide (c < 128))) = true) {k : Str} (h : k ∈ ks) : Asc k := by
  intro c hc
  have h1 := List.all_eq_true.mp (List.all_eq_true.mp d k h) c hc
  exact of_decide_eq_true h1
theorem asc_app {a b : Str} (ha : Asc a) (hb : Asc b) : Asc (a ++ b) := by
  intro c hc
  rw [PySem.Str.cps_append, Array.toList_append, List.mem_append] at hc
  rcases hc with h | h
  · exact ha c h
  · exact hb c h
theorem asc_tok {k : Str} (h : k ∈ tokS) : Asc k := asc_list (by decide +kernel) h
theorem asc_gap {k : Str} (h : k ∈ gapS) : Asc k := asc_list (by decide +kernel) h
theorem asc_gapN {k : Str} (h : k ∈ gapN) : Asc k := asc_list (by decide +kernel) h
theorem asc_end {k : Str} (h : k ∈ endS) : Asc k := asc_list (by decide +kernel) h
theorem asc_beh {k : Str} (h : k ∈ behS) : Asc k := asc_list (by decide +kernel) h
theorem asc_word {k : Str} (h : k ∈ wordS) : Asc k := asc_list (by decide +kernel) h
theorem asc_bad {k : Str} (h : k ∈ badS) : Asc k := asc_list (by decide +kernel) h
theorem asc_lit {k : Str} (d : (lst k).all (fun c => decide (c < 128)) = true) : Asc k := fun c hc => of_decide_eq_true (List.all_eq_true.mp d c hc)
theorem asc_not : Asc NOT := asc_lit (by decide +kernel)
theorem asc_row {zs : List Str} {x : Str} (h : Row zs x) : Asc x := by
  induction h with
  | start hg => exact asc_app (asc_lit (by decide +kernel)) (asc_gap hg)
  | @more ks x k p g _ hk hg h0 h1 ih =>
    refine asc_app (asc_app (asc_app ih ?_) (asc_tok hk)) (asc_gap hg)
    by_cases e : ks = []
    · rw [h0 e]; exact asc_lit (by decide +kernel)
    · obtain ⟨g1, hg1, rfl⟩ := h1 e
      exact asc_app (asc_lit (by decide +kernel)) (asc_gap hg1)
theorem row_len {zs : List Str} {x : Str} (h : Row zs x) : x.length ≤ 20 + 80 * zs.length := by
  have o := len_one
  induction h with
  | start hg =>
    have := short hg
    simp only [len_app]; omega
  | @more ks x k p g _ hk hg h0 h1 ih =>
    have := short hk
    have := short hg
    by_cases e : ks = []
    · rw [h0 e]
      simp only [len_app, List.length_append, List.length_cons, List.length_nil]; omega
    · obtain ⟨g1, hg1, rfl⟩ := h1 e
      have := short hg1
      simp only [len_app, List.length_append, List.length_cons, List.length_nil]; omega
end
section
open PySem PySem.W PyProof.Rows PySem.Calls
set_option maxHeartbeats 8000000
theorem okB_two {z : Int} {zs : List Str} {e : Str} {v : Bool} (h : okB (z == 2) zs e = v) (n : z = 2) : okB true zs e = v := by
  subst n; exact h
theorem okB_not2 {z : Int} {zs : List Str} {e : Str} {v : Bool} (h : okB (z == 2) zs e = v) (n : z ≠ 2) : okB false zs e = v := by
  have : (z == 2) = false := beq_eq_false_iff_ne.mpr n
  rw [this] at h; exact h
theorem nota_ok2 {zs : List Str} {x e b g : Str} (h : Row zs x) (hz : ∀ k ∈ zs, k ∈ tokS) (he : e ∈ endS) (hb : b ∈ behS) (hg : g ∈ gapN) (h1 : (g == Str.ofString "") = false) (ho : okB true zs e = true) (r : Except Nat (Str × List Str × Nat)) (a : KAns (NOT ++ g ++ (x ++ e) ++ b).cps.toList 0 r) : r = .ok (Str.ofString "notation", zs, (Str.ofString "NOTATION").length + g.length + (x.length + e.length)) := by
  have h2 := nota_ok h hz he hb hg h1 ho r a
  rw [len_app, len_app, len_app] at h2
  exact h2
theorem shaped_tup {zs : List Str} (h : ∀ k ∈ zs, k ∈ tokS) : SeqAt.shaped (.tuple (zs.map PyData.str)) = true := by
  obtain ⟨h1, h2⟩ := lay_in tokS_ok zs h
  simp [SeqAt.shaped, PyData.canLay0, PyData.depth, h1, h2]
theorem tup_not_str {prog : Program} {w : World} {A : Around} {E : Value → Shared → Prop} {s : Shared} {Q : Value → Shared → Prop} {h₀ : Heap} {L l : Addr} {news : List (Addr × Obj)} {vs : List Value} {zs : List Str} {t : Tok} (N : News h₀ L s.heap news) (h1 : (l, tupOf vs) ∈ news) (hS : Strs vs zs) (hz : ∀ k ∈ zs, k ∈ tokS) (hu : A.units + 64 < cLine)
    (h : Q (.bool false) s) : wpAny (model prog w) A (compareOp .Eq (.ref l) (.str (Str.ofString "refused") t)) Q E s := by
  refine eq_dataH (.tuple (N _ h1).1 rfl rfl (reads_strs hS)) (.str _ _) (shaped_tup hz) (by decide +kernel) hu ?_
  have e : PyData.eqv (.tuple (zs.map PyData.str)) (.str (Str.ofString "refused")) = false := by simp [PyData.eqv]
  rw [e]
  exact h
set_option maxHeartbeats 3000000 in
theorem drawn_w {w : World} {mean : ExcName → Option Value} {mg mb : Str → Option Value} {dp un : Nat} {gd : Option (List Code)} {cn : Str} {cs : Scope} {a : Addr} {ccd : Value} {cl : List (Str × Addr)} {outer : List Env} {A₀ : Around} {base h₀ : Heap} {L : Addr} {m : Str → Option Value} {s : Shared} {Q E : Value → Shared → Prop} {news : List (Addr × Obj)}
   (B : Below A₀ base outer h₀) (F : Fr h₀ L s.heap m) (X : (K w.params).In h₀) (N : News h₀ L s.heap news) (T : Top q (looseW q [Str.ofString "DtdFault"]) mean mg mb h₀) (hk : cs.kind = .function) (XB : (K w.params).In base) (TB : Top q (looseW q [Str.ofString "DtdFault"]) mean mg mb base) (D : KtsDicts (outer.filterMap (·.frame)) h₀) {S : Addr} {sa sb : Int} {ta tb : Tok} {c : Nat} {rest : List (Addr × Obj)}
   (hd : dp + 300 < recursionLimit) (hu : un + 600 < cLine) (hnews : news = (S, srcObj sa sb ta tb c) :: rest) (hr : ∀ p ∈ rest, p.1 ≠ S) (hs : SrcOk sa sb)
   (hret : ∀ (sa' sb' : Int) (ta' tb' : Tok) (c' : Nat) (h' g₂ : Heap) (tk' : Nat), SrcOk sa' sb' → Turned A₀ base outer (K w.params) q (looseW q [Str.ofString "DtdFault"]) mean mg mb h₀ L m ((S, srcObj sa' sb' ta' tb' c') :: rest) h' g₂ → Q (.bool true) { s with heap := h', toks := tk' }) :
   wpAny (model PySem.Challenge.rw_xw0207_01.row.prog w) (ktrTop dp un gd cn cs L a ccd cl outer) (call (.ref 323) [.ref S]) Q E s := by
  k_with_none
  k_with "call builtin:len" => (k_here; (with_reducible show wpAny _ _ (call _ [Value.str _ _]) _ _ _); k_dflt (refine' len_nat ?k1z0 ?_; (case k1z0 => first | assumption | decide)); k_whole; intro t9 tk9; (try dsimp only))
  k_with "subscriptTail" => (k_here; (with_reducible show wpAny _ _ (subscriptTail _ _ (Value.str _ _) (Value.int _ _)) _ _ _); k_dflt (refine' item_nat ?k1z1 ?k2z1 ?k3z1 ?_; (case k1z1 => assumption); (case k2z1 => assumption); (case k3z1 => first | (simp only [decide_eq_true_eq] at *; omega) | (simp only [decide_eq_true_eq, decide_eq_false_iff_not] at *; omega) | omega)); k_whole; intro c9 t9 tk9 hc9 hb9; (try dsimp only))
  k_with "exec Raise some none" => (k_here; k_dflt (refine' Raise_val (w := by assumption) ?khz2 ?_; (case khz2 => exact rfl)); k_whole)
  k_with "FltUp" => (k_here; k_dflt (refine' FltUp.mk ?kXz3 ?kFz3 ?kNz3 ?_; (case kXz3 => k_asm); (case kFz3 => k_asm); (case kNz3 => k_asm)); k_whole)
  k_with "leaving ref" => (k_here; first | (k_dflt (refine' air_firstN ?kKz4 ?kFz4 ?kNz4 ?kfz4 ?knz4 ?_; (case kFz4 => k_asm); (case kNz4 => k_asm); (case kKz4 => k_asm); (case kfz4 => exact rfl); (case knz4 => assumption)); k_whole; intro h9 R9 U9; (try dsimp only)) | (k_dflt (refine' air_on ?kKz4 ?kFz4 ?kRz4 ?kUz4 ?_; (case kRz4 => assumption); (case kFz4 => assumption); (case kUz4 => assumption); (case kKz4 => assumption)); k_whole; intro h9 R9 U9; (try dsimp only)))
  k_with "my k_updF" => first | exact UpdF.head (by k_all) | exact updTail (by k_extra "my k_updF") (by k_ne)
  k_with "call ref" => (k_here; k_dflt (refine' take_w ?k1z6 ?k2z6 ?k3z6 ?k4z6 ?k5z6 ?kKz6 ?kdz6 ?kuz6 ?kUz6 ?ksz6 _ _ ?kzz6 _ ?knz6 ?kn2z6 ?_; (case k1z6 => k_asm); (case k2z6 => k_asm); (case k3z6 => k_asm); (case k4z6 => k_asm); (case k5z6 => k_asm); (case kKz6 => first | exact rfl | assumption); (case kdz6 => ktr_room); (case kuz6 => ktr_units); (case kUz6 => k_extra "my k_updF"); (case ksz6 => assumption); (case kzz6 => first | exact (rfl : (4 : Int) = ((4 : Nat) : Int)) | exact (rfl : (50 : Int) = ((50 : Nat) : Int)) | exact (rfl : (9 : Int) = ((9 : Nat) : Int))); (case knz6 => decide); (case kn2z6 => decide); k_whole); intro r9 sa9 sb9 ta9 tb9 tr9 c9 h9 tk9 F9 N9 hs9 hr9; (try dsimp only at N9); (try dsimp only); (try k_sweep))
  k_with "call ref" => (k_here; k_dflt (refine' one_w ?k1z7 ?k2z7 ?k3z7 ?k4z7 ?k5z7 ?kKz7 ?kdz7 ?kuz7 ?kUz7 ?kTz7 ?kmz7 ?kSz7 ?knz7 ?kn2z7 ?ksz7 ?_; (case k1z7 => k_asm); (case k2z7 => k_asm); (case k3z7 => k_asm); (case k4z7 => k_asm); (case k5z7 => k_asm); (case kKz7 => first | exact rfl | assumption); (case kdz7 => ktr_room); (case kuz7 => ktr_units); (case kUz7 => k_extra "my k_updF"); (case kmz7 => k_mem); (case kTz7 => k_ne); (case kSz7 => first | exact strs3 | exact strs5 | exact strs8); (case ksz7 => assumption); (case knz7 => exact Nat.le_of_ble_eq_true rfl); (case kn2z7 => exact Nat.le_of_ble_eq_true rfl); k_whole); intro k9 sa9 sb9 ta9 tb9 tr9 c9 h9 tk9 F9 N9 hs9 hk9; (try dsimp only at N9); have hb9 := short hk9; (try dsimp only); (try k_sweep))
  k_with "compareOp Eq ref str" => (k_here; k_dflt (refine' tup_not_str ?jNz8 ?j1z8 ?j3z8 ?jzz8 ?juz8 ?_; (case jNz8 => k_asm); (case j1z8 => k_mem); (case j3z8 => assumption); (case jzz8 => assumption); (case juz8 => ktr_units)))
  k_with "call ref" => (k_here; k_dflt (refine' choices_w ?k1z9 ?k2z9 ?k3z9 ?k4z9 ?k5z9 ?kKz9 ?kdz9 ?kuz9 ?knz9 ?krz9 ?ksz9 _ ?_ ?_; (case krz9 => assumption); (case knz9 => exact rfl); (case k1z9 => k_asm); (case k2z9 => k_asm); (case k3z9 => k_asm); (case k4z9 => exact pick_news (by k_asm) (by k_mem) (by ((intro q hq; repeat (first | exact hq | refine List.Mem.tail _ ?_))))); (case k5z9 => k_asm); (case kKz9 => exact rfl); (case kdz9 => ktr_room); (case kuz9 => ktr_units); (case ksz9 => assumption); k_whole; intro zs9 x9 e9 hR9 he9 hz9 hl9 ho9 C9 T9 vs9 sa9 sb9 ta9 tb9 t9 c9 h9 tk9 F9 N9 hs9 hS9 lS9 lT9; have hx9 := row_len hR9; have hn9 := not_len; have hb9 := short he9; (try dsimp only); (try k_sweep); rotate_left 1; k_whole; intro zs9 x9 e9 hR9 he9 hz9 hl9 ho9 C9 sa9 sb9 ta9 tb9 t9 u9 c9 h9 tk9 F9 N9 hs9 lS9; have hx9 := row_len hR9; have hn9 := not_len; have hb9 := short he9; (try dsimp only); (try k_sweep)))
  k_with "call ref" => (k_here; k_dflt (refine' kind_ok_w ?k1z10 ?k2z10 ?k3z10 ?k4z10 ?k5z10 ?kKz10 ?XBz10 ?TBz10 ?Dz10 ?kdz10 ?kuz10 _ _ ?klz10 ?kaz10 _ _ _ _ ?hRz10 ?hTz10 ?hSz10 ?hLz10 ?hKz10 ?_; (case k1z10 => k_asm); (case k2z10 => k_asm); (case k3z10 => k_asm); (case k4z10 => k_asm); (case k5z10 => k_asm); (case kKz10 => exact rfl); (case XBz10 => assumption); (case TBz10 => assumption); (case Dz10 => assumption); (case kdz10 => ktr_room); (case kuz10 => ktr_units); (case hRz10 => k_mem); (case hTz10 => k_mem); (case hSz10 => first | exact Mine.strs_nil | assumption); (case klz10 => (simp only [len_app]; omega)); (case kaz10 => (first | exact asc_app (asc_word (by (with_reducible assumption))) (asc_beh (by (with_reducible assumption))) | exact asc_app (asc_bad (by (with_reducible assumption))) (asc_beh (by (with_reducible assumption))) | exact asc_app (asc_app (asc_row (by assumption)) (asc_end (by assumption))) (asc_beh (by (with_reducible assumption))) | exact asc_app (asc_app (asc_app asc_not (asc_gapN (by (with_reducible assumption)))) (asc_app (asc_row (by assumption)) (asc_end (by assumption)))) (asc_beh (by (with_reducible assumption))))); (case hLz10 => first | exact word_shaped (by (with_reducible assumption)) | exact enum_shaped (by assumption) | exact nota_shaped (by assumption)); (case hKz10 => (first | exact word_ok (by (with_reducible assumption)) (by (with_reducible assumption)) | exact enum_ok (by assumption) (by assumption) (by assumption) (by (with_reducible assumption)) (by (first | exact okB_two (by assumption) (by assumption) | exact okB_not2 (by assumption) (by assumption))) | exact nota_ok (by assumption) (by assumption) (by assumption) (by (with_reducible assumption)) (by (with_reducible assumption)) (by assumption) (by (first | exact okB_two (by assumption) (by assumption) | exact okB_not2 (by assumption) (by assumption))) | exact nota_ok2 (by assumption) (by assumption) (by assumption) (by (with_reducible assumption)) (by (with_reducible assumption)) (by assumption) (by (first | exact okB_two (by assumption) (by assumption) | exact okB_not2 (by assumption) (by assumption)))))); k_whole; intro h9 g9 tk9 Z9; obtain ⟨T9, F9, N9, B9, X9, P9, D9⟩ := Z9; (try dsimp only))
  k_with "call ref" => (k_here; k_dflt (refine' kind_bad_w ?k1z11 ?k2z11 ?k3z11 ?k4z11 ?k5z11 ?kKz11 ?XBz11 ?TBz11 ?Dz11 ?kdz11 ?kuz11 _ _ ?klz11 ?kaz11 _ _ _ _ ?hKz11 ?_; (case k1z11 => k_asm); (case k2z11 => k_asm); (case k3z11 => k_asm); (case k4z11 => k_asm); (case k5z11 => k_asm); (case kKz11 => exact rfl); (case XBz11 => assumption); (case TBz11 => assumption); (case Dz11 => assumption); (case kdz11 => ktr_room); (case kuz11 => ktr_units); (case klz11 => (simp only [len_app]; omega)); (case kaz11 => (first | exact asc_app (asc_word (by (with_reducible assumption))) (asc_beh (by (with_reducible assumption))) | exact asc_app (asc_bad (by (with_reducible assumption))) (asc_beh (by (with_reducible assumption))) | exact asc_app (asc_app (asc_row (by assumption)) (asc_end (by assumption))) (asc_beh (by (with_reducible assumption))) | exact asc_app (asc_app (asc_app asc_not (asc_gapN (by (with_reducible assumption)))) (asc_app (asc_row (by assumption)) (asc_end (by assumption)))) (asc_beh (by (with_reducible assumption))))); (case hKz11 => (first | exact bad_0 (by (with_reducible assumption)) (by (with_reducible assumption)) | exact enum_bad (by assumption) (by assumption) (by assumption) (by (with_reducible assumption)) (by (first | exact okB_two (by assumption) (by assumption) | exact okB_not2 (by assumption) (by assumption))) | exact nota_bad (by assumption) (by assumption) (by assumption) (by (with_reducible assumption)) (by (with_reducible assumption)) (.inl (by assumption)) | exact nota_bad (by assumption) (by assumption) (by assumption) (by (with_reducible assumption)) (by (with_reducible assumption)) (.inr (by (first | exact okB_two (by assumption) (by assumption) | exact okB_not2 (by assumption) (by assumption))))))); k_whole; intro h9 g9 tk9 Z9; obtain ⟨T9, F9, N9, B9, X9, P9, D9⟩ := Z9; (try dsimp only))
  k_with "binaryOp Add str str" => (k_here; k_dflt (refine' cat_w ?kzy2 ?_; (case kzy2 => (simp only [len_app]; omega))); intro t9 tk9)
  subst hnews
  revert X; k_fill; intro X
  refine wpAny_call ?_
  (k_dflt (refine' code_turn ?k1 ?k2 ?k3 ?k4 ?k5 ?XB ?TB ?D ?kA ?kF ?kK ?k6 ?k7 ?k8 ?k9 ?kB ?_ ?c2 ?c3 ?c4 ?c5; (case kA => exact rfl); (case kF => exact rfl); (case kK => assumption); (case k1 => k_asm); (case k2 => k_asm); (case XB => assumption); (case TB => assumption); (case D => assumption); (case k3 => k_asm); (case k4 => k_asm); (case k5 => k_asm); (case k6 => k_is); (case k7 => k_is); (case k8 => ktr_room); (case k9 => first | exact BindsTo.of_eq rfl | exact binds_K (by k_in) rfl (by k_is) rfl rfl rfl); (case kB => exact locs rfl); (case c2 => exact rfl); (case c3 => exact rfl); (case c4 => exact rfl); (case c5 => decide); k_whole; intro g' L' h' FG' F' N' B' X' T' D' T0'; (try dsimp only); (try k_lift B'); (try k_fold)))
  k_steps
  all_goals exact leaveT_ (by k_asm) (by k_asm) (by assumption) fun g₂ Z => hret _ _ _ _ _ _ _ _ (by assumption) (Z.drop (pick (by k_mem) (by ((intro q hq; repeat (first | exact hq | refine List.Mem.tail _ ?_))))))
end
section
open PySem PySem.W PyProof.Rows PySem.Calls
set_option maxHeartbeats 8000000
theorem item_zero {prog : Program} {w : World} {A : Around} {E : Value → Shared → Prop} {s : Shared} {value slice : PySem.Expr} {l : Addr} {vs : List Value} {ks : List Int} {u : Tok} {Q : Value → Shared → Prop}
    (hl : s.heap.IsList l vs.toArray) (hI : IntsAre vs ks) (hk : ks ≠ []) (h : ∀ z t, Q (.int z t) s)
    (hs : subscripted slice false (.ref l) (.int 0 u) = operate [.ref l, .int 0 u] (getItem (.ref l) (.int 0 u)) := by with_unfolding_all rfl) :
    wpAny (model prog w) A (subscriptTail value slice (.ref l) (.int 0 u)) Q E s := by
  cases hI with
  | nil => exact absurd rfl hk
  | cons z t _ => exact item_any (k := 0) hl (by decide) rfl (h z t) hs
theorem ints_shaped {ks : List Int} (h : ks.length ≤ 63) : SeqAt.shaped (.list (ks.map PyData.int)) = true := by
  have key : ∀ zs : List Int, PyData.canLayAll0 (zs.map PyData.int) = true ∧ PyData.depthAll (zs.map PyData.int) = 0 := by
    intro zs
    induction zs with
    | nil => simp [PyData.canLayAll0, PyData.depthAll]
    | cons z zs ih => simp [PyData.canLayAll0, PyData.canLay0, PyData.depthAll, PyData.depth, ih.1, ih.2]
  obtain ⟨h1, h2⟩ := key ks
  simp [SeqAt.shaped, PyData.canLay0, PyData.depth, h1, h2]
theorem ints_ne {prog : Program} {w : World} {A : Around} {E : Value → Shared → Prop} {s : Shared} {h₀ : Heap} {L l l2 : Addr} {n2 : Nat} {news : List (Addr × Obj)} {vs : List Value} {ks : List Int} {Q : Value → Shared → Prop} (N : News h₀ L s.heap news)
    (hl : s.heap.IsList l vs.toArray) (hI : IntsAre vs ks) (h2 : (l2, W.listOf #[] n2) ∈ news) (hlen : ks.length ≤ 63) (hu : A.units + 64 < cLine)
    (h : Q (.bool (decide (ks ≠ []))) s) : wpAny (model prog w) A (compareOp .NotEq (.ref l) (.ref l2)) Q E s := by
  obtain ⟨o, ho, hc, n, hd⟩ := hl
  refine ne_dataH (.list ho hc hd (IntsAre.reads s.heap hI)) (.list (as := []) (N _ h2).1 rfl rfl .nil) (ints_shaped hlen) (by decide +kernel) hu ?_
  have e : (!PyData.eqv (.list (ks.map PyData.int)) (.list [])) = decide (ks ≠ []) := by
    cases ks with
    | nil => simp [PyData.eqv, PyData.eqvAll]
    | cons k zs => simp [PyData.eqv, PyData.eqvAll]
  rw [e]
  exact h
theorem isl_keeps {h h' : Heap} {l : Addr} {vs : Array Value} (hl : h.IsList l vs) (hk : ∀ b o, h.get? b = some o → h'.get? b = some o) : h'.IsList l vs := by
  obtain ⟨o, ho, r⟩ := hl
  exact ⟨o, hk _ _ ho, r⟩
theorem pool_ok (c : Int) (b : Bool) : SrcOk ((if -1 - c > c then -1 - c else c) * if b = true then 1 else 0) ((((if -1 - c > c then -1 - c else c).fmod 2147483629 + 17) * 48271).fmod 2147483647) := by
  have h : 0 ≤ (if -1 - c > c then -1 - c else c) := by split <;> omega
  refine ⟨?_, (fm_lt (by decide)).1, (fm_lt (by decide)).2⟩
  cases b
  · simp
  · simpa using h
theorem news_one0 {h₀ h : Heap} {L : Addr} {p : Addr × Obj} {l r : List (Addr × Obj)} (N : News h₀ L h (p :: l)) (hs : ∀ z ∈ r, z ∈ l) : News h₀ L h (p :: r) := fun z hz => N z (by
  rcases List.mem_cons.mp hz with rfl | hz
  · exact .head _
  · exact .tail _ (hs z hz))
theorem lt_two {l l' : Addr} {news : List (Addr × Obj)} (h : l < l' ∧ AllLt l' news) : ∀ p ∈ news, p.1 < l' := kst_ltOf h.2
set_option maxHeartbeats 600000 in
theorem pool_w {w : World} {mean : ExcName → Option Value} {mg mb : Str → Option Value} {dp un : Nat} {gd : Option (List Code)} {cn : Str} {cs : Scope} {a : Addr} {ccd : Value} {cl : List (Str × Addr)} {outer : List Env} {A₀ : Around} {base h₀ : Heap} {L : Addr} {m : Str → Option Value} {s : Shared} {Q E : Value → Shared → Prop} {news : List (Addr × Obj)}
   (B : Below A₀ base outer h₀) (F : Fr h₀ L s.heap m) (X : (K w.params).In h₀) (N : News h₀ L s.heap news) (T : Top q (looseW q [Str.ofString "DtdFault"]) mean mg mb h₀) (hk : cs.kind = .function) {l : Addr} {vs : List Value} {ks : List Int}
   (hd : dp + 20 < recursionLimit) (hu : un + 140 < cLine) (hl : h₀.IsList l (List.toArray vs)) (hI : IntsAre vs ks) (hlen : ks.length ≤ 63)
   (hret : ∀ (S : Addr) (a' b' : Int) (ta' tb' : Tok) (h' : Heap) (tk' : Nat), Fr h₀ L h' m → News h₀ L h' ((S, srcObj a' b' ta' tb' 0) :: news) → (∀ p ∈ news, p.1 < S) → SrcOk a' b' → Q (.ref S) { s with heap := h', toks := tk' }) :
   wpAny (model PySem.Challenge.rw_xw0207_01.row.prog w) (ktrTop dp un gd cn cs L a ccd cl outer) (call (.ref 283) [.ref l]) Q E s := by
  k_with_none
  k_with "call builtin:len" => (k_here; (with_reducible show wpAny _ _ (call _ [Value.str _ _]) _ _ _); k_dflt (refine' len_nat ?k1z0 ?_; (case k1z0 => first | assumption | decide)); k_whole; intro t9 tk9; (try dsimp only))
  k_with "subscriptTail" => (k_here; (with_reducible show wpAny _ _ (subscriptTail _ _ (Value.str _ _) (Value.int _ _)) _ _ _); k_dflt (refine' item_nat ?k1z1 ?k2z1 ?k3z1 ?_; (case k1z1 => assumption); (case k2z1 => assumption); (case k3z1 => first | (simp only [decide_eq_true_eq] at *; omega) | (simp only [decide_eq_true_eq, decide_eq_false_iff_not] at *; omega) | omega)); k_whole; intro c9 t9 tk9 hc9 hb9; (try dsimp only))
  k_with "exec Raise some none" => (k_here; k_dflt (refine' Raise_val (w := by assumption) ?khz2 ?_; (case khz2 => exact rfl)); k_whole)
  k_with "FltUp" => (k_here; k_dflt (refine' FltUp.mk ?kXz3 ?kFz3 ?kNz3 ?_; (case kXz3 => k_asm); (case kFz3 => k_asm); (case kNz3 => k_asm)); k_whole)
  k_with "leaving ref" => (k_here; first | (k_dflt (refine' air_firstN ?kKz4 ?kFz4 ?kNz4 ?kfz4 ?knz4 ?_; (case kFz4 => k_asm); (case kNz4 => k_asm); (case kKz4 => k_asm); (case kfz4 => exact rfl); (case knz4 => assumption)); k_whole; intro h9 R9 U9; (try dsimp only)) | (k_dflt (refine' air_on ?kKz4 ?kFz4 ?kRz4 ?kUz4 ?_; (case kRz4 => assumption); (case kFz4 => assumption); (case kUz4 => assumption); (case kKz4 => assumption)); k_whole; intro h9 R9 U9; (try dsimp only)))
  k_with "compareOp NotEq ref ref" => (k_here; k_dflt (refine' ints_ne ?jNy1 ?jly1 ?jIy1 ?j2y1 ?jzy1 ?juy1 ?_; (case jNy1 => k_asm); (case jly1 => exact isl_keeps (by assumption) (Fr.keep (by k_asm))); (case jIy1 => assumption); (case j2y1 => k_mem); (case jzy1 => assumption); (case juy1 => ktr_units)))
  k_with "subscriptTail" => (k_here; k_dflt (refine' item_zero ?jly2 ?jIy2 ?jzy2 ?_; (case jly2 => exact isl_keeps (by assumption) (Fr.keep (by k_asm))); (case jIy2 => assumption); (case jzy2 => first | exact of_decide_eq_true (by assumption) | exact of_decide_eq_false (by assumption) | assumption)); k_whole; intro z9 t9)
  revert X; k_fill; intro X
  refine wpAny_call ?_
  k_dflt cell_enter
  rename_i g9 L9 h9 FG9 F9 N9 B9 X9 T9
  have hlg := isl_keeps hl (Fr.keep FG9)
  clear hl
  k_steps
  all_goals exact hret _ _ _ _ _ _ _ (by k_asm) (news_one0 (by k_asm) (fun q hq => .tail _ hq)) (by first | assumption | exact lt_two (by assumption)) (pool_ok _ _)
end
section
open PySem PySem.W PyProof.Rows PyProof.V PySem.Calls PySem.Spec
set_option maxHeartbeats 4000000
section
variable {prog : Program} {w : World} {A : Around} {h₀ : Heap} {L : Addr} {m : Str → Option Value} {env : Env} {ct elt : Expr} {x : Str} {scope : Scope} {cl : List (Str × Addr)} {s : Shared} {S : List (Addr × Obj) → Prop} {Fin : List Value → List (Addr × Obj) → Prop} {news : List (Addr × Obj)}
/-- a comprehension none of whose items is kept -/
theorem rest_none {vs : List Value}
    (turn : ∀ (i : Nat) (v : Value) I oI C oC D m₂ h tk (E' : Value → Shared → Prop), (List.toArray vs)[i]? = some v → LCg.NsObj oC m₂ → m₂ x = some v → Fr h₀ L h m → News h₀ L h ((I, oI) :: (C, oC) :: (D, LCg.lst []) :: news) → LCg.Off3 I C D news → ((@Ne Nat I C) ∧ (@Ne Nat I D) ∧ (@Ne Nat C D)) →
      wpAny (model prog w) A (isTrue ct (compEnvC scope cl C env) (eval ct (compEnvC scope cl C env))) (fun ok s' => ok = false ∧ LCg.CompEnd h₀ L m { s with heap := h, toks := tk } I oI C oC D (LCg.lst []) S (fun _ news' => news' = news) Value.none s') E' { s with heap := h, toks := tk })
    (fin : Fin [] news) : LCt.CompRestT prog w A h₀ L m env ct elt x scope cl s S (fun i v => (List.toArray vs)[i]? = some v) Fin vs.length 0 [] news := by
  have key : ∀ (j i : Nat), i + j = vs.length → LCt.CompRestT prog w A h₀ L m env ct elt x scope cl s S (fun i v => (List.toArray vs)[i]? = some v) Fin j i [] news := by
    intro j
    induction j with
    | zero =>
      intro i hi
      exact LCt.CompRestT.zero fin
    | succ j ih =>
      intro i hi
      refine LCt.CompRestT.succ ?_
      intro v I oI C oC D m₂ h tk E' hv hC hx F N off ne
      refine wpAny_mono (turn i v I oI C oC D m₂ h tk E' hv hC hx F N off ne) (fun ok s₂ hq => ?_) fun _ _ e => e
      obtain ⟨rfl, h', tk', nw, e, F', N', off', hS, hn⟩ := hq
      simp only [Bool.false_eq_true, if_false]
      rw [hn] at N' off' hS
      exact ⟨h', tk', news, e, F', N', off', hS, ih (i + 1) (by omega)⟩
  exact key vs.length 0 (by omega)
end
theorem of9 {a0 a1 a2 a3 a4 a5 a6 a7 a8 v : Value} {i : Nat} (h : (List.toArray [a0, a1, a2, a3, a4, a5, a6, a7, a8])[i]? = some v) : v = a0 ∨ v = a1 ∨ v = a2 ∨ v = a3 ∨ v = a4 ∨ v = a5 ∨ v = a6 ∨ v = a7 ∨ v = a8 := by
  have := Array.mem_of_getElem? h
  simpa using this
theorem strs2 {k0 k1 : Str} {t0 t1 : Tok} : Strs [.str k0 t0, .str k1 t1] [k0, k1] := Mine.strs_cons (Mine.strs_cons Mine.strs_nil)
theorem strs7 {k0 k1 k2 k3 k4 k5 k6 : Str} {t0 t1 t2 t3 t4 t5 t6 : Tok} : Strs [.str k0 t0, .str k1 t1, .str k2 t2, .str k3 t3, .str k4 t4, .str k5 t5, .str k6 t6] [k0, k1, k2, k3, k4, k5, k6] := Mine.strs_cons (Mine.strs_cons (Mine.strs_cons (Mine.strs_cons (Mine.strs_cons (Mine.strs_cons (Mine.strs_cons Mine.strs_nil))))))
theorem strs11 {k0 k1 k2 k3 k4 k5 k6 k7 k8 k9 ka : Str} {t0 t1 t2 t3 t4 t5 t6 t7 t8 t9 ta : Tok} : Strs [.str k0 t0, .str k1 t1, .str k2 t2, .str k3 t3, .str k4 t4, .str k5 t5, .str k6 t6, .str k7 t7, .str k8 t8, .str k9 t9, .str ka ta] [k0, k1, k2, k3, k4, k5, k6, k7, k8, k9, ka] := Mine.strs_cons (Mine.strs_cons (Mine.strs_cons Mine.strs8))
theorem of_strs {vs : List Value} {ks : List Str} {v : Value} {i : Nat} (hS : Strs vs ks) (h : (List.toArray vs)[i]? = some v) : ∃ k t, k ∈ ks ∧ v = .str k t := by
  obtain ⟨k, t, hk, e⟩ := hS.2 i v (by simpa using h)
  exact ⟨k, t, List.mem_of_getElem? hk, e⟩
theorem bad_lit {y : Str} {z : Int} {tp : Tok} (h : isBad z.toNat (kansF (lst y)) = true) (hz : z = (z.toNat : Int)) (r : Except Nat (Str × List Str × Nat)) (a : KAns y.cps.toList 0 r) : ∃ p, r = .error p ∧ (Value.int z tp = .none ∨ ∃ tp', Value.int z tp = .int (p : Int) tp') :=
  ⟨z.toNat, isBad_of h a, .inr ⟨tp, by rw [← hz]⟩⟩
theorem ok_lit {y nm : Str} {ks : List Str} {z : Int} (h : isOk nm ks z.toNat (kansF (lst y)) = true) (r : Except Nat (Str × List Str × Nat)) (a : KAns y.cps.toList 0 r) : r = .ok (nm, ks, z.toNat) := isOk_of h a
theorem pr_texts : [Str.ofString "-//A  b\r\n c ", Str.ofString "", Str.ofString "a\tb", Str.ofString "a&", Str.ofString "{", Str.ofString "z~", Str.ofString "'%'"].all (fun k => decide (k.length < 65536) && (lst k).all (fun c => decide (c < 128))) = true := by decide +kernel
theorem pr_in {ks : List Str} (d : ks.all (fun k => decide (k.length < 65536) && (lst k).all (fun c => decide (c < 128))) = true) {k : Str} (h : k ∈ ks) : k.length < 65536 ∧ Asc k := by
  have h1 := List.all_eq_true.mp d k h
  rw [Bool.and_eq_true] at h1
  exact ⟨of_decide_eq_true h1.1, asc_lit h1.2⟩
theorem keep3 {h₀ h : Heap} {L S : Addr} {o o1 o2 : Obj} {news : List (Addr × Obj)} (N : News h₀ L h ((S, o) :: news)) (h1 : (L + 1 + 1, o1) ∈ news) (h2 : (L + 1, o2) ∈ news) : News h₀ L h [(S, o), (L + 1 + 1, o1), (L + 1, o2)] := fun q hq => N q (by
  simp only [List.mem_cons, List.not_mem_nil, or_false] at hq
  rcases hq with rfl | rfl | rfl
  · exact .head _
  · exact .tail _ h1
  · exact .tail _ h2)
theorem off_nil {S : Addr} : ∀ p ∈ ([] : List (Addr × Obj)), p.1 ≠ S := fun p hp => by simp at hp
theorem off_cons {S b : Addr} {o : Obj} {l : List (Addr × Obj)} (h : @Ne Nat b S) (k : ∀ p ∈ l, p.1 ≠ S) : ∀ p ∈ (b, o) :: l, p.1 ≠ S := fun p hp => by
  rcases List.mem_cons.mp hp with rfl | hp
  · exact h
  · exact k p hp
theorem kind_ok_z {w : World} {mean : ExcName → Option Value} {mg mb : Str → Option Value} {dp un : Nat} {gd : Option (List Code)} {cn : Str} {cs : Scope} {a : Addr} {ccd : Value} {cl : List (Str × Addr)} {outer : List Env} {A₀ : Around} {base h₀ : Heap} {L : Addr} {m : Str → Option Value} {s : Shared} {Q E : Value → Shared → Prop} {news : List (Addr × Obj)}
   (B : Below A₀ base outer h₀) (F : Fr h₀ L s.heap m) (X : (K w.params).In h₀) (N : News h₀ L s.heap news) (T : Top q (looseW q [Str.ofString "DtdFault"]) mean mg mb h₀) (hk : cs.kind = .function) (XB : (K w.params).In base) (TB : Top q (looseW q [Str.ofString "DtdFault"]) mean mg mb base) (D : KtsDicts (outer.filterMap (·.frame)) h₀) {R₁ T₁ : Addr} {nm : Str} {tn : Tok} {vs : List Value} {ks : List Str}
   (hd : dp + 260 < recursionLimit) (hu : un + 480 < cLine) (y : Str) (t : Tok) (hyl : y.length < 1048576) (hy : Asc y) (b : Int) (tb : Tok) (z : Int) (tp : Tok)
   (hR : (R₁, tupOf [.str nm tn, .ref T₁]) ∈ news) (hT : (T₁, tupOf vs) ∈ news) (hS : Strs vs ks) (hL : SeqAt.shaped (kindD nm ks) = true) (hz : z = ((z.toNat : Nat) : Int))
   (hK : ∀ r, KAns y.cps.toList 0 r → r = .ok (nm, ks, z.toNat))
   (hret : ∀ (h' g₂ : Heap) (tk' : Nat), Turned A₀ base outer (K w.params) q (looseW q [Str.ofString "DtdFault"]) mean mg mb h₀ L m news h' g₂ → Q (.bool true) { s with heap := h', toks := tk' }) :
   wpAny (model PySem.Challenge.rw_xw0207_01.row.prog w) (ktrTop dp un gd cn cs L a ccd cl outer) (call (.ref 304) [.str y t, .int b tb, .ref R₁, .int z tp]) Q E s := by
  rw [hz]
  exact kind_ok_w B F X N T hk XB TB D hd hu y t hyl hy b tb z.toNat tp hR hT hS hL hK hret
end
section
open PySem PySem.W PyProof.Rows PyProof.V PySem.Calls PySem.Spec
set_option maxHeartbeats 4000000
section
variable {prog : Program} {w : World} {A : Around} {E : Value → Shared → Prop} {s : Shared} {env : Env} {h₀ : Heap} {x : Str} {body : List Stmt} {Q : Flow → Shared → Prop}
theorem rng_J {r : Addr} {a₀ b₀ c₀ : Int} {t₀ u₀ v₀ : Tok} {n : Nat} {m₀ : Str → Option Value} {news : List (Addr × Obj)} (hh : A.handled = none) (hr : IsRange s.heap r a₀ b₀ c₀ t₀ u₀ v₀) (hsmall : Builtin.Range.small a₀ b₀ c₀ = true) (hn : Builtin.Range.rangeSize a₀ b₀ c₀ = (n : Int))
    (F : Fr h₀ env.locals s.heap m₀) (N : News h₀ env.locals s.heap news)
    (J : Nat → (Str → Option Value) → List (Addr × Obj) → Prop) (h0 : J 0 m₀ news)
    (turn : ∀ i k t m₁ news₁ own h₁ tk₁, J i m₁ news₁ → (∀ q ∈ own, q.1 = s.heap.objs.size) → (∃ q ∈ own, q.1 = s.heap.objs.size) → (∀ p ∈ news₁, p.1 ≠ s.heap.objs.size) →
      Fr h₀ env.locals h₁ (fun z => if z = x then some (.int k t) else m₁ z) → News h₀ env.locals h₁ (news₁ ++ own) →
      wpAny (model prog w) A (execs body env) (ForEnd h₀ env.locals s s.heap.objs.size own (J (i + 1)) Q) E { s with heap := h₁, toks := tk₁ })
    (done : ∀ h' tk m' news', Fr h₀ env.locals h' m' → News h₀ env.locals h' news' → J n m' news' → Q .next { s with heap := h', toks := tk }) :
    wpAny (model prog w) A (pyIter (.ref r)) (fun it s₂ => LoopAtV prog w A h₀ env x body Q E it s₂) E s := by
  refine wpAny_pyIter_range hr hsmall ?_
  refine loop_J2 (Walks.range hh s.heap.objs.size a₀ c₀ n) (by show IsRangeIter _ _ _ _ _; rw [hn]; simpa using Heap.get?_push_size _ rfl) (fun i h st => ⟨_, st⟩) F N J h0 ?_ done
  rintro i v m₁ news₁ own h₁ tk₁ hi ⟨t, rfl⟩ hJ ho hx hn F₁ N₁
  exact turn i _ t m₁ news₁ own h₁ tk₁ hJ ho hx hn F₁ N₁
def LawJ (S : Addr) (rest : List (Addr × Obj)) (i : Nat) (m₁ : Str → Option Value) (news₁ : List (Addr × Obj)) : Prop := ∃ sa sb ta tb c, news₁ = (S, srcObj sa sb ta tb c) :: rest ∧ SrcOk sa sb
theorem For_law {r : Addr} {a₀ b₀ c₀ : Int} {t₀ u₀ v₀ : Tok} {n : Nat} {m₀ : Str → Option Value} {rest : List (Addr × Obj)} {S : Addr} {sa sb : Int} {ta tb : Tok} {c : Nat} (hh : A.handled = none) (hr : IsRange s.heap r a₀ b₀ c₀ t₀ u₀ v₀) (hsmall : Builtin.Range.small a₀ b₀ c₀ = true) (hn : Builtin.Range.rangeSize a₀ b₀ c₀ = (n : Int))
    (F : Fr h₀ env.locals s.heap m₀) (N : News h₀ env.locals s.heap ((S, srcObj sa sb ta tb c) :: rest)) (hs : SrcOk sa sb) (hrest : ∀ p ∈ rest, p.1 ≠ S)
    (turn : ∀ (i : Nat) (k : Int) (t : Tok) (m₁ : Str → Option Value) (sa sb : Int) (ta tb : Tok) (c : Nat) (own : List (Addr × Obj)) (h₁ : Heap) (tk₁ : Nat), SrcOk sa sb → (∀ p ∈ rest ++ own, p.1 ≠ S) → (∀ p ∈ (S, srcObj sa sb ta tb c) :: rest, p.1 ≠ s.heap.objs.size) →
      Fr h₀ env.locals h₁ (fun z => if z = x then some (.int k t) else m₁ z) → News h₀ env.locals h₁ ((S, srcObj sa sb ta tb c) :: (rest ++ own)) →
      wpAny (model prog w) A (execs body env) (ForEnd h₀ env.locals s s.heap.objs.size own (LawJ S rest (i + 1)) Q) E { s with heap := h₁, toks := tk₁ })
    (done : ∀ h' tk m' sa sb ta tb c, SrcOk sa sb → Fr h₀ env.locals h' m' → News h₀ env.locals h' ((S, srcObj sa sb ta tb c) :: rest) → Q .next { s with heap := h', toks := tk }) :
    wpAny (model prog w) A (pyIter (.ref r)) (fun it s₂ => LoopAtV prog w A h₀ env x body Q E it s₂) E s := by
  refine rng_J hh hr hsmall hn F N (LawJ S rest) ⟨sa, sb, ta, tb, c, rfl, hs⟩ ?_ ?_
  · rintro i k t m₁ news₁ own h₁ tk₁ ⟨sa, sb, ta, tb, c, rfl, hs⟩ ho hx hn F₁ N₁
    refine turn i k t m₁ sa sb ta tb c own h₁ tk₁ hs (fun p hp => ?_) hn F₁ N₁
    rcases List.mem_append.mp hp with hp | hp
    · exact hrest p hp
    · rw [ho p hp]
      exact fun e => hn _ (.head _) e.symm
  · rintro h' tk m' news' F' N' ⟨sa, sb, ta, tb, c, rfl, hs⟩
    exact done h' tk m' sa sb ta tb c hs F' N'
theorem law_next {L I S : Addr} {rest own : List (Addr × Obj)} {i : Nat} {h' : Heap} {tk : Nat} {m' : Str → Option Value} {sa sb sa0 sb0 : Int} {ta tb ta0 tb0 : Tok} {c c0 : Nat} (F : Fr h₀ L h' m') (N : News h₀ L h' ((S, srcObj sa sb ta tb c) :: (rest ++ own))) (hs : SrcOk sa sb) (hn : ∀ p ∈ (S, srcObj sa0 sb0 ta0 tb0 c0) :: rest, p.1 ≠ I) :
    ForEnd h₀ L s I own (LawJ S rest (i + 1)) Q .next { s with heap := h', toks := tk } :=
  ⟨h', tk, m', (S, srcObj sa sb ta tb c) :: rest, rfl, F, N, fun p hp => by
    rcases List.mem_cons.mp hp with rfl | hp
    · exact hn (S, srcObj sa0 sb0 ta0 tb0 c0) (.head _)
    · exact hn p (.tail _ hp), sa, sb, ta, tb, c, rfl, hs⟩
end
end
section
open PySem PySem.W PyProof.Rows PyProof.V PySem.Calls PySem.Spec
set_option maxHeartbeats 4000000
/-- a short text of plain signs -/
def Tiny (k : Str) : Prop := k.length ≤ 16 ∧ Asc k
theorem tiny_of {k : Str} (d : (decide (k.length ≤ 16) && (lst k).all (fun c => decide (c < 128))) = true) : Tiny k := by
  rw [Bool.and_eq_true] at d
  exact ⟨of_decide_eq_true d.1, asc_lit d.2⟩
theorem tiny_in {ks : List Str} (d : ks.all (fun k => decide (k.length ≤ 16) && (lst k).all (fun c => decide (c < 128))) = true) {k : Str} (h : k ∈ ks) : Tiny k := tiny_of (List.all_eq_true.mp d k h)
theorem tiny_app {ks : List Str} {k : Str} (d : ks.all (fun k => decide (k.length ≤ 16) && (lst k).all (fun c => decide (c < 128))) = true) (h : Tiny k) : ∀ x ∈ ks ++ [k], Tiny x := fun x hx => by
  rcases List.mem_append.mp hx with hx | hx
  · exact tiny_in d hx
  · rw [List.mem_singleton.mp hx]; exact h
theorem tiny_sum : ∀ zs : List Str, (∀ k ∈ zs, Tiny k) → (zs.map (·.length)).sum ≤ 16 * zs.length
  | [], _ => by simp
  | k :: zs, h => by
    have h1 := tiny_sum zs fun x hx => h x (.tail _ hx)
    have h2 := (h k (.head _)).1
    simp only [List.map_cons, List.sum_cons, List.length_cons]
    omega
theorem mt_len : (Str.ofString "").length = 0 := by decide +kernel
theorem tiny_fits {zs : List Str} (h : ∀ k ∈ zs, Tiny k) (hn : zs.length ≤ 64) : (zs.map (·.length)).sum + zs.length * (Str.ofString "").length ≤ 16777216 := by
  have h1 := tiny_sum zs h
  rw [mt_len]
  omega
theorem tiny_join_len {zs : List Str} (h : ∀ k ∈ zs, Tiny k) (hn : zs.length ≤ 64) : (Txt.join (Str.ofString "") zs).length < 65536 := by
  have h1 := tiny_sum zs h
  have h2 := StrLaws.join_length_le (Str.ofString "") zs
  rw [mt_len] at h2
  show (Builtin.Str.glued _ _).length < _
  rw [StrLaws.glued_eq_join]
  omega
theorem asc_mt : Asc (Str.ofString "") := asc_lit (by decide +kernel)
theorem asc_join : ∀ zs : List Str, (∀ k ∈ zs, Tiny k) → Asc (Str.join (Str.ofString "") zs)
  | [], _ => asc_lit (by decide +kernel)
  | [x], h => (h x (.head _)).2
  | x :: y :: r, h => asc_app (asc_app (h x (.head _)).2 asc_mt) (asc_join (y :: r) fun k hk => h k (.tail _ hk))
theorem tiny_join_asc {zs : List Str} (h : ∀ k ∈ zs, Tiny k) : Asc (Txt.join (Str.ofString "") zs) := by
  show Asc (Builtin.Str.glued _ _)
  rw [StrLaws.glued_eq_join]
  exact asc_join zs h
theorem tiny_11 {a0 a1 a2 a3 a4 a5 a6 a7 a8 a9 k x : Str} (hx : x ∈ [a0, a1, a2, a3, a4, a5, a6, a7, a8, a9, k]) (d : [a0, a1, a2, a3, a4, a5, a6, a7, a8, a9].all (fun k => decide (k.length ≤ 16) && (lst k).all (fun c => decide (c < 128))) = true) (h : Tiny k) : Tiny x := tiny_app d h x hx
section
variable {prog : Program} {w : World} {A : Around} {h₀ : Heap} {L : Addr} {m : Str → Option Value} {env : Env} {elt : Expr} {x : Str} {scope : Scope} {cl : List (Str × Addr)} {s : Shared} {P : Nat → Value → Prop} {Fin : List Value → List (Addr × Obj) → Prop} {news : List (Addr × Obj)} {g : Obj → List (Addr × Obj)} {S : Addr}
/-- the end of a draw of a short text within a comprehension -/
def DrawEndT (h₀ : Heap) (L : Addr) (m : Str → Option Value) (s : Shared) (pre : List (Addr × Obj)) (G : Obj → List (Addr × Obj)) (y : Value) (s₂ : Shared) : Prop :=
  ∃ h' tk k t sa sb ta tb c, y = .str k t ∧ s₂ = { s with heap := h', toks := tk } ∧ Fr h₀ L h' m ∧ News h₀ L h' (pre ++ G (srcObj sa sb ta tb c)) ∧ SrcOk sa sb ∧ Tiny k
theorem drawEndT {s : Shared} {pre : List (Addr × Obj)} {G : Obj → List (Addr × Obj)} {h' : Heap} {tk : Nat} {k : Str} {t : Tok} {sa sb : Int} {ta tb : Tok} {c : Nat} (F : Fr h₀ L h' m) (N : News h₀ L h' (pre ++ G (srcObj sa sb ta tb c))) (hs : SrcOk sa sb) (hk : Tiny k) :
    DrawEndT h₀ L m s pre G (.str k t) { s with heap := h', toks := tk } := ⟨h', tk, k, t, sa, sb, ta, tb, c, rfl, rfl, F, N, hs, hk⟩
/-- a comprehension over a range whose element is a draw of a short text -/
theorem rest_tiny {n : Nat} {sa sb : Int} {ta tb : Tok} {c : Nat} (U : UpdF S (srcObj sa sb ta tb c) news g) (h0 : SrcOk sa sb)
    (turn : ∀ sa sb ta tb c I oI C oC D m₂ ys h tk (E' : Value → Shared → Prop), SrcOk sa sb → LCg.NsObj oC m₂ → Fr h₀ L h m → News h₀ L h ((I, oI) :: (C, oC) :: (D, LCg.lst ys) :: g (srcObj sa sb ta tb c)) → LCg.Off3 I C D (g (srcObj sa sb ta tb c)) → ((@Ne Nat I C) ∧ (@Ne Nat I D) ∧ (@Ne Nat C D)) →
      wpAny (model prog w) A (eval elt (compEnvC scope cl C env)) (DrawEndT h₀ L m { s with heap := h, toks := tk } [(I, oI), (C, oC), (D, LCg.lst ys)] g) E' { s with heap := h, toks := tk })
    (fin : ∀ ys zs sa sb ta tb c, SrcOk sa sb → Strs ys zs → zs.length = n → (∀ k ∈ zs, Tiny k) → Fin ys (g (srcObj sa sb ta tb c))) :
    LCg.CompRest prog w A h₀ L m env elt x scope cl s (fun _ => True) P Fin n 0 [] news := by
  rw [← updF_eq U]
  have key : ∀ (j i : Nat) (ys : List Value) (zs : List Str) (sa sb : Int) (ta tb : Tok) (c : Nat), i + j = n → SrcOk sa sb → Strs ys zs → zs.length = i → (∀ k ∈ zs, Tiny k) →
      LCg.CompRest prog w A h₀ L m env elt x scope cl s (fun _ => True) P Fin j i ys (g (srcObj sa sb ta tb c)) := by
    intro j
    induction j with
    | zero =>
      intro i ys zs sa sb ta tb c hi hs hy hl hk
      exact LCg.CompRest.zero (fin ys zs sa sb ta tb c hs hy (by omega) hk)
    | succ j ih =>
      intro i ys zs sa sb ta tb c hi hs hy hl hk
      refine LCg.CompRest.succ ?_
      intro v I oI C oC D m₂ h tk E' _ hC _ F N off ne
      refine wpAny_mono (turn sa sb ta tb c I oI C oC D m₂ ys h tk E' hs hC F N off ne) (fun y s₂ hq => ?_) fun _ _ e => e
      obtain ⟨h', tk', k, t, sa', sb', ta', tb', c', rfl, rfl, F', N', hs', hk'⟩ := hq
      refine ⟨h', tk', _, rfl, F', N', updF_off U I C D _ _ off, trivial, ?_⟩
      refine ih (i + 1) _ (zs ++ [k]) sa' sb' ta' tb' c' (by omega) hs' (strs_snoc hy) (by simp [hl]) fun k'' h'' => ?_
      rcases List.mem_append.mp h'' with h'' | h''
      · exact hk _ h''
      · rw [List.mem_singleton.mp h'']; exact hk'
  exact key n 0 [] [] sa sb ta tb c (by omega) h0 ⟨rfl, fun j v h => by simp at h⟩ rfl (fun k h => by simp at h)
end
end
section
open PySem PySem.W PyProof.Rows PySem.Calls
set_option maxHeartbeats 8000000
@[reducible] noncomputable def B333RQ : { x : List Stmt // x = List.drop 8 B333 } := ⟨_, by conv => rhs; whnf⟩
noncomputable abbrev B333R : List Stmt := B333RQ.1
set_option maxHeartbeats 2000000 in
theorem law_rest {w : World} {mean : ExcName → Option Value} {mg mb : Str → Option Value} {L a : Addr} {ccd : Value} {h₀ : Heap} {s : Shared} {Q : Flow → Shared → Prop} {E : Value → Shared → Prop} {m : Str → Option Value} {S : Addr} {sa sb : Int} {ta tb : Tok} {oP oS : Obj}
   (B : Below callerA h₀ [] h₀) (F : Fr h₀ L s.heap m) (X : (K w.params).In h₀) (N : News h₀ L s.heap [(S, srcObj sa sb ta tb 0), (L + 1 + 1, oP), (L + 1, oS)]) (dP : oP.data = Data.cell none) (dS : oS.data = Data.cell (some (.ref S))) (hlt : @LT.lt Nat _ (L + 1 + 1) S ∧ @LT.lt Nat _ (L + 1) S) (hs : SrcOk sa sb)
   (T : Top q (looseW q [Str.ofString "DtdFault"]) mean mg mb h₀)
   (hE : PassesOwn (model PySem.Challenge.rw_xw0207_01.row.prog w) (callerA.deeper (envOfC (Str.ofString "law") S333 L a ccd)) (envOfC (Str.ofString "law") S333 L a ccd) E)
   (hQ : ∀ (h' : Heap) (tk' : Nat) (m' : Str → Option Value), Fr h₀ L h' m' → Q (.ret (.bool true)) { s with heap := h', toks := tk' }) :
   wpAny (model PySem.Challenge.rw_xw0207_01.row.prog w) (callerA.deeper (envOfC (Str.ofString "law") S333 L a ccd)) (execs B333R (envOfC (Str.ofString "law") S333 L a ccd)) Q E s := by
  k_with_none
  k_with "call builtin:len" => (k_here; (with_reducible show wpAny _ _ (call _ [Value.str _ _]) _ _ _); k_dflt (refine' len_nat ?k1z0 ?_; (case k1z0 => first | assumption | decide)); k_whole; intro t9 tk9; (try dsimp only))
  k_with "subscriptTail" => (k_here; (with_reducible show wpAny _ _ (subscriptTail _ _ (Value.str _ _) (Value.int _ _)) _ _ _); k_dflt (refine' item_nat ?k1z1 ?k2z1 ?k3z1 ?_; (case k1z1 => assumption); (case k2z1 => assumption); (case k3z1 => first | (simp only [decide_eq_true_eq] at *; omega) | (simp only [decide_eq_true_eq, decide_eq_false_iff_not] at *; omega) | omega)); k_whole; intro c9 t9 tk9 hc9 hb9; (try dsimp only))
  k_with "exec Raise some none" => (k_here; k_dflt (refine' Raise_val (w := by assumption) ?khz2 ?_; (case khz2 => exact rfl)); k_whole)
  k_with "FltUp" => (k_here; k_dflt (refine' FltUp.mk ?kXz3 ?kFz3 ?kNz3 ?_; (case kXz3 => k_asm); (case kFz3 => k_asm); (case kNz3 => k_asm)); k_whole)
  k_with "leaving ref" => (k_here; first | (k_dflt (refine' air_firstN ?kKz4 ?kFz4 ?kNz4 ?kfz4 ?knz4 ?_; (case kFz4 => k_asm); (case kNz4 => k_asm); (case kKz4 => k_asm); (case kfz4 => exact rfl); (case knz4 => assumption)); k_whole; intro h9 R9 U9; (try dsimp only)) | (k_dflt (refine' air_on ?kKz4 ?kFz4 ?kRz4 ?kUz4 ?_; (case kRz4 => assumption); (case kFz4 => assumption); (case kUz4 => assumption); (case kKz4 => assumption)); k_whole; intro h9 R9 U9; (try dsimp only)))
  k_with "my k_updF" => first | exact UpdF.head (by first | k_all | (repeat (first | exact off_nil | (refine off_cons (by k_ne) ?_)))) | exact updTail (by k_extra "my k_updF") (by k_ne)
  k_with "call ref" => (k_here; k_dflt (refine' take_w ?k1z6 ?k2z6 ?k3z6 ?k4z6 ?k5z6 ?kKz6 ?kdz6 ?kuz6 ?kUz6 ?ksz6 _ _ ?kzz6 _ ?knz6 ?kn2z6 ?_; (case k1z6 => k_asm); (case k2z6 => k_asm); (case k3z6 => k_asm); (case k4z6 => k_asm); (case k5z6 => k_asm); (case kKz6 => first | exact rfl | assumption); (case kdz6 => ktr_room); (case kuz6 => ktr_units); (case kUz6 => k_extra "my k_updF"); (case ksz6 => assumption); (case kzz6 => exact (rfl : (9 : Int) = ((9 : Nat) : Int))); (case knz6 => decide); (case kn2z6 => decide); k_whole); intro r9 sa9 sb9 ta9 tb9 tr9 c9 h9 tk9 F9 N9 hs9 hr9; (try dsimp only at N9); (replace hr9 : r9 < 9 := hr9); (try dsimp only); (try k_sweep))
  k_with "call ref" => (k_here; k_dflt (refine' one_w ?k1z7 ?k2z7 ?k3z7 ?k4z7 ?k5z7 ?kKz7 ?kdz7 ?kuz7 ?kUz7 ?kTz7 ?kmz7 ?kSz7 ?knz7 ?kn2z7 ?ksz7 ?_; (case k1z7 => k_asm); (case k2z7 => k_asm); (case k3z7 => k_asm); (case k4z7 => k_asm); (case k5z7 => k_asm); (case kKz7 => first | exact rfl | assumption); (case kdz7 => ktr_room); (case kuz7 => ktr_units); (case kUz7 => k_extra "my k_updF"); (case kmz7 => k_mem); (case kTz7 => k_ne); (case kSz7 => first | exact strs5 | exact strs11); (case ksz7 => assumption); (case knz7 => exact Nat.le_of_ble_eq_true rfl); (case kn2z7 => exact Nat.le_of_ble_eq_true rfl); k_whole); intro k9 sa9 sb9 ta9 tb9 tr9 c9 h9 tk9 F9 N9 hs9 hk9; (try dsimp only at N9); (try dsimp only); (try k_sweep))
  k_with "call ref" => (k_here; k_dflt (refine' kind_bad_w ?k1z8 ?k2z8 ?k3z8 ?k4z8 ?k5z8 ?kKz8 ?XBz8 ?TBz8 ?Dz8 ?kdz8 ?kuz8 _ _ ?klz8 ?kaz8 _ _ _ _ ?hKz8 ?_; (((case k1z8 => k_asm); (case k2z8 => k_asm); (case k3z8 => k_asm); (case k4z8 => k_asm); (case k5z8 => k_asm); (case kKz8 => first | exact rfl | assumption); (case XBz8 => assumption); (case TBz8 => assumption); (case Dz8 => assumption); (case kdz8 => ktr_room); (case kuz8 => ktr_units))); (case klz8 => decide +kernel); (case kaz8 => exact asc_lit (by decide +kernel)); (case hKz8 => exact bad_lit (by decide +kernel) rfl)); k_whole; intro h9 g9 tk9 Z9; obtain ⟨F9, N9⟩ := Z9.flat; (try dsimp only))
  k_with "call ref" => (k_here; k_dflt (refine' kind_ok_z ?k1z9 ?k2z9 ?k3z9 ?k4z9 ?k5z9 ?kKz9 ?XBz9 ?TBz9 ?Dz9 ?kdz9 ?kuz9 _ _ ?klz9 ?kaz9 _ _ _ _ ?hRz9 ?hTz9 ?hSz9 ?hLz9 ?hzz9 ?hKz9 ?_; (((case k1z9 => k_asm); (case k2z9 => k_asm); (case k3z9 => k_asm); (case k4z9 => k_asm); (case k5z9 => k_asm); (case kKz9 => first | exact rfl | assumption); (case XBz9 => assumption); (case TBz9 => assumption); (case Dz9 => assumption); (case kdz9 => ktr_room); (case kuz9 => ktr_units))); (case hRz9 => k_mem); (case hTz9 => k_mem); (case hSz9 => first | exact Mine.strs_nil | exact strs2); (case klz9 => decide +kernel); (case kaz9 => exact asc_lit (by decide +kernel)); (case hLz9 => decide +kernel); (case hzz9 => exact rfl); (case hKz9 => exact ok_lit (by decide +kernel))); k_whole; intro h9 g9 tk9 Z9; obtain ⟨F9, N9⟩ := Z9.flat; (try dsimp only))
  k_with "call ref" => (k_here; k_dflt (refine' public_right_w ?k1z10 ?k2z10 ?k3z10 ?k4z10 ?k5z10 ?kKz10 ?XBz10 ?TBz10 ?Dz10 ?kdz10 ?kuz10 _ _ ?klz10 ?kaz10 ?_; (((case k1z10 => k_asm); (case k2z10 => k_asm); (case k3z10 => k_asm); (case k4z10 => k_asm); (case k5z10 => k_asm); (case kKz10 => first | exact rfl | assumption); (case XBz10 => assumption); (case TBz10 => assumption); (case Dz10 => assumption); (case kdz10 => ktr_room); (case kuz10 => ktr_units))); (case klz10 => first | assumption | exact tiny_join_len (by assumption) (by omega) | exact (pr_in pr_texts (by assumption)).1); (case kaz10 => first | assumption | exact tiny_join_asc (by assumption) | exact (pr_in pr_texts (by assumption)).2)); k_whole; intro h9 g9 tk9 Z9; obtain ⟨F9, N9⟩ := Z9.flat; (try dsimp only))
  k_with "call ref" => (k_here; k_dflt (refine' pool_w ?k1z11 ?k2z11 ?k3z11 ?k4z11 ?k5z11 ?kKz11 ?kdz11 ?kuz11 ?klz11 ?kIz11 ?kzz11 ?_; (case klz11 => assumption); (case kIz11 => assumption); (case kzz11 => assumption); (case k1z11 => k_asm); (case k2z11 => k_asm); (case k3z11 => k_asm); (case k4z11 => k_asm); (case k5z11 => k_asm); (case kKz11 => exact rfl); (case kdz11 => ktr_room); (case kuz11 => ktr_units)); k_whole; intro S9 sa9 sb9 ta9 tb9 h9 tk9 F9 N9 l9 hs9; (try k_lt l9);  (try dsimp only))
  k_with "call ref" => (k_here; k_dflt (refine' drawn_w ?k1z12 ?k2z12 ?k3z12 ?k4z12 ?k5z12 ?kKz12 ?XBz12 ?TBz12 ?Dz12 ?kdz12 ?kuz12 ?knz12 ?krz12 ?ksz12 ?_; (((case k1z12 => k_asm); (case k2z12 => k_asm); (case k3z12 => k_asm); (case k4z12 => k_asm); (case k5z12 => k_asm); (case kKz12 => first | exact rfl | assumption); (case XBz12 => assumption); (case TBz12 => assumption); (case Dz12 => assumption); (case kdz12 => ktr_room); (case kuz12 => ktr_units))); (case knz12 => exact rfl); (case krz12 => first | assumption | (repeat (first | exact off_nil | (refine off_cons (by k_ne) ?_)))); (case ksz12 => assumption)); k_whole; intro sa9 sb9 ta9 tb9 c9 h9 g9 tk9 hs9 Z9; obtain ⟨F9, N9⟩ := Z9.flat; (try dsimp only))
  k_with "eval ListComp" => (k_here; k_dflt (refine LCg.ListComp_U (F₀ := by k_asm) (by with_unfolding_all rfl) (by decide) (by rfl) (by decide) (by rfl) ?_))
  k_with "CompSrc" => (k_here; k_dflt (refine LCg.CompSrc.range (by rfl) (by k_asm) (by k_asm) (by assumption) (rng_small (by omega)) (rng_size _) ?kzz14 ?_; (case kzz14 => (rw [sizeLine_eq]; omega)); intro g'; refine' rest_tiny ?kUz14 ?ksz14 ?turnz14 ?finz14; (case kUz14 => k_extra "my k_updF"); (case ksz14 => assumption); (case' finz14 => (intro ys9 zs9 sa9 sb9 ta9 tb9 c9 hs9 hS9 hl9 hk9; have hv9 := hS9.1)); (case' turnz14 => (intro sa9 sb9 ta9 tb9 c9 I9 oI9 C9 oC9 D9 m9 ys9 h9 tk9 E9 hs9 hC9 F9 N9 off9 ne9; (try dsimp only at N9 off9); (try simp only [LCg.Off3, and_true] at off9)))))
  k_with "DrawEndT" => (refine' drawEndT ?jFz15 ?jNz15 ?jsz15 (tiny_11 ?jxz15 ?jdz15 (tiny_in ?jez15 ?jkz15)); (case jFz15 => k_asm); (case jNz15 => (exact fun p hp => (by assumption : News _ _ _ (_ :: _)) p hp)); (case jsz15 => assumption); (case jxz15 => assumption); (case jdz15 => decide +kernel); (case jkz15 => assumption); (case jez15 => decide +kernel))
  k_with "exec For Name Call cons nil" => (k_here; with_unfolding_all (refine' For_invVF ?k0z16 ?k1z16 ?k2z16 ?_ (hE := by assumption); (case k0z16 => k_asm); (case k1z16 => exact rfl); (case k2z16 => exact rfl)))
  k_with "exec For Name Call" => (k_here; with_unfolding_all (refine' For_invVF ?k0z17 ?k1z17 ?k2z17 ?_ (hE := by assumption); (case k0z17 => k_asm); (case k1z17 => exact rfl); (case k2z17 => exact rfl)))
  k_with "exec For" => (k_here; with_unfolding_all (refine' For_invVF ?k0z18 ?k1z18 ?k2z18 ?_ (hE := by assumption); (case k0z18 => k_asm); (case k1z18 => exact rfl); (case k2z18 => exact rfl)))
  k_with "pyIter ref" => (k_here; k_dflt (refine' For_law ?hhy3 ?hry3 ?hmy3 ?hny3 ?Fy3 ?Ny3 ?hsy3 ?hoy3 ?turny3 ?doney3; (case hhy3 => exact rfl); (case Fy3 => k_asm); (case Ny3 => exact pick_news (rest := [(L + 1 + 1, oP), (L + 1, oS)]) (by k_asm) (by k_mem) (by intro q hq; repeat (first | exact hq | refine List.mem_cons_of_mem _ ?_))); (case hry3 => assumption); (case hmy3 => decide); (case hny3 => exact (rfl : _ = ((2 : Nat) : Int))); (case hsy3 => assumption); (case hoy3 => (repeat (first | exact off_nil | (refine off_cons (by k_ne) ?_))))); (case' turny3 => (intro i9 k9 t9 m9 sa9 sb9 ta9 tb9 c9 own9 h9 tk9 hs9 ho9 hn9 F9 N9; (try dsimp only at N9); (try simp only [List.cons_append, List.nil_append] at N9 ho9))); (case' doney3 => (intro h9 tk9 m9 sa9 sb9 ta9 tb9 c9 hs9 F9 N9; (try dsimp only at N9))))
  k_with "call builtin:str.join" => (k_here; k_dflt (refine' join_list ?k1y4 ?k2y4 ?k3y4 ?_; (case k1y4 => exact News.isList (by k_asm) (by k_mem)); (case k2y4 => exact strs_are (by assumption)); (case k3y4 => exact tiny_fits (by assumption) (by omega)); k_whole); intro t9 tk9)
  have XB : (K w.params).In h₀ := X
  have TB : Top q (looseW q [Str.ofString "DtdFault"]) mean mg mb h₀ := T
  have D : KtsDicts (([] : List Env).filterMap (·.frame)) h₀ := fun b hb => by simp at hb
  revert X; k_fill; intro X
  (try dsimp only)
  (try k_fold)
  k_steps
  all_goals try exact law_next (by k_asm) (by k_asm) (by assumption) (by assumption)
  all_goals try exact hQ _ _ _ (by k_asm)
  all_goals trace_state
end
section
open PySem PySem.W PyProof.Rows PySem.Calls
set_option maxHeartbeats 8000000
theorem keep2 {h₀ h : Heap} {L : Addr} {o1 o2 : Obj} {news : List (Addr × Obj)} (N : News h₀ L h news) (h1 : (L + 1 + 1, o1) ∈ news) (h2 : (L + 1, o2) ∈ news) : News h₀ L h [(L + 1 + 1, o1), (L + 1, o2)] := fun q hq => N q (by
  simp only [List.mem_cons, List.not_mem_nil, or_false] at hq
  rcases hq with rfl | rfl
  · exact h1
  · exact h2)
set_option maxHeartbeats 4000000 in
theorem law_body {w : World} {mean : ExcName → Option Value} {mg mb : Str → Option Value} {L a : Addr} {ccd : Value} {h₀ : Heap} {s : Shared} {Q : Flow → Shared → Prop} {E : Value → Shared → Prop} {l : Addr} {vs : List Value} {ks : List Int} {cells : List (Addr × Obj)}
   (B : Below callerA h₀ [] h₀) (F : Fr h₀ L s.heap (fun y => if y = Str.ofString "script" then some (.ref l) else none)) (X : (K w.params).In h₀) (N : News h₀ L s.heap cells) (Y : CellsAre (fun _ => none) (cellsFrom (L + 1) S333.names []) cells)
   (T : Top q (looseW q [Str.ofString "DtdFault"]) mean mg mb h₀) (hl : h₀.IsList l (List.toArray vs)) (hI : IntsAre vs ks) (hlen : ks.length ≤ 63)
   (hE : PassesOwn (model PySem.Challenge.rw_xw0207_01.row.prog w) (callerA.deeper (envOfC (Str.ofString "law") S333 L a ccd)) (envOfC (Str.ofString "law") S333 L a ccd) E)
   (hQ : ∀ (h' : Heap) (tk' : Nat) (m' : Str → Option Value), Fr h₀ L h' m' → Q (.ret (.bool true)) { s with heap := h', toks := tk' }) :
   wpAny (model PySem.Challenge.rw_xw0207_01.row.prog w) (callerA.deeper (envOfC (Str.ofString "law") S333 L a ccd)) (execs B333 (envOfC (Str.ofString "law") S333 L a ccd)) Q E s := by
  k_with_none
  k_with "call builtin:len" => (k_here; (with_reducible show wpAny _ _ (call _ [Value.str _ _]) _ _ _); k_dflt (refine' len_nat ?k1z0 ?_; (case k1z0 => first | assumption | decide)); k_whole; intro t9 tk9; (try dsimp only))
  k_with "subscriptTail" => (k_here; (with_reducible show wpAny _ _ (subscriptTail _ _ (Value.str _ _) (Value.int _ _)) _ _ _); k_dflt (refine' item_nat ?k1z1 ?k2z1 ?k3z1 ?_; (case k1z1 => assumption); (case k2z1 => assumption); (case k3z1 => first | (simp only [decide_eq_true_eq] at *; omega) | (simp only [decide_eq_true_eq, decide_eq_false_iff_not] at *; omega) | omega)); k_whole; intro c9 t9 tk9 hc9 hb9; (try dsimp only))
  k_with "exec Raise some none" => (k_here; k_dflt (refine' Raise_val (w := by assumption) ?khz2 ?_; (case khz2 => exact rfl)); k_whole)
  k_with "FltUp" => (k_here; k_dflt (refine' FltUp.mk ?kXz3 ?kFz3 ?kNz3 ?_; (case kXz3 => k_asm); (case kFz3 => k_asm); (case kNz3 => k_asm)); k_whole)
  k_with "leaving ref" => (k_here; first | (k_dflt (refine' air_firstN ?kKz4 ?kFz4 ?kNz4 ?kfz4 ?knz4 ?_; (case kFz4 => k_asm); (case kNz4 => k_asm); (case kKz4 => k_asm); (case kfz4 => exact rfl); (case knz4 => assumption)); k_whole; intro h9 R9 U9; (try dsimp only)) | (k_dflt (refine' air_on ?kKz4 ?kFz4 ?kRz4 ?kUz4 ?_; (case kRz4 => assumption); (case kFz4 => assumption); (case kUz4 => assumption); (case kKz4 => assumption)); k_whole; intro h9 R9 U9; (try dsimp only)))
  k_with "my k_updF" => first | exact UpdF.head (by first | k_all | (repeat (first | exact off_nil | (refine off_cons (by k_ne) ?_)))) | exact updTail (by k_extra "my k_updF") (by k_ne)
  k_with "call ref" => (k_here; k_dflt (refine' take_w ?k1z6 ?k2z6 ?k3z6 ?k4z6 ?k5z6 ?kKz6 ?kdz6 ?kuz6 ?kUz6 ?ksz6 _ _ ?kzz6 _ ?knz6 ?kn2z6 ?_; (case k1z6 => k_asm); (case k2z6 => k_asm); (case k3z6 => k_asm); (case k4z6 => k_asm); (case k5z6 => k_asm); (case kKz6 => first | exact rfl | assumption); (case kdz6 => ktr_room); (case kuz6 => ktr_units); (case kUz6 => k_extra "my k_updF"); (case ksz6 => assumption); (case kzz6 => exact (rfl : (9 : Int) = ((9 : Nat) : Int))); (case knz6 => decide); (case kn2z6 => decide); k_whole); intro r9 sa9 sb9 ta9 tb9 tr9 c9 h9 tk9 F9 N9 hs9 hr9; (try dsimp only at N9); (replace hr9 : r9 < 9 := hr9); (try dsimp only); (try k_sweep))
  k_with "call ref" => (k_here; k_dflt (refine' one_w ?k1z7 ?k2z7 ?k3z7 ?k4z7 ?k5z7 ?kKz7 ?kdz7 ?kuz7 ?kUz7 ?kTz7 ?kmz7 ?kSz7 ?knz7 ?kn2z7 ?ksz7 ?_; (case k1z7 => k_asm); (case k2z7 => k_asm); (case k3z7 => k_asm); (case k4z7 => k_asm); (case k5z7 => k_asm); (case kKz7 => first | exact rfl | assumption); (case kdz7 => ktr_room); (case kuz7 => ktr_units); (case kUz7 => k_extra "my k_updF"); (case kmz7 => k_mem); (case kTz7 => k_ne); (case kSz7 => first | exact strs5 | exact strs11); (case ksz7 => assumption); (case knz7 => exact Nat.le_of_ble_eq_true rfl); (case kn2z7 => exact Nat.le_of_ble_eq_true rfl); k_whole); intro k9 sa9 sb9 ta9 tb9 tr9 c9 h9 tk9 F9 N9 hs9 hk9; (try dsimp only at N9); (try dsimp only); (try k_sweep))
  k_with "call ref" => (k_here; k_dflt (refine' kind_bad_w ?k1z8 ?k2z8 ?k3z8 ?k4z8 ?k5z8 ?kKz8 ?XBz8 ?TBz8 ?Dz8 ?kdz8 ?kuz8 _ _ ?klz8 ?kaz8 _ _ _ _ ?hKz8 ?_; (((case k1z8 => k_asm); (case k2z8 => k_asm); (case k3z8 => k_asm); (case k4z8 => k_asm); (case k5z8 => k_asm); (case kKz8 => first | exact rfl | assumption); (case XBz8 => assumption); (case TBz8 => assumption); (case Dz8 => assumption); (case kdz8 => ktr_room); (case kuz8 => ktr_units))); (case klz8 => decide +kernel); (case kaz8 => exact asc_lit (by decide +kernel)); (case hKz8 => exact bad_lit (by decide +kernel) rfl)); k_whole; intro h9 g9 tk9 Z9; obtain ⟨F9, N9⟩ := Z9.flat; (try dsimp only))
  k_with "call ref" => (k_here; k_dflt (refine' kind_ok_z ?k1z9 ?k2z9 ?k3z9 ?k4z9 ?k5z9 ?kKz9 ?XBz9 ?TBz9 ?Dz9 ?kdz9 ?kuz9 _ _ ?klz9 ?kaz9 _ _ _ _ ?hRz9 ?hTz9 ?hSz9 ?hLz9 ?hzz9 ?hKz9 ?_; (((case k1z9 => k_asm); (case k2z9 => k_asm); (case k3z9 => k_asm); (case k4z9 => k_asm); (case k5z9 => k_asm); (case kKz9 => first | exact rfl | assumption); (case XBz9 => assumption); (case TBz9 => assumption); (case Dz9 => assumption); (case kdz9 => ktr_room); (case kuz9 => ktr_units))); (case hRz9 => k_mem); (case hTz9 => k_mem); (case hSz9 => first | exact Mine.strs_nil | exact strs2); (case klz9 => decide +kernel); (case kaz9 => exact asc_lit (by decide +kernel)); (case hLz9 => decide +kernel); (case hzz9 => exact rfl); (case hKz9 => exact ok_lit (by decide +kernel))); k_whole; intro h9 g9 tk9 Z9; obtain ⟨F9, N9⟩ := Z9.flat; (try dsimp only))
  k_with "call ref" => (k_here; k_dflt (refine' public_right_w ?k1z10 ?k2z10 ?k3z10 ?k4z10 ?k5z10 ?kKz10 ?XBz10 ?TBz10 ?Dz10 ?kdz10 ?kuz10 _ _ ?klz10 ?kaz10 ?_; (((case k1z10 => k_asm); (case k2z10 => k_asm); (case k3z10 => k_asm); (case k4z10 => k_asm); (case k5z10 => k_asm); (case kKz10 => first | exact rfl | assumption); (case XBz10 => assumption); (case TBz10 => assumption); (case Dz10 => assumption); (case kdz10 => ktr_room); (case kuz10 => ktr_units))); (case klz10 => first | assumption | exact (pr_in pr_texts (by assumption)).1); (case kaz10 => first | assumption | exact (pr_in pr_texts (by assumption)).2)); k_whole; intro h9 g9 tk9 Z9; obtain ⟨F9, N9⟩ := Z9.flat; (try dsimp only))
  k_with "call ref" => (k_here; k_dflt (refine' pool_w ?k1z11 ?k2z11 ?k3z11 ?k4z11 ?k5z11 ?kKz11 ?kdz11 ?kuz11 ?klz11 ?kIz11 ?kzz11 ?_; (case klz11 => assumption); (case kIz11 => assumption); (case kzz11 => assumption); (case k1z11 => k_asm); (case k2z11 => k_asm); (case k3z11 => k_asm); (case k4z11 => k_asm); (case k5z11 => k_asm); (case kKz11 => exact rfl); (case kdz11 => ktr_room); (case kuz11 => ktr_units)); k_whole; intro S9 sa9 sb9 ta9 tb9 h9 tk9 F9 N9 l9 hs9; (have lq9 := l9); (try k_lt l9);  (try dsimp only))
  k_with "call ref" => (k_here; k_dflt (refine' drawn_w ?k1z12 ?k2z12 ?k3z12 ?k4z12 ?k5z12 ?kKz12 ?XBz12 ?TBz12 ?Dz12 ?kdz12 ?kuz12 ?knz12 ?krz12 ?ksz12 ?_; (((case k1z12 => k_asm); (case k2z12 => k_asm); (case k3z12 => k_asm); (case k4z12 => k_asm); (case k5z12 => k_asm); (case kKz12 => first | exact rfl | assumption); (case XBz12 => assumption); (case TBz12 => assumption); (case Dz12 => assumption); (case kdz12 => ktr_room); (case kuz12 => ktr_units))); (case knz12 => exact rfl); (case krz12 => first | assumption | (repeat (first | exact off_nil | (refine off_cons (by k_ne) ?_)))); (case ksz12 => assumption)); k_whole; intro sa9 sb9 ta9 tb9 c9 h9 g9 tk9 hs9 Z9; obtain ⟨F9, N9⟩ := Z9.flat; (try dsimp only))
  k_with "eval ListComp" => (k_here; k_dflt (refine LCt.ListComp_T (F₀ := by k_asm) (by with_unfolding_all rfl) (by decide) (by rfl) (by decide) (by rfl) ?_))
  k_with "CompSrcT" => (k_here; k_dflt (refine LCt.CompSrcT.ledger (its := List.toArray _) (by rfl) (by k_asm) (by k_asm) (by k_mem) ?kzz14 ?_; (case kzz14 => (rw [sizeLine_eq]; simp only [List.size_toArray, List.length_cons, List.length_nil]; omega)); intro g'; refine' rest_none ?_ ?_; any_goals (intro i9 v9 I9 oI9 C9 oC9 D9 m9 h9 tk9 E9 hv9 hC9 hx9 F9 N9 off9 ne9; first | (rcases of9 hv9 with e9 | e9 | e9 | e9 | e9 | e9 | e9 | e9 | e9 <;> rw [e9] at hx9) | (obtain ⟨k9, t9, hk9, e9⟩ := of_strs strs7 hv9; rw [e9] at hx9))))
  k_with "CompEnd" => (k_here; k_dflt (refine LCg.CompEnd.intro (by assumption) (by k_asm) _ (fun p hp => hp) (by assumption) (Or.inr ⟨_, by k_mem, rfl, _, rfl⟩) ?_); exact rfl)
  k_with "execs cons" => (k_here; (with_reducible show wpAny _ _ (execs (Stmt.For _ _ _ _ _ :: _) _) _ _ _); k_dflt (refine' law_rest ?jBz16 ?jFz16 ?jXz16 ?jNz16 ?jPz16 ?jOz16 ?jlz16 ?jsz16 ?jTz16 ?jEz16 ?jQz16; (case jBz16 => assumption); (case jFz16 => k_asm); (case jXz16 => assumption); (case jNz16 => exact keep3 (by k_asm) (by k_mem) (by k_mem)); (case jPz16 => assumption); (case jOz16 => assumption); (case jlz16 => first | assumption | exact ⟨lq9 _ (by k_mem : (L + 1 + 1, _) ∈ _), lq9 _ (by k_mem : (L + 1, _) ∈ _)⟩); (case jsz16 => assumption); (case jTz16 => assumption); (case jEz16 => assumption); (case jQz16 => assumption)))
  k_with "execs cons" => (k_here; (first | (with_reducible show wpAny _ _ (execs (Stmt.Assign [Expr.Name (Str.ofString "texts") _] _ _ :: _) _) _ _ _) | (with_reducible show wpAny _ _ (execs (Stmt.Assign [Expr.Name (Str.ofString "source") _] _ _ :: _) _) _ _ _)); k_dflt (have N8 : News h₀ L _ [(L + 1 + 1, _), (L + 1, _)] := keep2 (by k_asm) (by k_mem) (by k_mem)); (with_reducible refine wpAny_execs_cons ?_); (try dsimp only))
  have XB : (K w.params).In h₀ := X
  have TB : Top q (looseW q [Str.ofString "DtdFault"]) mean mg mb h₀ := T
  have D : KtsDicts (([] : List Env).filterMap (·.frame)) h₀ := fun b hb => by simp at hb
  revert X; k_fill; intro X
  k_cells Y
  (try simp only [List.cons_append, List.nil_append] at N)
  (try dsimp only)
  (try k_fold)
  k_steps
  all_goals trace_state
end
section
open PySem PySem.W PyProof.Rows PySem.Calls
set_option maxHeartbeats 8000000
theorem law_m (l L a : Addr) (ccd : Value) : bindL (envOfC (Str.ofString "law") S333 L a ccd).kindOf [(Str.ofString "script", .ref l)] (fun _ => none) = fun y => if y = Str.ofString "script" then some (.ref l) else none := by
  have e : (envOfC (Str.ofString "law") S333 L a ccd).kindOf (Str.ofString "script") = some .local := by rfl
  unfold bindL bindL
  rw [if_pos e]
theorem law_c (l L a : Addr) (ccd : Value) : bindC (envOfC (Str.ofString "law") S333 L a ccd).kindOf [(Str.ofString "script", .ref l)] (fun _ => none) = fun _ => none := by
  have e : (envOfC (Str.ofString "law") S333 L a ccd).kindOf (Str.ofString "script") = some .local := by rfl
  unfold bindC bindC
  rw [if_pos e]
theorem law_end {w : World} {mean : ExcName → Option Value} {cl : Str → Option Addr} {mg mb : Str → Option Value} {L a : Addr} {ccd : Value} {s₁ : Shared} {h₁ : Heap} {tk₁ : Nat} {l : Addr} {vs : List Value} {ks : List Int} {cells : List (Addr × Obj)} {args : List WData} {R E₁ : Value → Shared → Prop} {V : Flow → Value} (hV : V (.ret (.bool true)) = .bool true)
   (B : Below callerA s₁.heap [] s₁.heap) (F : Fr s₁.heap L h₁ (fun y => if y = Str.ofString "script" then some (.ref l) else none)) (X : (K w.params).In s₁.heap) (N : News s₁.heap L h₁ cells) (Y : CellsAre (fun _ => none) (cellsFrom (L + 1) S333.names []) cells)
   (T : Top q (looseW q [Str.ofString "DtdFault"]) mean mg mb s₁.heap) (hl : s₁.heap.IsList l (List.toArray vs)) (hI : IntsAre vs ks) (hlen : ks.length ≤ 63) (hg : s₁.gens = #[]) :
   wpAny (model PySem.Challenge.rw_xw0207_01.row.prog w) (callerA.deeper (envOfC (Str.ofString "law") S333 L a ccd)) (execs B333 (envOfC (Str.ofString "law") S333 L a ccd))
     (fun f s' => GoodW PySem.Challenge.rw_xw0207_01.row.claim cl mean args s₁ (.ok (.ret (V f))) s')
     (fun e s' => wpAny (model PySem.Challenge.rw_xw0207_01.row.prog w) (callerA.deeper (envOfC (Str.ofString "law") S333 L a ccd)) (leaving (envOfC (Str.ofString "law") S333 L a ccd) e) (fun _ s'' => R e s'') E₁ s')
     { s₁ with heap := h₁, toks := tk₁ } := by
  have h := fun Q E => @law_body w mean mg mb L a ccd s₁.heap { s₁ with heap := h₁, toks := tk₁ } Q E l vs ks cells B F X N Y T hl hI hlen
  with_reducible refine h _ _ ?hE ?hQ
  case hE => with_reducible exact PassesOwn.leaving
  case hQ =>
    intro h' tk' m' F'
    rw [hV]
    with_reducible exact goodW_bool F' hg (fun _ => by with_unfolding_all rfl) (by with_unfolding_all rfl)
set_option maxHeartbeats 4000000 in
theorem law_holds : PySem.Challenge.rw_xw0207_01.Holds := by
  k_with_none
  k_with "call builtin:len" => (k_here; (with_reducible show wpAny _ _ (call _ [Value.str _ _]) _ _ _); k_dflt (refine' len_nat ?k1z0 ?_; (case k1z0 => first | assumption | decide)); k_whole; intro t9 tk9; (try dsimp only))
  k_with "subscriptTail" => (k_here; (with_reducible show wpAny _ _ (subscriptTail _ _ (Value.str _ _) (Value.int _ _)) _ _ _); k_dflt (refine' item_nat ?k1z1 ?k2z1 ?k3z1 ?_; (case k1z1 => assumption); (case k2z1 => assumption); (case k3z1 => first | (simp only [decide_eq_true_eq] at *; omega) | (simp only [decide_eq_true_eq, decide_eq_false_iff_not] at *; omega) | omega)); k_whole; intro c9 t9 tk9 hc9 hb9; (try dsimp only))
  k_with "exec Raise some none" => (k_here; k_dflt (refine' Raise_val (w := by assumption) ?khz2 ?_; (case khz2 => exact rfl)); k_whole)
  k_with "FltUp" => (k_here; k_dflt (refine' FltUp.mk ?kXz3 ?kFz3 ?kNz3 ?_; (case kXz3 => k_asm); (case kFz3 => k_asm); (case kNz3 => k_asm)); k_whole)
  k_with "leaving ref" => (k_here; first | (k_dflt (refine' air_firstN ?kKz4 ?kFz4 ?kNz4 ?kfz4 ?knz4 ?_; (case kFz4 => k_asm); (case kNz4 => k_asm); (case kKz4 => k_asm); (case kfz4 => exact rfl); (case knz4 => assumption)); k_whole; intro h9 R9 U9; (try dsimp only)) | (k_dflt (refine' air_on ?kKz4 ?kFz4 ?kRz4 ?kUz4 ?_; (case kRz4 => assumption); (case kFz4 => assumption); (case kUz4 => assumption); (case kKz4 => assumption)); k_whole; intro h9 R9 U9; (try dsimp only)))
  w_on
  refine holds_law said fun said => ?_
  refine holds_open (q := q) (loose := [Str.ofString "DtdFault"]) (Xt := fun s => xlAt q [] s && recOk (RowW.records PySem.Challenge.rw_xw0207_01.row.toRowW) s) (XP := XL q []) (Yf := Hook.obs H) (Ya := Hook.val H) (YP := Hook.says H) (N := 4032) left (Hook.of H) (Hook.keeps H) (fun s e => xl_of s (Bool.and_eq_true_iff.mp e).1) XL.keeps (by rfl) (by rfl) (by rfl) (fun s e => recFacts_of (Bool.and_eq_true_iff.mp e).2) (by rfl) (by first | assumption | decide +kernel) (by decide +kernel) ⟨rfl, rfl, rfl, rfl, rfl, by decide +kernel⟩ ?hw ?hc
  case hw => w_witness2
  w_strict k_go0
  rename_i K0 hD h₁ tk₁ F oP oS dP dS N0 X0
  have F2 : Fr _ _ h₁ (bindL (envOfC (Str.ofString "law") S333 _ _ _).kindOf [(Str.ofString "script", .ref _)] (fun _ => none)) := F
  rw [law_m] at F2
  have Y2 : CellsAre (bindC (envOfC (Str.ofString "law") S333 _ _ _).kindOf [(Str.ofString "script", .ref _)] (fun _ => none)) (cellsFrom _ S333.names []) _ := X0
  rw [law_c] at Y2
  clear X0 F dP dS
  change wpAny _ (callerA.deeper (envOfC (Str.ofString "law") S333 _ _ _)) (execs B333 (envOfC (Str.ofString "law") S333 _ _ _)) _ (fun e s' => wpAny _ (callerA.deeper (envOfC (Str.ofString "law") S333 _ _ _)) (leaving (envOfC (Str.ofString "law") S333 _ _ _) e) _ _ s') _
  clear hD
  rename_i w s₀ s₁ mg mb G Y fa o pm doc ho hg KX X V GL T B TE TW w11 w10 M w9 w8 hcd w7 hs hlay0 hL1 hr1 hl2 w6 w5 w4 w3 w2 hL ra w1 r0 hI hr hcond1 hcond
  clear hcd
  have K1 : Below callerA s₁.heap [] s₁.heap := K0
  have hz : w7.length ≤ 63 := by omega
  have h := fun args R E₁ V hV => @law_end w (ExcName.means s₀.heap) (classAt s₀.heap) mg mb s₁.heap.objs.size fa (.ref w9) s₁ h₁ tk₁ w4 w3 w7 _ args R E₁ V hV K1 F2 KX N0 Y2 T hL hI hz hg
  with_reducible refine h _ _ _ _ ?hV
  rfl
end
end Mine
theorem PySem.Challenge.cw_xw0207_01_holds : PySem.Challenge.rw_xw0207_01.Holds :=
  Mine.law_holds
