import PyProof.Rows.All
import Wide.All
import OpenK.AllK
import Wide.FinOn
import PySem.Challenge.RW_nn0277_01
open PySem PySem.W PyProof.Rows PySem.Calls PySem.Spec
set_option Elab.async false
set_option compiler.extract_closed false
set_option genSizeOf false
set_option genInjectivity false
set_option maxRecDepth 100000
set_option linter.unusedVariables false
set_option linter.unusedSimpArgs false
namespace Mine
set_option maxHeartbeats 8000000

/-! ## the top: what stands behind the program's run -/
noncomputable abbrev pw : Program := PySem.Challenge.pw_nn0277_01
noncomputable def stmtAt : List Stmt → Nat → Stmt
  | [], _ => .Pass ⟨0, 0, 0, 0⟩
  | x :: _, 0 => x
  | _ :: r, n + 1 => stmtAt r n
noncomputable def fnB : Stmt → List Stmt
  | .FunctionDef _ _ b _ _ _ _ _ _ _ => b
  | _ => []
noncomputable def fnP : Stmt → Arguments
  | .FunctionDef _ a _ _ _ _ _ _ _ _ => a
  | _ => default
noncomputable def fnS : Stmt → Scope
  | .FunctionDef _ _ _ _ _ _ c _ _ _ => c
  | _ => default
noncomputable def fnPos : Stmt → Pos
  | .FunctionDef _ _ _ _ _ _ _ _ _ p => p
  | _ => default
noncomputable def initDef : Stmt := match stmtAt pw.main.body 1 with
  | .ClassDef _ _ _ b _ _ _ _ _ _ _ => stmtAt b 0
  | x => x
noncomputable def fdInit : FuncData := { name := ("__init__" : Str), qualname := ("CasFail.__init__" : Str), params := fnP initDef, body := .stmts (fnB initDef), scope := fnS initDef, globals := 3, closure := [], defaults := .none, kwdefaults := .none, doc := .none, pyModule := (.str ("cas.errors" : Str) 187), annotations := none, code := (.ref 27), closureTuple := .none, builtins := 0 }
noncomputable def fdgcd : FuncData := { name := ("gcd" : Str), qualname := ("gcd" : Str), params := fnP (stmtAt pw.main.body 3), body := .stmts (fnB (stmtAt pw.main.body 3)), scope := fnS (stmtAt pw.main.body 3), globals := 3, closure := [], defaults := .none, kwdefaults := .none, doc := .none, pyModule := (.str ("cas.ints" : Str) 220), annotations := none, code := (.ref 40), closureTuple := .none, builtins := 0 }
noncomputable def fdroot_of : FuncData := { name := ("root_of" : Str), qualname := ("root_of" : Str), params := fnP (stmtAt pw.main.body 4), body := .stmts (fnB (stmtAt pw.main.body 4)), scope := fnS (stmtAt pw.main.body 4), globals := 3, closure := [], defaults := .none, kwdefaults := .none, doc := .none, pyModule := (.str ("cas.ints" : Str) 220), annotations := none, code := (.ref 47), closureTuple := .none, builtins := 0 }
noncomputable def fdrat : FuncData := { name := ("rat" : Str), qualname := ("rat" : Str), params := fnP (stmtAt pw.main.body 8), body := .stmts (fnB (stmtAt pw.main.body 8)), scope := fnS (stmtAt pw.main.body 8), globals := 3, closure := [], defaults := .none, kwdefaults := .none, doc := .none, pyModule := (.str ("cas.rats" : Str) 241), annotations := none, code := (.ref 56), closureTuple := .none, builtins := 0 }
noncomputable def fdradd : FuncData := { name := ("radd" : Str), qualname := ("radd" : Str), params := fnP (stmtAt pw.main.body 9), body := .stmts (fnB (stmtAt pw.main.body 9)), scope := fnS (stmtAt pw.main.body 9), globals := 3, closure := [], defaults := .none, kwdefaults := .none, doc := .none, pyModule := (.str ("cas.rats" : Str) 241), annotations := none, code := (.ref 63), closureTuple := .none, builtins := 0 }
noncomputable def fdrsub : FuncData := { name := ("rsub" : Str), qualname := ("rsub" : Str), params := fnP (stmtAt pw.main.body 10), body := .stmts (fnB (stmtAt pw.main.body 10)), scope := fnS (stmtAt pw.main.body 10), globals := 3, closure := [], defaults := .none, kwdefaults := .none, doc := .none, pyModule := (.str ("cas.rats" : Str) 241), annotations := none, code := (.ref 70), closureTuple := .none, builtins := 0 }
noncomputable def fdrmul : FuncData := { name := ("rmul" : Str), qualname := ("rmul" : Str), params := fnP (stmtAt pw.main.body 11), body := .stmts (fnB (stmtAt pw.main.body 11)), scope := fnS (stmtAt pw.main.body 11), globals := 3, closure := [], defaults := .none, kwdefaults := .none, doc := .none, pyModule := (.str ("cas.rats" : Str) 241), annotations := none, code := (.ref 77), closureTuple := .none, builtins := 0 }
noncomputable def fdrdiv : FuncData := { name := ("rdiv" : Str), qualname := ("rdiv" : Str), params := fnP (stmtAt pw.main.body 12), body := .stmts (fnB (stmtAt pw.main.body 12)), scope := fnS (stmtAt pw.main.body 12), globals := 3, closure := [], defaults := .none, kwdefaults := .none, doc := .none, pyModule := (.str ("cas.rats" : Str) 241), annotations := none, code := (.ref 84), closureTuple := .none, builtins := 0 }
noncomputable def fdrcompare : FuncData := { name := ("rcompare" : Str), qualname := ("rcompare" : Str), params := fnP (stmtAt pw.main.body 13), body := .stmts (fnB (stmtAt pw.main.body 13)), scope := fnS (stmtAt pw.main.body 13), globals := 3, closure := [], defaults := .none, kwdefaults := .none, doc := .none, pyModule := (.str ("cas.rats" : Str) 241), annotations := none, code := (.ref 91), closureTuple := .none, builtins := 0 }
noncomputable def fdcut : FuncData := { name := ("cut" : Str), qualname := ("cut" : Str), params := fnP (stmtAt pw.main.body 15), body := .stmts (fnB (stmtAt pw.main.body 15)), scope := fnS (stmtAt pw.main.body 15), globals := 3, closure := [], defaults := .none, kwdefaults := .none, doc := .none, pyModule := (.str ("cas.series" : Str) 299), annotations := none, code := (.ref 98), closureTuple := .none, builtins := 0 }
noncomputable def fdsadd : FuncData := { name := ("sadd" : Str), qualname := ("sadd" : Str), params := fnP (stmtAt pw.main.body 16), body := .stmts (fnB (stmtAt pw.main.body 16)), scope := fnS (stmtAt pw.main.body 16), globals := 3, closure := [], defaults := .none, kwdefaults := .none, doc := .none, pyModule := (.str ("cas.series" : Str) 299), annotations := none, code := (.ref 103), closureTuple := .none, builtins := 0 }
noncomputable def fdsscale : FuncData := { name := ("sscale" : Str), qualname := ("sscale" : Str), params := fnP (stmtAt pw.main.body 17), body := .stmts (fnB (stmtAt pw.main.body 17)), scope := fnS (stmtAt pw.main.body 17), globals := 3, closure := [], defaults := .none, kwdefaults := .none, doc := .none, pyModule := (.str ("cas.series" : Str) 299), annotations := none, code := (.ref 108), closureTuple := .none, builtins := 0 }
noncomputable def fdmixed : FuncData := { name := ("mixed" : Str), qualname := ("mixed" : Str), params := fnP (stmtAt pw.main.body 18), body := .stmts (fnB (stmtAt pw.main.body 18)), scope := fnS (stmtAt pw.main.body 18), globals := 3, closure := [], defaults := .none, kwdefaults := .none, doc := .none, pyModule := (.str ("cas.series" : Str) 299), annotations := none, code := (.ref 115), closureTuple := .none, builtins := 0 }
noncomputable def fdsmul : FuncData := { name := ("smul" : Str), qualname := ("smul" : Str), params := fnP (stmtAt pw.main.body 19), body := .stmts (fnB (stmtAt pw.main.body 19)), scope := fnS (stmtAt pw.main.body 19), globals := 3, closure := [], defaults := .none, kwdefaults := .none, doc := .none, pyModule := (.str ("cas.series" : Str) 299), annotations := none, code := (.ref 120), closureTuple := .none, builtins := 0 }
noncomputable def fdsinverse : FuncData := { name := ("sinverse" : Str), qualname := ("sinverse" : Str), params := fnP (stmtAt pw.main.body 20), body := .stmts (fnB (stmtAt pw.main.body 20)), scope := fnS (stmtAt pw.main.body 20), globals := 3, closure := [], defaults := .none, kwdefaults := .none, doc := .none, pyModule := (.str ("cas.series" : Str) 299), annotations := none, code := (.ref 127), closureTuple := .none, builtins := 0 }
noncomputable def fdsderive : FuncData := { name := ("sderive" : Str), qualname := ("sderive" : Str), params := fnP (stmtAt pw.main.body 21), body := .stmts (fnB (stmtAt pw.main.body 21)), scope := fnS (stmtAt pw.main.body 21), globals := 3, closure := [], defaults := .none, kwdefaults := .none, doc := .none, pyModule := (.str ("cas.series" : Str) 299), annotations := none, code := (.ref 132), closureTuple := .none, builtins := 0 }
noncomputable def fdsintegrate : FuncData := { name := ("sintegrate" : Str), qualname := ("sintegrate" : Str), params := fnP (stmtAt pw.main.body 22), body := .stmts (fnB (stmtAt pw.main.body 22)), scope := fnS (stmtAt pw.main.body 22), globals := 3, closure := [], defaults := .none, kwdefaults := .none, doc := .none, pyModule := (.str ("cas.series" : Str) 299), annotations := none, code := (.ref 137), closureTuple := .none, builtins := 0 }
noncomputable def fdneed_begin : FuncData := { name := ("need_begin" : Str), qualname := ("need_begin" : Str), params := fnP (stmtAt pw.main.body 23), body := .stmts (fnB (stmtAt pw.main.body 23)), scope := fnS (stmtAt pw.main.body 23), globals := 3, closure := [], defaults := .none, kwdefaults := .none, doc := .none, pyModule := (.str ("cas.series" : Str) 299), annotations := none, code := (.ref 144), closureTuple := .none, builtins := 0 }
noncomputable def fdsexp : FuncData := { name := ("sexp" : Str), qualname := ("sexp" : Str), params := fnP (stmtAt pw.main.body 24), body := .stmts (fnB (stmtAt pw.main.body 24)), scope := fnS (stmtAt pw.main.body 24), globals := 3, closure := [], defaults := .none, kwdefaults := .none, doc := .none, pyModule := (.str ("cas.series" : Str) 299), annotations := none, code := (.ref 151), closureTuple := .none, builtins := 0 }
noncomputable def fdslog : FuncData := { name := ("slog" : Str), qualname := ("slog" : Str), params := fnP (stmtAt pw.main.body 25), body := .stmts (fnB (stmtAt pw.main.body 25)), scope := fnS (stmtAt pw.main.body 25), globals := 3, closure := [], defaults := .none, kwdefaults := .none, doc := .none, pyModule := (.str ("cas.series" : Str) 299), annotations := none, code := (.ref 158), closureTuple := .none, builtins := 0 }
noncomputable def fdssin_cos : FuncData := { name := ("ssin_cos" : Str), qualname := ("ssin_cos" : Str), params := fnP (stmtAt pw.main.body 26), body := .stmts (fnB (stmtAt pw.main.body 26)), scope := fnS (stmtAt pw.main.body 26), globals := 3, closure := [], defaults := .none, kwdefaults := .none, doc := .none, pyModule := (.str ("cas.series" : Str) 299), annotations := none, code := (.ref 165), closureTuple := .none, builtins := 0 }
noncomputable def fdssin : FuncData := { name := ("ssin" : Str), qualname := ("ssin" : Str), params := fnP (stmtAt pw.main.body 27), body := .stmts (fnB (stmtAt pw.main.body 27)), scope := fnS (stmtAt pw.main.body 27), globals := 3, closure := [], defaults := .none, kwdefaults := .none, doc := .none, pyModule := (.str ("cas.series" : Str) 299), annotations := none, code := (.ref 172), closureTuple := .none, builtins := 0 }
noncomputable def fdscos : FuncData := { name := ("scos" : Str), qualname := ("scos" : Str), params := fnP (stmtAt pw.main.body 28), body := .stmts (fnB (stmtAt pw.main.body 28)), scope := fnS (stmtAt pw.main.body 28), globals := 3, closure := [], defaults := .none, kwdefaults := .none, doc := .none, pyModule := (.str ("cas.series" : Str) 299), annotations := none, code := (.ref 179), closureTuple := .none, builtins := 0 }
noncomputable def fdsatan : FuncData := { name := ("satan" : Str), qualname := ("satan" : Str), params := fnP (stmtAt pw.main.body 29), body := .stmts (fnB (stmtAt pw.main.body 29)), scope := fnS (stmtAt pw.main.body 29), globals := 3, closure := [], defaults := .none, kwdefaults := .none, doc := .none, pyModule := (.str ("cas.series" : Str) 299), annotations := none, code := (.ref 186), closureTuple := .none, builtins := 0 }
noncomputable def fdspower : FuncData := { name := ("spower" : Str), qualname := ("spower" : Str), params := fnP (stmtAt pw.main.body 30), body := .stmts (fnB (stmtAt pw.main.body 30)), scope := fnS (stmtAt pw.main.body 30), globals := 3, closure := [], defaults := .none, kwdefaults := .none, doc := .none, pyModule := (.str ("cas.series" : Str) 299), annotations := none, code := (.ref 193), closureTuple := .none, builtins := 0 }
noncomputable def fdswhole_power : FuncData := { name := ("swhole_power" : Str), qualname := ("swhole_power" : Str), params := fnP (stmtAt pw.main.body 31), body := .stmts (fnB (stmtAt pw.main.body 31)), scope := fnS (stmtAt pw.main.body 31), globals := 3, closure := [], defaults := .none, kwdefaults := .none, doc := .none, pyModule := (.str ("cas.series" : Str) 299), annotations := none, code := (.ref 200), closureTuple := .none, builtins := 0 }
noncomputable def fdlplain : FuncData := { name := ("lplain" : Str), qualname := ("lplain" : Str), params := fnP (stmtAt pw.main.body 33), body := .stmts (fnB (stmtAt pw.main.body 33)), scope := fnS (stmtAt pw.main.body 33), globals := 3, closure := [], defaults := .none, kwdefaults := .none, doc := .none, pyModule := (.str ("cas.laurent" : Str) 447), annotations := none, code := (.ref 207), closureTuple := .none, builtins := 0 }
noncomputable def fdlmoved : FuncData := { name := ("lmoved" : Str), qualname := ("lmoved" : Str), params := fnP (stmtAt pw.main.body 34), body := .stmts (fnB (stmtAt pw.main.body 34)), scope := fnS (stmtAt pw.main.body 34), globals := 3, closure := [], defaults := .none, kwdefaults := .none, doc := .none, pyModule := (.str ("cas.laurent" : Str) 447), annotations := none, code := (.ref 214), closureTuple := .none, builtins := 0 }
noncomputable def fdladd : FuncData := { name := ("ladd" : Str), qualname := ("ladd" : Str), params := fnP (stmtAt pw.main.body 35), body := .stmts (fnB (stmtAt pw.main.body 35)), scope := fnS (stmtAt pw.main.body 35), globals := 3, closure := [], defaults := .none, kwdefaults := .none, doc := .none, pyModule := (.str ("cas.laurent" : Str) 447), annotations := none, code := (.ref 221), closureTuple := .none, builtins := 0 }
noncomputable def fdlmul : FuncData := { name := ("lmul" : Str), qualname := ("lmul" : Str), params := fnP (stmtAt pw.main.body 36), body := .stmts (fnB (stmtAt pw.main.body 36)), scope := fnS (stmtAt pw.main.body 36), globals := 3, closure := [], defaults := .none, kwdefaults := .none, doc := .none, pyModule := (.str ("cas.laurent" : Str) 447), annotations := none, code := (.ref 228), closureTuple := .none, builtins := 0 }
noncomputable def fdltrim : FuncData := { name := ("ltrim" : Str), qualname := ("ltrim" : Str), params := fnP (stmtAt pw.main.body 37), body := .stmts (fnB (stmtAt pw.main.body 37)), scope := fnS (stmtAt pw.main.body 37), globals := 3, closure := [], defaults := .none, kwdefaults := .none, doc := .none, pyModule := (.str ("cas.laurent" : Str) 447), annotations := none, code := (.ref 235), closureTuple := .none, builtins := 0 }
noncomputable def fdlinverse : FuncData := { name := ("linverse" : Str), qualname := ("linverse" : Str), params := fnP (stmtAt pw.main.body 38), body := .stmts (fnB (stmtAt pw.main.body 38)), scope := fnS (stmtAt pw.main.body 38), globals := 3, closure := [], defaults := .none, kwdefaults := .none, doc := .none, pyModule := (.str ("cas.laurent" : Str) 447), annotations := none, code := (.ref 242), closureTuple := .none, builtins := 0 }
noncomputable def fdlpower : FuncData := { name := ("lpower" : Str), qualname := ("lpower" : Str), params := fnP (stmtAt pw.main.body 39), body := .stmts (fnB (stmtAt pw.main.body 39)), scope := fnS (stmtAt pw.main.body 39), globals := 3, closure := [], defaults := .none, kwdefaults := .none, doc := .none, pyModule := (.str ("cas.laurent" : Str) 447), annotations := none, code := (.ref 249), closureTuple := .none, builtins := 0 }
noncomputable def fdlcut : FuncData := { name := ("lcut" : Str), qualname := ("lcut" : Str), params := fnP (stmtAt pw.main.body 40), body := .stmts (fnB (stmtAt pw.main.body 40)), scope := fnS (stmtAt pw.main.body 40), globals := 3, closure := [], defaults := .none, kwdefaults := .none, doc := .none, pyModule := (.str ("cas.laurent" : Str) 447), annotations := none, code := (.ref 256), closureTuple := .none, builtins := 0 }
noncomputable def fdexact_root : FuncData := { name := ("exact_root" : Str), qualname := ("exact_root" : Str), params := fnP (stmtAt pw.main.body 43), body := .stmts (fnB (stmtAt pw.main.body 43)), scope := fnS (stmtAt pw.main.body 43), globals := 3, closure := [], defaults := .none, kwdefaults := .none, doc := .none, pyModule := (.str ("cas.series_of" : Str) 520), annotations := none, code := (.ref 263), closureTuple := .none, builtins := 0 }
noncomputable def fdfrom_zero : FuncData := { name := ("from_zero" : Str), qualname := ("from_zero" : Str), params := fnP (stmtAt pw.main.body 44), body := .stmts (fnB (stmtAt pw.main.body 44)), scope := fnS (stmtAt pw.main.body 44), globals := 3, closure := [], defaults := .none, kwdefaults := .none, doc := .none, pyModule := (.str ("cas.series_of" : Str) 520), annotations := none, code := (.ref 270), closureTuple := .none, builtins := 0 }
noncomputable def fdof_call : FuncData := { name := ("of_call" : Str), qualname := ("of_call" : Str), params := fnP (stmtAt pw.main.body 45), body := .stmts (fnB (stmtAt pw.main.body 45)), scope := fnS (stmtAt pw.main.body 45), globals := 3, closure := [], defaults := .none, kwdefaults := .none, doc := .none, pyModule := (.str ("cas.series_of" : Str) 520), annotations := none, code := (.ref 277), closureTuple := .none, builtins := 0 }
noncomputable def fdof_root : FuncData := { name := ("of_root" : Str), qualname := ("of_root" : Str), params := fnP (stmtAt pw.main.body 46), body := .stmts (fnB (stmtAt pw.main.body 46)), scope := fnS (stmtAt pw.main.body 46), globals := 3, closure := [], defaults := .none, kwdefaults := .none, doc := .none, pyModule := (.str ("cas.series_of" : Str) 520), annotations := none, code := (.ref 284), closureTuple := .none, builtins := 0 }
noncomputable def fdof_power : FuncData := { name := ("of_power" : Str), qualname := ("of_power" : Str), params := fnP (stmtAt pw.main.body 47), body := .stmts (fnB (stmtAt pw.main.body 47)), scope := fnS (stmtAt pw.main.body 47), globals := 3, closure := [], defaults := .none, kwdefaults := .none, doc := .none, pyModule := (.str ("cas.series_of" : Str) 520), annotations := none, code := (.ref 291), closureTuple := .none, builtins := 0 }
noncomputable def fdof_term : FuncData := { name := ("of_term" : Str), qualname := ("of_term" : Str), params := fnP (stmtAt pw.main.body 48), body := .stmts (fnB (stmtAt pw.main.body 48)), scope := fnS (stmtAt pw.main.body 48), globals := 3, closure := [], defaults := .none, kwdefaults := .none, doc := .none, pyModule := (.str ("cas.series_of" : Str) 520), annotations := none, code := (.ref 298), closureTuple := .none, builtins := 0 }
noncomputable def fdlaurent_of : FuncData := { name := ("laurent_of" : Str), qualname := ("laurent_of" : Str), params := fnP (stmtAt pw.main.body 49), body := .stmts (fnB (stmtAt pw.main.body 49)), scope := fnS (stmtAt pw.main.body 49), globals := 3, closure := [], defaults := .none, kwdefaults := .none, doc := .none, pyModule := (.str ("cas.series_of" : Str) 520), annotations := none, code := (.ref 305), closureTuple := .none, builtins := 0 }
noncomputable def fdseries_of : FuncData := { name := ("series_of" : Str), qualname := ("series_of" : Str), params := fnP (stmtAt pw.main.body 50), body := .stmts (fnB (stmtAt pw.main.body 50)), scope := fnS (stmtAt pw.main.body 50), globals := 3, closure := [], defaults := .none, kwdefaults := .none, doc := .none, pyModule := (.str ("cas.series_of" : Str) 520), annotations := none, code := (.ref 312), closureTuple := .none, builtins := 0 }
noncomputable def fd_law_take : FuncData := { name := ("_law_take" : Str), qualname := ("_law_take" : Str), params := fnP (stmtAt pw.main.body 52), body := .stmts (fnB (stmtAt pw.main.body 52)), scope := fnS (stmtAt pw.main.body 52), globals := 3, closure := [], defaults := .none, kwdefaults := .none, doc := .none, pyModule := (.str ("law_nn0277_01" : Str) 610), annotations := none, code := (.ref 319), closureTuple := .none, builtins := 0 }
noncomputable def fd_law_box : FuncData := { name := ("_law_box" : Str), qualname := ("_law_box" : Str), params := fnP (stmtAt pw.main.body 53), body := .stmts (fnB (stmtAt pw.main.body 53)), scope := fnS (stmtAt pw.main.body 53), globals := 3, closure := [], defaults := .none, kwdefaults := .none, doc := .none, pyModule := (.str ("law_nn0277_01" : Str) 610), annotations := none, code := (.ref 324), closureTuple := .none, builtins := 0 }
noncomputable def fd_law_low : FuncData := { name := ("_law_low" : Str), qualname := ("_law_low" : Str), params := fnP (stmtAt pw.main.body 54), body := .stmts (fnB (stmtAt pw.main.body 54)), scope := fnS (stmtAt pw.main.body 54), globals := 3, closure := [], defaults := .none, kwdefaults := .none, doc := .none, pyModule := (.str ("law_nn0277_01" : Str) 610), annotations := none, code := (.ref 331), closureTuple := .none, builtins := 0 }
noncomputable def fd_law_plus : FuncData := { name := ("_law_plus" : Str), qualname := ("_law_plus" : Str), params := fnP (stmtAt pw.main.body 55), body := .stmts (fnB (stmtAt pw.main.body 55)), scope := fnS (stmtAt pw.main.body 55), globals := 3, closure := [], defaults := .none, kwdefaults := .none, doc := .none, pyModule := (.str ("law_nn0277_01" : Str) 610), annotations := none, code := (.ref 336), closureTuple := .none, builtins := 0 }
noncomputable def fd_law_times : FuncData := { name := ("_law_times" : Str), qualname := ("_law_times" : Str), params := fnP (stmtAt pw.main.body 56), body := .stmts (fnB (stmtAt pw.main.body 56)), scope := fnS (stmtAt pw.main.body 56), globals := 3, closure := [], defaults := .none, kwdefaults := .none, doc := .none, pyModule := (.str ("law_nn0277_01" : Str) 610), annotations := none, code := (.ref 343), closureTuple := .none, builtins := 0 }
noncomputable def fd_law_rows : FuncData := { name := ("_law_rows" : Str), qualname := ("_law_rows" : Str), params := fnP (stmtAt pw.main.body 57), body := .stmts (fnB (stmtAt pw.main.body 57)), scope := fnS (stmtAt pw.main.body 57), globals := 3, closure := [], defaults := .none, kwdefaults := .none, doc := .none, pyModule := (.str ("law_nn0277_01" : Str) 610), annotations := none, code := (.ref 348), closureTuple := .none, builtins := 0 }
noncomputable def fd_law_turned : FuncData := { name := ("_law_turned" : Str), qualname := ("_law_turned" : Str), params := fnP (stmtAt pw.main.body 58), body := .stmts (fnB (stmtAt pw.main.body 58)), scope := fnS (stmtAt pw.main.body 58), globals := 3, closure := [], defaults := .none, kwdefaults := .none, doc := .none, pyModule := (.str ("law_nn0277_01" : Str) 610), annotations := none, code := (.ref 353), closureTuple := .none, builtins := 0 }
noncomputable def fd_law_poly : FuncData := { name := ("_law_poly" : Str), qualname := ("_law_poly" : Str), params := fnP (stmtAt pw.main.body 59), body := .stmts (fnB (stmtAt pw.main.body 59)), scope := fnS (stmtAt pw.main.body 59), globals := 3, closure := [], defaults := .none, kwdefaults := .none, doc := .none, pyModule := (.str ("law_nn0277_01" : Str) 610), annotations := none, code := (.ref 358), closureTuple := .none, builtins := 0 }
noncomputable def fd_law_drawn : FuncData := { name := ("_law_drawn" : Str), qualname := ("_law_drawn" : Str), params := fnP (stmtAt pw.main.body 60), body := .stmts (fnB (stmtAt pw.main.body 60)), scope := fnS (stmtAt pw.main.body 60), globals := 3, closure := [], defaults := .none, kwdefaults := .none, doc := .none, pyModule := (.str ("law_nn0277_01" : Str) 610), annotations := none, code := (.ref 365), closureTuple := .none, builtins := 0 }
noncomputable def fdlaw : FuncData := { name := ("law" : Str), qualname := ("law" : Str), params := fnP (stmtAt pw.main.body 61), body := .stmts (fnB (stmtAt pw.main.body 61)), scope := fnS (stmtAt pw.main.body 61), globals := 3, closure := [], defaults := .none, kwdefaults := .none, doc := .none, pyModule := (.str ("law_nn0277_01" : Str) 610), annotations := none, code := (.ref 370), closureTuple := .none, builtins := 0 }
noncomputable def KK (P : Params) : Frag := [
  (2, ⟨.none, none, (.dict #[⟨PyData.keyHash P ("type.__subclasses__.Exception.0" : Str), (.str ("type.__subclasses__.Exception.0" : Str) 216), (.int 31 0)⟩, ⟨PyData.keyHash P ("type.__subclasses__.Exception.n" : Str), (.str ("type.__subclasses__.Exception.n" : Str) 217), (.int 1 0)⟩] 2), #[]⟩),
  (3, ⟨(.type "dict"), none, (.dict #[⟨PyData.keyHash P ("__name__" : Str), (.str ("__name__" : Str) 165), (.str ("law_nn0277_01" : Str) 610)⟩, ⟨PyData.keyHash P ("__doc__" : Str), (.str ("__doc__" : Str) 166), .none⟩, ⟨PyData.keyHash P ("__package__" : Str), (.str ("__package__" : Str) 167), .none⟩, ⟨PyData.keyHash P ("__loader__" : Str), (.str ("__loader__" : Str) 168), (.builtin "__main__.__loader__#opaque")⟩, ⟨PyData.keyHash P ("__spec__" : Str), (.str ("__spec__" : Str) 169), .none⟩, ⟨PyData.keyHash P ("__annotations__" : Str), (.str ("__annotations__" : Str) 170), (.ref 6)⟩, ⟨PyData.keyHash P ("__builtins__" : Str), (.str ("__builtins__" : Str) 171), (.ref 4)⟩, ⟨PyData.keyHash P ("__file__" : Str), (.str ("__file__" : Str) 173), (.str ("/claim/cut.py" : Str) 172)⟩, ⟨PyData.keyHash P ("__cached__" : Str), (.str ("__cached__" : Str) 174), .none⟩, ⟨PyData.keyHash P ("CasFail" : Str), (.str ("CasFail" : Str) 219), (.ref 31)⟩, ⟨PyData.keyHash P ("gcd" : Str), (.str ("gcd" : Str) 229), (.ref 41)⟩, ⟨PyData.keyHash P ("root_of" : Str), (.str ("root_of" : Str) 240), (.ref 48)⟩, ⟨PyData.keyHash P ("R0" : Str), (.str ("R0" : Str) 245), (.ref 49)⟩, ⟨PyData.keyHash P ("R1" : Str), (.str ("R1" : Str) 248), (.ref 50)⟩, ⟨PyData.keyHash P ("rat" : Str), (.str ("rat" : Str) 257), (.ref 57)⟩, ⟨PyData.keyHash P ("radd" : Str), (.str ("radd" : Str) 265), (.ref 64)⟩, ⟨PyData.keyHash P ("rsub" : Str), (.str ("rsub" : Str) 273), (.ref 71)⟩, ⟨PyData.keyHash P ("rmul" : Str), (.str ("rmul" : Str) 281), (.ref 78)⟩, ⟨PyData.keyHash P ("rdiv" : Str), (.str ("rdiv" : Str) 289), (.ref 85)⟩, ⟨PyData.keyHash P ("rcompare" : Str), (.str ("rcompare" : Str) 298), (.ref 92)⟩, ⟨PyData.keyHash P ("cut" : Str), (.str ("cut" : Str) 308), (.ref 99)⟩, ⟨PyData.keyHash P ("sadd" : Str), (.str ("sadd" : Str) 314), (.ref 104)⟩, ⟨PyData.keyHash P ("sscale" : Str), (.str ("sscale" : Str) 320), (.ref 109)⟩, ⟨PyData.keyHash P ("mixed" : Str), (.str ("mixed" : Str) 331), (.ref 116)⟩, ⟨PyData.keyHash P ("smul" : Str), (.str ("smul" : Str) 337), (.ref 121)⟩, ⟨PyData.keyHash P ("sinverse" : Str), (.str ("sinverse" : Str) 348), (.ref 128)⟩, ⟨PyData.keyHash P ("sderive" : Str), (.str ("sderive" : Str) 354), (.ref 133)⟩, ⟨PyData.keyHash P ("sintegrate" : Str), (.str ("sintegrate" : Str) 360), (.ref 138)⟩, ⟨PyData.keyHash P ("need_begin" : Str), (.str ("need_begin" : Str) 368), (.ref 145)⟩, ⟨PyData.keyHash P ("sexp" : Str), (.str ("sexp" : Str) 379), (.ref 152)⟩, ⟨PyData.keyHash P ("slog" : Str), (.str ("slog" : Str) 386), (.ref 159)⟩, ⟨PyData.keyHash P ("ssin_cos" : Str), (.str ("ssin_cos" : Str) 400), (.ref 166)⟩, ⟨PyData.keyHash P ("ssin" : Str), (.str ("ssin" : Str) 407), (.ref 173)⟩, ⟨PyData.keyHash P ("scos" : Str), (.str ("scos" : Str) 414), (.ref 180)⟩, ⟨PyData.keyHash P ("satan" : Str), (.str ("satan" : Str) 422), (.ref 187)⟩, ⟨PyData.keyHash P ("spower" : Str), (.str ("spower" : Str) 435), (.ref 194)⟩, ⟨PyData.keyHash P ("swhole_power" : Str), (.str ("swhole_power" : Str) 446), (.ref 201)⟩, ⟨PyData.keyHash P ("lplain" : Str), (.str ("lplain" : Str) 456), (.ref 208)⟩, ⟨PyData.keyHash P ("lmoved" : Str), (.str ("lmoved" : Str) 464), (.ref 215)⟩, ⟨PyData.keyHash P ("ladd" : Str), (.str ("ladd" : Str) 473), (.ref 222)⟩, ⟨PyData.keyHash P ("lmul" : Str), (.str ("lmul" : Str) 481), (.ref 229)⟩, ⟨PyData.keyHash P ("ltrim" : Str), (.str ("ltrim" : Str) 490), (.ref 236)⟩, ⟨PyData.keyHash P ("linverse" : Str), (.str ("linverse" : Str) 499), (.ref 243)⟩, ⟨PyData.keyHash P ("lpower" : Str), (.str ("lpower" : Str) 509), (.ref 250)⟩, ⟨PyData.keyHash P ("lcut" : Str), (.str ("lcut" : Str) 519), (.ref 257)⟩, ⟨PyData.keyHash P ("MOST_MORE" : Str), (.str ("MOST_MORE" : Str) 523), (.int 24 522)⟩, ⟨PyData.keyHash P ("exact_root" : Str), (.str ("exact_root" : Str) 533), (.ref 264)⟩, ⟨PyData.keyHash P ("from_zero" : Str), (.str ("from_zero" : Str) 542), (.ref 271)⟩, ⟨PyData.keyHash P ("of_call" : Str), (.str ("of_call" : Str) 551), (.ref 278)⟩, ⟨PyData.keyHash P ("of_root" : Str), (.str ("of_root" : Str) 563), (.ref 285)⟩, ⟨PyData.keyHash P ("of_power" : Str), (.str ("of_power" : Str) 574), (.ref 292)⟩, ⟨PyData.keyHash P ("of_term" : Str), (.str ("of_term" : Str) 586), (.ref 299)⟩, ⟨PyData.keyHash P ("laurent_of" : Str), (.str ("laurent_of" : Str) 598), (.ref 306)⟩, ⟨PyData.keyHash P ("series_of" : Str), (.str ("series_of" : Str) 609), (.ref 313)⟩, ⟨PyData.keyHash P ("_law_take" : Str), (.str ("_law_take" : Str) 619), (.ref 320)⟩, ⟨PyData.keyHash P ("_law_box" : Str), (.str ("_law_box" : Str) 625), (.ref 325)⟩, ⟨PyData.keyHash P ("_law_low" : Str), (.str ("_law_low" : Str) 635), (.ref 332)⟩, ⟨PyData.keyHash P ("_law_plus" : Str), (.str ("_law_plus" : Str) 641), (.ref 337)⟩, ⟨PyData.keyHash P ("_law_times" : Str), (.str ("_law_times" : Str) 655), (.ref 344)⟩, ⟨PyData.keyHash P ("_law_rows" : Str), (.str ("_law_rows" : Str) 661), (.ref 349)⟩, ⟨PyData.keyHash P ("_law_turned" : Str), (.str ("_law_turned" : Str) 667), (.ref 354)⟩, ⟨PyData.keyHash P ("_law_poly" : Str), (.str ("_law_poly" : Str) 673), (.ref 359)⟩, ⟨PyData.keyHash P ("_law_drawn" : Str), (.str ("_law_drawn" : Str) 691), (.ref 366)⟩, ⟨PyData.keyHash P ("law" : Str), (.str ("law" : Str) 697), (.ref 371)⟩] 64), #[]⟩),
  (15, ⟨(.type "tuple"), none, (.seq #[(.type "Exception")] 0), #[]⟩),
  (22, ⟨(.type "tuple"), none, (.seq #[] 0), #[]⟩),
  (24, ⟨(.type "tuple"), none, (.seq #[(.str ("self" : Str) 204), (.str ("kind" : Str) 205), (.str ("text" : Str) 206)] 0), #[]⟩),
  (25, ⟨(.type "tuple"), none, (.seq #[] 0), #[]⟩),
  (27, ⟨(.type "code"), none, (.fields #[(.str ("__init__" : Str) 201), (.str ("CasFail.__init__" : Str) 202), (.str ("/claim/cut.py" : Str) 203), (.int 4 0), (.int 3 0), (.int 0 0), (.int 0 0), (.int 3 0), (.ref 22), (.bool true), (.int 181 0), (.ref 23), .none, (.ref 24), (.ref 25), (.ref 26), (.int 207 0), (.int 4 0), (.str ("/claim/cut.py" : Str) 208)]), #[]⟩),
  (28, ⟨(.type "function"), none, (.func (fdInit)), #[]⟩),
  (29, ⟨(.type "tuple"), none, (.seq #[(.str ("kind" : Str) 210), (.str ("text" : Str) 211)] 0), #[]⟩),
  (30, ⟨(.type "dict"), none, (.dict #[⟨PyData.keyHash P ("__module__" : Str), (.str ("__module__" : Str) 196), (.str ("cas.errors" : Str) 187)⟩, ⟨PyData.keyHash P ("__firstlineno__" : Str), (.str ("__firstlineno__" : Str) 200), (.int 2 199)⟩, ⟨PyData.keyHash P ("__init__" : Str), (.str ("__init__" : Str) 209), (.ref 28)⟩, ⟨PyData.keyHash P ("__static_attributes__" : Str), (.str ("__static_attributes__" : Str) 212), (.ref 29)⟩, ⟨PyData.keyHash P ("__weakref__" : Str), (.str ("__weakref__" : Str) 214), (.ref 32)⟩, ⟨PyData.keyHash P ("__doc__" : Str), (.str ("__doc__" : Str) 215), .none⟩] 3), #[]⟩),
  (31, ⟨(.type "type"), none, (.cls { name := ("CasFail" : Str), bases := [(.type "Exception")], mro := [(.ref 31), (.type "Exception"), (.type "BaseException"), (.type "object")], ns := 30, qualname := ("CasFail" : Str), hasDict := true, slotNames := [], subclasses := [], abstract := false, collection := none, hasDel := false }), #[(some (.ref 15)), none, (some (.str ("CasFail" : Str) 189)), (some (.str ("CasFail" : Str) 197)), (some (.builtin "Exception.__new__")), (some (.bool true))]⟩),
  (32, ⟨(.type "getset_descriptor"), none, (.fields #[(.str ("__weakref__" : Str) 213), (.ref 31), (.builtin "ExceptionGroup.__weakref__"), .none]), #[]⟩),
  (40, ⟨(.type "code"), none, (.fields #[(.str ("gcd" : Str) 222), (.str ("gcd" : Str) 223), (.str ("/claim/cut.py" : Str) 224), (.int 9 0), (.int 2 0), (.int 0 0), (.int 0 0), (.int 3 0), (.ref 35), (.bool true), (.int 181 0), (.ref 36), .none, (.ref 37), (.ref 38), (.ref 39), (.int 227 0), (.int 9 0), (.str ("/claim/cut.py" : Str) 228)]), #[]⟩),
  (41, ⟨(.type "function"), none, (.func (fdgcd)), #[]⟩),
  (47, ⟨(.type "code"), none, (.fields #[(.str ("root_of" : Str) 230), (.str ("root_of" : Str) 231), (.str ("/claim/cut.py" : Str) 232), (.int 14 0), (.int 2 0), (.int 0 0), (.int 0 0), (.int 3 0), (.ref 42), (.bool true), (.int 181 0), (.ref 43), .none, (.ref 44), (.ref 45), (.ref 46), (.int 238 0), (.int 14 0), (.str ("/claim/cut.py" : Str) 239)]), #[]⟩),
  (48, ⟨(.type "function"), none, (.func (fdroot_of)), #[]⟩),
  (49, ⟨(.type "tuple"), none, (.seq #[(.int 0 243), (.int 1 244)] 0), #[]⟩),
  (50, ⟨(.type "tuple"), none, (.seq #[(.int 1 246), (.int 1 247)] 0), #[]⟩),
  (56, ⟨(.type "code"), none, (.fields #[(.str ("rat" : Str) 249), (.str ("rat" : Str) 250), (.str ("/claim/cut.py" : Str) 251), (.int 28 0), (.int 2 0), (.int 0 0), (.int 0 0), (.int 3 0), (.ref 51), (.bool true), (.int 181 0), (.ref 52), .none, (.ref 53), (.ref 54), (.ref 55), (.int 255 0), (.int 28 0), (.str ("/claim/cut.py" : Str) 256)]), #[]⟩),
  (57, ⟨(.type "function"), none, (.func (fdrat)), #[]⟩),
  (63, ⟨(.type "code"), none, (.fields #[(.str ("radd" : Str) 258), (.str ("radd" : Str) 259), (.str ("/claim/cut.py" : Str) 260), (.int 33 0), (.int 2 0), (.int 0 0), (.int 0 0), (.int 3 0), (.ref 58), (.bool true), (.int 181 0), (.ref 59), .none, (.ref 60), (.ref 61), (.ref 62), (.int 263 0), (.int 33 0), (.str ("/claim/cut.py" : Str) 264)]), #[]⟩),
  (64, ⟨(.type "function"), none, (.func (fdradd)), #[]⟩),
  (70, ⟨(.type "code"), none, (.fields #[(.str ("rsub" : Str) 266), (.str ("rsub" : Str) 267), (.str ("/claim/cut.py" : Str) 268), (.int 35 0), (.int 2 0), (.int 0 0), (.int 0 0), (.int 3 0), (.ref 65), (.bool true), (.int 181 0), (.ref 66), .none, (.ref 67), (.ref 68), (.ref 69), (.int 271 0), (.int 35 0), (.str ("/claim/cut.py" : Str) 272)]), #[]⟩),
  (71, ⟨(.type "function"), none, (.func (fdrsub)), #[]⟩),
  (77, ⟨(.type "code"), none, (.fields #[(.str ("rmul" : Str) 274), (.str ("rmul" : Str) 275), (.str ("/claim/cut.py" : Str) 276), (.int 37 0), (.int 2 0), (.int 0 0), (.int 0 0), (.int 3 0), (.ref 72), (.bool true), (.int 181 0), (.ref 73), .none, (.ref 74), (.ref 75), (.ref 76), (.int 279 0), (.int 37 0), (.str ("/claim/cut.py" : Str) 280)]), #[]⟩),
  (78, ⟨(.type "function"), none, (.func (fdrmul)), #[]⟩),
  (84, ⟨(.type "code"), none, (.fields #[(.str ("rdiv" : Str) 282), (.str ("rdiv" : Str) 283), (.str ("/claim/cut.py" : Str) 284), (.int 39 0), (.int 2 0), (.int 0 0), (.int 0 0), (.int 3 0), (.ref 79), (.bool true), (.int 181 0), (.ref 80), .none, (.ref 81), (.ref 82), (.ref 83), (.int 287 0), (.int 39 0), (.str ("/claim/cut.py" : Str) 288)]), #[]⟩),
  (85, ⟨(.type "function"), none, (.func (fdrdiv)), #[]⟩),
  (91, ⟨(.type "code"), none, (.fields #[(.str ("rcompare" : Str) 290), (.str ("rcompare" : Str) 291), (.str ("/claim/cut.py" : Str) 292), (.int 41 0), (.int 2 0), (.int 0 0), (.int 0 0), (.int 3 0), (.ref 86), (.bool true), (.int 181 0), (.ref 87), .none, (.ref 88), (.ref 89), (.ref 90), (.int 296 0), (.int 41 0), (.str ("/claim/cut.py" : Str) 297)]), #[]⟩),
  (92, ⟨(.type "function"), none, (.func (fdrcompare)), #[]⟩),
  (98, ⟨(.type "code"), none, (.fields #[(.str ("cut" : Str) 301), (.str ("cut" : Str) 302), (.str ("/claim/cut.py" : Str) 303), (.int 45 0), (.int 2 0), (.int 0 0), (.int 0 0), (.int 3 0), (.ref 93), (.bool true), (.int 181 0), (.ref 94), .none, (.ref 95), (.ref 96), (.ref 97), (.int 306 0), (.int 45 0), (.str ("/claim/cut.py" : Str) 307)]), #[]⟩),
  (99, ⟨(.type "function"), none, (.func (fdcut)), #[]⟩),
  (103, ⟨(.type "code"), none, (.fields #[(.str ("sadd" : Str) 309), (.str ("sadd" : Str) 310), (.str ("/claim/cut.py" : Str) 311), (.int 47 0), (.int 2 0), (.int 0 0), (.int 0 0), (.int 3 0), (.ref 100), (.bool true), (.int 181 0), (.ref 101), .none, .none, .none, (.ref 102), (.int 312 0), (.int 47 0), (.str ("/claim/cut.py" : Str) 313)]), #[]⟩),
  (104, ⟨(.type "function"), none, (.func (fdsadd)), #[]⟩),
  (108, ⟨(.type "code"), none, (.fields #[(.str ("sscale" : Str) 315), (.str ("sscale" : Str) 316), (.str ("/claim/cut.py" : Str) 317), (.int 49 0), (.int 2 0), (.int 0 0), (.int 0 0), (.int 3 0), (.ref 105), (.bool true), (.int 181 0), (.ref 106), .none, .none, .none, (.ref 107), (.int 318 0), (.int 49 0), (.str ("/claim/cut.py" : Str) 319)]), #[]⟩),
  (109, ⟨(.type "function"), none, (.func (fdsscale)), #[]⟩),
  (115, ⟨(.type "code"), none, (.fields #[(.str ("mixed" : Str) 321), (.str ("mixed" : Str) 322), (.str ("/claim/cut.py" : Str) 323), (.int 51 0), (.int 3 0), (.int 0 0), (.int 0 0), (.int 3 0), (.ref 110), (.bool true), (.int 181 0), (.ref 111), .none, (.ref 112), (.ref 113), (.ref 114), (.int 329 0), (.int 51 0), (.str ("/claim/cut.py" : Str) 330)]), #[]⟩),
  (116, ⟨(.type "function"), none, (.func (fdmixed)), #[]⟩),
  (120, ⟨(.type "code"), none, (.fields #[(.str ("smul" : Str) 332), (.str ("smul" : Str) 333), (.str ("/claim/cut.py" : Str) 334), (.int 57 0), (.int 2 0), (.int 0 0), (.int 0 0), (.int 3 0), (.ref 117), (.bool true), (.int 181 0), (.ref 118), .none, .none, .none, (.ref 119), (.int 335 0), (.int 57 0), (.str ("/claim/cut.py" : Str) 336)]), #[]⟩),
  (121, ⟨(.type "function"), none, (.func (fdsmul)), #[]⟩),
  (127, ⟨(.type "code"), none, (.fields #[(.str ("sinverse" : Str) 338), (.str ("sinverse" : Str) 339), (.str ("/claim/cut.py" : Str) 340), (.int 59 0), (.int 1 0), (.int 0 0), (.int 0 0), (.int 3 0), (.ref 122), (.bool true), (.int 181 0), (.ref 123), .none, (.ref 124), (.ref 125), (.ref 126), (.int 346 0), (.int 59 0), (.str ("/claim/cut.py" : Str) 347)]), #[]⟩),
  (128, ⟨(.type "function"), none, (.func (fdsinverse)), #[]⟩),
  (132, ⟨(.type "code"), none, (.fields #[(.str ("sderive" : Str) 349), (.str ("sderive" : Str) 350), (.str ("/claim/cut.py" : Str) 351), (.int 69 0), (.int 1 0), (.int 0 0), (.int 0 0), (.int 3 0), (.ref 129), (.bool true), (.int 181 0), (.ref 130), .none, .none, .none, (.ref 131), (.int 352 0), (.int 69 0), (.str ("/claim/cut.py" : Str) 353)]), #[]⟩),
  (133, ⟨(.type "function"), none, (.func (fdsderive)), #[]⟩),
  (137, ⟨(.type "code"), none, (.fields #[(.str ("sintegrate" : Str) 355), (.str ("sintegrate" : Str) 356), (.str ("/claim/cut.py" : Str) 357), (.int 71 0), (.int 1 0), (.int 0 0), (.int 0 0), (.int 3 0), (.ref 134), (.bool true), (.int 181 0), (.ref 135), .none, .none, .none, (.ref 136), (.int 358 0), (.int 71 0), (.str ("/claim/cut.py" : Str) 359)]), #[]⟩),
  (138, ⟨(.type "function"), none, (.func (fdsintegrate)), #[]⟩),
  (144, ⟨(.type "code"), none, (.fields #[(.str ("need_begin" : Str) 361), (.str ("need_begin" : Str) 362), (.str ("/claim/cut.py" : Str) 363), (.int 73 0), (.int 2 0), (.int 0 0), (.int 0 0), (.int 3 0), (.ref 139), (.bool true), (.int 181 0), (.ref 140), .none, (.ref 141), (.ref 142), (.ref 143), (.int 366 0), (.int 73 0), (.str ("/claim/cut.py" : Str) 367)]), #[]⟩),
  (145, ⟨(.type "function"), none, (.func (fdneed_begin)), #[]⟩),
  (151, ⟨(.type "code"), none, (.fields #[(.str ("sexp" : Str) 369), (.str ("sexp" : Str) 370), (.str ("/claim/cut.py" : Str) 371), (.int 76 0), (.int 1 0), (.int 0 0), (.int 0 0), (.int 3 0), (.ref 146), (.bool true), (.int 181 0), (.ref 147), .none, (.ref 148), (.ref 149), (.ref 150), (.int 377 0), (.int 76 0), (.str ("/claim/cut.py" : Str) 378)]), #[]⟩),
  (152, ⟨(.type "function"), none, (.func (fdsexp)), #[]⟩),
  (158, ⟨(.type "code"), none, (.fields #[(.str ("slog" : Str) 380), (.str ("slog" : Str) 381), (.str ("/claim/cut.py" : Str) 382), (.int 85 0), (.int 1 0), (.int 0 0), (.int 0 0), (.int 3 0), (.ref 153), (.bool true), (.int 181 0), (.ref 154), .none, (.ref 155), (.ref 156), (.ref 157), (.int 384 0), (.int 85 0), (.str ("/claim/cut.py" : Str) 385)]), #[]⟩),
  (159, ⟨(.type "function"), none, (.func (fdslog)), #[]⟩),
  (165, ⟨(.type "code"), none, (.fields #[(.str ("ssin_cos" : Str) 387), (.str ("ssin_cos" : Str) 388), (.str ("/claim/cut.py" : Str) 389), (.int 90 0), (.int 1 0), (.int 0 0), (.int 0 0), (.int 3 0), (.ref 160), (.bool true), (.int 181 0), (.ref 161), .none, (.ref 162), (.ref 163), (.ref 164), (.int 398 0), (.int 90 0), (.str ("/claim/cut.py" : Str) 399)]), #[]⟩),
  (166, ⟨(.type "function"), none, (.func (fdssin_cos)), #[]⟩),
  (172, ⟨(.type "code"), none, (.fields #[(.str ("ssin" : Str) 401), (.str ("ssin" : Str) 402), (.str ("/claim/cut.py" : Str) 403), (.int 102 0), (.int 1 0), (.int 0 0), (.int 0 0), (.int 3 0), (.ref 167), (.bool true), (.int 181 0), (.ref 168), .none, (.ref 169), (.ref 170), (.ref 171), (.int 405 0), (.int 102 0), (.str ("/claim/cut.py" : Str) 406)]), #[]⟩),
  (173, ⟨(.type "function"), none, (.func (fdssin)), #[]⟩),
  (179, ⟨(.type "code"), none, (.fields #[(.str ("scos" : Str) 408), (.str ("scos" : Str) 409), (.str ("/claim/cut.py" : Str) 410), (.int 104 0), (.int 1 0), (.int 0 0), (.int 0 0), (.int 3 0), (.ref 174), (.bool true), (.int 181 0), (.ref 175), .none, (.ref 176), (.ref 177), (.ref 178), (.int 412 0), (.int 104 0), (.str ("/claim/cut.py" : Str) 413)]), #[]⟩),
  (180, ⟨(.type "function"), none, (.func (fdscos)), #[]⟩),
  (186, ⟨(.type "code"), none, (.fields #[(.str ("satan" : Str) 415), (.str ("satan" : Str) 416), (.str ("/claim/cut.py" : Str) 417), (.int 106 0), (.int 1 0), (.int 0 0), (.int 0 0), (.int 3 0), (.ref 181), (.bool true), (.int 181 0), (.ref 182), .none, (.ref 183), (.ref 184), (.ref 185), (.int 420 0), (.int 106 0), (.str ("/claim/cut.py" : Str) 421)]), #[]⟩),
  (187, ⟨(.type "function"), none, (.func (fdsatan)), #[]⟩),
  (193, ⟨(.type "code"), none, (.fields #[(.str ("spower" : Str) 423), (.str ("spower" : Str) 424), (.str ("/claim/cut.py" : Str) 425), (.int 113 0), (.int 2 0), (.int 0 0), (.int 0 0), (.int 3 0), (.ref 188), (.bool true), (.int 181 0), (.ref 189), .none, (.ref 190), (.ref 191), (.ref 192), (.int 433 0), (.int 113 0), (.str ("/claim/cut.py" : Str) 434)]), #[]⟩),
  (194, ⟨(.type "function"), none, (.func (fdspower)), #[]⟩),
  (200, ⟨(.type "code"), none, (.fields #[(.str ("swhole_power" : Str) 436), (.str ("swhole_power" : Str) 437), (.str ("/claim/cut.py" : Str) 438), (.int 123 0), (.int 2 0), (.int 0 0), (.int 0 0), (.int 3 0), (.ref 195), (.bool true), (.int 181 0), (.ref 196), .none, (.ref 197), (.ref 198), (.ref 199), (.int 444 0), (.int 123 0), (.str ("/claim/cut.py" : Str) 445)]), #[]⟩),
  (201, ⟨(.type "function"), none, (.func (fdswhole_power)), #[]⟩),
  (207, ⟨(.type "code"), none, (.fields #[(.str ("lplain" : Str) 449), (.str ("lplain" : Str) 450), (.str ("/claim/cut.py" : Str) 451), (.int 133 0), (.int 2 0), (.int 0 0), (.int 0 0), (.int 3 0), (.ref 202), (.bool true), (.int 181 0), (.ref 203), .none, (.ref 204), (.ref 205), (.ref 206), (.int 454 0), (.int 133 0), (.str ("/claim/cut.py" : Str) 455)]), #[]⟩),
  (208, ⟨(.type "function"), none, (.func (fdlplain)), #[]⟩),
  (214, ⟨(.type "code"), none, (.fields #[(.str ("lmoved" : Str) 457), (.str ("lmoved" : Str) 458), (.str ("/claim/cut.py" : Str) 459), (.int 135 0), (.int 2 0), (.int 0 0), (.int 0 0), (.int 3 0), (.ref 209), (.bool true), (.int 181 0), (.ref 210), .none, (.ref 211), (.ref 212), (.ref 213), (.int 462 0), (.int 135 0), (.str ("/claim/cut.py" : Str) 463)]), #[]⟩),
  (215, ⟨(.type "function"), none, (.func (fdlmoved)), #[]⟩),
  (221, ⟨(.type "code"), none, (.fields #[(.str ("ladd" : Str) 465), (.str ("ladd" : Str) 466), (.str ("/claim/cut.py" : Str) 467), (.int 137 0), (.int 2 0), (.int 0 0), (.int 0 0), (.int 3 0), (.ref 216), (.bool true), (.int 181 0), (.ref 217), .none, (.ref 218), (.ref 219), (.ref 220), (.int 471 0), (.int 137 0), (.str ("/claim/cut.py" : Str) 472)]), #[]⟩),
  (222, ⟨(.type "function"), none, (.func (fdladd)), #[]⟩),
  (228, ⟨(.type "code"), none, (.fields #[(.str ("lmul" : Str) 474), (.str ("lmul" : Str) 475), (.str ("/claim/cut.py" : Str) 476), (.int 140 0), (.int 2 0), (.int 0 0), (.int 0 0), (.int 3 0), (.ref 223), (.bool true), (.int 181 0), (.ref 224), .none, (.ref 225), (.ref 226), (.ref 227), (.int 479 0), (.int 140 0), (.str ("/claim/cut.py" : Str) 480)]), #[]⟩),
  (229, ⟨(.type "function"), none, (.func (fdlmul)), #[]⟩),
  (235, ⟨(.type "code"), none, (.fields #[(.str ("ltrim" : Str) 482), (.str ("ltrim" : Str) 483), (.str ("/claim/cut.py" : Str) 484), (.int 142 0), (.int 1 0), (.int 0 0), (.int 0 0), (.int 3 0), (.ref 230), (.bool true), (.int 181 0), (.ref 231), .none, (.ref 232), (.ref 233), (.ref 234), (.int 488 0), (.int 142 0), (.str ("/claim/cut.py" : Str) 489)]), #[]⟩),
  (236, ⟨(.type "function"), none, (.func (fdltrim)), #[]⟩),
  (242, ⟨(.type "code"), none, (.fields #[(.str ("linverse" : Str) 491), (.str ("linverse" : Str) 492), (.str ("/claim/cut.py" : Str) 493), (.int 147 0), (.int 1 0), (.int 0 0), (.int 0 0), (.int 3 0), (.ref 237), (.bool true), (.int 181 0), (.ref 238), .none, (.ref 239), (.ref 240), (.ref 241), (.int 497 0), (.int 147 0), (.str ("/claim/cut.py" : Str) 498)]), #[]⟩),
  (243, ⟨(.type "function"), none, (.func (fdlinverse)), #[]⟩),
  (249, ⟨(.type "code"), none, (.fields #[(.str ("lpower" : Str) 500), (.str ("lpower" : Str) 501), (.str ("/claim/cut.py" : Str) 502), (.int 152 0), (.int 2 0), (.int 0 0), (.int 0 0), (.int 3 0), (.ref 244), (.bool true), (.int 181 0), (.ref 245), .none, (.ref 246), (.ref 247), (.ref 248), (.int 507 0), (.int 152 0), (.str ("/claim/cut.py" : Str) 508)]), #[]⟩),
  (250, ⟨(.type "function"), none, (.func (fdlpower)), #[]⟩),
  (256, ⟨(.type "code"), none, (.fields #[(.str ("lcut" : Str) 510), (.str ("lcut" : Str) 511), (.str ("/claim/cut.py" : Str) 512), (.int 159 0), (.int 2 0), (.int 0 0), (.int 0 0), (.int 3 0), (.ref 251), (.bool true), (.int 181 0), (.ref 252), .none, (.ref 253), (.ref 254), (.ref 255), (.int 517 0), (.int 159 0), (.str ("/claim/cut.py" : Str) 518)]), #[]⟩),
  (257, ⟨(.type "function"), none, (.func (fdlcut)), #[]⟩),
  (263, ⟨(.type "code"), none, (.fields #[(.str ("exact_root" : Str) 524), (.str ("exact_root" : Str) 525), (.str ("/claim/cut.py" : Str) 526), (.int 168 0), (.int 2 0), (.int 0 0), (.int 0 0), (.int 3 0), (.ref 258), (.bool true), (.int 181 0), (.ref 259), .none, (.ref 260), (.ref 261), (.ref 262), (.int 531 0), (.int 168 0), (.str ("/claim/cut.py" : Str) 532)]), #[]⟩),
  (264, ⟨(.type "function"), none, (.func (fdexact_root)), #[]⟩),
  (270, ⟨(.type "code"), none, (.fields #[(.str ("from_zero" : Str) 534), (.str ("from_zero" : Str) 535), (.str ("/claim/cut.py" : Str) 536), (.int 171 0), (.int 1 0), (.int 0 0), (.int 0 0), (.int 3 0), (.ref 265), (.bool true), (.int 181 0), (.ref 266), .none, (.ref 267), (.ref 268), (.ref 269), (.int 540 0), (.int 171 0), (.str ("/claim/cut.py" : Str) 541)]), #[]⟩),
  (271, ⟨(.type "function"), none, (.func (fdfrom_zero)), #[]⟩),
  (277, ⟨(.type "code"), none, (.fields #[(.str ("of_call" : Str) 543), (.str ("of_call" : Str) 544), (.str ("/claim/cut.py" : Str) 545), (.int 176 0), (.int 2 0), (.int 0 0), (.int 0 0), (.int 3 0), (.ref 272), (.bool true), (.int 181 0), (.ref 273), .none, (.ref 274), (.ref 275), (.ref 276), (.int 549 0), (.int 176 0), (.str ("/claim/cut.py" : Str) 550)]), #[]⟩),
  (278, ⟨(.type "function"), none, (.func (fdof_call)), #[]⟩),
  (284, ⟨(.type "code"), none, (.fields #[(.str ("of_root" : Str) 552), (.str ("of_root" : Str) 553), (.str ("/claim/cut.py" : Str) 554), (.int 193 0), (.int 2 0), (.int 0 0), (.int 0 0), (.int 3 0), (.ref 279), (.bool true), (.int 181 0), (.ref 280), .none, (.ref 281), (.ref 282), (.ref 283), (.int 561 0), (.int 193 0), (.str ("/claim/cut.py" : Str) 562)]), #[]⟩),
  (285, ⟨(.type "function"), none, (.func (fdof_root)), #[]⟩),
  (291, ⟨(.type "code"), none, (.fields #[(.str ("of_power" : Str) 564), (.str ("of_power" : Str) 565), (.str ("/claim/cut.py" : Str) 566), (.int 204 0), (.int 4 0), (.int 0 0), (.int 0 0), (.int 3 0), (.ref 286), (.bool true), (.int 181 0), (.ref 287), .none, (.ref 288), (.ref 289), (.ref 290), (.int 572 0), (.int 204 0), (.str ("/claim/cut.py" : Str) 573)]), #[]⟩),
  (292, ⟨(.type "function"), none, (.func (fdof_power)), #[]⟩),
  (298, ⟨(.type "code"), none, (.fields #[(.str ("of_term" : Str) 575), (.str ("of_term" : Str) 576), (.str ("/claim/cut.py" : Str) 577), (.int 211 0), (.int 3 0), (.int 0 0), (.int 0 0), (.int 3 0), (.ref 293), (.bool true), (.int 181 0), (.ref 294), .none, (.ref 295), (.ref 296), (.ref 297), (.int 584 0), (.int 211 0), (.str ("/claim/cut.py" : Str) 585)]), #[]⟩),
  (299, ⟨(.type "function"), none, (.func (fdof_term)), #[]⟩),
  (305, ⟨(.type "code"), none, (.fields #[(.str ("laurent_of" : Str) 587), (.str ("laurent_of" : Str) 588), (.str ("/claim/cut.py" : Str) 589), (.int 229 0), (.int 3 0), (.int 0 0), (.int 0 0), (.int 3 0), (.ref 300), (.bool true), (.int 181 0), (.ref 301), .none, (.ref 302), (.ref 303), (.ref 304), (.int 596 0), (.int 229 0), (.str ("/claim/cut.py" : Str) 597)]), #[]⟩),
  (306, ⟨(.type "function"), none, (.func (fdlaurent_of)), #[]⟩),
  (312, ⟨(.type "code"), none, (.fields #[(.str ("series_of" : Str) 599), (.str ("series_of" : Str) 600), (.str ("/claim/cut.py" : Str) 601), (.int 241 0), (.int 4 0), (.int 0 0), (.int 0 0), (.int 3 0), (.ref 307), (.bool true), (.int 181 0), (.ref 308), .none, (.ref 309), (.ref 310), (.ref 311), (.int 607 0), (.int 241 0), (.str ("/claim/cut.py" : Str) 608)]), #[]⟩),
  (313, ⟨(.type "function"), none, (.func (fdseries_of)), #[]⟩),
  (319, ⟨(.type "code"), none, (.fields #[(.str ("_law_take" : Str) 612), (.str ("_law_take" : Str) 613), (.str ("/claim/cut.py" : Str) 614), (.int 247 0), (.int 2 0), (.int 0 0), (.int 0 0), (.int 3 0), (.ref 314), (.bool true), (.int 181 0), (.ref 315), .none, (.ref 316), (.ref 317), (.ref 318), (.int 617 0), (.int 247 0), (.str ("/claim/cut.py" : Str) 618)]), #[]⟩),
  (320, ⟨(.type "function"), none, (.func (fd_law_take)), #[]⟩),
  (324, ⟨(.type "code"), none, (.fields #[(.str ("_law_box" : Str) 620), (.str ("_law_box" : Str) 621), (.str ("/claim/cut.py" : Str) 622), (.int 252 0), (.int 1 0), (.int 0 0), (.int 0 0), (.int 3 0), (.ref 321), (.bool true), (.int 181 0), (.ref 322), .none, .none, .none, (.ref 323), (.int 623 0), (.int 252 0), (.str ("/claim/cut.py" : Str) 624)]), #[]⟩),
  (325, ⟨(.type "function"), none, (.func (fd_law_box)), #[]⟩),
  (331, ⟨(.type "code"), none, (.fields #[(.str ("_law_low" : Str) 626), (.str ("_law_low" : Str) 627), (.str ("/claim/cut.py" : Str) 628), (.int 255 0), (.int 2 0), (.int 0 0), (.int 0 0), (.int 3 0), (.ref 326), (.bool true), (.int 181 0), (.ref 327), .none, (.ref 328), (.ref 329), (.ref 330), (.int 633 0), (.int 255 0), (.str ("/claim/cut.py" : Str) 634)]), #[]⟩),
  (332, ⟨(.type "function"), none, (.func (fd_law_low)), #[]⟩),
  (336, ⟨(.type "code"), none, (.fields #[(.str ("_law_plus" : Str) 636), (.str ("_law_plus" : Str) 637), (.str ("/claim/cut.py" : Str) 638), (.int 260 0), (.int 2 0), (.int 0 0), (.int 0 0), (.int 3 0), (.ref 333), (.bool true), (.int 181 0), (.ref 334), .none, .none, .none, (.ref 335), (.int 639 0), (.int 260 0), (.str ("/claim/cut.py" : Str) 640)]), #[]⟩),
  (337, ⟨(.type "function"), none, (.func (fd_law_plus)), #[]⟩),
  (343, ⟨(.type "code"), none, (.fields #[(.str ("_law_times" : Str) 642), (.str ("_law_times" : Str) 643), (.str ("/claim/cut.py" : Str) 644), (.int 262 0), (.int 2 0), (.int 0 0), (.int 0 0), (.int 3 0), (.ref 338), (.bool true), (.int 181 0), (.ref 339), .none, (.ref 340), (.ref 341), (.ref 342), (.int 653 0), (.int 262 0), (.str ("/claim/cut.py" : Str) 654)]), #[]⟩),
  (344, ⟨(.type "function"), none, (.func (fd_law_times)), #[]⟩),
  (348, ⟨(.type "code"), none, (.fields #[(.str ("_law_rows" : Str) 656), (.str ("_law_rows" : Str) 657), (.str ("/claim/cut.py" : Str) 658), (.int 271 0), (.int 2 0), (.int 0 0), (.int 0 0), (.int 3 0), (.ref 345), (.bool true), (.int 181 0), (.ref 346), .none, .none, .none, (.ref 347), (.int 659 0), (.int 271 0), (.str ("/claim/cut.py" : Str) 660)]), #[]⟩),
  (349, ⟨(.type "function"), none, (.func (fd_law_rows)), #[]⟩),
  (353, ⟨(.type "code"), none, (.fields #[(.str ("_law_turned" : Str) 662), (.str ("_law_turned" : Str) 663), (.str ("/claim/cut.py" : Str) 664), (.int 285 0), (.int 1 0), (.int 0 0), (.int 0 0), (.int 3 0), (.ref 350), (.bool true), (.int 181 0), (.ref 351), .none, .none, .none, (.ref 352), (.int 665 0), (.int 285 0), (.str ("/claim/cut.py" : Str) 666)]), #[]⟩),
  (354, ⟨(.type "function"), none, (.func (fd_law_turned)), #[]⟩),
  (358, ⟨(.type "code"), none, (.fields #[(.str ("_law_poly" : Str) 668), (.str ("_law_poly" : Str) 669), (.str ("/claim/cut.py" : Str) 670), (.int 294 0), (.int 2 0), (.int 0 0), (.int 0 0), (.int 3 0), (.ref 355), (.bool true), (.int 181 0), (.ref 356), .none, .none, .none, (.ref 357), (.int 671 0), (.int 294 0), (.str ("/claim/cut.py" : Str) 672)]), #[]⟩),
  (359, ⟨(.type "function"), none, (.func (fd_law_poly)), #[]⟩),
  (365, ⟨(.type "code"), none, (.fields #[(.str ("_law_drawn" : Str) 674), (.str ("_law_drawn" : Str) 675), (.str ("/claim/cut.py" : Str) 676), (.int 299 0), (.int 3 0), (.int 0 0), (.int 0 0), (.int 3 0), (.ref 360), (.bool true), (.int 181 0), (.ref 361), .none, (.ref 362), (.ref 363), (.ref 364), (.int 689 0), (.int 299 0), (.str ("/claim/cut.py" : Str) 690)]), #[]⟩),
  (366, ⟨(.type "function"), none, (.func (fd_law_drawn)), #[]⟩),
  (370, ⟨(.type "code"), none, (.fields #[(.str ("law" : Str) 692), (.str ("law" : Str) 693), (.str ("/claim/cut.py" : Str) 694), (.int 319 0), (.int 1 0), (.int 0 0), (.int 0 0), (.int 3 0), (.ref 367), (.bool true), (.int 181 0), (.ref 368), .none, .none, .none, (.ref 369), (.int 695 0), (.int 319 0), (.str ("/claim/cut.py" : Str) 696)]), #[]⟩),
  (371, ⟨(.type "function"), none, (.func (fdlaw)), #[]⟩)]
noncomputable def asK : List Addr := [2, 3, 15, 22, 24, 25, 27, 28, 29, 30, 31, 32, 40, 41, 47, 48, 49, 50, 56, 57, 63, 64, 70, 71, 77, 78, 84, 85, 91, 92, 98, 99, 103, 104, 108, 109, 115, 116, 120, 121, 127, 128, 132, 133, 137, 138, 144, 145, 151, 152, 158, 159, 165, 166, 172, 173, 179, 180, 186, 187, 193, 194, 200, 201, 207, 208, 214, 215, 221, 222, 228, 229, 235, 236, 242, 243, 249, 250, 256, 257, 263, 264, 270, 271, 277, 278, 284, 285, 291, 292, 298, 299, 305, 306, 312, 313, 319, 320, 324, 325, 331, 332, 336, 337, 343, 344, 348, 349, 353, 354, 358, 359, 365, 366, 370, 371]
noncomputable def view : Program := { pw with main := { pw.main with body := [stmtAt pw.main.body 1, stmtAt pw.main.body 3, stmtAt pw.main.body 4, stmtAt pw.main.body 6, stmtAt pw.main.body 7, stmtAt pw.main.body 8, stmtAt pw.main.body 9, stmtAt pw.main.body 10, stmtAt pw.main.body 11, stmtAt pw.main.body 12, stmtAt pw.main.body 13, stmtAt pw.main.body 15, stmtAt pw.main.body 16, stmtAt pw.main.body 17, stmtAt pw.main.body 18, stmtAt pw.main.body 19, stmtAt pw.main.body 20, stmtAt pw.main.body 21, stmtAt pw.main.body 22, stmtAt pw.main.body 23, stmtAt pw.main.body 24, stmtAt pw.main.body 25, stmtAt pw.main.body 26, stmtAt pw.main.body 27, stmtAt pw.main.body 28, stmtAt pw.main.body 29, stmtAt pw.main.body 30, stmtAt pw.main.body 31, stmtAt pw.main.body 33, stmtAt pw.main.body 34, stmtAt pw.main.body 35, stmtAt pw.main.body 36, stmtAt pw.main.body 37, stmtAt pw.main.body 38, stmtAt pw.main.body 39, stmtAt pw.main.body 40, stmtAt pw.main.body 42, stmtAt pw.main.body 43, stmtAt pw.main.body 44, stmtAt pw.main.body 45, stmtAt pw.main.body 46, stmtAt pw.main.body 47, stmtAt pw.main.body 48, stmtAt pw.main.body 49, stmtAt pw.main.body 50, stmtAt pw.main.body 52, stmtAt pw.main.body 53, stmtAt pw.main.body 54, stmtAt pw.main.body 55, stmtAt pw.main.body 56, stmtAt pw.main.body 57, stmtAt pw.main.body 58, stmtAt pw.main.body 59, stmtAt pw.main.body 60, stmtAt pw.main.body 61] } }

noncomputable def lawDef : Stmt := stmtAt pw.main.body 61
noncomputable def dlaw : DefRec := { name := "law", params := fnP lawDef, body := fnB lawDef, scope := fnS lawDef, pos := fnPos lawDef }
noncomputable abbrev rowL := PySem.Challenge.rw_nn0277_01.row
theorem asK_eq (P : Params) : asK = (KK P).map (·.1) := by kernel_rfl
theorem looksA : sreFenced pw.main = true := by (try rw [Fast.te11788848310118352699]); kernel_rfl
theorem looksB : namesResolve pw = true := by (try rw [Fast.te8377067652309620493]); kernel_rfl
theorem looksC : pw.boundNames.all (fun n => !worldNames.contains n) = true := by (try rw [Fast.te18344453789297297638]); (try rw [Fast.te14412699480532031325]); kernel_rfl
theorem looksD : noRoadLSs { strict := !(importedModules pw.main.body).all cThrough.contains, foot := none, bare := (["vars", "dir", "locals"] : List Str).filter (readsOut pw pw.main.body) } pw.main.body = true := by
  (try rw [Fast.te8326940854005059898]); (try rw [Fast.te5923862056798008813]); (try rw [Fast.te17691160309236699985]); (try rw [Fast.te13343964577679436407]); kernel_rfl
theorem looksE : namesMeet pw pw.main.body (fun _ n => attrL n) = true := by (try rw [Fast.te17119622794617984870]); (try rw [Fast.te17868728402115742887]); kernel_rfl
theorem looksP : looksOpen pw = true := by
  unfold looksOpen
  repeat' with_reducible refine look_both ?_ ?_
  · exact looksA
  · kernel_rfl
  · exact looksB
  · exact looksC
  · exact looksD
  · exact looksE
theorem rowPart : PySem.Challenge.rw_nn0277_01.row.partSaid = true := by
  unfold OpenRow.partSaid
  repeat' with_reducible refine look_both ?_ ?_
  · exact looksP
  all_goals kernel_rfl
theorem rowSaid : PySem.Challenge.rw_nn0277_01.row.wellSaid = true := by
  unfold OpenRow.wellSaid
  repeat' with_reducible refine look_both ?_ ?_
  · exact rowPart
  all_goals kernel_rfl
theorem lawSaid : PySem.Challenge.rw_nn0277_01.wellSaid = true := by
  unfold OpenLaw.wellSaid
  repeat' with_reducible refine look_both ?_ ?_
  · exact rowSaid
  all_goals (try rw [Fast.te8326940854005059898])
  all_goals (try rw [Fast.te17119622794617984870])
  all_goals (try rw [Fast.te8179353310426384613])
  all_goals (try rw [Fast.te9558739934217749035])
  all_goals (try rw [Fast.te16286561074155671207])
  all_goals (try rw [Fast.te6984425678791042302])
  all_goals (try rw [Fast.te797321630700447069])
  all_goals kernel_rfl
noncomputable abbrev hkK := kHook KK asK asK_eq
noncomputable abbrev xtK : Shared → Bool := fun s => xlAt view [] s && recOk (RowW.records rowL.toRowW) s
theorem topOpen (w : World) : (fencedOpening treeTable pw w 3894).map (fun s => (s.heap, s.gens, s.drawn, s.toks)) = some (boot_heap w.params, Array.mk [], boot_drawn, boot_toks) :=
  boot_open (p := pw) (N := 3894) (by kernel_rfl) (by kernel_rfl) (fun s => by kernel_rfl) w
theorem topRuns (w : World) (os : OsState) : (topFrom treeTable pw w 3894 ⟨boot_heap w.params, Array.mk [], boot_drawn, boot_toks, os⟩).map (fun s => (openSeen view [] (importedModules pw.main.body) xtK true s, hkK.obs s)) = some (openGood view [], hkK.val w) := by
  unfold topFrom
  (try rw [Fast.te14082659384304107361]); (try rw [Fast.te14364793385576792824]); (try rw [Fast.te4187177175401517315]); (try rw [Fast.te5923862056798008813])
  kernel_rfl
theorem topLeft : LeftO pw view [] xtK hkK.obs hkK.val 3894 := fun w => by
  obtain ⟨⟨h, gs, d, k, os⟩, e, e'⟩ := Option.map_eq_some_iff.mp (topOpen w)
  obtain ⟨rfl, rfl, rfl, rfl⟩ : h = boot_heap w.params ∧ gs = Array.mk [] ∧ d = boot_drawn ∧ k = boot_toks := by simpa using e'
  unfold openEnds
  rw [e, Option.bind_some]
  exact topRuns w os
theorem hd (call : WalkO view [] (XL view []) (InK KK) rowL.toRowW dlaw [] fun f vs => PySem.call f vs) : PySem.Challenge.rw_nn0277_01.Holds := by
  w_on
  refine holds_law lawSaid fun said => ?_
  refine holds_open (q := view) (loose := []) (Xt := xtK) (XP := XL view []) (Yf := hkK.obs) (Ya := hkK.val) (YP := InK KK) (N := 3894) topLeft hkK.of hkK.keeps
    (fun s e => xl_of s (Bool.and_eq_true_iff.mp e).1) XL.keeps (by kernel_rfl) (by kernel_rfl) (by kernel_rfl) (fun s e => recFacts_of (Bool.and_eq_true_iff.mp e).2) (by kernel_rfl) rowSaid (by decide +kernel) ⟨rfl, rfl, rfl, rfl, rfl, by decide +kernel⟩ ?hw call
  case hw => w_witness2
end Mine
namespace Mine
set_option maxHeartbeats 200000

/-! ## values told by data; X: the addresses that a value must not lean on -/
mutual
inductive Rep (h : Heap) (X : Addr → Prop) : Value → PyData → Prop
  | none : Rep h X .none .none
  | bool (b : Bool) : Rep h X (.bool b) (.bool b)
  | int (i : Int) (t : Tok) : Rep h X (.int i t) (.int i)
  | str (x : Str) (t : Tok) : Rep h X (.str x t) (.str x)
  | list {a : Addr} {vs : List Value} {xs : List PyData} : h.IsList a vs.toArray → ¬ X a → RepAll h X vs xs → Rep h X (.ref a) (.list xs)
  | tuple {a : Addr} {vs : List Value} {xs : List PyData} : IsTup h a vs.toArray → ¬ X a → RepAll h X vs xs → Rep h X (.ref a) (.tuple xs)
inductive RepAll (h : Heap) (X : Addr → Prop) : List Value → List PyData → Prop
  | nil : RepAll h X [] []
  | cons {v : Value} {vs : List Value} {d : PyData} {ds : List PyData} : Rep h X v d → RepAll h X vs ds → RepAll h X (v :: vs) (d :: ds)
end

/-! ## many at once: the goal stays out of each case -/
theorem ex6 {α0 α1 α2 α3 α4 α5 : Type} {P : α0 → α1 → α2 → α3 → α4 → α5 → Prop} {G : Prop} (h : ∃ a0 a1 a2 a3 a4 a5, P a0 a1 a2 a3 a4 a5) (k : ∀ a0 a1 a2 a3 a4 a5, P a0 a1 a2 a3 a4 a5 → G) : G := by
  obtain ⟨a0, a1, a2, a3, a4, a5, h⟩ := h
  exact k _ _ _ _ _ _ h
theorem ex7 {α0 α1 α2 α3 α4 α5 α6 : Type} {P : α0 → α1 → α2 → α3 → α4 → α5 → α6 → Prop} {G : Prop} (h : ∃ a0 a1 a2 a3 a4 a5 a6, P a0 a1 a2 a3 a4 a5 a6) (k : ∀ a0 a1 a2 a3 a4 a5 a6, P a0 a1 a2 a3 a4 a5 a6 → G) : G := by
  obtain ⟨a0, a1, a2, a3, a4, a5, a6, h⟩ := h
  exact k _ _ _ _ _ _ _ h
theorem an8 {A0 A1 A2 A3 A4 A5 A6 A7 G : Prop} (h : A0 ∧ A1 ∧ A2 ∧ A3 ∧ A4 ∧ A5 ∧ A6 ∧ A7) (k : A0 → A1 → A2 → A3 → A4 → A5 → A6 → A7 → G) : G := by
  obtain ⟨h0, h1, h2, h3, h4, h5, h6, h7⟩ := h
  exact k h0 h1 h2 h3 h4 h5 h6 h7
theorem an10 {A0 A1 A2 A3 A4 A5 A6 A7 A8 A9 G : Prop} (h : A0 ∧ A1 ∧ A2 ∧ A3 ∧ A4 ∧ A5 ∧ A6 ∧ A7 ∧ A8 ∧ A9) (k : A0 → A1 → A2 → A3 → A4 → A5 → A6 → A7 → A8 → A9 → G) : G := by
  obtain ⟨h0, h1, h2, h3, h4, h5, h6, h7, h8, h9⟩ := h
  exact k h0 h1 h2 h3 h4 h5 h6 h7 h8 h9
theorem an11 {A0 A1 A2 A3 A4 A5 A6 A7 A8 A9 A10 G : Prop} (h : A0 ∧ A1 ∧ A2 ∧ A3 ∧ A4 ∧ A5 ∧ A6 ∧ A7 ∧ A8 ∧ A9 ∧ A10) (k : A0 → A1 → A2 → A3 → A4 → A5 → A6 → A7 → A8 → A9 → A10 → G) : G := by
  obtain ⟨h0, h1, h2, h3, h4, h5, h6, h7, h8, h9, h10⟩ := h
  exact k h0 h1 h2 h3 h4 h5 h6 h7 h8 h9 h10
theorem seq_mv {h h' : Heap} {a : Addr} {P : Prop} {Z : Obj → Prop} (hl : ∃ o, h.get? a = some o ∧ Z o) (z : ∀ o, Z o → ∃ its n, o.data = .seq its n) (k : ∀ o, h.get? a = some o → (∃ its n, o.data = .seq its n) → h'.get? a = some o ∧ P) : (∃ o, h'.get? a = some o ∧ Z o) ∧ P :=
  hl.elim fun o ⟨e, q⟩ => ⟨⟨o, (k o e (z o q)).1, q⟩, (k o e (z o q)).2⟩
mutual
theorem Rep.moveS {h h' : Heap} {X Y : Addr → Prop} (k : ∀ b o, ¬ X b → h.get? b = some o → (∃ its n, o.data = .seq its n) → h'.get? b = some o ∧ ¬ Y b) : ∀ {v : Value} {d : PyData}, Rep h X v d → Rep h' Y v d
  | _, _, .none => .none
  | _, _, .bool b => .bool b
  | _, _, .int i t => .int i t
  | _, _, .str x t => .str x t
  | _, _, .list hl nx m =>
    have q := seq_mv hl (fun o z => z.2.elim fun n q => ⟨_, n, q⟩) (fun o => k _ o nx)
    .list q.1 q.2 (RepAll.moveS k m)
  | _, _, .tuple hl nx m =>
    have q := seq_mv hl (fun o z => z.2.elim fun n q => ⟨_, n, q⟩) (fun o => k _ o nx)
    .tuple q.1 q.2 (RepAll.moveS k m)
theorem RepAll.moveS {h h' : Heap} {X Y : Addr → Prop} (k : ∀ b o, ¬ X b → h.get? b = some o → (∃ its n, o.data = .seq its n) → h'.get? b = some o ∧ ¬ Y b) : ∀ {vs : List Value} {ds : List PyData}, RepAll h X vs ds → RepAll h' Y vs ds
  | _, _, .nil => .nil
  | _, _, .cons a r => .cons (Rep.moveS k a) (RepAll.moveS k r)
end
theorem Rep.move {h h' : Heap} {X Y : Addr → Prop} (k : ∀ b o, ¬ X b → h.get? b = some o → h'.get? b = some o ∧ ¬ Y b) {v : Value} {d : PyData} (r : Rep h X v d) : Rep h' Y v d := r.moveS fun b o n e _ => k b o n e
theorem RepAll.move {h h' : Heap} {X Y : Addr → Prop} (k : ∀ b o, ¬ X b → h.get? b = some o → h'.get? b = some o ∧ ¬ Y b) {vs : List Value} {ds : List PyData} (r : RepAll h X vs ds) : RepAll h' Y vs ds := r.moveS fun b o n e _ => k b o n e
mutual
theorem Rep.reads {h : Heap} {X : Addr → Prop} : ∀ {v : Value} {d : PyData}, Rep h X v d → ∃ as, Reads h v d as
  | _, _, .none => ⟨_, Reads.none⟩
  | _, _, .bool b => ⟨_, Reads.bool b⟩
  | _, _, .int i t => ⟨_, Reads.int i t⟩
  | _, _, .str x t => ⟨_, Reads.str x t⟩
  | _, _, .list hl _ m => by
    obtain ⟨o, e, c, n, dt⟩ := hl
    obtain ⟨as, r⟩ := RepAll.reads m
    exact ⟨_, Reads.list e c dt (by simpa using r)⟩
  | _, _, .tuple hl _ m => by
    obtain ⟨o, e, c, n, dt⟩ := hl
    obtain ⟨as, r⟩ := RepAll.reads m
    exact ⟨_, Reads.tuple e c dt (by simpa using r)⟩
theorem RepAll.reads {h : Heap} {X : Addr → Prop} : ∀ {vs : List Value} {ds : List PyData}, RepAll h X vs ds → ∃ as, ReadsAll h vs ds as
  | _, _, .nil => ⟨_, ReadsAll.nil⟩
  | _, _, .cons a r => by
    obtain ⟨as, p⟩ := Rep.reads a
    obtain ⟨bs, q⟩ := RepAll.reads r
    exact ⟨_, ReadsAll.cons p q⟩
end
theorem Rep.list_of {h : Heap} {X : Addr → Prop} {v : Value} {xs : List PyData} {G : Prop} (r : Rep h X v (.list xs)) (k : ∀ a vs, v = .ref a → h.IsList a (List.toArray vs) → ¬ X a → RepAll h X vs xs → G) : G := by
  cases r with
  | list p q s => exact k _ _ rfl p q s
theorem Rep.tuple_of {h : Heap} {X : Addr → Prop} {v : Value} {xs : List PyData} {G : Prop} (r : Rep h X v (.tuple xs)) (k : ∀ a vs, v = .ref a → IsTup h a (List.toArray vs) → ¬ X a → RepAll h X vs xs → G) : G := by
  cases r with
  | tuple p q s => exact k _ _ rfl p q s
theorem Rep.int_of {h : Heap} {X : Addr → Prop} {v : Value} {i : Int} {G : Prop} (r : Rep h X v (.int i)) (k : ∀ t, v = .int i t → G) : G := by
  cases r
  exact k _ rfl
theorem RepAll.inv_nil {h : Heap} {X : Addr → Prop} {vs : List Value} (r : RepAll h X vs []) : vs = [] := by cases r; rfl
theorem RepAll.inv_cons {h : Heap} {X : Addr → Prop} {vs : List Value} {d : PyData} {ds : List PyData} (r : RepAll h X vs (d :: ds)) : ∃ v ws, vs = v :: ws ∧ Rep h X v d ∧ RepAll h X ws ds := by
  cases r with
  | cons a r => exact ⟨_, _, rfl, a, r⟩
theorem Rep.inv_str {h : Heap} {X : Addr → Prop} {v : Value} {x : Str} (r : Rep h X v (.str x)) : ∃ t, v = .str x t := by cases r; exact ⟨_, rfl⟩
theorem Rep.inv_int {h : Heap} {X : Addr → Prop} {v : Value} {i : Int} (r : Rep h X v (.int i)) : ∃ t, v = .int i t := r.int_of fun t e => ⟨t, e⟩
theorem RepAll.length {h : Heap} {X : Addr → Prop} : ∀ {vs : List Value} {ds : List PyData}, RepAll h X vs ds → vs.length = ds.length
  | _, _, .nil => rfl
  | _, _, .cons _ r => by rw [List.length_cons, List.length_cons, r.length]
theorem RepAll.get {h : Heap} {X : Addr → Prop} : ∀ {vs : List Value} {ds : List PyData} {n : Nat} {d : PyData}, RepAll h X vs ds → ds[n]? = some d → ∃ v, vs[n]? = some v ∧ Rep h X v d
  | _, _, _, _, .nil, e => by simp at e
  | _, _, 0, _, .cons a _, e => by simp at e; subst e; exact ⟨_, rfl, a⟩
  | _, _, n + 1, _, .cons _ r, e => by simp at e; simpa using r.get e
theorem RepAll.append {h : Heap} {X : Addr → Prop} : ∀ {vs ws : List Value} {ds es : List PyData}, RepAll h X vs ds → RepAll h X ws es → RepAll h X (vs ++ ws) (ds ++ es)
  | _, _, _, _, .nil, b => b
  | _, _, _, _, .cons a r, b => .cons a (r.append b)
theorem RepAll.take {h : Heap} {X : Addr → Prop} : ∀ {vs : List Value} {ds : List PyData} (n : Nat), RepAll h X vs ds → RepAll h X (vs.take n) (ds.take n)
  | _, _, 0, _ => by simpa using RepAll.nil
  | _, _, _ + 1, .nil => .nil
  | _, _, n + 1, .cons a r => .cons a (r.take n)
theorem RepAll.drop {h : Heap} {X : Addr → Prop} : ∀ {vs : List Value} {ds : List PyData} (n : Nat), RepAll h X vs ds → RepAll h X (vs.drop n) (ds.drop n)
  | _, _, 0, a => a
  | _, _, _ + 1, .nil => .nil
  | _, _, n + 1, .cons _ r => r.drop n
theorem RepAll.rep {h : Heap} {X : Addr → Prop} {v : Value} {d : PyData} (a : Rep h X v d) : ∀ n : Nat, RepAll h X (List.replicate n v) (List.replicate n d)
  | 0 => .nil
  | n + 1 => .cons a (RepAll.rep a n)
theorem RepAll.set {h : Heap} {X : Addr → Prop} {v : Value} {d : PyData} (a : Rep h X v d) : ∀ {vs : List Value} {ds : List PyData} (n : Nat), RepAll h X vs ds → RepAll h X (vs.set n v) (ds.set n d)
  | _, _, _, .nil => .nil
  | _, _, 0, .cons _ r => .cons a r
  | _, _, n + 1, .cons b r => .cons b (r.set a n)

/-! ## the pure values of a frame -/
inductive PV where
  | d (x : PyData)
  | own (xs : List PyData)
  | box

noncomputable abbrev PEnv := List (Str × PV)
noncomputable abbrev Bx := List PyData

noncomputable def PRep (h : Heap) (X : Addr → Prop) (bx : Option Addr) (v : Value) : PV → Prop
  | .d x => Rep h X v x
  | .box => ∃ a, bx = some a ∧ v = .ref a
  | .own xs => ∃ a vs, v = .ref a ∧ X a ∧ bx ≠ some a ∧ h.IsList a vs.toArray ∧ RepAll h X vs xs

noncomputable def BoxIs (h : Heap) (X : Addr → Prop) (bx : Option Addr) (β : Bx) : Prop :=
  ∀ a, bx = some a → X a ∧ ∃ vs : List Value, h.IsList a vs.toArray ∧ RepAll h X vs β

noncomputable def Keep (bx : Option Addr) (h h' : Heap) : Prop := ∀ b o, bx ≠ some b → h.get? b = some o → h'.get? b = some o
theorem Keep.refl (bx : Option Addr) (h : Heap) : Keep bx h h := fun _ _ _ e => e
theorem Keep.trans {bx : Option Addr} {h h' h'' : Heap} (x : Keep bx h h') (y : Keep bx h' h'') : Keep bx h h'' := fun b o n e => y b o n (x b o n e)
theorem Keep.all {bx : Option Addr} {h h' : Heap} (k : ∀ b o, h.get? b = some o → h'.get? b = some o) : Keep bx h h' := fun b o _ e => k b o e
theorem Keep.push {bx : Option Addr} {h : Heap} (o : Obj) : Keep bx h (h.push o) := fun _ _ _ e => Heap.get?_push_of_some o e

/-- what stands for the whole of the proof -/
structure Cx where
  prog : Program
  w : World
  K : Frag
  h₀ : Heap
  okK : K.In h₀
  mg : Str → Option Value
  mb : Str → Option Value
  ns : h₀.Ns mainGlobals mg
  nb : h₀.Ns builtinsNs mb
  bi : ∀ x : Str, x ≠ "__name__" → mb x = bootBuiltins x
  lim : h₀.NoLimit
  seer : h₀.NoSeer
  tree : prog.given.tree = none

/-- the part of a state that no frame owns -/
structure SOk (C : Cx) (X : Addr → Prop) (bx : Option Addr) (β : Bx) (h : Heap) : Prop where
  base : C.h₀.StaysIn h
  xnew : ∀ a, X a → C.h₀.get? a = none
  xlive : ∀ a, X a → ∃ o, h.get? a = some o
  box : BoxIs h X bx β

theorem SOk.step {C : Cx} {X : Addr → Prop} {bx : Option Addr} {β β' : Bx} {h h' : Heap} (S : SOk C X bx β h) (k : Keep bx h h') (B : BoxIs h' X bx β') : SOk C X bx β' h' where
  base := fun b o e => k b o (fun q => by
    have := S.xnew b (B b q).1
    rw [e] at this; cases this) (S.base b o e)
  xnew := S.xnew
  xlive := fun a xa => by
    by_cases q : bx = some a
    · obtain ⟨_, vs, ⟨o, e, _⟩, _⟩ := B a q
      exact ⟨o, e⟩
    · obtain ⟨o, e⟩ := S.xlive a xa
      exact ⟨o, k a o q e⟩
  box := B

theorem SOk.fresh {C : Cx} {X : Addr → Prop} {bx : Option Addr} {β : Bx} {h : Heap} (S : SOk C X bx β h) : ¬ X h.objs.size := fun q => by
  obtain ⟨o, e⟩ := S.xlive _ q
  exact absurd (Heap.lt_size e) (Nat.lt_irrefl _)

theorem Rep.keep {C : Cx} {X : Addr → Prop} {bx : Option Addr} {β : Bx} {h h' : Heap} {v : Value} {d : PyData} (S : SOk C X bx β h) (k : Keep bx h h') (r : Rep h X v d) : Rep h' X v d :=
  r.move fun b o nx e => ⟨k b o (fun q => nx (S.box b q).1) e, nx⟩
theorem RepAll.keep {C : Cx} {X : Addr → Prop} {bx : Option Addr} {β : Bx} {h h' : Heap} {vs : List Value} {ds : List PyData} (S : SOk C X bx β h) (k : Keep bx h h') (r : RepAll h X vs ds) : RepAll h' X vs ds :=
  r.move fun b o nx e => ⟨k b o (fun q => nx (S.box b q).1) e, nx⟩
theorem IsList.keepAt {h h' : Heap} {a : Addr} {its : Array Value} (x : h.IsList a its) (k : ∀ o, h.get? a = some o → h'.get? a = some o) : h'.IsList a its := let ⟨o, e, r⟩ := x; ⟨o, k o e, r⟩
theorem PRep.keep {C : Cx} {X : Addr → Prop} {bx : Option Addr} {β : Bx} {h h' : Heap} {v : Value} {p : PV} (S : SOk C X bx β h) (k : Keep bx h h') (r : PRep h X bx v p) : PRep h' X bx v p := by
  cases p with
  | d x => exact Rep.keep S k r
  | box => exact r
  | own xs =>
    obtain ⟨a, vs, e1, e2, e3, e4, e5⟩ := r
    exact ⟨a, vs, e1, e2, e3, IsList.keepAt e4 fun o e => k a o e3 e, RepAll.keep S k e5⟩
theorem BoxIs.keepAll {X : Addr → Prop} {bx : Option Addr} {β : Bx} {h h' : Heap} (B : BoxIs h X bx β) (k : ∀ b o, h.get? b = some o → h'.get? b = some o) : BoxIs h' X bx β := fun a q =>
  let ⟨xa, vs, hl, r⟩ := B a q; ⟨xa, vs, IsList.keepAt hl fun o e => k a o e, r.move fun b o nx e => ⟨k b o e, nx⟩⟩

inductive PReps (h : Heap) (X : Addr → Prop) (bx : Option Addr) : List Value → List PV → Prop
  | nil : PReps h X bx [] []
  | cons {v : Value} {vs : List Value} {p : PV} {ps : List PV} : PRep h X bx v p → PReps h X bx vs ps → PReps h X bx (v :: vs) (p :: ps)
theorem PReps.all {h : Heap} {X : Addr → Prop} {bx : Option Addr} : ∀ {vs : List Value} {xs : List PyData}, PReps h X bx vs (xs.map .d) → RepAll h X vs xs
  | _, [], .nil => .nil
  | _, _ :: _, .cons a r => .cons a r.all

/-! ## frames -/
structure Room (A : Around) (k : Nat) : Prop where
  hh : A.handled = none
  dp : A.depth + k + 200 < recursionLimit
  un : A.units + 8 * k + 80 < cLine
  fr : ∃ env l, A.frames = some (env :: l) ∧ env.scope.isGenerator = false ∧ env.scope.isCoroutine = false ∧ env.builtins = builtinsNs ∧ env.globals = mainGlobals

theorem Room.le {A : Around} {k j : Nat} (R : Room A k) (h : j ≤ k) : Room A j := ⟨R.hh, by have := R.dp; omega, by have := R.un; omega, R.fr⟩

theorem Room.pylong {C : Cx} {A : Around} {k : Nat} (R : Room A k) {s : Shared} (b : C.h₀.StaysIn s.heap) : PylongRoom (model C.prog C.w) A s := by
  obtain ⟨env, l, h1, h2, h3, h4, h5⟩ := R.fr
  refine PylongRoom.of (C.lim.keeps b) ?_ (SeerAt.of (C.seer.keeps b) C.tree h1 h2 h3 h4 h5)
  have := R.dp
  have e : Builtin.pylongFrames = 100 := rfl
  omega

noncomputable def VarIs (h : Heap) (env : Env) (x : Str) (v : Value) : Prop :=
  (env.kindOf x = some .local ∧ ∃ m, h.Ns env.locals m ∧ m x = some v) ∨
  ((env.kindOf x = some .cell ∨ env.kindOf x = some .free) ∧ ∃ c, env.cells.lookup x = some c ∧ h.IsCell c (some v))

theorem VarIs.keep {C : Cx} {X : Addr → Prop} {bx : Option Addr} {β : Bx} {h h' : Heap} {env : Env} {x : Str} {v : Value} (S : SOk C X bx β h) (k : Keep bx h h') (r : VarIs h env x v) : VarIs h' env x v := by
  rcases r with ⟨h1, m, hn, hm⟩ | ⟨h1, c, hc, o, ho, hd⟩
  · refine .inl ⟨h1, m, ?_, hm⟩
    obtain ⟨o, es, ep, ho, hd, r⟩ := hn
    refine ⟨o, es, ep, k _ o (fun q => ?_) ho, hd, r⟩
    obtain ⟨_, vs, ⟨o', e', _, n, d'⟩, _⟩ := S.box _ q
    rw [ho] at e'; cases e'; rw [hd] at d'; cases d'
  · refine .inr ⟨h1, c, hc, o, k _ o (fun q => ?_) ho, hd⟩
    obtain ⟨_, vs, ⟨o', e', _, n, d'⟩, _⟩ := S.box _ q
    rw [ho] at e'; cases e'; rw [hd] at d'; cases d'

structure EnvOk (names : List (Str × NameKind)) (env : Env) : Prop where
  kind : env.scope.kind = .function
  glob : env.globals = mainGlobals
  bi : env.builtins = builtinsNs
  gl : ∀ x, names.lookup x = some .globalImplicit → env.kindOf x = some .globalImplicit
  cl : ∀ x, names.lookup x = some .cell → env.kindOf x = some .cell

structure EOk (C : Cx) (X : Addr → Prop) (bx : Option Addr) (β : Bx) (names : List (Str × NameKind)) (ρ : PEnv) (env : Env) (h : Heap) : Prop extends SOk C X bx β h where
  eok : EnvOk names env
  vars : ∀ x p, ρ.lookup x = some p → ∃ v, VarIs h env x v ∧ PRep h X bx v p

theorem EOk.step {C : Cx} {X : Addr → Prop} {bx : Option Addr} {β β' : Bx} {names : List (Str × NameKind)} {ρ : PEnv} {env : Env} {h h' : Heap} (S : EOk C X bx β names ρ env h) (k : Keep bx h h') (B : BoxIs h' X bx β') :
    EOk C X bx β' names ρ env h' where
  toSOk := S.toSOk.step k B
  eok := S.eok
  vars := fun x p e => let ⟨v, a, b⟩ := S.vars x p e; ⟨v, a.keep S.toSOk k, b.keep S.toSOk k⟩

/-! ## judgements -/
noncomputable abbrev Names := List (Str × NameKind)

/-- an expression: every value that may come is in Q -/
noncomputable def WE (C : Cx) (k : Nat) (ns : Names) (e : Expr) (ρ : PEnv) (β : Bx) (Q : PV → Bx → Prop) : Prop :=
  ∀ (A : Around) (s : Shared) (env : Env) (X : Addr → Prop) (bx : Option Addr) (P : Value → Shared → Prop) (E : Value → Shared → Prop), Room A k → EOk C X bx β ns ρ env s.heap →
    (∀ v h' tk p β', Q p β' → Keep bx s.heap h' → BoxIs h' X bx β' → PRep h' X bx v p → P v { s with heap := h', toks := tk }) →
    wpAny (model C.prog C.w) A (eval e env) P E s

/-- a list of expressions -/
noncomputable def WEs (C : Cx) (k : Nat) (ns : Names) (es : List Expr) (ρ : PEnv) (β : Bx) (Q : List PV → Bx → Prop) : Prop :=
  ∀ (A : Around) (s : Shared) (env : Env) (X : Addr → Prop) (bx : Option Addr) (pos : Pos) (P : List Value → Shared → Prop) (E : Value → Shared → Prop), Room A k → EOk C X bx β ns ρ env s.heap →
    (∀ vs h' tk ps β', Q ps β' → Keep bx s.heap h' → BoxIs h' X bx β' → PReps h' X bx vs ps → P vs { s with heap := h', toks := tk }) →
    wpAny (model C.prog C.w) A (spliced (backTo pos (starEach es env))) P E s

/-- a tree over values -/
noncomputable def WV (C : Cx) (k : Nat) (t : List Value → Sem Value) (ps : List PV) (β : Bx) (Q : PV → Bx → Prop) : Prop :=
  ∀ (A : Around) (s : Shared) (X : Addr → Prop) (bx : Option Addr) (vs : List Value) (P : Value → Shared → Prop) (E : Value → Shared → Prop), Room A k → SOk C X bx β s.heap → PReps s.heap X bx vs ps →
    (∀ v h' tk p β', Q p β' → Keep bx s.heap h' → BoxIs h' X bx β' → PRep h' X bx v p → P v { s with heap := h', toks := tk }) →
    wpAny (model C.prog C.w) A (t vs) P E s

noncomputable def two (t : Value → Value → Sem Value) : List Value → Sem Value
  | [x, y] => t x y
  | _ => pure .none
noncomputable def one (t : Value → Sem Value) : List Value → Sem Value
  | [x] => t x
  | _ => pure .none

/-- a test -/
noncomputable def WT (C : Cx) (k : Nat) (ns : Names) (e : Expr) (ρ : PEnv) (β : Bx) (Q : Bool → Bx → Prop) : Prop :=
  ∀ (A : Around) (s : Shared) (env : Env) (X : Addr → Prop) (bx : Option Addr) (whole : Sem Value) (P : Bool → Shared → Prop) (E : Value → Shared → Prop), Room A k → EOk C X bx β ns ρ env s.heap →
    (∀ b h' tk β', Q b β' → Keep bx s.heap h' → BoxIs h' X bx β' → P b { s with heap := h', toks := tk }) →
    wpAny (model C.prog C.w) A (isTrue e env whole) P E s

/-- a function of the program: what it gives back for these arguments -/
noncomputable def CallR (C : Cx) (k : Nat) (f : Addr) (ps : List PV) (β : Bx) (d : PyData) (β' : Bx) : Prop :=
  WV C k (fun vs => call (.ref f) vs) ps β (fun p β₁ => p = .d d ∧ β₁ = β')

section
variable {C : Cx} {k : Nat} {ns : Names} {ρ : PEnv} {β : Bx} {Q : PV → Bx → Prop}

theorem WE.mono {e : Expr} {Q' : PV → Bx → Prop} (h : WE C k ns e ρ β Q) (m : ∀ p β', Q p β' → Q' p β') : WE C k ns e ρ β Q' :=
  fun A s env X bx P E R S c => h A s env X bx P E R S fun v h' tk p β' q => c v h' tk p β' (m p β' q)
theorem WV.mono {t : List Value → Sem Value} {ps : List PV} {Q' : PV → Bx → Prop} (h : WV C k t ps β Q) (m : ∀ p β', Q p β' → Q' p β') : WV C k t ps β Q' :=
  fun A s X bx vs P E R S a c => h A s X bx vs P E R S a fun v h' tk p β' q => c v h' tk p β' (m p β' q)
theorem WV.le {t : List Value → Sem Value} {ps : List PV} {j : Nat} (h : WV C j t ps β Q) (m : j ≤ k) : WV C k t ps β Q :=
  fun A s X bx vs P E R S a c => h A s X bx vs P E (R.le m) S a c

/-! ### constants and names -/
theorem e_int {i : Int} {kd : Nat} {pos : Pos} (h : Q (.d (.int i)) β) : WE C k ns (.Constant (.int i) kd pos) ρ β Q :=
  fun _ s _ _ _ _ _ _ S c => wpAny_Constant_int (c _ s.heap _ _ _ h (Keep.refl _ _) S.box (.int i _))
theorem e_str {x : Str} {kd : Nat} {pos : Pos} (h : Q (.d (.str x)) β) : WE C k ns (.Constant (.str x) kd pos) ρ β Q :=
  fun _ s _ _ _ _ _ _ S c => wpAny_Constant_str (c _ s.heap _ _ _ h (Keep.refl _ _) S.box (.str x _))
theorem e_none {kd : Nat} {pos : Pos} (h : Q (.d .none) β) : WE C k ns (.Constant .none kd pos) ρ β Q :=
  fun _ s _ _ _ _ _ _ S c => wpAny_Constant_none (c _ s.heap s.toks _ _ h (Keep.refl _ _) S.box .none)
noncomputable def okName (x : Str) : Bool := !(x == ("__debug__" : Str)) && !(x == ("__classdict__" : Str))

theorem load_var {A : Around} {s : Shared} {env : Env} {x : Str} {v : Value} {M : Model} {pos : Pos} {P : Value → Shared → Prop} {E : Value → Shared → Prop} (hk : env.scope.kind = .function) (ok : okName x = true) (hv : VarIs s.heap env x v) (h : P v s) :
    wpAny M A (eval (.Name x pos) env) P E s := by
  unfold okName at ok
  simp only [Bool.and_eq_true, Bool.not_eq_true'] at ok
  refine wpAny_Name ?_ ok.1
  rcases hv with ⟨h1, m, hn, hm⟩ | ⟨h1 | h1, c, hc, hd⟩
  · exact wpAny_loadName_local hk h1 hn hm h
  · exact wpAny_loadName_cell hk h1 hc hd h
  · exact wpAny_loadName_free hk h1 hc hd h ok.2

theorem e_var {x : Str} {pos : Pos} {p : PV} (hl : ρ.lookup x = some p) (ok : okName x = true) (h : Q p β) : WE C k ns (.Name x pos) ρ β Q :=
  fun _ s _ _ _ _ _ _ S c => by
    obtain ⟨v, hv, hr⟩ := S.vars x p hl
    exact load_var S.eok.kind ok hv (c v s.heap s.toks p β h (Keep.refl _ _) S.box hr)

/-- a name of the top that bears data -/
noncomputable def GlobD (C : Cx) (x : Str) (d : PyData) : Prop := ∃ v, nsIn C.K mainGlobals x = some (some v) ∧ ∀ (h : Heap) (X : Addr → Prop), C.h₀.StaysIn h → (∀ a, X a → C.h₀.get? a = none) → Rep h X v d

theorem e_glob {x : Str} {pos : Pos} {d : PyData} (hl : ns.lookup x = some .globalImplicit) (g : GlobD C x d) (ok : okName x = true) (h : Q (.d d) β) : WE C k ns (.Name x pos) ρ β Q :=
  fun A s env X bx P E R S c => by
    obtain ⟨v, hv, hr⟩ := g
    unfold okName at ok
    simp only [Bool.and_eq_true, Bool.not_eq_true'] at ok
    refine Name_function_global S.eok.kind (S.eok.gl x hl) (loadGlobal_global (mg := C.mg) ?_ (mg_of C.okK C.ns hv) ?_) ok.1
    · rw [S.eok.glob]; exact C.ns.keeps S.base
    · exact c v s.heap s.toks _ β h (Keep.refl _ _) S.box (hr _ _ S.base S.xnew)

/-! ### displays -/
theorem es_nil {Q : List PV → Bx → Prop} (h : Q [] β) : WEs C k ns [] ρ β Q :=
  fun _ s _ _ _ _ _ _ _ S c => spliced_none (c [] s.heap s.toks [] β h (Keep.refl _ _) S.box .nil)

theorem es_cons {e : Expr} {es : List Expr} {Q : List PV → Bx → Prop} (h : WE C k ns e ρ β fun p β₁ => WEs C k ns es ρ β₁ fun ps β₂ => Q (p :: ps) β₂)
    (he : ∀ env, starEach (e :: es) env = (false, eval e env) :: starEach es env := by intro _; rfl) : WEs C k ns (e :: es) ρ β Q :=
  fun A s env X bx pos P E R S c => by
    refine spliced_more (h A s env X bx _ E R S fun v h' tk p β₁ q k1 B1 r1 => ?_) (he env)
    refine q A _ env X bx pos _ E R (S.step k1 B1) fun vs h'' tk' ps β₂ q2 k2 B2 r2 => ?_
    exact c (v :: vs) h'' tk' (p :: ps) β₂ q2 (k1.trans k2) B2 (.cons (r1.keep (S.toSOk.step k1 B1) k2) r2)

theorem size_ok {n : Nat} (h : n ≤ 16384) : n ≤ sizeLine := Nat.le_trans h (by decide)

theorem new_list {X : Addr → Prop} {bx : Option Addr} {β : Bx} {A : Around} {s : Shared} {vs : List Value} {ds : List PyData} {M : Model} {P : Value → Shared → Prop} {E : Value → Shared → Prop} (S : SOk C X bx β s.heap) (r : RepAll s.heap X vs ds) (hz : ds.length ≤ 16384)
    (h : ∀ h', Keep bx s.heap h' → BoxIs h' X bx β → Rep h' X (.ref s.heap.objs.size) (.list ds) → P (.ref s.heap.objs.size) { s with heap := h' }) : wpAny M A (newList vs) P E s := by
  refine wpAny_newObj_type (h _ (Keep.push _) (S.box.keepAll fun b o e => Heap.get?_push_of_some _ e) ?_) (by show vs.toArray.size ≤ sizeLine; rw [List.size_toArray, r.length]; exact size_ok hz)
  exact .list ⟨_, Heap.get?_push_size _ rfl, rfl, 0, rfl⟩ S.fresh (r.keep S (Keep.push _))
theorem new_tuple {X : Addr → Prop} {bx : Option Addr} {β : Bx} {A : Around} {s : Shared} {vs : List Value} {ds : List PyData} {M : Model} {P : Value → Shared → Prop} {E : Value → Shared → Prop} (S : SOk C X bx β s.heap) (r : RepAll s.heap X vs ds) (hz : ds.length ≤ 16384)
    (h : ∀ h', Keep bx s.heap h' → BoxIs h' X bx β → Rep h' X (.ref s.heap.objs.size) (.tuple ds) → P (.ref s.heap.objs.size) { s with heap := h' }) : wpAny M A (newTuple vs) P E s := by
  refine wpAny_newObj_type (h _ (Keep.push _) (S.box.keepAll fun b o e => Heap.get?_push_of_some _ e) ?_) (by show vs.toArray.size ≤ sizeLine; rw [List.size_toArray, r.length]; exact size_ok hz)
  exact .tuple ⟨_, Heap.get?_push_size _ rfl, rfl, 0, rfl⟩ S.fresh (r.keep S (Keep.push _))

/-- what a display wants of its items -/
noncomputable def AllD (ps : List PV) (Q : List PyData → Prop) : Prop := ∃ xs, ps = xs.map PV.d ∧ xs.length ≤ 16384 ∧ Q xs

theorem e_tuple {es : List Expr} {kd : Nat} {pos : Pos} (h : WEs C k ns es ρ β fun ps β₁ => AllD ps fun xs => Q (.d (.tuple xs)) β₁) : WE C k ns (.Tuple es kd pos) ρ β Q :=
  fun A s env X bx P E R S c => by
    refine Tuple_ (h A s env X bx pos _ E R S fun vs h' tk ps β₁ q k1 B1 r1 => ?_)
    obtain ⟨xs, rfl, hz, q⟩ := q
    refine new_tuple (S.toSOk.step k1 B1) r1.all hz fun h'' k2 B2 r2 => ?_
    exact c _ h'' tk _ β₁ q (k1.trans k2) B2 r2
theorem e_list {es : List Expr} {pos : Pos} (h : WEs C k ns es ρ β fun ps β₁ => AllD ps fun xs => Q (.d (.list xs)) β₁) : WE C k ns (.List es pos) ρ β Q :=
  fun A s env X bx P E R S c => by
    refine List_ (h A s env X bx pos _ E R S fun vs h' tk ps β₁ q k1 B1 r1 => ?_)
    obtain ⟨xs, rfl, hz, q⟩ := q
    refine new_list (S.toSOk.step k1 B1) r1.all hz fun h'' k2 B2 r2 => ?_
    exact c _ h'' tk _ β₁ q (k1.trans k2) B2 r2

/-! ### operators -/
theorem e_bin {l r : Expr} {op : Operator} {pos : Pos} (h : WE C k ns l ρ β fun a β₁ => WE C k ns r ρ β₁ fun b β₂ => WV C k (two (binaryOp op)) [a, b] β₂ Q) : WE C k ns (.BinOp l op r pos) ρ β Q :=
  fun A s env X bx P E R S c => by
    refine wpAny_BinOp (h A s env X bx _ E R S fun va h' tk a β₁ q k1 B1 r1 => ?_)
    refine q A _ env X bx _ E R (S.step k1 B1) fun vb h'' tk' b β₂ q2 k2 B2 r2 => ?_
    refine q2 A { s with heap := h'', toks := tk' } X bx [va, vb] P E R ((S.toSOk.step k1 B1).step k2 B2) (.cons (r1.keep (S.toSOk.step k1 B1) k2) (.cons r2 .nil)) fun v h3 tk3 p β₃ q3 k3 B3 r3 => ?_
    exact c v h3 tk3 p β₃ q3 ((k1.trans k2).trans k3) B3 r3
theorem e_cmp {l r : Expr} {op : CmpOp} {pos : Pos} (h : WE C k ns l ρ β fun a β₁ => WE C k ns r ρ β₁ fun b β₂ => WV C k (two (compareOp op)) [a, b] β₂ Q)
    (hm : behindInMarks op r = false := by rfl) : WE C k ns (.Compare l [op] [r] pos) ρ β Q :=
  fun A s env X bx P E R S c => by
    refine wpAny_Compare1 (h A s env X bx _ E R S fun va h' tk a β₁ q k1 B1 r1 => ?_) hm
    refine q A _ env X bx _ E R (S.step k1 B1) fun vb h'' tk' b β₂ q2 k2 B2 r2 => ?_
    refine q2 A { s with heap := h'', toks := tk' } X bx [va, vb] P E R ((S.toSOk.step k1 B1).step k2 B2) (.cons (r1.keep (S.toSOk.step k1 B1) k2) (.cons r2 .nil)) fun v h3 tk3 p β₃ q3 k3 B3 r3 => ?_
    exact c v h3 tk3 p β₃ q3 ((k1.trans k2).trans k3) B3 r3
theorem t_cmp {l r : Expr} {op : CmpOp} {pos : Pos} {Q : Bool → Bx → Prop} (h : WE C k ns l ρ β fun a β₁ => WE C k ns r ρ β₁ fun b β₂ => WV C k (two (compareOp op)) [a, b] β₂ fun p β₃ => ∃ c, p = .d (.bool c) ∧ Q c β₃)
    (hm : behindInMarks op r = false := by rfl) : WT C k ns (.Compare l [op] [r] pos) ρ β Q :=
  fun A s env X bx whole P E R S c => by
    refine wpAny_isTrue_Compare1 (h A s env X bx _ E R S fun va h' tk a β₁ q k1 B1 r1 => ?_) hm
    refine q A _ env X bx _ E R (S.step k1 B1) fun vb h'' tk' b β₂ q2 k2 B2 r2 => ?_
    refine q2 A { s with heap := h'', toks := tk' } X bx [va, vb] _ E R ((S.toSOk.step k1 B1).step k2 B2) (.cons (r1.keep (S.toSOk.step k1 B1) k2) (.cons r2 .nil)) fun v h3 tk3 p β₃ q3 k3 B3 r3 => ?_
    obtain ⟨t, rfl, q3⟩ := q3
    cases r3
    exact wpAny_truthy_bool (c t h3 tk3 β₃ q3 ((k1.trans k2).trans k3) B3)
theorem t_and_nil {pos : Pos} {Q : Bool → Bx → Prop} (h : Q true β) : WT C k ns (.BoolOp .And [] pos) ρ β Q :=
  fun _ s _ _ _ _ _ _ _ S c => isTrue_and_nil (c true s.heap s.toks β h (Keep.refl _ _) S.box)
theorem t_and {x : Expr} {rest : List Expr} {pos : Pos} {Q : Bool → Bx → Prop} (h : WT C k ns x ρ β fun b β₁ => if b = true then WT C k ns (.BoolOp .And rest pos) ρ β₁ Q else Q false β₁) : WT C k ns (.BoolOp .And (x :: rest) pos) ρ β Q :=
  fun A s env X bx whole P E R S c => by
    refine isTrue_and (h A s env X bx _ _ E R S fun b h' tk β₁ q k1 B1 => ?_)
    cases b with
    | false => exact c false h' tk β₁ q k1 B1
    | true => exact q A _ env X bx whole P E R (S.step k1 B1) fun b2 h'' tk' β₂ q2 k2 B2 => c b2 h'' tk' β₂ q2 (k1.trans k2) B2
theorem e_if {test body orelse : Expr} {pos : Pos} (h : WT C k ns test ρ β fun b β₁ => if b = true then WE C k ns body ρ β₁ Q else WE C k ns orelse ρ β₁ Q) : WE C k ns (.IfExp test body orelse pos) ρ β Q :=
  fun A s env X bx P E R S c => by
    refine IfExp_ (h A s env X bx _ _ E R S fun b h' tk β₁ q k1 B1 => ?_)
    cases b with
    | true => exact q A { s with heap := h', toks := tk } env X bx P E R (S.step k1 B1) fun v h'' tk' p β₂ q2 k2 B2 r2 => c v h'' tk' p β₂ q2 (k1.trans k2) B2 r2
    | false => exact q A { s with heap := h', toks := tk } env X bx P E R (S.step k1 B1) fun v h'' tk' p β₂ q2 k2 B2 r2 => c v h'' tk' p β₂ q2 (k1.trans k2) B2 r2
end
end Mine
namespace Mine
set_option maxHeartbeats 200000
section
variable {C : Cx} {k : Nat} {ns : Names} {ρ : PEnv} {β : Bx} {Q : PV → Bx → Prop}

theorem v2 {t : Value → Value → Sem Value} {a b : PV}
    (h : ∀ (A : Around) (s : Shared) (X : Addr → Prop) (bx : Option Addr) (va vb : Value) (P : Value → Shared → Prop) (E : Value → Shared → Prop), Room A k → SOk C X bx β s.heap → PRep s.heap X bx va a → PRep s.heap X bx vb b →
      (∀ v h' tk p β', Q p β' → Keep bx s.heap h' → BoxIs h' X bx β' → PRep h' X bx v p → P v { s with heap := h', toks := tk }) → wpAny (model C.prog C.w) A (t va vb) P E s) : WV C k (two t) [a, b] β Q := by
  intro A s X bx vs P E R S r c
  cases r with
  | cons ra r =>
    cases r with
    | cons rb r => cases r; exact h A s X bx _ _ P E R S ra rb c
theorem v1 {t : Value → Sem Value} {a : PV}
    (h : ∀ (A : Around) (s : Shared) (X : Addr → Prop) (bx : Option Addr) (va : Value) (P : Value → Shared → Prop) (E : Value → Shared → Prop), Room A k → SOk C X bx β s.heap → PRep s.heap X bx va a →
      (∀ v h' tk p β', Q p β' → Keep bx s.heap h' → BoxIs h' X bx β' → PRep h' X bx v p → P v { s with heap := h', toks := tk }) → wpAny (model C.prog C.w) A (t va) P E s) : WV C k (one t) [a] β Q := by
  intro A s X bx vs P E R S r c
  cases r with
  | cons ra r => cases r; exact h A s X bx _ P E R S ra c

/-! ### ints -/
theorem b_add {a b : Int} (h : Q (.d (.int (a + b))) β) : WV C k (two (binaryOp .Add)) [.d (.int a), .d (.int b)] β Q :=
  v2 fun A s X bx va vb P E R S ra rb c => by
    cases ra; cases rb
    exact PyProof.Rows.add_int (c _ s.heap _ _ _ h (Keep.refl _ _) S.box (.int _ _))
theorem b_sub {a b : Int} (h : Q (.d (.int (a - b))) β) : WV C k (two (binaryOp .Sub)) [.d (.int a), .d (.int b)] β Q :=
  v2 fun A s X bx va vb P E R S ra rb c => by
    cases ra; cases rb
    exact PyProof.Rows.sub_int (c _ s.heap _ _ _ h (Keep.refl _ _) S.box (.int _ _))
theorem b_mul {a b : Int} (hm : IntMulOk a b) (h : Q (.d (.int (a * b))) β) : WV C k (two (binaryOp .Mult)) [.d (.int a), .d (.int b)] β Q :=
  v2 fun A s X bx va vb P E R S ra rb c => by
    cases ra; cases rb
    exact PyProof.Rows.mul_int (c _ s.heap _ _ _ h (Keep.refl _ _) S.box (.int _ _)) hm
theorem b_div {a b : Int} (hb : b ≠ 0) (h : Q (.d (.int (a.fdiv b))) β) : WV C k (two (binaryOp .FloorDiv)) [.d (.int a), .d (.int b)] β Q :=
  v2 fun A s X bx va vb P E R S ra rb c => by
    cases ra; cases rb
    exact floordiv_int hb (c _ s.heap _ _ _ h (Keep.refl _ _) S.box (.int _ _)) (.inr (R.pylong S.base))
theorem b_mod {a b : Int} (hb : b ≠ 0) (h : Q (.d (.int (a.fmod b))) β) : WV C k (two (binaryOp .Mod)) [.d (.int a), .d (.int b)] β Q :=
  v2 fun A s X bx va vb P E R S ra rb c => by
    cases ra; cases rb
    exact mod_int' hb (c _ s.heap _ _ _ h (Keep.refl _ _) S.box (.int _ _))
theorem b_pow {a b : Int} (h0 : 0 ≤ b) (h1 : b ≤ 1000000) (h2 : a.natAbs < 2 ^ 64) (h : Q (.d (.int (a ^ b.toNat))) β) : WV C k (two (binaryOp .Pow)) [.d (.int a), .d (.int b)] β Q :=
  v2 fun A s X bx va vb P E R S ra rb c => by
    cases ra; cases rb
    exact pow_int_small h0 h1 h2 (c _ s.heap _ _ _ h (Keep.refl _ _) S.box (.int _ _))
theorem b_lt {a b : Int} (h : Q (.d (.bool (decide (a < b)))) β) : WV C k (two (compareOp .Lt)) [.d (.int a), .d (.int b)] β Q :=
  v2 fun A s X bx va vb P E R S ra rb c => by
    cases ra; cases rb
    exact PyProof.Rows.lt_int (c _ s.heap s.toks _ _ h (Keep.refl _ _) S.box (.bool _))
theorem b_le {a b : Int} (h : Q (.d (.bool (decide (a ≤ b)))) β) : WV C k (two (compareOp .LtE)) [.d (.int a), .d (.int b)] β Q :=
  v2 fun A s X bx va vb P E R S ra rb c => by
    cases ra; cases rb
    exact PyProof.Rows.le_int (c _ s.heap s.toks _ _ h (Keep.refl _ _) S.box (.bool _))
theorem b_gt {a b : Int} (h : Q (.d (.bool (decide (b < a)))) β) : WV C k (two (compareOp .Gt)) [.d (.int a), .d (.int b)] β Q :=
  v2 fun A s X bx va vb P E R S ra rb c => by
    cases ra; cases rb
    exact PyProof.Rows.gt_int (c _ s.heap s.toks _ _ h (Keep.refl _ _) S.box (.bool _))
theorem b_ge {a b : Int} (h : Q (.d (.bool (decide (b ≤ a)))) β) : WV C k (two (compareOp .GtE)) [.d (.int a), .d (.int b)] β Q :=
  v2 fun A s X bx va vb P E R S ra rb c => by
    cases ra; cases rb
    exact PyProof.Rows.ge_int (c _ s.heap s.toks _ _ h (Keep.refl _ _) S.box (.bool _))
/-- data compared: of a make that PyData.eqv tells -/
theorem b_eq {a b : PyData} (sa : SeqAt.shaped a = true) (sb : SeqAt.shaped b = true) (h : Q (.d (.bool (a.eqv b))) β) : WV C k (two (compareOp .Eq)) [.d a, .d b] β Q :=
  v2 fun A s X bx va vb P E R S ra rb c => by
    obtain ⟨as, ra⟩ := Rep.reads ra
    obtain ⟨bs, rb⟩ := Rep.reads rb
    exact eq_dataH ra rb sa sb (by have := R.un; omega) (c _ s.heap s.toks _ _ h (Keep.refl _ _) S.box (.bool _))
theorem b_ne {a b : PyData} (sa : SeqAt.shaped a = true) (sb : SeqAt.shaped b = true) (h : Q (.d (.bool (!a.eqv b))) β) : WV C k (two (compareOp .NotEq)) [.d a, .d b] β Q :=
  v2 fun A s X bx va vb P E R S ra rb c => by
    obtain ⟨as, ra⟩ := Rep.reads ra
    obtain ⟨bs, rb⟩ := Rep.reads rb
    exact ne_dataH ra rb sa sb (by have := R.un; omega) (c _ s.heap s.toks _ _ h (Keep.refl _ _) S.box (.bool _))
noncomputable def isN : PyData → Bool
  | .none => true
  | _ => false
theorem b_isNone {a : PyData} (h : Q (.d (.bool (isN a))) β) : WV C k (two (compareOp .Is)) [.d a, .d .none] β Q :=
  v2 fun A s X bx va vb P E R S ra rb c => by
    cases rb
    refine is_none_gen ?_
    have e : (va == Value.none) = isN a := by cases ra <;> rfl
    rw [e]
    exact c _ s.heap s.toks _ _ h (Keep.refl _ _) S.box (.bool _)
theorem reps_strs {h : Heap} {X : Addr → Prop} : ∀ {vs : List Value} {ys : List Str}, RepAll h X vs (ys.map .str) → StrsAre vs ys
  | _, [], r => by
    obtain rfl := RepAll.inv_nil r
    exact .nil
  | _, y :: ys, r => by
    obtain ⟨v, ws, rfl, a, r2⟩ := RepAll.inv_cons r
    obtain ⟨t, rfl⟩ := a.inv_str
    exact .cons _ _ (reps_strs r2)
theorem b_notIn {x : Str} {ys : List Str} (h : Q (.d (.bool (!(ys.any (· == x))))) β) : WV C k (two (compareOp .NotIn)) [.d (.str x), .d (.tuple (ys.map .str))] β Q :=
  v2 fun A s X bx va vb P E R S ra rb c => by
    cases ra
    cases rb with
    | tuple ht nx ra => exact notin_tuple_strs ht (by simpa using reps_strs ra) (c _ s.heap s.toks _ _ h (Keep.refl _ _) S.box (.bool _))
theorem b_neg {a : Int} (h : Q (.d (.int (-a))) β) : WV C k (one (unaryOp .USub)) [.d (.int a)] β Q :=
  v1 fun A s X bx va P E R S ra c => by
    cases ra
    exact PyProof.Rows.neg_int (c _ s.heap _ _ _ h (Keep.refl _ _) S.box (.int _ _))
theorem e_un {x : Expr} {op : UnaryOp} {pos : Pos} (h : WE C k ns x ρ β fun a β₁ => WV C k (one (unaryOp op)) [a] β₁ Q) : WE C k ns (.UnaryOp op x pos) ρ β Q :=
  fun A s env X bx P E R S c => by
    refine UnaryOp_ (h A s env X bx _ E R S fun va h' tk a β₁ q k1 B1 r1 => ?_)
    exact q A { s with heap := h', toks := tk } X bx [va] P E R (S.toSOk.step k1 B1) (.cons r1 .nil) fun v h3 tk3 p β₃ q3 k3 B3 r3 => c v h3 tk3 p β₃ q3 (k1.trans k3) B3 r3

/-! ### texts and lists -/
theorem b_cat {x y : Str} (hz : x.length + y.length ≤ 16384) (h : Q (.d (.str (x ++ y))) β) : WV C k (two (binaryOp .Add)) [.d (.str x), .d (.str y)] β Q :=
  v2 fun A s X bx va vb P E R S ra rb c => by
    cases ra; cases rb
    exact PyProof.Rows.add_str (fun t' tk => c _ s.heap tk _ _ h (Keep.refl _ _) S.box (.str _ _)) (size_ok hz)
theorem b_join {xs ys : List PyData} (hz : xs.length + ys.length ≤ 16384) (h : Q (.d (.list (xs ++ ys))) β) : WV C k (two (binaryOp .Add)) [.d (.list xs), .d (.list ys)] β Q :=
  v2 fun A s X bx va vb P E R S ra rb c => by
    refine Rep.list_of ra fun aa0 vs eq0 ha na pa => ?_
    subst eq0
    · skip
      refine Rep.list_of rb fun aa1 ws eq1 hb nb pb => ?_
      subst eq1
      · obtain ⟨⟨cls, dd, data, sl⟩, ho, hc, n, hd⟩ := id ha
        obtain ⟨⟨cls2, dd2, data2, sl2⟩, ho2, hc2, n2, hd2⟩ := id hb
        simp only at hc hd hc2 hd2
        subst hc hd hc2 hd2
        have e : vs.toArray ++ ws.toArray = (vs ++ ws).toArray := by simp
        refine concat_meets ⟨_, ho, rfl⟩ ⟨_, ho2, rfl⟩ noFill_list_add seq_list_add PySem.F.slot_list_add PySem.F.entry_list_add (PySem.F.args_list_add_2 _ _)
          (list_addW _ _ vs.toArray ws.toArray n n2 dd dd2 sl sl2 (by simp only [List.size_toArray]; rw [pa.length, pb.length]; exact size_ok hz)) ⟨ho, ho2, ?_⟩
        rw [e]
        refine c _ _ s.toks _ _ h (Keep.push _) (S.box.keepAll fun b o e => Heap.get?_push_of_some _ e) ?_
        exact .list ⟨_, Heap.get?_push_size _ rfl, rfl, 0, rfl⟩ S.fresh ((pa.append pb).keep S (Keep.push _))

/-- an item by its place -/
noncomputable def ItemD (o : PV) (β : Bx) : Option (List PyData) := match o with
  | .d (.tuple xs) => some xs
  | .d (.list xs) => some xs
  | .own xs => some xs
  | .box => some β
  | _ => none

theorem get_item {A : Around} {s : Shared} {X : Addr → Prop} {bx : Option Addr} {vo vi : Value} {o : PV} {i : Int} {xs : List PyData} {r : PyData} {P : Value → Shared → Prop} {E : Value → Shared → Prop} (S : SOk C X bx β s.heap) (ro : PRep s.heap X bx vo o)
    (ri : PRep s.heap X bx vi (.d (.int i))) (hx : ItemD o β = some xs) (h0 : 0 ≤ i) (h1 : i < 2 ^ 62) (hr : xs[i.toNat]? = some r) {value slice : Expr} (hs : ∀ o i, subscripted slice false o i = operate [o, i] (getItem o i)) (h : ∀ v, Rep s.heap X v r → P v s) :
    wpAny (model C.prog C.w) A (subscriptTail value slice vo vi) P E s := by
  refine Rep.int_of ri fun t eq2 => ?_
  subst eq2
  · have lst : ∀ (a : Addr) (vs : List Value), s.heap.IsList a vs.toArray → RepAll s.heap X vs xs → wpAny (model C.prog C.w) A (subscriptTail value slice (.ref a) (.int i t)) P E s := fun a vs hl hr' => by
      obtain ⟨v, hv, rv⟩ := hr'.get hr
      exact tail_any hl.typeIs slot_list_getitem.lookup (wpAny_getItem_list hl h0 (by omega) (by simpa using hv) (h v rv)) (hs _ _)
    cases o with
    | own ys =>
      obtain ⟨a, vs, rfl, _, _, hl, hr'⟩ := ro
      cases hx
      exact lst a vs hl hr'
    | box =>
      obtain ⟨a, q, rfl⟩ := ro
      cases hx
      obtain ⟨_, vs, hl, hr'⟩ := S.box a q
      exact lst a vs hl hr'
    | d o =>
      cases ro with
      | list hl _ hr' => cases hx; exact lst _ _ hl hr'
      | tuple ht _ hr' =>
        cases hx
        obtain ⟨v, hv, rv⟩ := hr'.get hr
        have hlt : i.toNat < xs.length := (List.getElem?_eq_some_iff.mp hr).1
        refine tail_any ht.typeIs slot_tuple_getitem.lookup (PyProof.Rows.getItem_tuple (j := i.toNat) ht (by omega) (by omega) ?_ (by simpa using hv) (h v rv)) (hs _ _)
        have hz := hr'.length
        rw [List.size_toArray]
        unfold seqIndex?
        simp only
        rw [if_neg (show ¬ i < 0 by omega), if_pos (by simp; omega)]
      | _ => cases hx

theorem e_sub {v i : Expr} {pos : Pos} (h : WE C k ns v ρ β fun o β₁ => WE C k ns i ρ β₁ fun ix β₂ => ∃ n xs r, ix = .d (.int n) ∧ ItemD o β₂ = some xs ∧ 0 ≤ n ∧ n < 2 ^ 62 ∧ xs[n.toNat]? = some r ∧ Q (.d r) β₂)
    (hs : ∀ o j, subscripted i false o j = operate [o, j] (getItem o j) := by intro _ _; rfl) : WE C k ns (.Subscript v i pos) ρ β Q :=
  fun A s env X bx P E R S c => by
    refine Subscript_ (h A s env X bx _ E R S fun vo h' tk o β₁ q k1 B1 r1 => ?_)
    refine q A { s with heap := h', toks := tk } env X bx _ E R (S.step k1 B1) fun vi h'' tk' ix β₂ q2 k2 B2 r2 => ?_
    obtain ⟨n, xs, r, rfl, hx, h0, h1, hr, q2⟩ := q2
    have S2 := (S.toSOk.step k1 B1).step k2 B2
    exact get_item (s := { s with heap := h'', toks := tk' }) S2 (r1.keep (S.toSOk.step k1 B1) k2) r2 hx h0 h1 hr hs fun v rv => c v h'' tk' _ β₂ q2 (k1.trans k2) B2 rv

/-! ### slices -/
theorem pick_to {its : Array Value} {n : Int} (h0 : 0 ≤ n) : (slicePick its none (some n) none).toList = its.toList.take n.toNat := by
  have e := kmk_pick_nat (lo := none) (hi := some n) its (a := 0) (b := min n.toNat its.size) (by
    unfold sliceBounds
    simp only [Option.getD]
    first | rfl | skip
    simp
    (repeat' split) <;> omega)
  rw [e]
  simp
theorem pick_from {its : Array Value} {n : Int} (h0 : 0 ≤ n) : (slicePick its (some n) none none).toList = its.toList.drop n.toNat := by
  have e := kmk_pick_nat (lo := some n) (hi := none) its (a := min n.toNat its.size) (b := its.size) (by
    unfold sliceBounds
    simp only [Option.getD]
    simp
    (repeat' split) <;> omega)
  rw [e]
  show List.take _ _ = _
  rcases Nat.le_total n.toNat its.size with q | q
  · rw [Nat.min_eq_left q]
    exact List.take_of_length_le (by simp)
  · rw [Nat.min_eq_right q, List.drop_of_length_le (l := its.toList) (i := n.toNat) (by simpa using q)]
    simp

theorem part_none {env : Env} {A : Around} {s : Shared} {M : Model} {P : Value → Shared → Prop} {E : Value → Shared → Prop} (h : P .none s) : wpAny M A (evalPart none env) P E s := wpAny_pure h

theorem slice_ends {its : Array Value} {zs : List PyData} {lo hi : Option Int} {X : Addr → Prop} {bx : Option Addr} {h0 : Heap} {vl vu : Value} (S : SOk C X bx β h0) (r : RepAll h0 X (slicePick its lo hi none).toList zs) {P : Value → Shared → Prop} {s : Shared} (e : s.heap = h0)
    (h : ∀ h', Keep bx s.heap h' → BoxIs h' X bx β → Rep h' X (.ref (s.heap.objs.size + 1)) (.list zs) → P (.ref (s.heap.objs.size + 1)) { s with heap := h' }) :
    P (.ref (s.heap.objs.size + 1)) { s with heap := (s.heap.push { cls := .type "slice", data := .fields #[vl, vu, .none] }).push { cls := .type "list", data := .seq (slicePick its lo hi none) } } := by
  subst e
  have k1 : ∀ b o, s.heap.get? b = some o → ((s.heap.push { cls := .type "slice", data := .fields #[vl, vu, .none] }).push { cls := .type "list", data := .seq (slicePick its lo hi none) }).get? b = some o := fun b o q => Heap.get?_push_of_some _ (Heap.get?_push_of_some _ q)
  refine h _ (Keep.all k1) (S.box.keepAll k1) (.list (vs := (slicePick its lo hi none).toList) ?_ ?_ (r.keep S (Keep.all k1)))
  · refine ⟨{ cls := .type "list", data := .seq (slicePick its lo hi none) }, ?_, rfl, 0, by simp⟩
    have q := Heap.get?_push_size (s.heap.push { cls := .type "slice", data := .fields #[vl, vu, .none] }) (o := { cls := .type "list", data := .seq (slicePick its lo hi none) }) rfl
    rw [Heap.size_push] at q
    exact q
  · intro q
    obtain ⟨o, e⟩ := S.xlive _ q
    exact absurd (Heap.lt_size e) (Nat.not_lt.mpr (Nat.le_succ _))

theorem e_upto {v u : Expr} {p pos : Pos} (h : WE C k ns v ρ β fun o β₁ => WE C k ns u ρ β₁ fun ux β₂ => ∃ xs n, o = .d (.list xs) ∧ ux = .d (.int n) ∧ 0 ≤ n ∧ xs.length ≤ 16384 ∧ Q (.d (.list (xs.take n.toNat))) β₂) :
    WE C k ns (.Subscript v (.Slice none (some u) none p) pos) ρ β Q :=
  fun A s env X bx P E R S c => by
    refine Subscript_ (h A s env X bx _ E R S fun vo h' tk o β₁ q k1 B1 r1 => ?_)
    refine wpAny_Slice (part_none ?_)
    refine q A { s with heap := h', toks := tk } env X bx _ E R (S.step k1 B1) fun vi h'' tk' ix β₂ q2 k2 B2 r2 => ?_
    refine part_none ?_
    obtain ⟨xs, n, rfl, rfl, h0, hz, q2⟩ := q2
    have S2 := (S.toSOk.step k1 B1).step k2 B2
    refine Rep.int_of r2 fun t eq3 => ?_
    subst eq3
    · have r1' := r1.keep (S.toSOk.step k1 B1) k2
      refine Rep.list_of r1' fun aa4 vv4 eq4 hl nx hr => ?_
      subst eq4
      · have kp : ∀ b o, h''.get? b = some o → (h''.push { cls := .type "slice", data := .fields #[.none, .int n t, .none] }).get? b = some o := fun b o q => Heap.get?_push_of_some _ q
        have hl' := IsList.keepAt hl fun o e => kp _ o e
        refine tail_any hl'.typeIs slot_list_getitem.lookup (wpAny_getItem_list_slice (l := _) (lo := none) (hi := some n) (st := none) hl' ⟨_, Heap.get?_push_size _ rfl, rfl, rfl⟩ .none (.int n t) .none (by simp) ?_ ?_) (ops := [_, _]) rfl
        · have := slice_ends (β := β₂) (bx := bx) (vl := .none) (vu := .int n t) (lo := none) (hi := some n) (zs := xs.take n.toNat) (s := { s with heap := h'', toks := tk' }) (P := P) S2 (by rw [pick_to h0]; simpa using hr.take n.toNat) rfl fun h3 k3 B3 r3 => c _ h3 tk' _ β₂ q2 ((k1.trans k2).trans k3) B3 r3
          simpa using this
        · rw [List.size_toArray, hr.length]; exact size_ok hz
theorem e_from {v u : Expr} {p pos : Pos} (h : WE C k ns v ρ β fun o β₁ => WE C k ns u ρ β₁ fun ux β₂ => ∃ xs n, o = .d (.list xs) ∧ ux = .d (.int n) ∧ 0 ≤ n ∧ xs.length ≤ 16384 ∧ Q (.d (.list (xs.drop n.toNat))) β₂) :
    WE C k ns (.Subscript v (.Slice (some u) none none p) pos) ρ β Q :=
  fun A s env X bx P E R S c => by
    refine Subscript_ (h A s env X bx _ E R S fun vo h' tk o β₁ q k1 B1 r1 => ?_)
    refine wpAny_Slice ?_
    refine q A { s with heap := h', toks := tk } env X bx _ E R (S.step k1 B1) fun vi h'' tk' ix β₂ q2 k2 B2 r2 => ?_
    refine part_none (part_none ?_)
    obtain ⟨xs, n, rfl, rfl, h0, hz, q2⟩ := q2
    have S2 := (S.toSOk.step k1 B1).step k2 B2
    refine Rep.int_of r2 fun t eq5 => ?_
    subst eq5
    · have r1' := r1.keep (S.toSOk.step k1 B1) k2
      refine Rep.list_of r1' fun aa6 vv6 eq6 hl nx hr => ?_
      subst eq6
      · have kp : ∀ b o, h''.get? b = some o → (h''.push { cls := .type "slice", data := .fields #[.int n t, .none, .none] }).get? b = some o := fun b o q => Heap.get?_push_of_some _ q
        have hl' := IsList.keepAt hl fun o e => kp _ o e
        refine tail_any hl'.typeIs slot_list_getitem.lookup (wpAny_getItem_list_slice (l := _) (lo := some n) (hi := none) (st := none) hl' ⟨_, Heap.get?_push_size _ rfl, rfl, rfl⟩ (.int n t) .none .none (by simp) ?_ ?_) (ops := [_, _]) rfl
        · have := slice_ends (β := β₂) (bx := bx) (vl := .int n t) (vu := .none) (lo := some n) (hi := none) (zs := xs.drop n.toNat) (s := { s with heap := h'', toks := tk' }) (P := P) S2 (by rw [pick_from h0]; simpa using hr.drop n.toNat) rfl fun h3 k3 B3 r3 => c _ h3 tk' _ β₂ q2 ((k1.trans k2).trans k3) B3 r3
          simpa using this
        · rw [List.size_toArray, hr.length]; exact size_ok hz

/-! ### [x] * n -/
theorem foldl_rep {α : Type} (x : α) : ∀ (n : Nat) (acc : Array α), List.foldl (fun a b => a ++ b) acc (List.replicate n #[x]) = acc ++ (List.replicate n x).toArray
  | 0, acc => by simp
  | n + 1, acc => by rw [List.replicate_succ, List.foldl_cons, foldl_rep x n, List.replicate_succ]; apply Array.ext'; simp

theorem e_mulList {e u : Expr} {lp pos : Pos} (h : WE C k ns e ρ β fun a β₁ => WE C k ns u ρ β₁ fun b β₂ => ∃ x n, a = .d x ∧ b = .d (.int n) ∧ -1000 ≤ n ∧ n ≤ 16384 ∧ Q (.d (.list (List.replicate n.toNat x))) β₂)
    (he : ∀ env, starEach [e] env = (false, eval e env) :: starEach [] env := by intro _; rfl) : WE C k ns (.BinOp (.List [e] lp) .Mult u pos) ρ β Q :=
  fun A s env X bx P E R S c => by
    refine wpAny_BinOp (List_ (spliced_more (h A s env X bx _ E R S fun va h' tk a β₁ q k1 B1 r1 => spliced_none ?_) (he env)))
    refine wpAny_newObj_type ?_ (size_ok (n := 1) (by decide))
    have S1 := S.step k1 B1
    have kp : ∀ b o, h'.get? b = some o → (h'.push { cls := .type "list", data := .seq ([va] : List Value).toArray }).get? b = some o := fun b o q => Heap.get?_push_of_some _ q
    refine q A { s with heap := h'.push { cls := .type "list", data := .seq ([va] : List Value).toArray }, toks := tk } env X bx _ E R (S1.step (Keep.all kp) (B1.keepAll kp)) fun vb h'' tk' b β₂ q2 k2 B2 r2 => ?_
    obtain ⟨x, n, rfl, rfl, h0, hz, q2⟩ := q2
    have S2 := (S1.toSOk.step (Keep.all kp) (B1.keepAll kp)).step k2 B2
    have fr : bx ≠ some h'.objs.size := fun q => S1.toSOk.fresh (B1 _ q).1
    have ho : h''.get? h'.objs.size = some { cls := .type "list", data := .seq ([va] : List Value).toArray } := k2 _ _ fr (Heap.get?_push_size _ rfl)
    have rx : Rep h'' X va x := Rep.keep (S1.toSOk.step (Keep.all kp) (B1.keepAll kp)) k2 (Rep.keep S1.toSOk (Keep.all kp) r1)
    refine Rep.int_of r2 fun t eq7 => ?_
    subst eq7
    · have kq : ∀ (o : Obj) b o', h''.get? b = some o' → (h''.push o).get? b = some o' := fun o b o' q => Heap.get?_push_of_some _ q
      refine wpAny_binaryOp_repeat_ref (T := "list") (U := "int") (by decide) ⟨_, ho, rfl⟩ (fun s' => typeIs_int s' n t) noFill_list_mul F.fills_int_mul F.slot_int_rmul repeat_list F.slot_int_index.lookup
        (call_meets F.slot_int_rmul (typeIs_int _ n t) F.entry_int_rmul (F.args_int_rmul_2 _ _) (int___rmul___int_list n t _ _ 0)
          ⟨ho, rfl, ⟨_, ho, rfl⟩, call_meets F.slot_list_mul ⟨_, ho, rfl⟩ F.entry_list_mul (F.args_list_mul_2 _ _)
            (AutoListH.list___mul___list_int_3 _ _ 0 n t (by simp [Builtin.List.listFitsIndex]; omega) (by simp; omega) (by simp [Builtin.List.listTooLong, sizeLine]; omega)) ⟨ho, ?_⟩⟩)
      have hf : List.foldl (fun x1 x2 => x1 ++ x2) #[] (List.replicate (if ([va] : List Value).toArray.isEmpty = true then 0 else n.toNat) ([va] : List Value).toArray) = (List.replicate n.toNat va).toArray := by
        have := foldl_rep va n.toNat #[]
        simpa using this
      rw [hf]
      refine c _ _ tk' _ β₂ q2 ((((k1.trans (Keep.all kp)).trans k2)).trans (Keep.push _)) (B2.keepAll (kq _)) (.list ⟨_, Heap.get?_push_size _ rfl, rfl, 0, rfl⟩ S2.fresh ?_)
      exact (RepAll.rep rx n.toNat).keep S2 (Keep.push _)
end
end Mine
namespace Mine
set_option maxHeartbeats 200000
section
variable {C : Cx} {k : Nat} {ns : Names} {ρ : PEnv} {β : Bx} {Q : PV → Bx → Prop}

noncomputable def isFun (K : Frag) (f : Addr) : Bool := match K.lookup f with
  | some ⟨_, _, .func _, _⟩ => true
  | _ => false

theorem load_glob {A : Around} {s : Shared} {env : Env} {x : Str} {v : Value} {pos : Pos} {M : Model} {P : Value → Shared → Prop} {E : Value → Shared → Prop} (S : C.h₀.StaysIn s.heap) (en : EnvOk ns env) (hl : ns.lookup x = some .globalImplicit) (hg : nsIn C.K mainGlobals x = some (some v)) (ok : okName x = true) (h : P v s) :
    wpAny M A (eval (.Name x pos) env) P E s := by
  unfold okName at ok
  simp only [Bool.and_eq_true, Bool.not_eq_true'] at ok
  refine Name_function_global en.kind (en.gl x hl) (loadGlobal_global (mg := C.mg) ?_ (mg_of C.okK C.ns hg) h) ok.1
  rw [en.glob]; exact C.ns.keeps S
theorem load_boot {A : Around} {s : Shared} {env : Env} {x : Str} {v : Value} {pos : Pos} {M : Model} {P : Value → Shared → Prop} {E : Value → Shared → Prop} (S : C.h₀.StaysIn s.heap) (en : EnvOk ns env) (hl : ns.lookup x = some .globalImplicit) (hg : nsIn C.K mainGlobals x = some none) (hb : bootBuiltins x = some v) (hn : x ≠ "__name__") (ok : okName x = true) (h : P v s) :
    wpAny M A (eval (.Name x pos) env) P E s := by
  unfold okName at ok
  simp only [Bool.and_eq_true, Bool.not_eq_true'] at ok
  refine Name_function_global en.kind (en.gl x hl) (loadGlobal_builtin (mg := C.mg) (mb := C.mb) ?_ (mg_none_of C.okK C.ns hg) ?_ ((C.bi x hn).trans hb) h) ok.1
  · rw [en.glob]; exact C.ns.keeps S
  · rw [en.bi]; exact C.nb.keeps S

theorem e_callB {x : Str} {np pos : Pos} {e : Expr} {es : List Expr} {id : String} (hl : ns.lookup x = some .globalImplicit) (hg : nsIn C.K mainGlobals x = some none) (hb : bootBuiltins x = some (.builtin id))
    (h : WEs C k ns (e :: es) ρ β fun ps β₁ => WV C k (fun vs => call (.builtin id) vs) ps β₁ Q) (hn : x ≠ "__name__" := by decide) (ok : okName x = true := by rfl)
    (he : ∀ env, starEach (e :: es) env = (false, eval e env) :: starEach es env := by intro _; rfl) (hp : ∀ env, ((backTo pos (starEach es env)).any (·.1)) = false := by intro _; rfl) : WE C k ns (.Call (.Name x np) (e :: es) [] pos) ρ β Q :=
  fun A s env X bx P E R S c => by
    refine Call_ (load_boot S.base S.eok hl hg hb hn ok ?_)
    refine PyProof.Rows.callWith_builtin1 (h A s env X bx pos _ E R S fun vs h' tk ps β₁ q k1 B1 r1 => ?_) (he env) (hp env)
    exact q A { s with heap := h', toks := tk } X bx vs P E R (S.toSOk.step k1 B1) r1 fun v h'' tk' p β₃ q2 k2 B2 r2 => c v h'' tk' _ _ q2 (k1.trans k2) B2 r2
theorem e_callT {x : Str} {np pos : Pos} {e : Expr} {es : List Expr} {T : String} (hl : ns.lookup x = some .globalImplicit) (hg : nsIn C.K mainGlobals x = some none) (hb : bootBuiltins x = some (.type T))
    (h : WEs C k ns (e :: es) ρ β fun ps β₁ => WV C k (fun vs => call (.type T) vs) ps β₁ Q) (hn : x ≠ "__name__" := by decide) (ok : okName x = true := by rfl)
    (he : ∀ env, starEach (e :: es) env = (false, eval e env) :: starEach es env := by intro _; rfl) (hp : ∀ env, ((backTo pos (starEach es env)).any (·.1)) = false := by intro _; rfl) : WE C k ns (.Call (.Name x np) (e :: es) [] pos) ρ β Q :=
  fun A s env X bx P E R S c => by
    refine Call_ (load_boot S.base S.eok hl hg hb hn ok ?_)
    refine PyProof.Rows.callWith_type1 (h A s env X bx pos _ E R S fun vs h' tk ps β₁ q k1 B1 r1 => ?_) (he env) (hp env)
    exact q A { s with heap := h', toks := tk } X bx vs P E R (S.toSOk.step k1 B1) r1 fun v h'' tk' p β₃ q2 k2 B2 r2 => c v h'' tk' _ _ q2 (k1.trans k2) B2 r2

/-! ### built-in functions -/
theorem n1 {t : List Value → Sem Value} {a : PV}
    (h : ∀ (A : Around) (s : Shared) (X : Addr → Prop) (bx : Option Addr) (va : Value) (P : Value → Shared → Prop) (E : Value → Shared → Prop), Room A k → SOk C X bx β s.heap → PRep s.heap X bx va a →
      (∀ v h' tk p β', Q p β' → Keep bx s.heap h' → BoxIs h' X bx β' → PRep h' X bx v p → P v { s with heap := h', toks := tk }) → wpAny (model C.prog C.w) A (t [va]) P E s) : WV C k t [a] β Q := by
  intro A s X bx vs P E R S r c
  cases r with
  | cons ra r => cases r; exact h A s X bx _ P E R S ra c
theorem n2 {t : List Value → Sem Value} {a b : PV}
    (h : ∀ (A : Around) (s : Shared) (X : Addr → Prop) (bx : Option Addr) (va vb : Value) (P : Value → Shared → Prop) (E : Value → Shared → Prop), Room A k → SOk C X bx β s.heap → PRep s.heap X bx va a → PRep s.heap X bx vb b →
      (∀ v h' tk p β', Q p β' → Keep bx s.heap h' → BoxIs h' X bx β' → PRep h' X bx v p → P v { s with heap := h', toks := tk }) → wpAny (model C.prog C.w) A (t [va, vb]) P E s) : WV C k t [a, b] β Q := by
  intro A s X bx vs P E R S r c
  cases r with
  | cons ra r =>
    cases r with
    | cons rb r => cases r; exact h A s X bx _ _ P E R S ra rb c

theorem n_len {xs : List PyData} {a : PyData} (ha : a = .list xs ∨ a = .tuple xs) (hz : xs.length ≤ 16384) (h : Q (.d (.int xs.length)) β) : WV C k (fun vs => call (.builtin "len") vs) [.d a] β Q :=
  n1 fun A s X bx va P E R S ra c => by
    rcases ha with rfl | rfl
    · cases ra with
      | list hl nx r =>
        have hz' := r.length
        refine PyProof.Rows.len_list hl (by rw [List.size_toArray, hz']; omega) ?_
        rw [List.size_toArray, hz']
        exact c _ s.heap _ _ _ h (Keep.refl _ _) S.box (.int _ _)
    · cases ra with
      | tuple hl nx r =>
        have hz' := r.length
        refine PyProof.Rows.len_tuple hl (by rw [List.size_toArray, hz']; omega) ?_
        rw [List.size_toArray, hz']
        exact c _ s.heap _ _ _ h (Keep.refl _ _) S.box (.int _ _)
theorem n_abs {a : Int} (h : Q (.d (.int a.natAbs)) β) : WV C k (fun vs => call (.builtin "abs") vs) [.d (.int a)] β Q :=
  n1 fun A s X bx va P E R S ra c => by
    cases ra
    refine call_abs_int fun u tk => ?_
    rw [show (if a < 0 then -a else a) = (a.natAbs : Int) by split <;> omega]
    exact c _ s.heap tk _ _ h (Keep.refl _ _) S.box (.int _ _)
theorem n_min {a b : Int} (h : Q (.d (.int (min a b))) β) : WV C k (fun vs => call (.builtin "min") vs) [.d (.int a), .d (.int b)] β Q :=
  n2 fun A s X bx va vb P E R S ra rb c => by
    cases ra; cases rb
    refine min_two_ints R.hh fun h' tk kp => ?_
    refine c _ h' tk _ _ h (Keep.all kp) (S.box.keepAll kp) ?_
    split
    · rw [Int.min_eq_right (by omega)]; exact .int _ _
    · rw [Int.min_eq_left (by omega)]; exact .int _ _
theorem n_max {a b : Int} (h : Q (.d (.int (max a b))) β) : WV C k (fun vs => call (.builtin "max") vs) [.d (.int a), .d (.int b)] β Q :=
  n2 fun A s X bx va vb P E R S ra rb c => by
    cases ra; cases rb
    refine max_two_ints R.hh fun h' tk kp => ?_
    refine c _ h' tk _ _ h (Keep.all kp) (S.box.keepAll kp) ?_
    split
    · rw [Int.max_eq_right (by omega)]; exact .int _ _
    · rw [Int.max_eq_left (by omega)]; exact .int _ _
theorem n_list {xs : List PyData} (hz : xs.length ≤ 16384) (h : Q (.d (.list xs)) β) : WV C k (fun vs => call (.type "list") vs) [.d (.list xs)] β Q :=
  n1 fun A s X bx va P E R S ra c => by
    cases ra with
    | list hl nx r =>
      obtain ⟨o, ho, hc, n, hd⟩ := hl
      refine call_list_seq _ (.inl rfl) ho hc hd (fun h' c' kp hn => ?_) (by rw [List.size_toArray, r.length]; exact size_ok hz)
      exact c _ h' s.toks _ _ h (Keep.all kp) (S.box.keepAll kp) (.list ⟨_, hn, rfl, c', rfl⟩ S.fresh (r.keep S (Keep.all kp)))
theorem n_tuple {xs : List PyData} (hz : xs.length ≤ 16384) (h : Q (.d (.tuple xs)) β) : WV C k (fun vs => call (.type "tuple") vs) [.d (.list xs)] β Q :=
  n1 fun A s X bx va P E R S ra c => by
    cases ra with
    | list hl nx r =>
      rename_i a vs
      refine call_tuple_list hl (fun h' kp => ?_) (by rw [List.size_toArray, r.length]; exact size_ok hz)
      have k1 : Keep bx s.heap (h'.push { cls := .type "tuple", data := .seq vs.toArray }) := Keep.all fun b o e => Heap.get?_push_of_some _ (kp b o e)
      refine c _ _ s.toks _ _ h k1 (S.box.keepAll fun b o e => Heap.get?_push_of_some _ (kp b o e)) (.tuple ⟨_, Heap.get?_push_size _ rfl, rfl, 0, rfl⟩ ?_ (r.keep S k1))
      intro q
      obtain ⟨o, e⟩ := S.xlive _ q
      exact absurd (Heap.lt_size (kp _ _ e)) (Nat.lt_irrefl _)

theorem boot_len : bootBuiltins "len" = some (.builtin "len") := by decide +kernel
theorem boot_abs : bootBuiltins "abs" = some (.builtin "abs") := by decide +kernel
theorem boot_min : bootBuiltins "min" = some (.builtin "min") := by decide +kernel
theorem boot_max : bootBuiltins "max" = some (.builtin "max") := by decide +kernel
theorem boot_sum : bootBuiltins "sum" = some (.builtin "sum") := by decide +kernel
theorem boot_list : bootBuiltins "list" = some (.type "list") := by decide +kernel
theorem boot_tuple : bootBuiltins "tuple" = some (.type "tuple") := by decide +kernel
theorem boot_range : bootBuiltins "range" = some (.type "range") := by decide +kernel
theorem boot_zip : bootBuiltins "zip" = some (.type "zip") := by decide +kernel
end
end Mine
namespace Mine
set_option maxHeartbeats 200000

/-! ## iteration -/
structure Trn (C : Cx) (A : Around) (target : Expr) (I : Addr) (fp wr : List Addr) (n : Nat) (Pr Md : Nat → Value → Heap → Prop) (St : Nat → Heap → Prop) : Prop extends KTurns C.prog C.w A target I fp wr n Pr Md St where
  self : ∀ (s : Shared) (Q : Value → Shared → Prop) (E : Value → Shared → Prop), St 0 s.heap → Q (.ref I) s → wpAny (model C.prog C.w) A (pyIter (.ref I)) Q E s
  live : ∀ i h, St i h → ∀ b ∈ wr, ∃ o, h.get? b = some o

noncomputable def ItmOk (target : Expr) (h : Heap) (Y : Addr → Prop) (v : Value) (d : PyData) : Prop := match target with
  | .Name _ _ => Rep h Y v d
  | .Tuple _ _ _ => ∃ T vals es, v = .ref T ∧ h.IsTuple T (vals : List Value).toArray ∧ d = .tuple es ∧ RepAll h Y vals es
  | _ => False

noncomputable def noFrame (o : Obj) : Bool := match o.data with
  | .dict .. => false
  | .cell _ => false
  | _ => true

theorem seqNF {o : Obj} (h : ∃ its n, o.data = .seq its n) : noFrame o = true := by
  obtain ⟨_, _, e⟩ := h
  unfold noFrame; rw [e]

/-- an iterator over these items: hs the heap ahead of it, h' the heap where it stands -/
noncomputable def ItOk (C : Cx) (A : Around) (target : Expr) (X : Addr → Prop) (bx : Option Addr) (β : Bx) (hs : Heap) (it : Value) (ds : List PyData) (h' : Heap) : Prop :=
  ∃ I fp wr Pr Md St hm, it = .ref I ∧ Trn C A target I fp wr ds.length Pr Md St ∧ St 0 h' ∧ SOk C X bx β hm ∧ Keep bx hs hm ∧ (∀ b o, hm.get? b = some o → h'.get? b = some o) ∧ (∀ b ∈ wr, hm.get? b = none) ∧ (∀ b ∈ fp, ∃ o, h'.get? b = some o ∧ noFrame o = true) ∧ (∀ b ∈ fp, ¬ X b) ∧
    ∀ (Y : Addr → Prop) (h : Heap), (∀ a, Y a → X a ∨ hm.get? a = none) → (∀ b o, ¬ Y b → hm.get? b = some o → noFrame o = true → h.get? b = some o) → ∀ i v d, Pr i v h → ds[i]? = some d → ItmOk target h Y v d

noncomputable def WI (C : Cx) (k : Nat) (ns : Names) (target e : Expr) (ρ : PEnv) (β : Bx) (Q : List PyData → Bx → Prop) : Prop :=
  ∀ (A : Around) (s : Shared) (env : Env) (X : Addr → Prop) (bx : Option Addr) (P : Value → Shared → Prop) (E : Value → Shared → Prop), Room A k → EOk C X bx β ns ρ env s.heap →
    (∀ it h' tk ds β', Q ds β' → Keep bx s.heap h' → BoxIs h' X bx β' → ItOk C A target X bx β' s.heap it ds h' → P it { s with heap := h', toks := tk }) →
    wpAny (model C.prog C.w) A (eval e env) (fun xv s₁ => wpAny (model C.prog C.w) A (pyIter xv) P E s₁) E s

section
variable {C : Cx} {A : Around}

theorem Trn.ofWalksName {x : Str} {px : Pos} {I : Addr} {fp wr : List Addr} {n : Nat} {P : Nat → Value → Prop} {St : Nat → Heap → Prop} (W : Walks C.prog C.w A I fp wr n P St) (live : ∀ i h, St i h → ∀ b ∈ wr, ∃ o, h.get? b = some o) :
    Trn C A (.Name x px) I fp wr n (fun i v _ => P i v) (fun i v h => P i v ∧ St (i + 1) h) St where
  toKTurns := KTurns.ofWalks W fun _ _ _ _ _ _ hq => wpAny_pure hq
  self := fun s Q E st hq => W.self 0 s Q E st hq
  live := live

theorem go_plain {elts : List Expr} {kd : Nat} {pos : Pos} {I : Addr} {v : Value} {s : Shared} {o : Obj} {T : String} {Q : Unit → Shared → Prop} {E : Value → Shared → Prop} (ho : s.heap.get? I = some o) (hc : o.cls = .type T)
    (hT : ["enumerate", "zip", "dict_itemiterator", "dict_reverseitemiterator", "odict_iterator", "itertools.zip_longest", "itertools.pairwise"].contains T = false) (h : Q () s) : wpAny (model C.prog C.w) A (letOwnedTupleGo (.Tuple elts kd pos) (.ref I) v) Q E s := by
  unfold letOwnedTupleGo
  cases v with
  | ref a =>
    refine wpAny_bind (wpAny_load ho ?_)
    rw [hc]
    cases hd : o.data with
    | fields vs =>
      simp only [hT, Bool.false_and, Bool.false_eq_true, if_false]
      exact wpAny_pure h
    | _ => exact wpAny_pure h
  | _ => exact wpAny_pure h

/-- over a list -/
theorem it_list {target : Expr} {ht : (∃ x p, target = .Name x p) ∨ ∃ a b c, target = .Tuple a b c} {X : Addr → Prop} {bx : Option Addr} {β : Bx} {k : Nat} (R : Room A k) {hs : Heap} {s₁ : Shared} {xs : List PyData} {vx : Value} {P : Value → Shared → Prop} {E : Value → Shared → Prop} (kp : Keep bx hs s₁.heap) (S : SOk C X bx β s₁.heap)
    (hx : Rep s₁.heap X vx (.list xs)) (hp : ∀ d ∈ xs, (∃ x p, target = .Name x p) ∨ ∃ es, d = .tuple es)
    (h : ∀ it h' , Keep bx hs h' → BoxIs h' X bx β → ItOk C A target X bx β hs it xs h' → P it { s₁ with heap := h' }) : wpAny (model C.prog C.w) A (pyIter vx) P E s₁ := by
  refine Rep.list_of hx fun a vs eq0 hl nx hr => ?_
  subst eq0
  · refine wpAny_pyIter_list hl ?_
    have ne : a ≠ s₁.heap.objs.size := by obtain ⟨o, ho, _⟩ := hl; exact Nat.ne_of_lt (Heap.lt_size ho)
    have W := Walks.list (prog := C.prog) (w := C.w) R.hh s₁.heap.objs.size a ne vs.toArray
    have hz : vs.toArray.size = xs.length := by rw [List.size_toArray, hr.length]
    rw [hz] at W
    have lv : ∀ i h, (Heap.IsListIter h s₁.heap.objs.size a i ∧ h.IsList a vs.toArray) → ∀ b ∈ [s₁.heap.objs.size], ∃ o, h.get? b = some o := fun i h st b hb => by
      rw [List.mem_singleton.mp hb]
      obtain ⟨⟨o, ho, _⟩, _⟩ := st
      exact ⟨o, ho⟩
    have pp : ∀ b o, s₁.heap.get? b = some o → (s₁.heap.push { cls := .type "list_iterator", data := .fields #[.ref a, .int 0 0] }).get? b = some o := fun b o e => Heap.get?_push_of_some _ e
    have T : Trn C A target s₁.heap.objs.size [s₁.heap.objs.size, a] [s₁.heap.objs.size] xs.length (fun i v _ => vs.toArray[i]? = some v) (fun i v h => vs.toArray[i]? = some v ∧ (Heap.IsListIter h s₁.heap.objs.size a (i + 1) ∧ h.IsList a vs.toArray)) (fun i h => Heap.IsListIter h s₁.heap.objs.size a i ∧ h.IsList a vs.toArray) := by
      rcases ht with ⟨x, p, rfl⟩ | ⟨ea, eb, ec, rfl⟩
      · exact Trn.ofWalksName W lv
      · exact ⟨KTurns.ofWalks W fun i v s Q E st hq => by
          obtain ⟨⟨o, ho, hc, _⟩, _⟩ := st
          exact go_plain ho hc (by decide) hq, fun s Q E st hq => W.self 0 s Q E st hq, lv⟩
    refine h _ _ (kp.trans (Keep.push _)) (S.box.keepAll pp) ⟨_, _, _, _, _, _, s₁.heap, rfl, T, ⟨⟨_, Heap.get?_push_size _ rfl, rfl, rfl⟩, IsList.keepAt hl fun o e => pp _ o e⟩, S, kp, pp, ?_, ?_, ?_, ?_⟩
    · intro b hb
      rw [List.mem_singleton.mp hb]
      cases q : s₁.heap.get? s₁.heap.objs.size with
      | none => rfl
      | some o => exact absurd (Heap.lt_size q) (Nat.lt_irrefl _)
    · intro b hb
      rcases List.mem_cons.mp hb with rfl | hb
      · exact ⟨_, Heap.get?_push_size _ rfl, rfl⟩
      · rw [List.mem_singleton.mp hb]
        obtain ⟨o, ho, _, n, hd⟩ := hl
        exact ⟨o, pp _ o ho, by unfold noFrame; rw [hd]⟩
    · intro b hb
      rcases List.mem_cons.mp hb with rfl | hb
      · exact S.fresh
      · rw [List.mem_singleton.mp hb]; exact nx
    · intro Y h2 hY hk i v d hv hd
      obtain ⟨v', hv', rv⟩ := hr.get hd
      have e : v = v' := by
        have hv2 : vs[i]? = some v := by simpa using hv
        rw [hv'] at hv2; exact (Option.some.inj hv2).symm
      subst e
      have mv : ∀ b o, ¬ X b → s₁.heap.get? b = some o → (∃ its n, o.data = .seq its n) → h2.get? b = some o ∧ ¬ Y b := fun b o nb e sq => by
        have ny : ¬ Y b := fun y => by
          rcases hY b y with q | q
          · exact nb q
          · rw [e] at q; cases q
        exact ⟨hk b o ny e (seqNF sq), ny⟩
      have rv2 := rv.moveS mv
      rcases ht with ⟨x, p, rfl⟩ | ⟨ea, eb, ec, rfl⟩
      · exact rv2
      · rcases hp d (List.mem_of_getElem? hd) with ⟨x, p, q⟩ | ⟨es, rfl⟩
        · cases q
        · cases rv2 with
          | tuple ht' _ r' => exact ⟨_, _, _, rfl, ht', rfl, r'⟩

/-- over a tuple, by a name -/
theorem it_tuple {x : Str} {px : Pos} {X : Addr → Prop} {bx : Option Addr} {β : Bx} {k : Nat} (R : Room A k) {hs : Heap} {s₁ : Shared} {xs : List PyData} {vx : Value} {P : Value → Shared → Prop} {E : Value → Shared → Prop} (kp : Keep bx hs s₁.heap) (S : SOk C X bx β s₁.heap)
    (hx : Rep s₁.heap X vx (.tuple xs))
    (h : ∀ it h' , Keep bx hs h' → BoxIs h' X bx β → ItOk C A (.Name x px) X bx β hs it xs h' → P it { s₁ with heap := h' }) : wpAny (model C.prog C.w) A (pyIter vx) P E s₁ := by
  refine Rep.tuple_of hx fun a vs eq1 hl nx hr => ?_
  subst eq1
  · have hl' : s₁.heap.IsTuple a vs.toArray := hl
    refine wpAny_pyIter_tuple hl' ?_
    have ne : a ≠ s₁.heap.objs.size := by obtain ⟨o, ho, _⟩ := hl; exact Nat.ne_of_lt (Heap.lt_size ho)
    have W := Walks.tuple (prog := C.prog) (w := C.w) R.hh s₁.heap.objs.size a ne vs.toArray
    have hz : vs.toArray.size = xs.length := by rw [List.size_toArray, hr.length]
    rw [hz] at W
    have lv : ∀ i h, (Heap.IsTupleIter h s₁.heap.objs.size a i ∧ h.IsTuple a vs.toArray) → ∀ b ∈ [s₁.heap.objs.size], ∃ o, h.get? b = some o := fun i h st b hb => by
      rw [List.mem_singleton.mp hb]
      obtain ⟨⟨o, ho, _⟩, _⟩ := st
      exact ⟨o, ho⟩
    have pp : ∀ b o, s₁.heap.get? b = some o → (s₁.heap.push { cls := .type "tuple_iterator", data := .fields #[.ref a, .int 0 0] }).get? b = some o := fun b o e => Heap.get?_push_of_some _ e
    have T := Trn.ofWalksName (x := x) (px := px) W lv
    refine h _ _ (kp.trans (Keep.push _)) (S.box.keepAll pp) ⟨_, _, _, _, _, _, s₁.heap, rfl, T, ⟨⟨_, Heap.get?_push_size _ rfl, rfl, rfl⟩, hl'.push _⟩, S, kp, pp, ?_, ?_, ?_, ?_⟩
    · intro b hb
      rw [List.mem_singleton.mp hb]
      cases q : s₁.heap.get? s₁.heap.objs.size with
      | none => rfl
      | some o => exact absurd (Heap.lt_size q) (Nat.lt_irrefl _)
    · intro b hb
      rcases List.mem_cons.mp hb with rfl | hb
      · exact ⟨_, Heap.get?_push_size _ rfl, rfl⟩
      · rw [List.mem_singleton.mp hb]
        obtain ⟨o, ho, _, n, hd⟩ := hl
        exact ⟨o, pp _ o ho, by unfold noFrame; rw [hd]⟩
    · intro b hb
      rcases List.mem_cons.mp hb with rfl | hb
      · exact S.fresh
      · rw [List.mem_singleton.mp hb]; exact nx
    · intro Y h2 hY hk i v d hv hd
      obtain ⟨v', hv', rv⟩ := hr.get hd
      have e : v = v' := by
        have hv2 : vs[i]? = some v := by simpa using hv
        rw [hv'] at hv2; exact (Option.some.inj hv2).symm
      subst e
      exact rv.moveS fun b o nb e sq => by
        have ny : ¬ Y b := fun y => by
          rcases hY b y with q | q
          · exact nb q
          · rw [e] at q; cases q
        exact ⟨hk b o ny e (seqNF sq), ny⟩

noncomputable def rng (a : Int) (n : Nat) : List PyData := (List.range n).map fun (i : Nat) => PyData.int (a + (i : Int))

/-- over a range that stands at r -/
theorem it_range {x : Str} {px : Pos} {X : Addr → Prop} {bx : Option Addr} {β : Bx} {k : Nat} (R : Room A k) {hs : Heap} {s₁ : Shared} {r : Addr} {a b : Int} {t u v : Tok} {P : Value → Shared → Prop} {E : Value → Shared → Prop} (kp : Keep bx hs s₁.heap) (S : SOk C X bx β s₁.heap)
    (hr : IsRange s₁.heap r a b 1 t u v) (ha : -(2 ^ 62) ≤ a) (ha' : a < 2 ^ 62) (hb : -(2 ^ 62) ≤ b) (hb' : b < 2 ^ 62)
    (h : ∀ it h' , Keep bx hs h' → BoxIs h' X bx β → ItOk C A (.Name x px) X bx β hs it (rng a (b - a).toNat) h' → P it { s₁ with heap := h' }) : wpAny (model C.prog C.w) A (pyIter (.ref r)) P E s₁ := by
  refine wpAny_pyIter_range hr (small_one ha ha' hb hb') ?_
  have hsz : Builtin.Range.rangeSize a b 1 = ((b - a).toNat : Int) := by rw [rangeSize_one]; split <;> omega
  have W := Walks.range (prog := C.prog) (w := C.w) R.hh s₁.heap.objs.size a 1 (b - a).toNat
  have hz : (rng a (b - a).toNat).length = (b - a).toNat := by simp [rng]
  have lv : ∀ (i : Nat) h, IsRangeIter h s₁.heap.objs.size (a + (i : Int) * 1) (((b - a).toNat : Int) - (i : Int)) 1 → ∀ b ∈ [s₁.heap.objs.size], ∃ o, h.get? b = some o := fun i h st b hb => by
    rw [List.mem_singleton.mp hb]
    exact ⟨_, st⟩
  have T := Trn.ofWalksName (x := x) (px := px) W lv
  rw [← hz] at T
  have pp : ∀ c o, s₁.heap.get? c = some o → (s₁.heap.push { cls := .type "range_iterator", data := .fields #[rawInt a, rawInt (Builtin.Range.rangeSize a b 1), rawInt 1] }).get? c = some o := fun b o e => Heap.get?_push_of_some _ e
  refine h _ _ (kp.trans (Keep.push _)) (S.box.keepAll pp) ⟨_, _, _, _, _, _, s₁.heap, rfl, T, ?_, S, kp, pp, ?_, ?_, ?_, ?_⟩
  · show IsRangeIter _ _ _ _ _
    rw [hz, hsz]
    simpa using Heap.get?_push_size s₁.heap (o := { cls := .type "range_iterator", data := .fields #[rawInt a, rawInt ((b - a).toNat : Int), rawInt 1] }) rfl
  · intro b hb
    rw [List.mem_singleton.mp hb]
    cases q : s₁.heap.get? s₁.heap.objs.size with
    | none => rfl
    | some o => exact absurd (Heap.lt_size q) (Nat.lt_irrefl _)
  · intro b hb
    rw [List.mem_singleton.mp hb]
    exact ⟨_, Heap.get?_push_size _ rfl, rfl⟩
  · intro b hb
    rw [List.mem_singleton.mp hb]
    exact S.fresh
  · rintro Y h2 hY hk i v d ⟨tk, rfl⟩ hd
    have hi : i < (b - a).toNat := by
      have := (List.getElem?_eq_some_iff.mp hd).1
      rw [hz] at this; exact this
    have e : d = .int (a + (i : Int)) := by
      simp [rng, hi] at hd; exact hd.symm
    subst e
    have e2 : a + (i : Int) * 1 = a + (i : Int) := by omega
    rw [e2]
    exact .int _ _

noncomputable def zipD : List PyData → List PyData → List PyData
  | x :: xs, y :: ys => .tuple [x, y] :: zipD xs ys
  | _, _ => []
theorem zipD_length : ∀ xs ys : List PyData, (zipD xs ys).length = min xs.length ys.length
  | [], _ => by simp [zipD]
  | _ :: _, [] => by simp [zipD]
  | _ :: xs, _ :: ys => by simp [zipD, zipD_length xs ys]
theorem zipD_get : ∀ (xs ys : List PyData) (i : Nat) (d : PyData), (zipD xs ys)[i]? = some d → ∃ x y, xs[i]? = some x ∧ ys[i]? = some y ∧ d = .tuple [x, y]
  | [], _, _, _, h => by simp [zipD] at h
  | _ :: _, [], _, _, h => by simp [zipD] at h
  | x :: xs, y :: ys, 0, d, h => by simp [zipD] at h; exact ⟨x, y, rfl, rfl, h.symm⟩
  | x :: xs, y :: ys, i + 1, d, h => by
    simp only [zipD, List.getElem?_cons_succ] at h ⊢
    exact zipD_get xs ys i d h

theorem it_zip {ea : List Expr} {eb : Nat} {ec : Pos} {X : Addr → Prop} {bx : Option Addr} {β : Bx} {k : Nat} (R : Room A k) {hs : Heap} {s₁ : Shared} {xs ys : List PyData} {vx vy : Value} {P : Value → Shared → Prop} {E : Value → Shared → Prop} (kp : Keep bx hs s₁.heap) (S : SOk C X bx β s₁.heap)
    (hx : Rep s₁.heap X vx (.list xs)) (hy : Rep s₁.heap X vy (.list ys))
    (h : ∀ it h', Keep bx hs h' → BoxIs h' X bx β → ItOk C A (.Tuple ea eb ec) X bx β hs it (zipD xs ys) h' → P it { s₁ with heap := h' }) :
    wpAny (model C.prog C.w) A (call (.type "zip") [vx, vy]) (fun xv s₂ => wpAny (model C.prog C.w) A (pyIter xv) P E s₂) E s₁ := by
  refine Rep.list_of hx fun l1 vs eq2 hl1 nx1 hr1 => ?_
  subst eq2
  · skip
    refine Rep.list_of hy fun l2 us eq3 hl2 nx2 hr2 => ?_
    subst eq3
    · have lt1 : l1 < s₁.heap.objs.size := by obtain ⟨o, ho, _⟩ := hl1; exact Heap.lt_size ho
      have lt2 : l2 < s₁.heap.objs.size := by obtain ⟨o, ho, _⟩ := hl2; exact Heap.lt_size ho
      refine call_zip_2 hl1 hl2 fun h' hz hTI hTO hi1 hi2 hsz hk => ?_
      refine wpAny_pyIter_zip hz ?_
      have D : ZipApart (s₁.heap.objs.size + 4) (s₁.heap.objs.size + 2) (s₁.heap.objs.size + 3) s₁.heap.objs.size (s₁.heap.objs.size + 1) l1 l2 := ktu_apart _ _ _ lt1 lt2
      have W := (WalksT.zip2 (prog := C.prog) (w := C.w) R.hh _ _ _ _ _ _ _ D vs.toArray us.toArray).toU
      have hn : min vs.toArray.size us.toArray.size = (zipD xs ys).length := by rw [zipD_length, List.size_toArray, List.size_toArray, hr1.length, hr2.length]
      rw [hn] at W
      have T := KTurns.ofWalksU (elts := ea) (k := eb) (pos := ec) W
      have dead : ∀ j, s₁.heap.get? (s₁.heap.objs.size + j) = none := fun j => by
        cases q : s₁.heap.get? (s₁.heap.objs.size + j) with
        | none => rfl
        | some o => exact absurd (Heap.lt_size q) (Nat.not_lt.mpr (Nat.le_add_right _ _))
      have nX : ∀ j, ¬ X (s₁.heap.objs.size + j) := fun j q => by
        obtain ⟨o, e⟩ := S.xlive _ q
        rw [dead j] at e; cases e
      have st0 : IsZip h' (s₁.heap.objs.size + 4) (s₁.heap.objs.size + 2) (s₁.heap.objs.size + 3) Value.none ∧ IsPair h' (s₁.heap.objs.size + 2) (.ref s₁.heap.objs.size) (.ref (s₁.heap.objs.size + 1)) ∧ (∃ a b, IsPair h' (s₁.heap.objs.size + 3) a b) ∧
          h'.IsListIter s₁.heap.objs.size l1 0 ∧ h'.IsListIter (s₁.heap.objs.size + 1) l2 0 ∧ h'.IsList l1 vs.toArray ∧ h'.IsList l2 us.toArray :=
        ⟨hz, hTI, ⟨_, _, hTO⟩, hi1, hi2, IsList.keepAt hl1 fun o e => hk _ o e, IsList.keepAt hl2 fun o e => hk _ o e⟩
      refine h _ _ (kp.trans (Keep.all hk)) (S.box.keepAll hk) ⟨_, _, _, _, _, _, s₁.heap, rfl, ⟨T, fun s Q E st hq => W.self 0 s Q E st hq, ?_⟩, st0, S, kp, hk, ?_, ?_, ?_, ?_⟩
      · rintro i h2 ⟨z1, z2, ⟨a, b, z3⟩, ⟨o4, z4, _⟩, ⟨o5, z5, _⟩, _⟩ b hb
        rcases List.mem_cons.mp hb with rfl | hb
        · exact ⟨_, z1⟩
        rcases List.mem_cons.mp hb with rfl | hb
        · exact ⟨_, z3⟩
        rcases List.mem_cons.mp hb with rfl | hb
        · exact ⟨_, z4⟩
        rw [List.mem_singleton.mp hb]
        exact ⟨_, z5⟩
      · intro b hb
        rcases List.mem_cons.mp hb with rfl | hb
        · exact dead 4
        rcases List.mem_cons.mp hb with rfl | hb
        · exact dead 3
        rcases List.mem_cons.mp hb with rfl | hb
        · exact dead 0
        rw [List.mem_singleton.mp hb]
        exact dead 1
      · obtain ⟨z1, z2, ⟨a, b, z3⟩, ⟨o4, z4, _, z4d⟩, ⟨o5, z5, _, z5d⟩, ⟨o6, z6, _, n6, z6d⟩, ⟨o7, z7, _, n7, z7d⟩⟩ := st0
        intro b hb
        rcases List.mem_cons.mp hb with rfl | hb
        · exact ⟨_, z1, rfl⟩
        rcases List.mem_cons.mp hb with rfl | hb
        · exact ⟨_, z2, rfl⟩
        rcases List.mem_cons.mp hb with rfl | hb
        · exact ⟨_, z3, rfl⟩
        rcases List.mem_cons.mp hb with rfl | hb
        · exact ⟨_, z4, by unfold noFrame; rw [z4d]⟩
        rcases List.mem_cons.mp hb with rfl | hb
        · exact ⟨_, z5, by unfold noFrame; rw [z5d]⟩
        rcases List.mem_cons.mp hb with rfl | hb
        · exact ⟨_, z6, by unfold noFrame; rw [z6d]⟩
        rw [List.mem_singleton.mp hb]
        exact ⟨_, z7, by unfold noFrame; rw [z7d]⟩
      · intro b hb
        rcases List.mem_cons.mp hb with rfl | hb
        · exact nX 4
        rcases List.mem_cons.mp hb with rfl | hb
        · exact nX 2
        rcases List.mem_cons.mp hb with rfl | hb
        · exact nX 3
        rcases List.mem_cons.mp hb with rfl | hb
        · exact nX 0
        rcases List.mem_cons.mp hb with rfl | hb
        · exact nX 1
        rcases List.mem_cons.mp hb with rfl | hb
        · exact nx1
        rw [List.mem_singleton.mp hb]
        exact nx2
      · rintro Y h2 hY hk2 i v d ⟨Tt, vals, rfl, ⟨x, y, hx, hy, rfl⟩, ht⟩ hd
        obtain ⟨dx, dy, e1, e2, rfl⟩ := zipD_get _ _ _ _ hd
        obtain ⟨v1, q1, r1⟩ := hr1.get e1
        obtain ⟨v2, q2, r2⟩ := hr2.get e2
        have hx' : vs[i]? = some x := by simpa using hx
        have hy' : us[i]? = some y := by simpa using hy
        rw [q1] at hx'; rw [q2] at hy'
        cases hx'; cases hy'
        have mv : ∀ b o, ¬ X b → s₁.heap.get? b = some o → (∃ its n, o.data = .seq its n) → h2.get? b = some o ∧ ¬ Y b := fun b o nb e sq => by
          have ny : ¬ Y b := fun y => by
            rcases hY b y with q | q
            · exact nb q
            · rw [e] at q; cases q
          exact ⟨hk2 b o ny e (seqNF sq), ny⟩
        exact ⟨Tt, [_, _], _, rfl, ht, rfl, .cons (r1.moveS mv) (.cons (r2.moveS mv) .nil)⟩
end

section
variable {C : Cx} {k : Nat} {ns : Names} {ρ : PEnv} {β : Bx}

/-- the iterable is a value: a list (by a name or two), a tuple (by a name) -/
theorem wi_list {target e : Expr} {Q : List PyData → Bx → Prop} (h : WE C k ns e ρ β fun p β₁ => ∃ xs, p = .d (.list xs) ∧ (∀ d ∈ xs, (∃ x p, target = .Name x p) ∨ ∃ es, d = .tuple es) ∧ Q xs β₁)
    (ht : (∃ x p, target = .Name x p) ∨ ∃ a b c, target = .Tuple a b c := by first | exact .inl ⟨_, _, rfl⟩ | exact .inr ⟨_, _, _, rfl⟩) : WI C k ns target e ρ β Q :=
  fun A s env X bx P E R S c => by
    refine h A s env X bx _ E R S fun v h' tk p β₁ q k1 B1 r1 => ?_
    obtain ⟨xs, rfl, hp, q⟩ := q
    exact it_list (s₁ := { s with heap := h', toks := tk }) (ht := ht) R k1 (S.toSOk.step k1 B1) r1 hp fun it h2 k2 B2 I2 => c it h2 tk xs β₁ q k2 B2 I2
theorem wi_tuple {x : Str} {px : Pos} {e : Expr} {Q : List PyData → Bx → Prop} (h : WE C k ns e ρ β fun p β₁ => ∃ xs, p = .d (.tuple xs) ∧ Q xs β₁) : WI C k ns (.Name x px) e ρ β Q :=
  fun A s env X bx P E R S c => by
    refine h A s env X bx _ E R S fun v h' tk p β₁ q k1 B1 r1 => ?_
    obtain ⟨xs, rfl, q⟩ := q
    exact it_tuple (x := x) (px := px) (s₁ := { s with heap := h', toks := tk }) R k1 (S.toSOk.step k1 B1) r1 fun it h2 k2 B2 I2 => c it h2 tk xs β₁ q k2 B2 I2

theorem wi_range1 {x : Str} {px np pos : Pos} {e : Expr} {Q : List PyData → Bx → Prop} (hl : ns.lookup (Str.ofString "range") = some .globalImplicit) (hg : nsIn C.K mainGlobals "range" = some none)
    (h : WE C k ns e ρ β fun p β₁ => ∃ n : Int, p = .d (.int n) ∧ -(2 ^ 62) ≤ n ∧ n < 2 ^ 62 ∧ Q (rng 0 n.toNat) β₁)
    (he : ∀ env, starEach [e] env = (false, eval e env) :: starEach [] env := by intro _; rfl) : WI C k ns (.Name x px) (.Call (.Name "range" np) [e] [] pos) ρ β Q :=
  fun A s env X bx P E R S c => by
    refine Call_ (load_boot S.base S.eok hl hg boot_range (by decide) rfl ?_)
    refine PyProof.Rows.callWith_type1 (spliced_more (h A s env X bx _ E R S fun v h' tk p β₁ q k1 B1 r1 => spliced_none ?_) (he env)) (he env)
    obtain ⟨n, rfl, n0, n1, q⟩ := q
    refine Rep.int_of r1 fun t eq4 => ?_
    subst eq4
    · refine call_range_1 ?_
      have S1 := S.toSOk.step k1 B1
      have pp : ∀ b o, h'.get? b = some o → (h'.push { cls := .type "range", data := .fields #[.int 0 tk, .int n t, .int 1 (tk + 1)] }).get? b = some o := fun b o e => Heap.get?_push_of_some _ e
      refine it_range (x := x) (px := px) (s₁ := { s with heap := h'.push { cls := .type "range", data := .fields #[.int 0 tk, .int n t, .int 1 (tk + 1)] }, toks := tk + 1 + 1 }) (β := β₁) R (k1.trans (Keep.all pp)) (S1.step (Keep.all pp) (B1.keepAll pp)) (IsRange.new ..) (by decide) (by decide) n0 n1 fun it h2 k2 B2 I2 => ?_
      exact c it h2 (tk + 1 + 1) _ β₁ (by simpa using q) k2 B2 (by simpa using I2)
theorem wi_range2 {x : Str} {px np pos : Pos} {e e2 : Expr} {Q : List PyData → Bx → Prop} (hl : ns.lookup (Str.ofString "range") = some .globalImplicit) (hg : nsIn C.K mainGlobals "range" = some none)
    (h : WE C k ns e ρ β fun p β₁ => WE C k ns e2 ρ β₁ fun p2 β₂ => ∃ a n : Int, p = .d (.int a) ∧ p2 = .d (.int n) ∧ -(2 ^ 62) ≤ a ∧ a < 2 ^ 62 ∧ -(2 ^ 62) ≤ n ∧ n < 2 ^ 62 ∧ Q (rng a (n - a).toNat) β₂)
    (he : ∀ env, starEach [e, e2] env = (false, eval e env) :: starEach [e2] env := by intro _; rfl) (he2 : ∀ env, starEach [e2] env = (false, eval e2 env) :: starEach [] env := by intro _; rfl)
    (hp : ∀ env, ((backTo pos (starEach [e2] env)).any (·.1)) = false := by intro _; rfl) : WI C k ns (.Name x px) (.Call (.Name "range" np) [e, e2] [] pos) ρ β Q :=
  fun A s env X bx P E R S c => by
    refine Call_ (load_boot S.base S.eok hl hg boot_range (by decide) rfl ?_)
    refine PyProof.Rows.callWith_type1 (spliced_more (h A s env X bx _ E R S fun v h' tk p β₁ q k1 B1 r1 => spliced_more (q A { s with heap := h', toks := tk } env X bx _ E R (S.step k1 B1) fun v2 h2 tk2 p2 β₂ q2 k2 B2 r2 => spliced_none ?_) (he2 env)) (he env)) (he env) (hp env)
    obtain ⟨a, n, rfl, rfl, a0, a1, n0, n1, q2⟩ := q2
    have r1' := r1.keep (S.toSOk.step k1 B1) k2
    refine Rep.int_of r1' fun t eq5 => ?_
    subst eq5
    · skip
      refine Rep.int_of r2 fun u eq6 => ?_
      subst eq6
      · refine call_range_2 ?_
        have S2 := (S.toSOk.step k1 B1).step k2 B2
        have pp : ∀ b o, h2.get? b = some o → (h2.push { cls := .type "range", data := .fields #[.int a t, .int n u, .int 1 tk2] }).get? b = some o := fun b o e => Heap.get?_push_of_some _ e
        refine it_range (x := x) (px := px) (s₁ := { s with heap := h2.push { cls := .type "range", data := .fields #[.int a t, .int n u, .int 1 tk2] }, toks := tk2 + 1 }) (β := β₂) R ((k1.trans k2).trans (Keep.all pp)) (S2.step (Keep.all pp) (B2.keepAll pp)) (IsRange.new ..) a0 a1 n0 n1 fun it h3 k3 B3 I3 => ?_
        exact c it h3 (tk2 + 1) _ β₂ q2 k3 B3 I3
theorem wi_zip {ea : List Expr} {eb : Nat} {ec : Pos} {np pos : Pos} {e e2 : Expr} {Q : List PyData → Bx → Prop} (hl : ns.lookup (Str.ofString "zip") = some .globalImplicit) (hg : nsIn C.K mainGlobals "zip" = some none)
    (h : WE C k ns e ρ β fun p β₁ => WE C k ns e2 ρ β₁ fun p2 β₂ => ∃ xs ys, p = .d (.list xs) ∧ p2 = .d (.list ys) ∧ Q (zipD xs ys) β₂)
    (he : ∀ env, starEach [e, e2] env = (false, eval e env) :: starEach [e2] env := by intro _; rfl) (he2 : ∀ env, starEach [e2] env = (false, eval e2 env) :: starEach [] env := by intro _; rfl)
    (hp : ∀ env, ((backTo pos (starEach [e2] env)).any (·.1)) = false := by intro _; rfl) : WI C k ns (.Tuple ea eb ec) (.Call (.Name "zip" np) [e, e2] [] pos) ρ β Q :=
  fun A s env X bx P E R S c => by
    refine Call_ (load_boot S.base S.eok hl hg boot_zip (by decide) rfl ?_)
    refine PyProof.Rows.callWith_type1 (spliced_more (h A s env X bx _ E R S fun v h' tk p β₁ q k1 B1 r1 => spliced_more (q A { s with heap := h', toks := tk } env X bx _ E R (S.step k1 B1) fun v2 h2 tk2 p2 β₂ q2 k2 B2 r2 => spliced_none ?_) (he2 env)) (he env)) (he env) (hp env)
    obtain ⟨xs, ys, rfl, rfl, q2⟩ := q2
    have S2 := (S.toSOk.step k1 B1).step k2 B2
    exact it_zip (ea := ea) (eb := eb) (ec := ec) (s₁ := { s with heap := h2, toks := tk2 }) R (k1.trans k2) S2 (r1.keep (S.toSOk.step k1 B1) k2) r2 fun it h3 k3 B3 I3 => c it h3 tk2 _ β₂ q2 k3 B3 I3
end
end Mine
namespace Mine
set_option maxHeartbeats 200000

/-! ## comprehensions -/
theorem closure_go {env : Env} : ∀ (l : List (Str × NameKind)) (acc : List (Str × Addr)), (∀ n, (n, NameKind.free) ∈ l → ∃ c, env.cells.lookup n = some c) → (∀ n c, (n, c) ∈ acc → env.cells.lookup n = some c) →
    ∃ cl : List (Str × Addr), (forIn l acc (fun (x : Str × NameKind) (cs : List (Str × Addr)) => (match x with
      | (name, kind) => if (kind == .free) = true then do let c ← cellOf env name; pure (.yield ((name, c) :: cs)) else pure (.yield cs) : Sem (ForInStep (List (Str × Addr)))))) = pure cl ∧ (∀ n c, (n, c) ∈ cl → env.cells.lookup n = some c) ∧ (∀ n, ((n, NameKind.free) ∈ l ∨ n ∈ acc.map (·.1)) → n ∈ cl.map (·.1))
  | [], acc, _, h2 => ⟨acc, rfl, h2, fun n h => h.elim (fun q => nomatch q) id⟩
  | (n, kd) :: l, acc, h1, h2 => by
    by_cases hk : kd = .free
    · subst hk
      obtain ⟨c, hc⟩ := h1 n (.head _)
      obtain ⟨cl, e, p1, p2⟩ := closure_go l ((n, c) :: acc) (fun m hm => h1 m (.tail _ hm)) (fun m d hm => by
        rcases List.mem_cons.mp hm with q | q
        · cases q; exact hc
        · exact h2 m d q)
      refine ⟨cl, ?_, p1, fun m hm => p2 m ?_⟩
      · rw [List.forIn_cons]
        simp only [beq_self_eq_true, if_true, cellOf, hc, pure_bind]
        exact e
      · rcases hm with hm | hm
        · rcases List.mem_cons.mp hm with q | q
          · cases q; exact .inr (by simp)
          · exact .inl q
        · exact .inr (by simp only [List.map_cons, List.mem_cons]; exact .inr hm)
    · obtain ⟨cl, e, p1, p2⟩ := closure_go l acc (fun m hm => h1 m (.tail _ hm)) h2
      refine ⟨cl, ?_, p1, fun m hm => p2 m ?_⟩
      · have hb : (kd == NameKind.free) = false := by simpa using hk
        rw [List.forIn_cons]
        simp only [hb, Bool.false_eq_true, if_false, pure_bind]
        exact e
      · rcases hm with hm | hm
        · rcases List.mem_cons.mp hm with q | q
          · cases q; exact absurd rfl hk
          · exact .inl q
        · exact .inr hm
theorem lookup_of_keys {n : Str} {c : Addr} : ∀ {cl : List (Str × Addr)}, (∀ m d, (m, d) ∈ cl → m = n → d = c) → n ∈ cl.map (·.1) → cl.lookup n = some c
  | [], _, h => nomatch h
  | (m, d) :: r, h1, h2 => by
    by_cases q : n = m
    · subst q
      have := h1 n d (.head _) rfl
      subst this
      simp
    · have hb : (n == m) = false := by simpa using q
      rw [List.lookup_cons, hb]
      refine lookup_of_keys (fun a b hab => h1 a b (.tail _ hab)) ?_
      rcases List.mem_cons.mp h2 with e | e
      · exact absurd e q
      · exact e
theorem closure_ok {scope : Scope} {env : Env} (h : ∀ n, (n, NameKind.free) ∈ scope.names → ∃ c, env.cells.lookup n = some c) :
    ∃ cl, closureFor scope env = pure cl ∧ ∀ n, (n, NameKind.free) ∈ scope.names → cl.lookup n = env.cells.lookup n := by
  obtain ⟨cl, e, p1, p2⟩ := closure_go scope.names [] h (fun _ _ q => nomatch q)
  refine ⟨cl, ?_, fun n hn => ?_⟩
  · unfold closureFor
    have e' : ∀ (t : Sem (List (Str × Addr))), t = pure cl → (t >>= fun cs => pure cs) = pure cl := fun t q => by rw [q]; rfl
    refine e' _ ?_
    rw [← e]
  · obtain ⟨c, hc⟩ := h n hn
    rw [hc]
    refine lookup_of_keys (fun m d hm q => ?_) (p2 n (.inl hn))
    subst q
    have := p1 m d hm
    rw [hc] at this
    exact (Option.some.inj this).symm

noncomputable def bindT : Expr → PyData → PEnv
  | .Name x _, d => [(x, .d d)]
  | .Tuple [.Name a _, .Name b _] _ _, .tuple [da, db] => [(b, .d db), (a, .d da)]
  | _, _ => []
noncomputable def okD : Expr → PyData → Prop
  | .Name _ _, _ => True
  | .Tuple [.Name _ _, .Name _ _] _ _, d => ∃ da db, d = .tuple [da, db]
  | _, _ => False
noncomputable def ok1 (kd : Str → Option NameKind) : Expr → Bool
  | .Name x _ => kd x == some .local
  | _ => false
noncomputable def ok2 (kd : Str → Option NameKind) : List Expr → Bool
  | [a, b] => ok1 kd a && ok1 kd b
  | _ => false
noncomputable def okT (kd : Str → Option NameKind) : Expr → Bool
  | .Name x _ => kd x == some .local
  | .Tuple es _ _ => ok2 kd es
  | _ => false
theorem ok1_inv {kd : Str → Option NameKind} {e : Expr} (h : ok1 kd e = true) : ∃ x p, e = .Name x p ∧ kd x = some .local := by
  unfold ok1 at h
  split at h
  · exact ⟨_, _, rfl, by simpa using h⟩
  · cases h
theorem okT_inv {kd : Str → Option NameKind} {e : Expr} (h : okT kd e = true) : (∃ x p, e = .Name x p ∧ kd x = some .local) ∨ ∃ a pa b pb kk tp, e = .Tuple [.Name a pa, .Name b pb] kk tp ∧ kd a = some .local ∧ kd b = some .local := by
  unfold okT at h
  split at h
  · exact .inl ⟨_, _, rfl, by simpa using h⟩
  · unfold ok2 at h
    split at h
    · obtain ⟨ha, hb⟩ := Bool.and_eq_true_iff.mp h
      obtain ⟨a, pa, rfl, ka⟩ := ok1_inv ha
      obtain ⟨b, pb, rfl, kb⟩ := ok1_inv hb
      exact .inr ⟨a, pa, b, pb, _, _, rfl, ka, kb⟩
    · cases h
  · cases h
theorem okT_mono {kd kd' : Str → Option NameKind} (hk : ∀ x, kd x = some .local → kd' x = some .local) {e : Expr} (h : okT kd e = true) : okT kd' e = true := by
  rcases okT_inv h with ⟨x, p, rfl, hx⟩ | ⟨a, pa, b, pb, kk, tp, rfl, ha, hb⟩
  · exact beq_iff_eq.mpr (hk x hx)
  · exact Bool.and_eq_true_iff.mpr ⟨beq_iff_eq.mpr (hk a ha), beq_iff_eq.mpr (hk b hb)⟩

section
variable {C : Cx} {A : Around}

theorem assign_comp {target : Expr} {cenv : Env} {s : Shared} {m : Str → Option Value} {Y : Addr → Prop} {v : Value} {d : PyData} (hh : A.handled = none) (hk : cenv.scope.kind = .function) (ht : okT cenv.kindOf target = true) (hd : okD target d) (hn : s.heap.Ns cenv.locals m) (hY : Y cenv.locals)
    (hI : ItmOk target s.heap Y v d) {P : Unit → Shared → Prop} {E : Value → Shared → Prop}
    (h : ∀ h' tk m', h'.Ns cenv.locals m' → (∀ b o, b ≠ cenv.locals → s.heap.get? b = some o → h'.get? b = some o) → (∀ x p, (bindT target d).lookup x = some p → ∃ u y, p = .d y ∧ cenv.kindOf x = some .local ∧ m' x = some u ∧ Rep h' Y u y) → P () { s with heap := h', toks := tk }) :
    wpAny (model C.prog C.w) A (assign target cenv v) P E s := by
  have hp : (cenv.scope.kind == .class || (cenv.scope.kind == .module && cenv.locals != cenv.globals)) = false := by rw [hk]; rfl
  rcases okT_inv ht with ⟨x, px, rfl, hx⟩ | ⟨a, pa, b, pb, kk, tp, rfl, ha, hb⟩
  · clear ht hd
    refine wpAny_assign_Name (wpAny_storeName_local hx hn (fun h' hn' hs' => ?_) hp)
    refine h h' _ _ hn' (fun b o nb e => hs'.extBut b o nb e) fun y p hl => ?_
    have hI' : Rep s.heap Y v d := hI
    by_cases q : y = x
    · subst q
      have hl' : List.lookup y [(y, PV.d d)] = some p := hl
      simp only [List.lookup_cons, beq_self_eq_true] at hl'
      cases hl'
      exact ⟨v, d, rfl, hx, by simp, hI'.move fun b o nb e => ⟨hs'.extBut b o (fun q => nb (q ▸ hY)) e, nb⟩⟩
    · have hb : (y == x) = false := by simpa using q
      have hl' : List.lookup y [(x, PV.d d)] = some p := hl
      simp only [List.lookup_cons, hb, List.lookup_nil] at hl'
      cases hl'
  · obtain ⟨da, db, rfl⟩ := hd
    obtain ⟨T, vals, es, rfl, hT, e, r⟩ := hI
    cases e
    cases r with
    | cons ra r =>
      cases r with
      | cons rb r =>
        cases r
        rename_i va vb
        rw [PyProof.Rows.assign_Tuple]
        refine wpAny_bind (wpAny_standAt (unpack_tuple hh hT (by rfl) (by rfl) fun h1 x1 => ?_))
        have k1 : ∀ b o, s.heap.get? b = some o → h1.get? b = some o := fun b o e => x1 b o (Nat.ne_of_lt (Heap.lt_size e)) e
        show wpAny _ _ (assignInOrder [assign (.Name a pa) cenv, assign (.Name b pb) cenv] [va, vb]) _ _ _
        refine PyProof.Rows.assignInOrder_cons (wpAny_assign_Name (wpAny_storeName_local ha (hn.keeps k1) (fun h2 hn2 hs2 => PyProof.Rows.assignInOrder_cons (wpAny_assign_Name (wpAny_storeName_local hb hn2 (fun h3 hn3 hs3 => PyProof.Rows.assignInOrder_nil ?_) hp))) hp))
        have mv : ∀ b o, ¬ Y b → s.heap.get? b = some o → h3.get? b = some o ∧ ¬ Y b := fun b o nb e => ⟨hs3.extBut b o (fun q => nb (q ▸ hY)) (hs2.extBut b o (fun q => nb (q ▸ hY)) (k1 b o e)), nb⟩
        refine h h3 _ _ hn3 (fun b o nb e => hs3.extBut b o nb (hs2.extBut b o nb (k1 b o e))) fun y p hl => ?_
        by_cases q : y = b
        · subst q
          have hl' : List.lookup y [(y, PV.d db), (a, PV.d da)] = some p := hl
          simp only [List.lookup_cons, beq_self_eq_true] at hl'
          cases hl'
          exact ⟨vb, db, rfl, hb, by simp, rb.move mv⟩
        · have hyb : (y == b) = false := by simpa using q
          by_cases q2 : y = a
          · subst q2
            have hl' : List.lookup y [(b, PV.d db), (y, PV.d da)] = some p := hl
            simp only [List.lookup_cons, hyb, beq_self_eq_true] at hl'
            cases hl'
            exact ⟨va, da, rfl, ha, by simp [q], ra.move mv⟩
          · have hya : (y == a) = false := by simpa using q2
            have hl' : List.lookup y [(b, PV.d db), (a, PV.d da)] = some p := hl
            simp only [List.lookup_cons, hyb, hya, List.lookup_nil] at hl'
            cases hl'

theorem compLoop_any {elt target iter : Expr} {scope : Scope} {pos : Pos} {it acc : Value} {env : Env} {R : Result → Shared → Prop} {s : Shared} (I : Nat → Shared → Prop)
    (turn : ∀ n s, I n s → wpAny (model C.prog C.w) A (pyNext it) (fun r s₁ => match r with
      | none => R (.ok .next) s₁
      | some v => wpAny (model C.prog C.w) A (letOwnedTupleGo target it v) (fun _ s₂ => wpAny (model C.prog C.w) A (assign target env v) (fun _ s₃ => wpAny (model C.prog C.w) A (eval elt env) (fun x s₄ =>
          wpAny (model C.prog C.w) A (call (.builtin "list.append") [acc, x]) (fun _ s₅ => ∃ m, m < n ∧ I m s₅) (notedBy (model C.prog C.w) A env fun e s' => R (.error e) s') s₄)
          (notedBy (model C.prog C.w) A env fun e s' => R (.error e) s') s₃) (notedBy (model C.prog C.w) A env fun e s' => R (.error e) s') s₂) (notedBy (model C.prog C.w) A env fun e s' => R (.error e) s') s₁) (notedBy (model C.prog C.w) A env fun e s' => R (.error e) s') s)
    (n : Nat) (h : I n s) : codeAny (model C.prog C.w) A (.compLoop (.ListComp elt [⟨target, iter, [], 0⟩] scope pos) 0 it acc env) R s := by
  refine codeAny_loop rfl I (fun n s hI => ?_) n h
  show wpAny _ _ ((compTurn (.ListComp elt [⟨target, iter, [], 0⟩] scope pos) 0 it acc env).onRaise (fun x => do noteFrame x env; theTreesLotGoes x)) _ _ s
  refine wpAny_noted ?_
  rw [compTurn_list1]
  refine wpAny_bind (wpAny_standAt (wpAny_bind (wpAny_mono (turn n s hI) (fun r s₁ h₁ => ?_) fun _ _ h' => h')))
  cases r with
  | none => exact wpAny_pure h₁
  | some v =>
    exact wpAny_bind (wpAny_mono h₁ (fun _ s₂ h₂ => wpAny_bind (wpAny_mono h₂ (fun _ s₃ h₃ => wpAny_bind (wpAny_bind (wpAny_mono h₃ (fun x s₄ h₄ => wpAny_bind (wpAny_mono h₄
      (fun _ s₅ h₅ => wpAny_pure (wpAny_pure ⟨rfl, h₅⟩)) fun _ _ h' => h')) fun _ _ h' => h'))) fun _ _ h' => h')) fun _ _ h' => h')
end
end Mine
namespace Mine
set_option maxHeartbeats 200000

noncomputable def CompR (step : PyData → Bx → (PyData → Bx → Prop) → Prop) : List PyData → List PyData → Bx → (List PyData → Bx → Prop) → Prop
  | [], acc, β, Q => Q acc β
  | d :: ds, acc, β, Q => step d β fun y β' => CompR step ds (acc ++ [y]) β' Q

noncomputable def freeEnv (names : Names) (ρ : PEnv) : PEnv := names.filterMap fun x => if x.2 == .free then (ρ.lookup x.1).map fun p => (x.1, p) else none
noncomputable def freeOk (names ns : Names) (ρ : PEnv) : Bool := names.all fun x => x.2 != .free || (ns.lookup x.1 == some .cell && (ρ.lookup x.1).isSome && names.lookup x.1 == some .free)
noncomputable def scopeOk (cs : Scope) : Bool := cs.names.all fun x => x.2 != .cell && (x.2 != .local || cs.names.lookup x.1 == some .local)

/-- one turn of a comprehension -/
noncomputable def stepC (C : Cx) (k : Nat) (names : Names) (target elt : Expr) (ρf : PEnv) (d : PyData) (β : Bx) (Q : PyData → Bx → Prop) : Prop :=
  okD target d ∧ WE C k names elt (bindT target d ++ ρf) β fun p β' => ∃ y, p = .d y ∧ Q y β'

theorem lookup_mem {α β : Type} [BEq α] [LawfulBEq α] {x : α} {y : β} : ∀ {l : List (α × β)}, l.lookup x = some y → (x, y) ∈ l
  | [], h => by simp at h
  | (a, b) :: r, h => by
    rw [List.lookup_cons] at h
    cases hb : x == a with
    | true =>
      rw [hb] at h
      have e : x = a := beq_iff_eq.mp hb
      subst e
      simp only [Option.some.injEq] at h
      subst h
      exact .head _
    | false => rw [hb] at h; exact .tail _ (lookup_mem h)
theorem lookup_append' {α β : Type} [BEq α] {x : α} : ∀ {l r : List (α × β)} {y : β}, (l ++ r).lookup x = some y → l.lookup x = some y ∨ r.lookup x = some y
  | [], _, _, h => .inr h
  | (a, b) :: l, r, y, h => by
    rw [List.cons_append, List.lookup_cons] at h
    rw [List.lookup_cons]
    cases hb : x == a with
    | true => rw [hb] at h; exact .inl h
    | false => rw [hb] at h; exact lookup_append' h
theorem freeEnv_lookup {names ns : Names} {ρ : PEnv} {x : Str} {p : PV} (h : (freeEnv names ρ).lookup x = some p) (ok : freeOk names ns ρ = true) : (x, NameKind.free) ∈ names ∧ ρ.lookup x = some p ∧ ns.lookup x = some .cell ∧ names.lookup x = some .free := by
  have hm := lookup_mem h
  unfold freeEnv at hm
  obtain ⟨⟨y, kd⟩, hy, e⟩ := List.mem_filterMap.mp hm
  dsimp only at e
  split at e
  · rename_i hk
    have hk' : kd = .free := by simpa using hk
    subst hk'
    cases hq : ρ.lookup y with
    | none => rw [hq] at e; cases e
    | some q =>
      rw [hq] at e
      cases e
      unfold freeOk at ok
      have := List.all_eq_true.mp ok _ hy
      simp at this
      exact ⟨hy, hq, this.1.1, this.2⟩
  · cases e
theorem relabel_lookup {env : Env} : ∀ {names : List (Str × NameKind)} {x : Str} {kd : NameKind}, names.lookup x = some kd →
    (names.map fun (n, k) => if (k == NameKind.free && env.scope.kind == .function && env.kindOf n == some .cell) then (n, NameKind.cell) else (n, k)).lookup x = some (if (kd == NameKind.free && env.scope.kind == .function && env.kindOf x == some .cell) then .cell else kd)
  | [], _, _, h => by simp at h
  | (n, k) :: r, x, kd, h => by
    show List.lookup x ((if (k == NameKind.free && env.scope.kind == .function && env.kindOf n == some .cell) = true then (n, NameKind.cell) else (n, k)) :: _) = _
    rw [List.lookup_cons] at h
    cases hx : x == n with
    | true =>
      rw [hx] at h
      have e : x = n := beq_iff_eq.mp hx
      subst e
      cases h
      split <;> simp
    | false =>
      rw [hx] at h
      have ih := relabel_lookup (env := env) h
      split <;> (rw [List.lookup_cons, hx]; exact ih)

section
variable {C : Cx} {k : Nat} {ns : Names} {ρ : PEnv} {β : Bx}

theorem comp_core {elt iter target : Expr} {cs : Scope} {pos : Pos} {A : Around} {s : Shared} {env : Env} {X : Addr → Prop} {bx : Option Addr} {cl : List (Str × Addr)} {it : Value} {ds : List PyData} {hs : Heap} {Qo : List PyData → Bx → Prop} {RR : Value → Addr → Result → Shared → Prop} {E : Value → Shared → Prop}
    (R : Room A k) {β₀ : Bx} (S0 : EOk C X bx β₀ ns ρ env hs) (kp : Keep bx hs s.heap) (S : EOk C X bx β ns ρ env s.heap) (hI : ItOk C A target X bx β hs it ds s.heap)
    (hz : ds.length ≤ 16384) (hrun : CompR (stepC C k cs.names target elt (freeEnv cs.names ρ)) ds [] β Qo)
    (hkd : cs.kind = .function) (hsc : scopeOk cs = true) (hfr : freeOk cs.names ns ρ = true) (htg : okT (fun x => cs.names.lookup x) target = true)
    (hcl : ∀ n, (n, NameKind.free) ∈ cs.names → cl.lookup n = env.cells.lookup n)
    (hRR : ∀ D L h' tk m out β', Qo out β' → h'.Ns L m → s.heap.get? L = none → s.heap.get? D = none → D ≠ L → Keep bx hs h' → BoxIs h' X bx β' → Rep h' (fun a => X a ∨ a = L) (.ref D) (.list out) → RR (.ref D) L (.ok .next) { s with heap := h', toks := tk }) :
    wpAny (model C.prog C.w) A (newList []) (fun acc s₃ => wpAny (model C.prog C.w) A (newFunctionEnv cs env.globals cl [] env.qual none .none (some env)) (fun cenv s₄ =>
      codeAny (model C.prog C.w) A (.compStart (.ListComp elt [⟨target, iter, [], 0⟩] cs pos) 0 it acc { cenv with scope := relabel cs env }) (RR acc cenv.locals) s₄) E s₃) E s := by
  have hcell : ∀ y ∈ cs.names, y.2 ≠ .cell := fun y hy q => by
    have := List.all_eq_true.mp hsc y hy
    rw [q] at this; simp at this
  refine wpAny_newObj_type (wpAny_newFunctionEnv hcell (by intro y hy; simp at hy) (fun h₁ hns₁ hsb₁ => ?_) hkd) (size_ok (n := 0) (by decide))
  dsimp only at hns₁ hsb₁ ⊢
  refine ex7 hI fun I fp wr Pr Md St hm hI2 => an10 hI2 fun eI T st0 Sm km kmh wrm fpl fpx itm => ?_
  clear hI hI2
  subst eI
  generalize hH2 : s.heap.push { cls := .type "list", dict := none, data := .seq ([] : List Value).toArray } = H2 at hns₁ hsb₁ ⊢
  have hLz : H2.objs.size = s.heap.objs.size + 1 := by rw [← hH2, Heap.size_push]
  generalize hD : s.heap.objs.size = D at *
  generalize hL : H2.objs.size = L at *
  have dead : ∀ a, D ≤ a → s.heap.get? a = none := fun a ha => by
    cases e : s.heap.get? a with
    | none => rfl
    | some o => exact absurd (Heap.lt_size e) (Nat.not_lt.mpr (hD ▸ ha))
  have dD : s.heap.get? D = none := dead D (Nat.le_refl _)
  have dL : s.heap.get? L = none := dead L (by rw [hLz]; exact Nat.le_succ _)
  have hDL : D ≠ L := by rw [hLz]; exact Nat.ne_of_lt (Nat.lt_succ_self _)
  have old : ∀ b o, s.heap.get? b = some o → h₁.get? b = some o := fun b o e => by
    refine hsb₁.extBut b o (fun q => ?_) (Heap.get?_push_of_some _ (hH2 ▸ Heap.get?_push_of_some _ e))
    subst q; rw [dL] at e; cases e
  have hDl : h₁.IsList D ([] : List Value).toArray := by
    refine ⟨{ cls := .type "list", data := .seq ([] : List Value).toArray }, hsb₁.extBut _ _ hDL (Heap.get?_push_of_some _ ?_), rfl, 0, rfl⟩
    rw [← hH2, ← hD]
    exact Heap.get?_push_size _ rfl
  have wrs : ∀ b ∈ wr, hs.get? b = none := fun b hb => by
    cases e : hs.get? b with
    | none => rfl
    | some o =>
      by_cases q : bx = some b
      · exact absurd (S.toSOk.box b q).1 (fpx b (T.sub b hb))
      · have := km b o q e
        rw [wrm b hb] at this; cases this
  have hDf : D ∉ fp := fun q => by
    obtain ⟨o, e, _⟩ := fpl _ q
    rw [dD] at e; cases e
  have hLf : L ∉ fp := fun q => by
    obtain ⟨o, e, _⟩ := fpl _ q
    rw [dL] at e; cases e
  have hDw : D ∉ wr := fun q => hDf (T.sub _ q)
  have hLw : L ∉ wr := fun q => hLf (T.sub _ q)
  have hfb : ∀ b ∈ fp, bx ≠ some b := fun b hb q => fpx b hb (S.toSOk.box b q).1
  -- the addresses that the elements do not lean on
  let Y : Addr → Prop := fun a => X a ∨ a ∈ wr ∨ a = D ∨ a = L
  have hY : Y = fun a => X a ∨ a ∈ wr ∨ a = D ∨ a = L := rfl
  have XY : ∀ a, X a → Y a := fun a h => .inl h
  have Ydead : ∀ a, Y a → X a ∨ hm.get? a = none := fun a h => by
    rcases h with h | h | h | h
    · exact .inl h
    · exact .inr (wrm a h)
    · refine .inr ?_
      cases e : hm.get? a with
      | none => rfl
      | some o => have := kmh a o e; rw [h, dD] at this; cases this
    · refine .inr ?_
      cases e : hm.get? a with
      | none => rfl
      | some o => have := kmh a o e; rw [h, dL] at this; cases this
  have Ylive : ∀ a o, ¬ X a → hs.get? a = some o → ¬ Y a := fun a o nx e h => by
    rcases Ydead a h with q | q
    · exact nx q
    · by_cases qb : bx = some a
      · exact nx (S.toSOk.box a qb).1
      · have := km a o qb e; rw [q] at this; cases this
  have Xhs : ∀ a, X a → ∃ o, hs.get? a = some o := S0.xlive
  have Xwr : ∀ a, X a → a ∉ wr := fun a xa hw => fpx a (T.sub a hw) xa
  have XD : ∀ a, X a → a ≠ D := fun a xa q => by
    obtain ⟨o, e⟩ := S.toSOk.xlive a xa
    rw [q, dD] at e; cases e
  have XL : ∀ a, X a → a ≠ L := fun a xa q => by
    obtain ⟨o, e⟩ := S.toSOk.xlive a xa
    rw [q, dL] at e; cases e
  have loop : ∀ s₃ : Shared, s₃ = { s with heap := h₁, toks := s.toks + ([] : List (Str × Value)).length } →
      codeAny (model C.prog C.w) A (.compLoop (.ListComp elt [⟨target, iter, [], 0⟩] cs pos) 0 (.ref I) (.ref D) (compEnvC cs cl L env)) (RR (.ref D) L) s₃ := by
    rintro s₃ rfl
    refine compLoop_any
      (fun j s' => ∃ H tk m i acc ys β', s' = { s with heap := H, toks := tk } ∧ j = ds.length + 1 - i ∧ i ≤ ds.length ∧ St i H ∧ H.Ns L m ∧ H.IsList D (ys : List Value).toArray ∧ RepAll H Y ys acc ∧ acc.length ≤ i ∧ BoxIs H Y bx β' ∧
        (∀ b o, b ∉ wr → b ≠ D → b ≠ L → bx ≠ some b → s.heap.get? b = some o → H.get? b = some o) ∧ CompR (stepC C k cs.names target elt (freeEnv cs.names ρ)) (ds.drop i) acc β' Qo) ?_ (ds.length + 1)
      ⟨h₁, _, _, 0, [], [], β, rfl, rfl, Nat.zero_le _, T.frame 0 _ _ st0 (fun b _ o e => old b o e), hns₁, hDl, .nil, Nat.zero_le _, ?_, fun b o _ _ _ _ e => old b o e, hrun⟩
    case refine_2 =>
      intro a q
      obtain ⟨xa, vs, hl, r⟩ := Sm.box a q
      refine ⟨XY a xa, vs, IsList.keepAt hl fun o e => old a o (kmh a o e), r.move fun b o nx e => ⟨old b o (kmh b o e), fun h => ?_⟩⟩
      rcases Ydead b h with q | q
      · exact nx q
      · rw [e] at q; cases q
    intro j s' hJ
    refine ex7 hJ fun H tk m i acc ys β' hJ2 => an11 hJ2 fun es ej hi hst hn hl hacc hai hB hkp hr => ?_
    clear hJ hJ2
    subst es ej
    have toS : ∀ b o, bx ≠ some b → hs.get? b = some o → s.heap.get? b = some o ∧ b ∉ wr ∧ b ≠ D ∧ b ≠ L := fun b o nb e => by
      have e' := kp b o nb e
      refine ⟨e', fun q => ?_, fun q => ?_, fun q => ?_⟩
      · rw [wrs b q] at e; cases e
      · rw [q, dD] at e'; cases e'
      · rw [q, dL] at e'; cases e'
    have nbx : ∀ b, ¬ X b → bx ≠ some b := fun b nx q => nx (S.toSOk.box b q).1
    by_cases hlt : i < ds.length
    · obtain ⟨d, hd⟩ : ∃ d, ds[i]? = some d := ⟨_, List.getElem?_eq_getElem hlt⟩
      have hdrop : ds.drop i = d :: ds.drop (i + 1) := by
        rw [List.drop_eq_getElem_cons hlt]
        congr 1
        rw [List.getElem?_eq_getElem hlt] at hd
        exact Option.some.inj hd
      rw [hdrop] at hr
      obtain ⟨okd, hr⟩ := hr
      refine T.item i _ _ _ hlt hst fun v h₂ tk₂ hMd hk₂ => ?_
      refine T.go i v _ _ _ hMd fun h₃ hP hst₃ hk₃ => ?_
      have H3 : ∀ b o, b ∉ wr → H.get? b = some o → h₃.get? b = some o := fun b o nw e => hk₃ b o nw (hk₂ b o nw e)
      have hIt := itm Y h₃ Ydead (fun b o nY e _ => H3 b o (fun q => nY (.inr (.inl q))) (hkp b o (fun q => nY (.inr (.inl q))) (fun q => nY (.inr (.inr (.inl q)))) (fun q => nY (.inr (.inr (.inr q)))) (nbx b fun q => nY (.inl q)) (kmh b o e))) i v d hP hd
      refine assign_comp (cenv := compEnvC cs cl L env) (Y := Y) (d := d) R.hh hkd ?_ okd (hn.at' fun o e => H3 _ o hLw e) (.inr (.inr (.inr rfl))) hIt fun h₄ tk₄ m₄ hn₄ hk₄ hb₄ => ?_
      · have loc : ∀ x, cs.names.lookup x = some .local → (compEnvC cs cl L env).kindOf x = some .local := fun x hx => by
          have := relabel_lookup (env := env) hx
          exact this
        exact okT_mono loc htg
      have H4 : ∀ b o, b ∉ wr → b ≠ L → H.get? b = some o → h₄.get? b = some o := fun b o nw nL e => hk₄ b o nL (H3 b o nw e)
      have S4 : ∀ b o, b ∉ wr → b ≠ D → b ≠ L → bx ≠ some b → s.heap.get? b = some o → h₄.get? b = some o := fun b o a1 a2 a3 a4 e => H4 b o a1 a3 (hkp b o a1 a2 a3 a4 e)
      have hl₄ : h₄.IsList D ys.toArray := IsList.keepAt hl fun o e => H4 D o hDw hDL e
      have B4 : BoxIs h₄ Y bx β' := fun a q => by
        obtain ⟨ya, vs, hl', r⟩ := hB a q
        have xa : X a := (S.toSOk.box a q).1
        refine ⟨ya, vs, IsList.keepAt hl' fun o e => H4 a o (Xwr a xa) (XL a xa) e, r.move fun b o nY e => ⟨H4 b o (fun q => nY (.inr (.inl q))) (fun q => nY (.inr (.inr (.inr q)))) e, nY⟩⟩
      have baseC : ∀ b o, C.h₀.get? b = some o → h₄.get? b = some o := fun b o e => by
        have nb : bx ≠ some b := fun q => by
          have := S.toSOk.xnew b (S.toSOk.box b q).1
          rw [e] at this; cases this
        obtain ⟨e1, a1, a2, a3⟩ := toS b o nb (S0.base b o e)
        exact S4 b o a1 a2 a3 nb e1
      have EO : EOk C Y bx β' cs.names (bindT target d ++ freeEnv cs.names ρ) (compEnvC cs cl L env) h₄ := by
        refine ⟨⟨baseC, fun a ya => ?_, fun a ya => ?_, B4⟩, ⟨hkd, S.eok.glob, S.eok.bi, fun x hx => ?_, fun x hx => ?_⟩, fun x p hx => ?_⟩
        · rcases Ydead a ya with q | q
          · exact S.toSOk.xnew a q
          · cases e : C.h₀.get? a with
            | none => rfl
            | some o => have := Sm.base a o e; rw [q] at this; cases this
        · rcases ya with q | q | q | q
          · by_cases qb : bx = some a
            · obtain ⟨_, vs, ⟨o, e, _⟩, _⟩ := B4 a qb
              exact ⟨o, e⟩
            · obtain ⟨o, e⟩ := S.toSOk.xlive a q
              exact ⟨o, S4 a o (Xwr a q) (XD a q) (XL a q) qb e⟩
          · obtain ⟨o, e⟩ := T.live _ _ hst₃ a q
            exact ⟨o, hk₄ a o (fun q2 => hLw ((show a = L from q2) ▸ q)) e⟩
          · obtain ⟨o, e, _⟩ := hl₄
            exact ⟨o, q ▸ e⟩
          · obtain ⟨o, _, _, e, _⟩ := hn₄
            exact ⟨o, q ▸ e⟩
        · have := relabel_lookup (env := env) hx
          exact this
        · have hm' := lookup_mem hx
          have := List.all_eq_true.mp hsc _ hm'
          simp at this
        · rcases lookup_append' hx with hx | hx
          · obtain ⟨u, y, rfl, e1, e2, e3⟩ := hb₄ x p hx
            exact ⟨u, .inl ⟨e1, m₄, hn₄, e2⟩, e3⟩
          · obtain ⟨f1, f2, f3, f4⟩ := freeEnv_lookup hx hfr
            obtain ⟨u, hv, hp⟩ := S0.vars x p f2
            have hk : env.kindOf x = some .cell := S.eok.cl x f3
            have chain : ∀ b o, bx ≠ some b → hs.get? b = some o → h₄.get? b = some o := fun b o nb e => by
              obtain ⟨e1, a1, a2, a3⟩ := toS b o nb e
              exact S4 b o a1 a2 a3 nb e1
            have mv0 : ∀ b o, ¬ X b → hs.get? b = some o → h₄.get? b = some o ∧ ¬ Y b := fun b o nx e => ⟨chain b o (nbx b nx) e, Ylive b o nx e⟩
            rcases hv with ⟨q, _⟩ | ⟨_, c, hc, o, ho, hdd⟩
            · rw [hk] at q; cases q
            · have nbc : bx ≠ some c := fun q => by
                obtain ⟨_, vs, ⟨o', e', _, n, d'⟩, _⟩ := S0.toSOk.box _ q
                rw [ho] at e'; cases e'; rw [hdd] at d'; cases d'
              refine ⟨u, .inr ⟨.inl ?_, c, ?_, o, chain c o nbc ho, hdd⟩, ?_⟩
              · have this : (compEnvC cs cl L env).kindOf x = some (if (NameKind.free == NameKind.free && env.scope.kind == ScopeKind.function && env.kindOf x == some NameKind.cell) = true then NameKind.cell else NameKind.free) := relabel_lookup (env := env) f4
                rw [this, S.eok.kind, hk]
                rfl
              · show cl.lookup x = some c
                rw [hcl x f1, hc]
              · cases p with
                | box => exact hp
                | d y => exact Rep.move mv0 hp
                | own xs =>
                  obtain ⟨a, vs, e1, e2, e3, e4, e5⟩ := hp
                  exact ⟨a, vs, e1, XY a e2, e3, IsList.keepAt e4 fun o e => chain a o e3 e, e5.move mv0⟩
      refine hr A { s with heap := h₄, toks := tk₄ } (compEnvC cs cl L env) Y bx _ _ R EO fun y h₅ tk₅ p β₅ q₅ k₅ B₅ r₅ => ?_
      obtain ⟨yd, rfl, q₅⟩ := q₅
      have nbD : bx ≠ some D := nbx D fun q => XD D q rfl
      have nbL : bx ≠ some L := nbx L fun q => XL L q rfl
      refine wpAny_list_append (IsList.keepAt hl₄ fun o e => k₅ D o nbD e) (fun h₆ hl₆ hs₆ => ?_) (by
        have := hacc.length
        rw [List.size_toArray, this]; exact size_ok (by omega))
      have mv6 : ∀ b o, ¬ Y b → h₅.get? b = some o → h₆.get? b = some o ∧ ¬ Y b := fun b o nY e => ⟨hs₆.extBut b o (fun q => nY (.inr (.inr (.inl q)))) e, nY⟩
      have mvH : ∀ b o, ¬ Y b → H.get? b = some o → h₆.get? b = some o ∧ ¬ Y b := fun b o nY e =>
        mv6 b o nY (k₅ b o (nbx b fun q => nY (.inl q)) (H4 b o (fun q => nY (.inr (.inl q))) (fun q => nY (.inr (.inr (.inr q)))) e))
      refine ⟨ds.length + 1 - (i + 1), by omega, h₆, tk₅, m₄, i + 1, acc ++ [yd], ys ++ [y], β₅, rfl, rfl, hlt, ?_, ?_, by simpa using hl₆, (hacc.move mvH).append (.cons (Rep.move mv6 r₅) .nil), by simp; exact hai, ?_, ?_, q₅⟩
      · exact T.frame _ _ _ hst₃ fun b hb o e => hs₆.extBut b o (fun q => hDf (q ▸ hb)) (k₅ b o (hfb b hb) (hk₄ b o (fun q => hLf ((show b = L from q) ▸ hb)) e))
      · exact (hn₄.at' fun o e => k₅ L o nbL e).sameBut hs₆ (Ne.symm hDL)
      · intro a q
        obtain ⟨ya, vs, hl', r⟩ := B₅ a q
        exact ⟨ya, vs, IsList.keepAt hl' fun o e => hs₆.extBut a o (fun q2 => nbD (q2 ▸ q)) e, r.move mv6⟩
      · intro b o a1 a2 a3 a4 e
        exact hs₆.extBut b o a2 (k₅ b o a4 (S4 b o a1 a2 a3 a4 e))
    · have hin : i = ds.length := by omega
      subst hin
      rw [List.drop_length] at hr
      refine T.done _ _ _ hst fun h₂ tk₂ hk₂ => ?_
      refine hRR D L h₂ tk₂ m acc β' hr (hn.at' fun o e => hk₂ _ o hLw e) dL dD hDL ?_ ?_ ?_
      · intro b o nb e
        obtain ⟨e1, a1, a2, a3⟩ := toS b o nb e
        exact hk₂ b o a1 (hkp b o a1 a2 a3 nb e1)
      · intro a q
        obtain ⟨ya, vs, hl', r⟩ := hB a q
        have xa : X a := (S.toSOk.box a q).1
        exact ⟨xa, vs, IsList.keepAt hl' fun o e => hk₂ a o (Xwr a xa) e, r.move fun b o nY e => ⟨hk₂ b o (fun q => nY (.inr (.inl q))) e, fun q => nY (.inl q)⟩⟩
      · refine .list (IsList.keepAt hl fun o e => hk₂ D o hDw e) ?_ (hacc.move fun b o nY e => ⟨hk₂ b o (fun q => nY (.inr (.inl q))) e, ?_⟩)
        · rintro (q | q)
          · exact XD D q rfl
          · exact hDL q
        · rintro (q | q)
          · exact nY (.inl q)
          · exact nY (.inr (.inr (.inr q)))
  exact codeAny_compStart_list (loop _ rfl) (T.self _ _ _ (T.frame 0 _ _ st0 fun b _ o e => old b o e) (loop _ rfl))
end
end Mine
namespace Mine
set_option maxHeartbeats 200000

section
variable {C : Cx} {k : Nat} {ns : Names} {ρ : PEnv} {β : Bx} {Q : PV → Bx → Prop}

theorem cells_of {cs : Scope} {env : Env} {X : Addr → Prop} {bx : Option Addr} {h : Heap} (S : EOk C X bx β ns ρ env h) (hfr : freeOk cs.names ns ρ = true) : ∀ n, (n, NameKind.free) ∈ cs.names → ∃ c, env.cells.lookup n = some c := fun n hn => by
  have := List.all_eq_true.mp hfr _ hn
  simp only [bne_self_eq_false, Bool.false_or, Bool.and_eq_true, beq_iff_eq] at this
  obtain ⟨⟨h1, h2⟩, _⟩ := this
  obtain ⟨p, hp⟩ := Option.isSome_iff_exists.mp h2
  obtain ⟨v, hv, _⟩ := S.vars n p hp
  rcases hv with ⟨q, _⟩ | ⟨_, c, hc, _⟩
  · rw [S.eok.cl n h1] at q; cases q
  · exact ⟨c, hc⟩
theorem scope_names {cs : Scope} (hsc : scopeOk cs = true) : ∀ x ∈ cs.names, x.2 = .local → cs.names.lookup x.1 = some .local := fun x hx hl => by
  have := List.all_eq_true.mp hsc x hx
  rw [hl] at this
  simpa using this

/-- a comprehension -/
theorem e_comp {elt iter target : Expr} {cs : Scope} {pos : Pos}
    (h : WI C k ns target iter ρ β fun ds β₁ => ds.length ≤ 16384 ∧ CompR (stepC C k cs.names target elt (freeEnv cs.names ρ)) ds [] β₁ fun out β₂ => Q (.d (.list out)) β₂)
    (hkd : cs.kind = .function := by rfl) (hsc : scopeOk cs = true := by rfl) (hfr : freeOk cs.names ns ρ = true := by rfl) (htg : okT (fun x => cs.names.lookup x) target = true := by rfl)
    (hs : ∀ env x, foldedSetIterable iter env x = pure x := by intro _ _; rfl) : WE C k ns (.ListComp elt [⟨target, iter, [], 0⟩] cs pos) ρ β Q :=
  fun A s env X bx P E R S c => by
    obtain ⟨cl, hclos, hcl⟩ := closure_ok (cells_of S hfr)
    rw [eval_ListComp]
    refine wpAny_comprehension_free (use := none) rfl (hs env) hclos hkd (scope_names hsc) (h A s env X bx _ E R S fun it h' tk ds β₁ q k1 B1 I1 => ?_)
    obtain ⟨hz, hr⟩ := q
    refine comp_core (s := { s with heap := h', toks := tk }) (RR := fun acc L => compPost (model C.prog C.w) A E none P acc L) R S k1 (S.step k1 B1) I1 hz hr hkd hsc hfr htg hcl ?_
    intro D L h2 tk2 m out β₂ q2 hn hL hD hDL k2 B2 r2
    refine ⟨m, hn, fun h3 hs3 => ?_⟩
    obtain ⟨oL, _, _, eL, dL, _⟩ := hn
    have nbL : bx ≠ some L := fun q => by
      obtain ⟨_, vs, ⟨o', e', _, n, d'⟩, _⟩ := B2 _ q
      rw [eL] at e'; cases e'; rw [dL] at d'; cases d'
    have XL : ¬ X L := fun q => by
      obtain ⟨o, e⟩ := S.toSOk.xlive _ q
      have := k1 L o nbL e
      rw [hL] at this; cases this
    refine c _ h3 tk2 _ β₂ q2 (fun b o nb e => ?_) (fun a q => ?_) (r2.move fun b o nX e => ⟨hs3.extBut b o (fun q => nX (.inr q)) e, fun q => nX (.inl q)⟩)
    · refine hs3.extBut b o (fun q => ?_) (k2 b o nb e)
      rw [q] at e
      have := k1 L o nbL e
      rw [hL] at this; cases this
    · obtain ⟨xa, vs, hl, r⟩ := B2 a q
      refine ⟨xa, vs, IsList.keepAt hl fun o e => hs3.extBut a o (fun q2 => nbL (q2 ▸ q)) e, r.moveS fun b o nX e ⟨_, _, ed⟩ => ⟨hs3.extBut b o (fun q2 => ?_) e, nX⟩⟩
      rw [q2, eL] at e; cases e; rw [dL] at ed; cases ed
end
end Mine
namespace Mine
set_option maxHeartbeats 200000

/-! ## statements -/
noncomputable abbrev Own := List (Str × Addr)
noncomputable def XO (X : Addr → Prop) (ow : Own) : Addr → Prop := fun a => X a ∨ a ∈ ow.map (·.2)

structure FOk (C : Cx) (X : Addr → Prop) (bx : Option Addr) (β : Bx) (sc : Scope) (ρ : PEnv) (env : Env) (ow : Own) (h : Heap) : Prop where
  s : SOk C (XO X ow) bx β h
  eok : EnvOk sc.names env
  scope : env.scope = sc
  lnew : C.h₀.get? env.locals = none
  cnew : ∀ c, c ∈ env.cells.map (·.2) → C.h₀.get? c = none
  loc : ∃ m, h.Ns env.locals m
  cel : ∀ x c, env.cells.lookup x = some c → ∃ v, h.IsCell c v
  cla : ∀ x, sc.names.lookup x = some .cell → ∃ c, env.cells.lookup x = some c
  cnd : ∀ x y c, env.cells.lookup x = some c → env.cells.lookup y = some c → x = y
  clk : ∀ c, c ∈ env.cells.map (·.2) → ∃ x, env.cells.lookup x = some c
  vars : ∀ x p, ρ.lookup x = some p → (∀ xs, p ≠ .own xs) → ∃ v, VarIs h env x v ∧ PRep h (XO X ow) bx v p
  own : ∀ x xs, ρ.lookup x = some (.own xs) → ∃ a vs, ow.lookup x = some a ∧ VarIs h env x (.ref a) ∧ PlainL h a (vs : List Value).toArray ∧ RepAll h (XO X ow) vs xs ∧ bx ≠ some a
  ond : ∀ x y a, ow.lookup x = some a → ow.lookup y = some a → x = y
  onx : ∀ a ∈ ow.map (·.2), ¬ X a
  bxx : ∀ a, bx = some a → X a

theorem PlainL.keepAt {h h' : Heap} {a : Addr} {its : Array Value} (x : PlainL h a its) (k : ∀ o, h.get? a = some o → h'.get? a = some o) : PlainL h' a its := let ⟨o, n, e, r⟩ := x; ⟨o, n, k o e, r⟩
theorem lookup_in {α β : Type} [BEq α] [LawfulBEq α] {x : α} {y : β} {l : List (α × β)} (h : l.lookup x = some y) : y ∈ l.map (·.2) := List.mem_map.mpr ⟨_, lookup_mem h, rfl⟩

section
variable {C : Cx} {X : Addr → Prop} {bx : Option Addr} {β β' : Bx} {sc : Scope} {ρ ρ' : PEnv} {env : Env} {ow : Own} {h h' : Heap}

theorem FOk.e (F : FOk C X bx β sc ρ env ow h) : EOk C (XO X ow) bx β sc.names ρ env h where
  toSOk := F.s
  eok := F.eok
  vars := fun x p hl => by
    by_cases q : ∃ xs, p = .own xs
    · obtain ⟨xs, rfl⟩ := q
      obtain ⟨a, vs, h1, h2, h3, h4, h5⟩ := F.own x xs hl
      exact ⟨_, h2, a, vs, rfl, .inr (lookup_in h1), h5, h3.isList, h4⟩
    · exact F.vars x p hl fun xs e => q ⟨xs, e⟩

theorem FOk.weaken (F : FOk C X bx β sc ρ env ow h) (w : ∀ x p, ρ'.lookup x = some p → ρ.lookup x = some p) : FOk C X bx β sc ρ' env ow h :=
  { F with vars := fun x p hl n => F.vars x p (w x p hl) n, own := fun x xs hl => F.own x xs (w x _ hl) }

theorem FOk.step (F : FOk C X bx β sc ρ env ow h) (k : Keep bx h h') (B : BoxIs h' (XO X ow) bx β') : FOk C X bx β' sc ρ env ow h' where
  s := F.s.step k B
  eok := F.eok
  scope := F.scope
  lnew := F.lnew
  cnew := F.cnew
  loc := by
    obtain ⟨m, hn⟩ := F.loc
    obtain ⟨o, es, ep, ho, hd, r⟩ := hn
    refine ⟨m, o, es, ep, k _ o (fun q => ?_) ho, hd, r⟩
    obtain ⟨_, vs, ⟨o', e', _, n, d'⟩, _⟩ := F.s.box _ q
    rw [ho] at e'; cases e'; rw [hd] at d'; cases d'
  cel := fun x c hc => by
    obtain ⟨v, o, ho, hd⟩ := F.cel x c hc
    refine ⟨v, o, k _ o (fun q => ?_) ho, hd⟩
    obtain ⟨_, vs, ⟨o', e', _, n, d'⟩, _⟩ := F.s.box _ q
    rw [ho] at e'; cases e'; rw [hd] at d'; cases d'
  cla := F.cla
  cnd := F.cnd
  clk := F.clk
  vars := fun x p hl n => let ⟨v, a, b⟩ := F.vars x p hl n; ⟨v, a.keep F.s k, b.keep F.s k⟩
  own := fun x xs hl => let ⟨a, vs, h1, h2, h3, h4, h5⟩ := F.own x xs hl; ⟨a, vs, h1, h2.keep F.s k, PlainL.keepAt h3 fun o e => k a o h5 e, h4.keep F.s k, h5⟩
  ond := F.ond
  onx := F.onx
  bxx := F.bxx

noncomputable def Priv (env : Env) (ow : Own) (b : Addr) : Prop := b = env.locals ∨ b ∈ env.cells.map (·.2) ∨ b ∈ ow.map (·.2)
/-- what a frame's statements keep -/
noncomputable def KeepF (bx : Option Addr) (env : Env) (ow : Own) (h h' : Heap) : Prop := ∀ b o, bx ≠ some b → ¬ Priv env ow b → h.get? b = some o → h'.get? b = some o
/-- new lists of the frame's own are new -/
noncomputable def OwExt (h : Heap) (ow ow' : Own) : Prop := ∀ a ∈ ow'.map (·.2), a ∈ ow.map (·.2) ∨ h.get? a = none

theorem KeepF.refl : KeepF bx env ow h h := fun _ _ _ _ e => e
theorem KeepF.of (k : Keep bx h h') : KeepF bx env ow h h' := fun b o nb _ e => k b o nb e
theorem OwExt.refl : OwExt h ow ow := fun _ m => .inl m
theorem KeepF.trans {ow' : Own} {h'' : Heap} (k : KeepF bx env ow h h') (x : OwExt h ow ow') (k' : KeepF bx env ow' h' h'') : KeepF bx env ow h h'' := fun b o nb np e => by
  refine k' b o nb ?_ (k b o nb np e)
  rintro (q | q | q)
  · exact np (.inl q)
  · exact np (.inr (.inl q))
  · rcases x b q with q | q
    · exact np (.inr (.inr q))
    · rw [e] at q; cases q
theorem FOk.privLive (F : FOk C X bx β sc ρ env ow h) {a : Addr} (q : bx = some a ∨ Priv env ow a) : ∃ o, h.get? a = some o := by
  rcases q with q | q | q | q
  · obtain ⟨_, vs, ⟨o, e, _⟩, _⟩ := F.s.box a q
    exact ⟨o, e⟩
  · obtain ⟨m, o, _, _, e, _⟩ := F.loc
    exact ⟨o, q ▸ e⟩
  · obtain ⟨x, hx⟩ := F.clk a q
    obtain ⟨v, o, e, _⟩ := F.cel x a hx
    exact ⟨o, e⟩
  · exact F.s.xlive a (.inr q)
theorem OwExt.trans {ow' ow'' : Own} (F' : FOk C X bx β' sc ρ' env ow' h') (k : KeepF bx env ow h h') (x : OwExt h ow ow') (x' : OwExt h' ow' ow'') : OwExt h ow ow'' := fun a m => by
  rcases x' a m with q | q
  · exact x a q
  · by_cases p : a ∈ ow.map (·.2)
    · exact .inl p
    · refine .inr ?_
      cases e : h.get? a with
      | none => rfl
      | some o =>
        exfalso
        have dead : ∀ {P : Prop}, (∃ o, h'.get? a = some o) → P := fun ⟨o, e⟩ => by rw [q] at e; cases e
        by_cases nb : bx = some a
        · exact dead (F'.privLive (.inl nb))
        · by_cases pr : Priv env ow a
          · rcases pr with pr | pr | pr
            · exact dead (F'.privLive (.inr (.inl pr)))
            · exact dead (F'.privLive (.inr (.inr (.inl pr))))
            · exact p pr
          · exact dead ⟨o, k a o nb pr e⟩

/-- a statement list: N where it goes on, T where it hands back -/
noncomputable def WS (C : Cx) (k : Nat) (sc : Scope) (body : List Stmt) (ρ : PEnv) (β : Bx) (N : PEnv → Bx → Prop) (T : PyData → Bx → Prop) : Prop :=
  ∀ (A : Around) (s : Shared) (env : Env) (X : Addr → Prop) (bx : Option Addr) (ow : Own) (P : Flow → Shared → Prop) (E : Value → Shared → Prop), Room A k → FOk C X bx β sc ρ env ow s.heap →
    (∀ h' tk ρ' β' ow', N ρ' β' → FOk C X bx β' sc ρ' env ow' h' → KeepF bx env ow s.heap h' → OwExt s.heap ow ow' → P .next { s with heap := h', toks := tk }) →
    (∀ v h' tk d β', T d β' → KeepF bx env ow s.heap h' → BoxIs h' X bx β' → Rep h' X v d → P (.ret v) { s with heap := h', toks := tk }) →
    wpAny (model C.prog C.w) A (execs body env) P E s
/-- one statement -/
noncomputable def WX (C : Cx) (k : Nat) (sc : Scope) (st : Stmt) (ρ : PEnv) (β : Bx) (N : PEnv → Bx → Prop) (T : PyData → Bx → Prop) : Prop :=
  ∀ (A : Around) (s : Shared) (env : Env) (X : Addr → Prop) (bx : Option Addr) (ow : Own) (P : Flow → Shared → Prop) (E : Value → Shared → Prop), Room A k → FOk C X bx β sc ρ env ow s.heap →
    (∀ h' tk ρ' β' ow', N ρ' β' → FOk C X bx β' sc ρ' env ow' h' → KeepF bx env ow s.heap h' → OwExt s.heap ow ow' → P .next { s with heap := h', toks := tk }) →
    (∀ v h' tk d β', T d β' → KeepF bx env ow s.heap h' → BoxIs h' X bx β' → Rep h' X v d → P (.ret v) { s with heap := h', toks := tk }) →
    wpAny (model C.prog C.w) A (exec st env) P E s
end

section
variable {C : Cx} {k : Nat} {sc : Scope} {ρ : PEnv} {β : Bx} {N : PEnv → Bx → Prop} {T : PyData → Bx → Prop}

theorem s_nil (h : N ρ β) : WS C k sc [] ρ β N T := fun _ s _ _ _ _ _ _ _ F c _ => wpAny_execs_nil (c s.heap s.toks ρ β _ h F KeepF.refl OwExt.refl)
theorem s_cons {st : Stmt} {rest : List Stmt} (h : WX C k sc st ρ β (fun ρ' β' => WS C k sc rest ρ' β' N T) T) : WS C k sc (st :: rest) ρ β N T :=
  fun A s env X bx ow P E R F c r => by
    refine wpAny_execs_cons (h A s env X bx ow _ E R F (fun h' tk ρ' β' ow' n F' k1 x1 => ?_) fun v h' tk d β' t k1 B1 r1 => r v h' tk d β' t k1 B1 r1)
    exact n A { s with heap := h', toks := tk } env X bx ow' P E R F' (fun h2 tk2 ρ2 β2 ow2 n2 F2 k2 x2 => c h2 tk2 ρ2 β2 ow2 n2 F2 (k1.trans x1 k2) (OwExt.trans F' k1 x1 x2))
      fun v h2 tk2 d β2 t k2 B2 r2 => r v h2 tk2 d β2 t (k1.trans x1 k2) B2 r2

/-- what is own becomes plain data -/
noncomputable def fz : PV → PV
  | .own xs => .d (.list xs)
  | p => p
noncomputable def freeze (ρ : PEnv) : PEnv := ρ.map fun x => (x.1, fz x.2)
theorem freeze_lookup : ∀ {ρ : PEnv} {x : Str} {p : PV}, (freeze ρ).lookup x = some p → ∃ q, ρ.lookup x = some q ∧ p = fz q
  | [], _, _, h => by simp [freeze] at h
  | (y, q) :: ρ, x, p, h => by
    have h' : List.lookup x ((y, fz q) :: freeze ρ) = some p := h
    rw [List.lookup_cons] at h' ⊢
    cases hb : x == y with
    | true => rw [hb] at h'; exact ⟨q, rfl, (Option.some.inj h').symm⟩
    | false => rw [hb] at h'; exact freeze_lookup h'

theorem FOk.frozen {X : Addr → Prop} {bx : Option Addr} {env : Env} {ow : Own} {h : Heap} (F : FOk C X bx β sc ρ env ow h) : EOk C X bx β sc.names (freeze ρ) env h where
  base := F.s.base
  xnew := fun a x => F.s.xnew a (.inl x)
  xlive := fun a x => F.s.xlive a (.inl x)
  box := fun a q => by
    obtain ⟨_, vs, hl, r⟩ := F.s.box a q
    exact ⟨F.bxx a q, vs, hl, r.move fun b o nX e => ⟨e, fun q => nX (.inl q)⟩⟩
  eok := F.eok
  vars := fun x p hl => by
    obtain ⟨q, hq, rfl⟩ := freeze_lookup hl
    cases q with
    | own xs =>
      obtain ⟨a, vs, h1, h2, h3, h4, h5⟩ := F.own x xs hq
      exact ⟨_, h2, Rep.list h3.isList (F.onx a (lookup_in h1)) (h4.move fun b o nX e => ⟨e, fun q => nX (.inl q)⟩)⟩
    | d y =>
      obtain ⟨v, a, b⟩ := F.vars x _ hq (fun _ e => nomatch e)
      exact ⟨v, a, Rep.move (fun b o nX e => ⟨e, fun q => nX (.inl q)⟩) b⟩
    | box =>
      obtain ⟨v, a, b⟩ := F.vars x _ hq (fun _ e => nomatch e)
      exact ⟨v, a, b⟩

theorem x_ret {e : Expr} {pos : Pos} (h : WE C k sc.names e (freeze ρ) β fun p β' => ∃ d, p = .d d ∧ T d β') : WX C k sc (.Return (some e) pos) ρ β N T :=
  fun A s env X bx ow P E R F c r => by
    refine wpAny_Return_some (h A s env X bx _ E R F.frozen fun v h' tk p β' q k1 B1 r1 => ?_)
    obtain ⟨d, rfl, q⟩ := q
    exact r v h' tk d β' q (KeepF.of k1) B1 r1
theorem x_if {test : Expr} {body orelse : List Stmt} {pos : Pos} (h : WT C k sc.names test ρ β fun b β' => if b = true then WS C k sc body ρ β' N T else WS C k sc orelse ρ β' N T) : WX C k sc (.If test body orelse pos) ρ β N T :=
  fun A s env X bx ow P E R F c r => by
    refine wpAny_If (h A s env _ bx _ _ E R F.e fun b h' tk β' q k1 B1 => ?_)
    have go : ∀ bd, WS C k sc bd ρ β' N T → wpAny (model C.prog C.w) A (execs bd env) P E { s with heap := h', toks := tk } := fun bd q =>
      q A { s with heap := h', toks := tk } env X bx ow P E R (F.step k1 B1) (fun h2 tk2 ρ2 β2 ow2 n2 F2 k2 x2 => c h2 tk2 ρ2 β2 ow2 n2 F2 ((KeepF.of k1).trans OwExt.refl k2) (OwExt.trans (F.step k1 B1) (KeepF.of k1) OwExt.refl x2))
        fun v h2 tk2 d β2 t k2 B2 r2 => r v h2 tk2 d β2 t ((KeepF.of k1).trans OwExt.refl k2) B2 r2
    cases b with
    | true => exact go body q
    | false => exact go orelse q
theorem x_expr {e : Expr} {pos : Pos} (h : WE C k sc.names e ρ β fun _ β' => N ρ β') (hi : ∀ env : Env, env.scope = sc → interactive env = false := by intro env h; unfold interactive; rw [h]; rfl)
    (hs : ∀ env, swapsWith e none pos.line env = pure false := by intro _; rfl) : WX C k sc (.Expr e pos) ρ β N T :=
  fun A s env X bx ow P E R F c r => by
    refine wpAny_Expr_any (h A s env _ bx _ E R F.e fun v h' tk p β' q k1 B1 r1 => ?_) (hi env F.scope) (hs env)
    exact c h' tk ρ β' ow q (F.step k1 B1) (KeepF.of k1) OwExt.refl
end
end Mine
namespace Mine
set_option maxHeartbeats 200000

theorem notSeq_ns {h : Heap} {a : Addr} {m : Str → Option Value} {o : Obj} (hn : h.Ns a m) (e : h.get? a = some o) : noFrame o = false := by
  obtain ⟨o', es, ep, ho, hd, r⟩ := hn
  rw [ho] at e; cases e
  unfold noFrame; rw [hd]
theorem notSeq_cell {h : Heap} {a : Addr} {v : Option Value} {o : Obj} (hn : h.IsCell a v) (e : h.get? a = some o) : noFrame o = false := by
  obtain ⟨o', ho, hd⟩ := hn
  rw [ho] at e; cases e
  unfold noFrame; rw [hd]
theorem seq_noFrame {o : Obj} (h : ∃ its n, o.data = .seq its n) : noFrame o = true := by
  obtain ⟨_, _, e⟩ := h
  unfold noFrame; rw [e]

noncomputable def isVar (sc : Scope) (x : Str) : Bool := sc.names.lookup x == some .local || sc.names.lookup x == some .cell

section
variable {C : Cx} {X Y : Addr → Prop} {bx : Option Addr} {β β' : Bx} {sc : Scope} {ρ ρ' : PEnv} {env : Env} {ow ow' : Own} {h h' : Heap}

/-- a frame in another heap, under other bars -/
theorem FOk.gen (F : FOk C X bx β sc ρ env ow h) (h0 : C.h₀.StaysIn h') (y0 : ∀ a, Y a → C.h₀.get? a = none) (yl : ∀ a, Y a → ∃ o, h'.get? a = some o) (B : BoxIs h' (XO Y ow) bx β')
    (pk : ∀ b o, Priv env ow b → h.get? b = some o → h'.get? b = some o) (k : ∀ b o, ¬ XO X ow b → h.get? b = some o → h'.get? b = some o ∧ ¬ XO Y ow b) (oy : ∀ a ∈ ow.map (·.2), ¬ Y a) (by' : ∀ a, bx = some a → Y a) : FOk C Y bx β' sc ρ env ow h' where
  s := ⟨h0, fun a q => q.elim (y0 a) fun q => F.s.xnew a (.inr q), fun a q => q.elim (yl a) fun q => let ⟨o, e⟩ := F.s.xlive a (.inr q); ⟨o, pk a o (.inr (.inr q)) e⟩, B⟩
  eok := F.eok
  scope := F.scope
  lnew := F.lnew
  cnew := F.cnew
  loc := let ⟨m, hn⟩ := F.loc; ⟨m, hn.at' fun o e => pk _ o (.inl rfl) e⟩
  cel := fun x c hc => by
    obtain ⟨v, o, ho, hd⟩ := F.cel x c hc
    exact ⟨v, o, pk _ o (.inr (.inl (lookup_in hc))) ho, hd⟩
  cla := F.cla
  cnd := F.cnd
  clk := F.clk
  vars := fun x p hl n => by
    obtain ⟨v, hv, r⟩ := F.vars x p hl n
    have hv' : VarIs h' env x v := by
      rcases hv with ⟨h1, m, hn, hm⟩ | ⟨h1, c, hc, o, ho, hd⟩
      · exact .inl ⟨h1, m, hn.at' fun o e => pk _ o (.inl rfl) e, hm⟩
      · exact .inr ⟨h1, c, hc, o, pk _ o (.inr (.inl (lookup_in hc))) ho, hd⟩
    cases p with
    | d x => exact ⟨v, hv', Rep.move k r⟩
    | box => exact ⟨v, hv', r⟩
    | own xs => exact absurd rfl (n xs)
  own := fun x xs hl => by
    obtain ⟨a, vs, h1, hv, h3, h4, h5⟩ := F.own x xs hl
    refine ⟨a, vs, h1, ?_, PlainL.keepAt h3 fun o e => pk _ o (.inr (.inr (lookup_in h1))) e, h4.move k, h5⟩
    rcases hv with ⟨h1, m, hn, hm⟩ | ⟨h1, c, hc, o, ho, hd⟩
    · exact .inl ⟨h1, m, hn.at' fun o e => pk _ o (.inl rfl) e, hm⟩
    · exact .inr ⟨h1, c, hc, o, pk _ o (.inr (.inl (lookup_in hc))) ho, hd⟩
  ond := F.ond
  onx := oy
  bxx := by'

/-- what a store of v at x does -/
structure Stored (env : Env) (x : Str) (v : Value) (h h' : Heap) : Prop where
  now : VarIs h' env x v
  else' : ∀ y u, y ≠ x → VarIs h env y u → VarIs h' env y u
  keep : ∀ b o, b ≠ env.locals → b ∉ env.cells.map (·.2) → h.get? b = some o → h'.get? b = some o
  seq : ∀ b o, h.get? b = some o → noFrame o = true → h'.get? b = some o
  loc : ∃ m, h'.Ns env.locals m
  cel : ∀ x c, env.cells.lookup x = some c → ∃ v, h'.IsCell c v

theorem store_core {x : Str} {v : Value} {A : Around} {s : Shared} {P : Unit → Shared → Prop} {E : Value → Shared → Prop} {M : Model} (F : FOk C X bx β sc ρ env ow s.heap) (hx : isVar sc x = true) (h : ∀ h' tk, Stored env x v s.heap h' → P () { s with heap := h', toks := tk }) :
    wpAny M A (storeName env x v) P E s := by
  have hp : (env.scope.kind == .class || (env.scope.kind == .module && env.locals != env.globals)) = false := by rw [F.eok.kind]; rfl
  have ks : ∀ y, env.kindOf y = sc.names.lookup y := fun y => by unfold Env.kindOf; rw [F.scope]
  unfold isVar at hx
  simp only [Bool.or_eq_true, beq_iff_eq] at hx
  obtain ⟨m, hn⟩ := F.loc
  rcases hx with hx | hx
  · refine wpAny_storeName_local ((ks x).trans hx) hn (fun h' hn' hs' => h h' _ ?_) hp
    have lc : ∀ c v, s.heap.IsCell c v → c ≠ env.locals := fun c v ic q => by
      obtain ⟨o, ho, hd⟩ := ic
      obtain ⟨o', es, ep, ho', hd', r⟩ := hn
      rw [← q, ho] at ho'; cases ho'; rw [hd] at hd'; cases hd'
    refine ⟨.inl ⟨(ks x).trans hx, _, hn', by simp⟩, fun y u ny hv => ?_, fun b o nl _ e => hs'.extBut b o nl e, fun b o e nf => ?_, ⟨_, hn'⟩, fun y c hc => ?_⟩
    · rcases hv with ⟨h1, m2, hn2, hm⟩ | ⟨h1, c, hc, ic⟩
      · refine .inl ⟨h1, _, hn', ?_⟩
        rw [if_neg ny]
        obtain ⟨o1, es1, ep1, e1, d1, _, f1⟩ := hn
        obtain ⟨o2, es2, ep2, e2, d2, _, f2⟩ := hn2
        rw [e1] at e2; cases e2
        rw [d1] at d2; cases d2
        rw [← f1, f2]; exact hm
      · exact .inr ⟨h1, c, hc, ic.sameBut hs' (lc _ _ ic)⟩
    · refine hs'.extBut b o (fun q => ?_) e
      have := notSeq_ns hn (q ▸ e)
      rw [nf] at this; cases this
    · obtain ⟨v, ic⟩ := F.cel y c hc
      exact ⟨v, ic.sameBut hs' (lc _ _ ic)⟩
  · obtain ⟨c, hc⟩ := F.cla x hx
    obtain ⟨v₀, ic⟩ := F.cel x c hc
    refine wpAny_storeName_cell F.eok.kind ((ks x).trans hx) hc ic (fun h' hc' hs' => h h' s.toks ?_)
    have cl : env.locals ≠ c := fun q => by
      obtain ⟨o, ho, hd⟩ := ic
      obtain ⟨o', es, ep, ho', hd', r⟩ := hn
      rw [q, ho] at ho'; cases ho'; rw [hd] at hd'; cases hd'
    have cm : c ∈ env.cells.map (·.2) := lookup_in hc
    refine ⟨.inr ⟨.inl ((ks x).trans hx), c, hc, hc'⟩, fun y u ny hv => ?_, fun b o _ nc e => hs'.extBut b o (fun q => nc (q ▸ cm)) e, fun b o e nf => ?_, ⟨m, hn.sameBut hs' cl⟩, fun y c2 hc2 => ?_⟩
    · rcases hv with ⟨h1, m2, hn2, hm⟩ | ⟨h1, c2, hc2, ic2⟩
      · exact .inl ⟨h1, _, hn2.sameBut hs' cl, hm⟩
      · exact .inr ⟨h1, c2, hc2, ic2.sameBut hs' fun q => ny (F.cnd y x c (q ▸ hc2) hc)⟩
    · refine hs'.extBut b o (fun q => ?_) e
      have := notSeq_cell ic (q ▸ e)
      rw [nf] at this; cases this
    · by_cases q : c2 = c
      · exact ⟨_, q ▸ hc'⟩
      · obtain ⟨v, ic2⟩ := F.cel y c2 hc2
        exact ⟨v, ic2.sameBut hs' q⟩

theorem FOk.bind {x : Str} {v : Value} {p : PV} (F : FOk C X bx β sc ρ env ow h) (S : Stored env x v h h') (hp : (∃ d, p = .d d ∧ Rep h (XO X ow) v d) ∨ (∃ xs a vs, p = .own xs ∧ v = .ref a ∧ ow.lookup x = some a ∧ PlainL h a (vs : List Value).toArray ∧ RepAll h (XO X ow) vs xs ∧ bx ≠ some a)) : FOk C X bx β sc ((x, p) :: ρ) env ow h' := by
  have mv : ∀ b o, ¬ XO X ow b → h.get? b = some o → (∃ its n, o.data = .seq its n) → h'.get? b = some o ∧ ¬ XO X ow b := fun b o nX e q => ⟨S.seq b o e (seq_noFrame q), nX⟩
  have pl : ∀ {a : Addr} {vs : List Value}, PlainL h a vs.toArray → PlainL h' a vs.toArray := fun ⟨o, n, e, c, d, dt⟩ => ⟨o, n, S.seq _ o e (seq_noFrame ⟨_, _, dt⟩), c, d, dt⟩
  have il : ∀ {a : Addr} {vs : List Value}, h.IsList a vs.toArray → h'.IsList a vs.toArray := fun ⟨o, e, c, n, dt⟩ => ⟨o, S.seq _ o e (seq_noFrame ⟨_, _, dt⟩), c, n, dt⟩
  refine { F with s := ⟨fun b o e => ?_, F.s.xnew, fun a q => ?_, fun a q => ?_⟩, loc := S.loc, cel := S.cel, vars := fun y q hl n => ?_, own := fun y xs hl => ?_ }
  · refine S.keep b o (fun q => ?_) (fun q => ?_) (F.s.base b o e)
    · have := F.lnew; rw [← q, e] at this; cases this
    · have := F.cnew b q; rw [e] at this; cases this
  · obtain ⟨o, e⟩ := F.s.xlive a q
    by_cases q1 : a = env.locals
    · obtain ⟨m, o, _, _, e, _⟩ := S.loc
      exact ⟨o, q1 ▸ e⟩
    · by_cases q2 : a ∈ env.cells.map (·.2)
      · obtain ⟨y, hy⟩ := F.clk a q2
        obtain ⟨v, o, e, _⟩ := S.cel y a hy
        exact ⟨o, e⟩
      · exact ⟨o, S.keep a o q1 q2 e⟩
  · obtain ⟨xa, vs, hl, r⟩ := F.s.box a q
    exact ⟨xa, vs, il hl, r.moveS mv⟩
  · rw [List.lookup_cons] at hl
    cases hb : y == x with
    | true =>
      rw [hb] at hl
      cases hl
      have e : y = x := beq_iff_eq.mp hb
      subst e
      refine ⟨v, S.now, ?_⟩
      rcases hp with ⟨d, rfl, r⟩ | ⟨xs, _, _, rfl, _⟩
      · exact Rep.moveS mv r
      · exact absurd rfl (n xs)
    | false =>
      rw [hb] at hl
      obtain ⟨u, hu, r⟩ := F.vars y q hl n
      refine ⟨u, S.else' y u (by simpa using hb) hu, ?_⟩
      cases q with
      | d x => exact Rep.moveS mv r
      | box => exact r
      | own xs => exact absurd rfl (n xs)
  · rw [List.lookup_cons] at hl
    cases hb : y == x with
    | true =>
      rw [hb] at hl
      cases hl
      have e : y = x := beq_iff_eq.mp hb
      subst e
      rcases hp with ⟨d, q, r⟩ | ⟨xs', a, vs, q, rfl, h1, h2, h3, h4⟩
      · cases q
      · cases q
        exact ⟨a, vs, h1, S.now, pl h2, h3.moveS mv, h4⟩
    | false =>
      rw [hb] at hl
      obtain ⟨a, vs, h1, h2, h3, h4, h5⟩ := F.own y xs hl
      exact ⟨a, vs, h1, S.else' y _ (by simpa using hb) h2, pl h3, h4.moveS mv, h5⟩

theorem Stored.keepF {x : Str} {v : Value} (S : Stored env x v h h') : KeepF bx env ow h h' := fun b o _ np e => S.keep b o (fun q => np (.inl q)) (fun q => np (.inr (.inl q))) e
end
end Mine
namespace Mine
set_option maxHeartbeats 200000

theorem filter_lookup {x y : Str} {p : PV} : ∀ {ρ : PEnv}, (ρ.filter fun y => y.1 != x).lookup y = some p → y ≠ x ∧ ρ.lookup y = some p
  | [], h => by cases h
  | (z, q) :: ρ, h => by
    rw [List.filter_cons] at h
    split at h
    · rename_i hz
      rw [List.lookup_cons] at h ⊢
      cases hb : y == z with
      | true =>
        rw [hb] at h
        have e : y = z := beq_iff_eq.mp hb
        exact ⟨by rw [e]; simpa using hz, h⟩
      | false => rw [hb] at h; exact filter_lookup h
    · rename_i hz
      have e : z = x := by simpa using hz
      obtain ⟨h1, h2⟩ := filter_lookup h
      refine ⟨h1, ?_⟩
      rw [List.lookup_cons]
      have hb : (y == z) = false := by rw [e]; simpa using h1
      rw [hb]; exact h2
theorem filter_lookup' {x y : Str} : ∀ {ρ : PEnv}, y ≠ x → (ρ.filter fun y => y.1 != x).lookup y = ρ.lookup y
  | [], _ => rfl
  | (z, q) :: ρ, h => by
    rw [List.filter_cons]
    split
    · rw [List.lookup_cons, List.lookup_cons, filter_lookup' h]
    · rename_i hz
      have e : z = x := by simpa using hz
      have hb : (y == z) = false := by rw [e]; simpa using h
      rw [List.lookup_cons, hb]; exact filter_lookup' h

/-- fewer names -/
noncomputable def Sub (ρ₁ ρ : PEnv) : Prop := ∀ x p, ρ₁.lookup x = some p → ρ.lookup x = some p
theorem sub_nil {ρ : PEnv} : Sub [] ρ := fun _ _ h => nomatch h
theorem sub_cons {x : Str} {p : PV} {ρ₁ ρ : PEnv} (h : ρ.lookup x = some p) (t : Sub ρ₁ ρ) : Sub ((x, p) :: ρ₁) ρ := fun y q hl => by
  rw [List.lookup_cons] at hl
  cases hb : y == x with
  | true => rw [hb] at hl; cases hl; rw [beq_iff_eq.mp hb]; exact h
  | false => rw [hb] at hl; exact t y q hl
theorem Sub.refl {ρ : PEnv} : Sub ρ ρ := fun _ _ h => h
theorem sub_filter {x : Str} {p : PV} {ρ : PEnv} : Sub ((x, p) :: ρ) ((x, p) :: ρ.filter fun y => y.1 != x) := fun y q hl => by
  rw [List.lookup_cons] at hl ⊢
  cases hb : y == x with
  | true => rw [hb] at hl; exact hl
  | false => rw [hb] at hl; rw [← hl]; exact filter_lookup' (by simpa using hb)

section
variable {C : Cx} {k : Nat} {sc : Scope} {ρ : PEnv} {β : Bx} {N : PEnv → Bx → Prop} {T : PyData → Bx → Prop}

theorem x_assign {x : Str} {px pos : Pos} {e : Expr} (h : WE C k sc.names e ρ β fun p β' => ∃ d, p = .d d ∧ N ((x, .d d) :: ρ) β') (hx : isVar sc x = true := by rfl)
    (hs : ∀ env, env.scope = sc → swapsWith e (some (.Name x px)) pos.line env = pure false := by intro _ _; rfl) : WX C k sc (.Assign [.Name x px] e pos) ρ β N T :=
  fun A s env X bx ow P E R F c r => by
    refine PySem.wpAny_Assign_Name (h A s env _ bx _ E R F.e fun v h' tk p β' q k1 B1 r1 => ?_) (hs env F.scope)
    obtain ⟨d, rfl, q⟩ := q
    have F1 := F.step k1 B1
    refine store_core (s := { s with heap := h', toks := tk }) F1 hx fun h2 tk2 S => ?_
    exact c h2 tk2 _ β' ow q (F1.bind S (.inl ⟨d, rfl, r1⟩)) ((KeepF.of k1).trans OwExt.refl S.keepF) OwExt.refl

theorem size_dead {h : Heap} : h.get? h.objs.size = none := by
  cases q : h.get? h.objs.size with
  | none => rfl
  | some o => exact absurd (Heap.lt_size q) (Nat.lt_irrefl _)

/-- a new list of the frame's own, ahead of its name -/
theorem FOk.newOwn {X : Addr → Prop} {bx : Option Addr} {env : Env} {ow : Own} {h : Heap} {o : Obj} (x : Str) (ho : o.isFreed = false) (F : FOk C X bx β sc ρ env ow h) : FOk C X bx β sc (ρ.filter fun y => y.1 != x) env ((x, h.objs.size) :: ow) (h.push o) := by
  have pp : ∀ b o', h.get? b = some o' → (h.push o).get? b = some o' := fun b o' e => Heap.get?_push_of_some _ e
  have nx : ∀ b o', h.get? b = some o' → b ≠ h.objs.size := fun b o' e q => by rw [q, size_dead] at e; cases e
  have mv : ∀ b o', ¬ XO X ow b → h.get? b = some o' → (h.push o).get? b = some o' ∧ ¬ XO X ((x, h.objs.size) :: ow) b := fun b o' n e => ⟨pp b o' e, fun q => by
    rcases q with q | q
    · exact n (.inl q)
    · rcases List.mem_cons.mp q with q | q
      · exact nx b o' e q
      · exact n (.inr q)⟩
  have F1 := F.step (Keep.all pp) (F.s.box.keepAll pp)
  have olt : ∀ a ∈ ow.map (·.2), a ≠ h.objs.size := fun a m => by
    obtain ⟨o, e⟩ := F.s.xlive a (.inr m)
    exact nx a o e
  refine { F1 with s := ⟨F1.s.base, fun a q => ?_, fun a q => ?_, fun a q => ?_⟩, vars := fun y p hl n => ?_, own := fun y xs hl => ?_, ond := fun y z a hy hz => ?_, onx := fun a m => ?_ }
  · rcases q with q | q
    · exact F.s.xnew a (.inl q)
    · rcases List.mem_cons.mp q with q | q
      · cases e : C.h₀.get? a with
        | none => rfl
        | some o => exact absurd q (nx a o (F.s.base a o e))
      · exact F.s.xnew a (.inr q)
  · rcases q with q | q
    · exact F1.s.xlive a (.inl q)
    · rcases List.mem_cons.mp q with q | q
      · exact ⟨o, q ▸ Heap.get?_push_size _ ho⟩
      · exact F1.s.xlive a (.inr q)
  · obtain ⟨xa, vs, hl, r⟩ := F.s.box a q
    exact ⟨.inl (F.bxx a q), vs, IsList.keepAt hl fun o e => pp _ o e, r.move mv⟩
  · obtain ⟨ny, hl⟩ := filter_lookup hl
    obtain ⟨v, hv, r⟩ := F.vars y p hl n
    refine ⟨v, hv.keep F.s (Keep.all pp), ?_⟩
    cases p with
    | d x => exact Rep.move mv r
    | box => exact r
    | own xs => exact absurd rfl (n xs)
  · obtain ⟨ny, hl⟩ := filter_lookup hl
    obtain ⟨a, vs, h1, h2, h3, h4, h5⟩ := F.own y xs hl
    refine ⟨a, vs, ?_, h2.keep F.s (Keep.all pp), PlainL.keepAt h3 fun o e => pp _ o e, h4.move mv, h5⟩
    rw [List.lookup_cons]
    have hb : (y == x) = false := by simpa using ny
    rw [hb]; exact h1
  · rw [List.lookup_cons] at hy hz
    cases hb : y == x with
    | true =>
      rw [hb] at hy
      cases hb2 : z == x with
      | true => rw [beq_iff_eq.mp hb, beq_iff_eq.mp hb2]
      | false =>
        rw [hb2] at hz
        cases hy
        exact absurd rfl (olt _ (lookup_in hz))
    | false =>
      rw [hb] at hy
      cases hb2 : z == x with
      | true =>
        rw [hb2] at hz
        cases hz
        exact absurd rfl (olt _ (lookup_in hy))
      | false => rw [hb2] at hz; exact F.ond y z a hy hz
  · rcases List.mem_cons.mp m with q | q
    · intro xa
      obtain ⟨o, e⟩ := F.s.xlive a (.inl xa)
      exact nx a o e q
    · exact F.onx a q

theorem x_own {x : Str} {px lp pos : Pos} (h : N ((x, .own []) :: ρ) β) (hx : isVar sc x = true := by rfl) : WX C k sc (.Assign [.Name x px] (.List [] lp) pos) ρ β N T :=
  fun A s env X bx ow P E R F c r => by
    refine PySem.wpAny_Assign_Name (List_ (spliced_none ?_)) rfl
    refine wpAny_newObj_type ?_ (size_ok (n := 0) (by decide))
    have F1 := F.newOwn (o := { cls := .type "list", data := .seq #[] }) x rfl
    refine store_core (s := { s with heap := s.heap.push _ }) F1 hx fun h2 tk2 S => ?_
    have nb : bx ≠ some s.heap.objs.size := fun q => by
      obtain ⟨o, e⟩ := F.s.xlive _ (F.s.box _ q).1
      rw [size_dead] at e; cases e
    refine c h2 tk2 _ β ((x, s.heap.objs.size) :: ow) h ((F1.bind S (.inr ⟨[], s.heap.objs.size, [], rfl, rfl, by simp, ⟨_, 0, Heap.get?_push_size _ rfl, rfl, rfl, rfl⟩, .nil, nb⟩)).weaken sub_filter) ?_ fun a m => ?_
    · exact fun b o nb np e => S.keep b o (fun q => np (.inl q)) (fun q => np (.inr (.inl q))) (Heap.get?_push_of_some _ e)
    · rcases List.mem_cons.mp m with q | q
      · exact .inr (q ▸ size_dead)
      · exact .inl q

/-! ### several names at once -/
noncomputable def Bindn (A : Around) (M : Model) (E : Value → Shared → Prop) (env : Env) : List (Value → Sem Unit) → List Str → Prop
  | [], [] => True
  | t :: ts, x :: xs => (∀ v (P : Unit → Shared → Prop) s, wpAny M A (storeName env x v) P E s → wpAny M A (t v) P E s) ∧ Bindn A M E env ts xs
  | _, _ => False
noncomputable def binds : List Str → List PyData → PEnv → PEnv
  | x :: xs, d :: ds, ρ => binds xs ds ((x, .d d) :: ρ)
  | _, _, ρ => ρ
theorem stores_all {A : Around} {M : Model} {E : Value → Shared → Prop} {env : Env} {X : Addr → Prop} {bx : Option Addr} {ow : Own} {ts : List (Value → Sem Unit)} : ∀ {xs : List Str} {vs : List Value} {ds : List PyData} {ρ : PEnv} {s : Shared} {P : Unit → Shared → Prop}, Bindn A M E env ts xs → (xs.all fun x => isVar sc x) = true → FOk C X bx β sc ρ env ow s.heap → RepAll s.heap (XO X ow) vs ds → ds.length = xs.length →
    (∀ h' tk, FOk C X bx β sc (binds xs ds ρ) env ow h' → KeepF bx env ow s.heap h' → P () { s with heap := h', toks := tk }) → wpAny M A (assignInOrder ts vs) P E s := by
  induction ts with
  | nil =>
    intro xs vs ds ρ s P b hx F r hl h
    cases xs with
    | nil => exact PyProof.Rows.assignInOrder_nil (by cases ds <;> exact h s.heap s.toks F KeepF.refl)
    | cons _ _ => exact b.elim
  | cons t ts ih =>
    intro xs vs ds ρ s P b hx F r hl h
    cases xs with
    | nil => exact b.elim
    | cons x xs =>
      cases r with
      | nil => simp at hl
      | cons r0 r =>
        rename_i v vs d ds
        simp only [List.all_cons, Bool.and_eq_true] at hx
        refine PyProof.Rows.assignInOrder_cons (b.1 v _ s (store_core F hx.1 fun h2 tk2 S => ?_))
        refine ih (s := { s with heap := h2, toks := tk2 }) b.2 hx.2 (F.bind S (.inl ⟨d, rfl, r0⟩)) (r.moveS fun b o nX e q => ⟨S.seq b o e (seq_noFrame q), nX⟩) (by simpa using hl) fun h3 tk3 F3 k3 => ?_
        exact h h3 tk3 F3 (S.keepF.trans OwExt.refl k3)

/-- unpacked in order -/
theorem x_tup {elts : List Expr} {kd : Nat} {tp pos : Pos} {e : Expr} {xs : List Str} (h : WE C k sc.names e ρ β fun p β' => ∃ ds, p = .d (.tuple ds) ∧ ds.length = xs.length ∧ N (binds xs ds ρ) β') (hx : (xs.all fun x => isVar sc x) = true := by rfl)
    (hb : ∀ A M E env, Bindn A M E env ((assignEach elts env).map (·.2)) xs := by intro A M E env; repeat (first | exact trivial | (refine ⟨fun v P s h => PyProof.Rows.assign_Name h, ?_⟩)))
    (hl : ∀ env, (assignEach elts env).length = xs.length := by intro _; rfl) (hst : ∀ env, (assignEach elts env).findIdx? (·.1) = none := by intro _; rfl)
    (hs : ∀ env, swapsWithSole [.Tuple elts kd tp] e pos.line env = pure false := by intro _; rfl) (hw : ∀ env, env.scope = sc → swappedStores [.Tuple elts kd tp] e env = pure none := by intro _ _; rfl) : WX C k sc (.Assign [.Tuple elts kd tp] e pos) ρ β N T :=
  fun A s env X bx ow P E R F c r => by
    refine PyProof.Rows.Assign_Tuple (h A s env _ bx _ E R F.e fun v h' tk p β' q k1 B1 r1 => ?_) (hs env) (hw env F.scope)
    obtain ⟨ds, rfl, hz, q⟩ := q
    have F1 := F.step k1 B1
    cases r1 with
    | tuple ht nx rr =>
      rename_i a vs
      refine PyProof.Rows.assign_Tuple_tuple R.hh ht (by rw [hl, List.size_toArray, rr.length, hz]) (hst env) fun h2 x2 => ?_
      have k2 : ∀ b o, h'.get? b = some o → h2.get? b = some o := fun b o e => x2 b o (Nat.ne_of_lt (Heap.lt_size e)) e
      have F2 := F1.step (Keep.all k2) (F1.s.box.keepAll k2)
      refine stores_all (s := { s with heap := h2, toks := tk }) (hb A _ E env) hx F2 (rr.keep F1.s (Keep.all k2)) hz fun h3 tk3 F3 k3 => ?_
      exact c h3 tk3 _ β' ow q F3 (((KeepF.of k1).trans OwExt.refl (KeepF.of (Keep.all k2))).trans OwExt.refl k3) OwExt.refl

theorem bind_names {A : Around} {M : Model} {E : Value → Shared → Prop} {env : Env} : ∀ xs : List Str, Bindn A M E env (xs.map fun n => bindName env n) xs
  | [] => trivial
  | _ :: xs => ⟨fun _ _ _ h => PyProof.Rows.bindName_ h, bind_names xs⟩
theorem RepAll.rev {h : Heap} {X : Addr → Prop} {vs : List Value} {ds : List PyData} (r : RepAll h X vs ds) : RepAll h X vs.reverse ds.reverse := by
  induction ds generalizing vs with
  | nil => cases r; exact .nil
  | cons d ds ih =>
    cases r with
    | cons a r =>
      rw [List.reverse_cons, List.reverse_cons]
      exact (ih r).append (.cons a .nil)
/-- unpacked with the stores turned about -/
theorem x_tups {elts : List Expr} {kd : Nat} {tp pos : Pos} {e : Expr} {xs : List Str} (h : WE C k sc.names e ρ β fun p β' => ∃ ds, p = .d (.tuple ds) ∧ ds.length = xs.length ∧ N (binds xs.reverse ds.reverse ρ) β') (hx : (xs.reverse.all fun x => isVar sc x) = true := by rfl)
    (hs : ∀ env, swapsWithSole [.Tuple elts kd tp] e pos.line env = pure false := by intro _; rfl) (hw : ∀ env, env.scope = sc → swappedStores [.Tuple elts kd tp] e env = pure (some xs)) : WX C k sc (.Assign [.Tuple elts kd tp] e pos) ρ β N T :=
  fun A s env X bx ow P E R F c r => by
    refine PyProof.Rows.Assign_Tuple_swapped (names := xs) (h A s env _ bx _ E R F.e fun v h' tk p β' q k1 B1 r1 => ?_) (hs env) (hw env F.scope)
    obtain ⟨ds, rfl, hz, q⟩ := q
    have F1 := F.step k1 B1
    cases r1 with
    | tuple ht nx rr =>
      rename_i a vs
      have hn : xs.length = vs.toArray.size := by rw [List.size_toArray, rr.length, hz]
      rw [hn]
      refine PyProof.Rows.unpackItems_tuple R.hh ht fun h2 x2 => ?_
      have k2 : ∀ b o, h'.get? b = some o → h2.get? b = some o := fun b o e => x2 b o (Nat.ne_of_lt (Heap.lt_size e)) e
      have F2 := F1.step (Keep.all k2) (F1.s.box.keepAll k2)
      refine stores_all (s := { s with heap := h2, toks := tk }) (bind_names _) hx F2 (rr.keep F1.s (Keep.all k2)).rev (by simp [hz]) fun h3 tk3 F3 k3 => ?_
      exact c h3 tk3 _ β' ow q F3 (((KeepF.of k1).trans OwExt.refl (KeepF.of (Keep.all k2))).trans OwExt.refl k3) OwExt.refl
end
end Mine
namespace Mine
set_option maxHeartbeats 200000

/-! ## a function's call -/
theorem lookup_zip_reps {h : Heap} {X : Addr → Prop} {bx : Option Addr} : ∀ {xs : List Str} {vs : List Value} {ps : List PV} {x : Str} {p : PV}, PReps h X bx vs ps → xs.length = ps.length → (xs.zip ps).lookup x = some p → ∃ v, (xs.zip vs).lookup x = some v ∧ PRep h X bx v p
  | [], _, _, _, _, _, _, hl => by simp at hl
  | _ :: _, _, [], _, _, _, hz, _ => by simp at hz
  | y :: xs, _, _ :: _, x, p, .cons a r, hz, hl => by
    rw [List.zip_cons_cons, List.lookup_cons] at hl ⊢
    cases hb : x == y with
    | true => rw [hb] at hl; cases hl; exact ⟨_, rfl, a⟩
    | false => rw [hb] at hl; exact lookup_zip_reps r (by simpa using hz) hl

theorem lookup_mem_keys {α : Type} {x : Str} {v : α} : ∀ {l : List (Str × α)}, l.lookup x = some v → x ∈ l.map (·.1)
  | [], h => by simp at h
  | (y, u) :: l, h => by
    rw [List.lookup_cons] at h
    cases hb : x == y with
    | true => rw [beq_iff_eq.mp hb]; exact List.mem_cons_self
    | false => rw [hb] at h; exact List.mem_cons_of_mem _ (lookup_mem_keys h)

theorem bindL_other {kf : Str → Option NameKind} {x : Str} : ∀ {l : List (Str × Value)} {m : Str → Option Value}, x ∉ l.map (·.1) → bindL kf l m x = m x
  | [], _, _ => rfl
  | (y, u) :: l, m, h => by
    simp only [List.map_cons, List.mem_cons, not_or] at h
    unfold bindL
    rw [bindL_other h.2]
    split
    · show (if x = y then _ else _) = _
      rw [if_neg h.1]
    · rfl
theorem bindC_other {kf : Str → Option NameKind} {x : Str} : ∀ {l : List (Str × Value)} {m : Str → Option Value}, x ∉ l.map (·.1) → bindC kf l m x = m x
  | [], _, _ => rfl
  | (y, u) :: l, m, h => by
    simp only [List.map_cons, List.mem_cons, not_or] at h
    unfold bindC
    rw [bindC_other h.2]
    split
    · rfl
    · show (if x = y then _ else _) = _
      rw [if_neg h.1]
theorem bindL_at {kf : Str → Option NameKind} {x : Str} {v : Value} (hk : kf x = some .local) : ∀ {l : List (Str × Value)} {m : Str → Option Value}, (l.map (·.1)).Nodup → l.lookup x = some v → bindL kf l m x = some v
  | [], _, _, h => by simp at h
  | (y, u) :: l, m, nd, h => by
    rw [List.map_cons, List.nodup_cons] at nd
    rw [List.lookup_cons] at h
    unfold bindL
    cases hb : x == y with
    | true =>
      rw [hb] at h
      cases h
      have e : x = y := beq_iff_eq.mp hb
      subst e
      rw [bindL_other nd.1, if_pos hk]
      simp
    | false => rw [hb] at h; exact bindL_at hk nd.2 h
theorem bindC_at {kf : Str → Option NameKind} {x : Str} {v : Value} (hk : kf x ≠ some .local) : ∀ {l : List (Str × Value)} {m : Str → Option Value}, (l.map (·.1)).Nodup → l.lookup x = some v → bindC kf l m x = some v
  | [], _, _, h => by simp at h
  | (y, u) :: l, m, nd, h => by
    rw [List.map_cons, List.nodup_cons] at nd
    rw [List.lookup_cons] at h
    unfold bindC
    cases hb : x == y with
    | true =>
      rw [hb] at h
      cases h
      have e : x = y := beq_iff_eq.mp hb
      subst e
      rw [bindC_other nd.1, if_neg hk]
      simp
    | false => rw [hb] at h; exact bindC_at hk nd.2 h

theorem map_fst_zip {α β : Type} : ∀ {xs : List α} {ys : List β}, xs.length = ys.length → (xs.zip ys).map (·.1) = xs
  | [], _, _ => by simp
  | _ :: _, [], h => by simp at h
  | x :: xs, y :: ys, h => by simp [map_fst_zip (xs := xs) (ys := ys) (by simpa using h)]
theorem PReps.length {h : Heap} {X : Addr → Prop} {bx : Option Addr} : ∀ {vs : List Value} {ps : List PV}, PReps h X bx vs ps → vs.length = ps.length
  | _, _, .nil => rfl
  | _, _, .cons _ r => by rw [List.length_cons, List.length_cons, r.length]

noncomputable def notOwn : PV → Bool
  | .own _ => false
  | _ => true

theorem PRep.widen {h h' : Heap} {X Y : Addr → Prop} {bx : Option Addr} {v : Value} {p : PV} (n : notOwn p = true) (k : ∀ b o, ¬ X b → h.get? b = some o → h'.get? b = some o ∧ ¬ Y b) (r : PRep h X bx v p) : PRep h' Y bx v p := by
  cases p with
  | d x => exact Rep.move k r
  | box => exact r
  | own xs => cases n
theorem PReps.widen {h h' : Heap} {X Y : Addr → Prop} {bx : Option Addr} (k : ∀ b o, ¬ X b → h.get? b = some o → h'.get? b = some o ∧ ¬ Y b) : ∀ {vs : List Value} {ps : List PV}, (ps.all notOwn) = true → PReps h X bx vs ps → PReps h' Y bx vs ps
  | _, _, _, .nil => .nil
  | _, _, n, .cons a r => by
    simp only [List.all_cons, Bool.and_eq_true] at n
    exact .cons (a.widen n.1 k) (r.widen k n.2)
theorem all_lookup {α : Type} {f : α → Bool} : ∀ {xs : List Str} {ps : List α} {x : Str} {p : α}, ps.all f = true → (xs.zip ps).lookup x = some p → f p = true
  | [], _, _, _, _, h => by simp at h
  | _ :: _, [], _, _, _, h => by simp at h
  | y :: xs, q :: ps, x, p, n, h => by
    simp only [List.all_cons, Bool.and_eq_true] at n
    rw [List.zip_cons_cons, List.lookup_cons] at h
    cases hb : x == y with
    | true => rw [hb] at h; cases h; exact n.1
    | false => rw [hb] at h; exact all_lookup n.2 h

noncomputable def fnOk (K : Frag) (f : Addr) (fd : FuncData) (body : List Stmt) (xs : List Str) : Prop :=
  (∃ o, K.lookup f = some o ∧ o.data = .func fd) ∧ codeIn K fd.code fd.qualname = true ∧ fd.body = .stmts body ∧ (∀ vs : List Value, vs.length = xs.length → bindArgs fd ⟨vs, []⟩ = pure (xs.zip vs)) ∧
    fd.closure = [] ∧ fd.globals = mainGlobals ∧ fd.builtins = builtinsNs ∧ fd.scope.isCoroutine = false ∧ fd.scope.isGenerator = false ∧ fd.scope.kind = .function ∧ xs.Nodup ∧
    (xs.all fun x => fd.scope.names.lookup x == some .local || fd.scope.names.lookup x == some .cell) = true ∧ ((cellsFrom 0 fd.scope.names []).map (·.1)).Nodup

section
variable {C : Cx} {k : Nat} {β : Bx}

theorem call_fn {f : Addr} {fd : FuncData} {body : List Stmt} {xs : List Str} {ps : List PV} {T : PyData → Bx → Prop} (ok : fnOk C.K f fd body xs) (hz : xs.length = ps.length) (hno : ps.all notOwn = true)
    (h : WS C k fd.scope body (xs.zip ps) β (fun _ β' => T .none β') T) : WV C (k + 1) (fun vs => call (.ref f) vs) ps β (fun p β' => ∃ d, p = .d d ∧ T d β') := by
  intro A s X bx vs P E R S r c
  obtain ⟨⟨o, ho, hd⟩, hcode, hbody, hbind, hclo, hg, hbi, hco, hgen, hk, hnd, hkinds, hcnd⟩ := ok
  have KIn : C.K.In s.heap := fun a o e => S.base a o (C.okK a o e)
  have hvl : vs.length = xs.length := r.length.trans hz.symm
  refine wpAny_call (codeAny_call_cells (by have := R.dp; omega) (KIn f o ho) hd (C.lim.keeps S.base) (codeRec_of KIn hcode) hbody (hbind vs hvl) hclo
    (kindsX (by
      rw [List.all_eq_true] at hkinds ⊢
      intro y hy
      exact hkinds y.1 (by
        have := List.mem_map_of_mem (f := (·.1)) hy
        rwa [map_fst_zip hvl.symm] at this)) _) ?_ hco hgen hk)
  intro s₁ IC
  obtain ⟨h₁, tk, rfl, kp⟩ := IC.done
  have hL : (callEnvC fd s.heap.objs.size f).locals = s.heap.objs.size := rfl
  have hsc : (callEnvC fd s.heap.objs.size f).scope = fd.scope := rfl
  have hcells : (callEnvC fd s.heap.objs.size f).cells = cellsFrom (s.heap.objs.size + 1) fd.scope.names [] := rfl
  have hkf : ∀ x, (callEnvC fd s.heap.objs.size f).kindOf x = fd.scope.names.lookup x := fun _ => rfl
  have hgl : (callEnvC fd s.heap.objs.size f).globals = mainGlobals := hg
  have hbl : (callEnvC fd s.heap.objs.size f).builtins = builtinsNs := hbi
  have hfr : (A.deeper (callEnvC fd s.heap.objs.size f)).frames = some (callEnvC fd s.heap.objs.size f :: (A.frames.getD [])) := by
    obtain ⟨env, l, e, _⟩ := R.fr
    show (A.frames.map _) = _
    rw [e]; rfl
  have hgs : (callEnvC fd s.heap.objs.size f).scope.isGenerator = false := hgen
  have hcs : (callEnvC fd s.heap.objs.size f).scope.isCoroutine = false := hco
  generalize hE : callEnvC fd s.heap.objs.size f = env at *
  have R' : Room (A.deeper env) k := by
    refine ⟨?_, ?_, ?_, ?_⟩
    · exact R.hh
    · have := R.dp; show A.depth + 1 + k + 200 < _; omega
    · have := R.un; show A.units + 3 + 8 * k + 80 < _; omega
    · exact ⟨env, _, hfr, hgs, hcs, hbl, hgl⟩
  have dead : ∀ a, s.heap.objs.size ≤ a → s.heap.get? a = none := fun a ha => by
    cases e : s.heap.get? a with
    | none => rfl
    | some o => exact absurd (Heap.lt_size e) (Nat.not_lt.mpr ha)
  have h0dead : ∀ a, s.heap.get? a = none → C.h₀.get? a = none := fun a ha => by
    cases e : C.h₀.get? a with
    | none => rfl
    | some o => rw [S.base a o e] at ha; cases ha
  have cellGe : ∀ c, c ∈ env.cells.map (·.2) → s.heap.objs.size ≤ c := fun c hc => by
    obtain ⟨⟨n, c'⟩, hm, rfl⟩ := List.mem_map.mp hc
    have := IC.above n c' hm
    rw [hL] at this
    exact Nat.le_of_lt this
  have hXO : ∀ a, XO X [] a ↔ X a := fun a => by simp [XO]
  have mv : ∀ b o, ¬ X b → s.heap.get? b = some o → h₁.get? b = some o ∧ ¬ XO X [] b := fun b o nx e => ⟨kp b o e, fun q => nx ((hXO b).mp q)⟩
  have r1 := r.widen mv hno
  have cnd' : (env.cells.map (·.1)).Nodup := by
    rw [hcells, cellsFrom_names fd.scope.names (s.heap.objs.size + 1) 0 [] [] rfl]; exact hcnd
  have FF : FOk C X bx β fd.scope (xs.zip ps) env [] h₁ := by
    refine {
      s := ⟨fun b o e => kp b o (S.base b o e), fun a q => S.xnew a ((hXO a).mp q), fun a q => (let ⟨o, e⟩ := S.xlive a ((hXO a).mp q); ⟨o, kp a o e⟩), fun a q => ?_⟩
      eok := ⟨hsc ▸ hk, hgl, hbl, fun x e => (hkf x).trans e, fun x e => (hkf x).trans e⟩
      scope := hsc
      lnew := (by rw [hL]; exact h0dead _ (dead _ (Nat.le_refl _)))
      cnew := fun c hc => h0dead _ (dead _ (cellGe c hc))
      loc := ⟨_, IC.toInCall.ns⟩
      cel := fun x c hc => ⟨_, IC.cell x c hc⟩
      cla := fun x e => ?_
      cnd := fun x y c hx hy => name_of_addr IC.apart (mem_of_lookup hx) (mem_of_lookup hy)
      clk := fun c hc => ?_
      vars := fun x p hl n => ?_
      own := fun x ys hl => ?_
      ond := fun _ _ _ e => nomatch e
      onx := fun _ m => nomatch m
      bxx := fun a q => (S.box a q).1 }
    · obtain ⟨xa, ws, hl, rr⟩ := S.box a q
      exact ⟨(hXO a).mpr xa, ws, IsList.keepAt hl fun o e => kp a o e, rr.move mv⟩
    · rw [hcells]
      exact Option.isSome_iff_exists.mp (cellsFrom_some _ _ _ (.inl e))
    · obtain ⟨⟨n, c'⟩, hm, rfl⟩ := List.mem_map.mp hc
      exact ⟨n, lookup_of_mem_nodup cnd' hm⟩
    · obtain ⟨v, hv, rp⟩ := lookup_zip_reps r1 hz hl
      have hkeys := lookup_mem_keys hv
      have nd : ((xs.zip vs).map (·.1)).Nodup := by rw [map_fst_zip hvl.symm]; exact hnd
      rw [map_fst_zip hvl.symm] at hkeys
      have hkx := List.all_eq_true.mp hkinds x hkeys
      refine ⟨v, ?_, rp⟩
      rcases Bool.or_eq_true_iff.mp hkx with q | q
      · have q' : env.kindOf x = some .local := (hkf x).trans (by simpa using q)
        exact .inl ⟨q', _, IC.toInCall.ns, bindL_at q' nd hv⟩
      · have q' : env.kindOf x = some .cell := (hkf x).trans (by simpa using q)
        obtain ⟨c, hc⟩ : ∃ c, env.cells.lookup x = some c := by
          rw [hcells]
          exact Option.isSome_iff_exists.mp (cellsFrom_some _ _ _ (.inl (by simpa using q)))
        have ic := IC.cell x c hc
        rw [bindC_at (by rw [q']; simp) nd hv] at ic
        exact .inr ⟨.inl q', c, hc, ic⟩
    · have := all_lookup hno hl
      cases this
  have priv0 : ∀ b o, s.heap.get? b = some o → ¬ Priv env [] b := fun b o e q => by
    rcases q with q | q | q
    · rw [q, hL, dead _ (Nat.le_refl _)] at e; cases e
    · rw [dead _ (cellGe b q)] at e; cases e
    · cases q
  refine h (A.deeper env) { s with heap := h₁, toks := tk } env X bx [] _ _ R' FF (fun h' tk' ρ' β' ow' n F' k1 x1 => ?_) fun v h' tk' d β' t k1 B1 rr => ?_
  · refine c .none h' tk' (.d .none) β' ⟨_, rfl, n⟩ (fun b o nb e => k1 b o nb (priv0 b o e) (kp b o e)) (fun a q => ?_) .none
    obtain ⟨_, vs', hl, rr⟩ := F'.s.box a q
    exact ⟨F'.bxx a q, vs', hl, rr.move fun b o n e => ⟨e, fun q => n (.inl q)⟩⟩
  · exact c v h' tk' (.d d) β' ⟨d, rfl, t⟩ (fun b o nb e => k1 b o nb (priv0 b o e) (kp b o e)) B1 rr

theorem call_det {f : Addr} {fd : FuncData} {body : List Stmt} {xs : List Str} {ps : List PV} {d : PyData} {β' : Bx} (ok : fnOk C.K f fd body xs) (hz : xs.length = ps.length) (hno : ps.all notOwn = true)
    (h : WS C k fd.scope body (xs.zip ps) β (fun _ _ => False) (fun d' β₁ => d' = d ∧ β₁ = β')) : CallR C (k + 1) f ps β d β' :=
  (call_fn ok hz hno (fun A s env X bx ow P E R F c r => h A s env X bx ow P E R F (fun _ _ _ _ _ n => n.elim) r)).mono fun p β₁ ⟨d', e, e1, e2⟩ => ⟨by rw [e, e1], e2⟩
theorem call_none {f : Addr} {fd : FuncData} {body : List Stmt} {xs : List Str} {ps : List PV} {β' : Bx} (ok : fnOk C.K f fd body xs) (hz : xs.length = ps.length) (hno : ps.all notOwn = true)
    (h : WS C k fd.scope body (xs.zip ps) β (fun _ β₁ => β₁ = β') (fun _ _ => False)) : CallR C (k + 1) f ps β .none β' :=
  (call_fn (T := fun d' β₁ => d' = .none ∧ β₁ = β') ok hz hno (fun A s env X bx ow P E R F c r => h A s env X bx ow P E R F (fun h' tk ρ' β₁ ow' n => c h' tk ρ' β₁ ow' ⟨rfl, n⟩) (fun _ _ _ _ _ n => n.elim))).mono fun p β₁ ⟨d', e, e1, e2⟩ => ⟨by rw [e, e1], e2⟩
end
end Mine
namespace Mine
set_option maxHeartbeats 200000

/-! ## loops -/
noncomputable def ForR (step : PyData → PEnv → Bx → (PEnv → Bx → Prop) → Prop) : List PyData → PEnv → Bx → (PEnv → Bx → Prop) → Prop
  | [], ρ, β, N => N ρ β
  | d :: ds, ρ, β, N => step d ρ β fun ρ' β' => ForR step ds ρ' β' N

section
variable {C : Cx} {X : Addr → Prop} {bx : Option Addr} {β β' : Bx} {sc : Scope} {ρ ρ' : PEnv} {env : Env} {ow : Own} {h h' : Heap}

theorem FOk.bxNot (F : FOk C X bx β sc ρ env ow h) {b : Addr} (p : Priv env ow b) : bx ≠ some b := fun q => by
  obtain ⟨_, vs, ⟨o, e, _, n, hd⟩, _⟩ := F.s.box b q
  rcases p with p | p | p
  · obtain ⟨m, hn⟩ := F.loc
    have := notSeq_ns hn (p ▸ e)
    unfold noFrame at this; rw [hd] at this; cases this
  · obtain ⟨x, hx⟩ := F.clk b p
    obtain ⟨v, ic⟩ := F.cel x b hx
    have := notSeq_cell ic e
    unfold noFrame at this; rw [hd] at this; cases this
  · exact F.onx b p (F.bxx b q)
theorem FOk.frameNot (F : FOk C X bx β sc ρ env ow h) {b : Addr} {o : Obj} (e : h.get? b = some o) (nf : noFrame o = true) : b ≠ env.locals ∧ b ∉ env.cells.map (·.2) := by
  refine ⟨fun p => ?_, fun p => ?_⟩
  · obtain ⟨m, hn⟩ := F.loc
    have := notSeq_ns hn (p ▸ e)
    rw [nf] at this; cases this
  · obtain ⟨x, hx⟩ := F.clk b p
    obtain ⟨v, ic⟩ := F.cel x b hx
    have := notSeq_cell ic e
    rw [nf] at this; cases this
end

section
variable {C : Cx} {k : Nat} {sc : Scope} {ρ : PEnv} {β : Bx} {N : PEnv → Bx → Prop} {T : PyData → Bx → Prop}

theorem x_for {x : Str} {px pos : Pos} {iter : Expr} {body : List Stmt} (h : WI C k sc.names (.Name x px) iter ρ β fun ds β₁ => ForR (fun d ρ' β' N' => WS C k sc body ((x, .d d) :: ρ') β' N' T) ds ρ β₁ N)
    (hx : isVar sc x = true := by rfl) (hs : ∀ env x, foldedSetIterable iter env x = pure x := by intro _ _; rfl) : WX C k sc (.For (.Name x px) iter body [] pos) ρ β N T :=
  fun A s env X bx ow P E R F c r => by
    refine wpAny_For (h A s env (XO X ow) bx _ E R F.e fun it h' tk ds β₁ q k1 B1 I1 => ?_) (hs env)
    refine ex7 I1 fun I fp wr Pr Md St hm I2 => an10 I2 fun eI Tn st0 Sm km kmh wrm fpl fpx itm => ?_
    clear I1 I2
    subst eI
    let XX : Addr → Prop := fun a => X a ∨ a ∈ wr
    have hXX : ∀ a, XX a ↔ X a ∨ a ∈ wr := fun _ => Iff.rfl
    have F1 := F.step k1 B1
    have cellfp : ∀ b ∈ fp, b ≠ env.locals ∧ b ∉ env.cells.map (·.2) := fun b hb => by
      obtain ⟨o, e, nf⟩ := fpl b hb
      exact F1.frameNot e nf
    have owfp : ∀ b ∈ fp, b ∉ ow.map (·.2) := fun b hb q => fpx b hb (.inr q)
    have bxfp : ∀ b ∈ fp, bx ≠ some b := fun b hb q => fpx b hb (.inl (F.bxx b q))
    have wrfp : ∀ b ∈ wr, b ∈ fp := fun b hb => Tn.sub b hb
    have y0 : ∀ a, XX a → C.h₀.get? a = none := fun a q => by
      rcases q with q | q
      · exact F.s.xnew a (.inl q)
      · cases e : C.h₀.get? a with
        | none => rfl
        | some o => have := Sm.base a o e; rw [wrm a q] at this; cases this
    have nwr : ∀ b o, hm.get? b = some o → b ∉ wr := fun b o e q => by rw [wrm b q] at e; cases e
    have nwr0 : ∀ b o, bx ≠ some b → s.heap.get? b = some o → b ∉ wr := fun b o nb e => nwr b o (km b o nb e)
    have xbx : ∀ b, ¬ XO X ow b → bx ≠ some b := fun b n q => n (.inl (F.bxx b q))
    have FX : FOk C XX bx β₁ sc ρ env ow h' := by
      refine F.gen F1.s.base y0 (fun a q => ?_) (fun a q => ?_) (fun b o p e => k1 b o (F.bxNot p) e) (fun b o n e => ⟨k1 b o (xbx b n) e, fun q => ?_⟩) (fun a m q => ?_) (fun a q => .inl (F.bxx a q))
      · rcases q with q | q
        · exact F1.s.xlive a (.inl q)
        · obtain ⟨o, e, _⟩ := fpl a (wrfp a q)
          exact ⟨o, e⟩
      · obtain ⟨_, vs, hl, rr⟩ := Sm.box a q
        refine ⟨.inl (.inl (F.bxx a q)), vs, IsList.keepAt hl fun o e => kmh a o e, rr.move fun b o n e => ⟨kmh b o e, fun q => ?_⟩⟩
        rcases q with (q | q) | q
        · exact n (.inl q)
        · exact nwr b o e q
        · exact n (.inr q)
      · rcases q with (q | q) | q
        · exact n (.inl q)
        · exact nwr0 b o (xbx b n) e q
        · exact n (.inr q)
      · rcases q with q | q
        · exact F.onx a m q
        · exact owfp a (wrfp a q) m
    refine codeAny_forLoop (fun j s' => ∃ H tk' i ρ' β' ow', s' = { s with heap := H, toks := tk' } ∧ j = ds.length + 1 - i ∧ i ≤ ds.length ∧ St i H ∧ FOk C XX bx β' sc ρ' env ow' H ∧
        (∀ b o, bx ≠ some b → ¬ Priv env ow b → b ∉ wr → h'.get? b = some o → H.get? b = some o) ∧ OwExt h' ow ow' ∧ ForR (fun d ρ' β' N' => WS C k sc body ((x, .d d) :: ρ') β' N' T) (ds.drop i) ρ' β' N) ?_ (ds.length + 1)
      ⟨h', tk, 0, ρ, β₁, ow, rfl, rfl, Nat.zero_le _, st0, FX, fun _ _ _ _ _ e => e, OwExt.refl, q⟩
    intro j s' hJ
    refine ex6 hJ fun H tk' i ρ' β' ow' hJ2 => an8 hJ2 fun es ej hi hst FH kH xH hr => ?_
    clear hJ hJ2
    subst es ej
    have owfp' : ∀ b ∈ fp, b ∉ ow'.map (·.2) := fun b hb q => by
      rcases xH b q with q | q
      · exact owfp b hb q
      · obtain ⟨o, e, _⟩ := fpl b hb
        rw [q] at e; cases e
    have privwr : ∀ b, Priv env ow' b → b ∉ wr := fun b p q => by
      rcases p with p | p | p
      · exact (cellfp b (wrfp b q)).1 p
      · exact (cellfp b (wrfp b q)).2 p
      · exact owfp' b (wrfp b q) p
    have step : ∀ (Y : Addr → Prop) (h₃ : Heap), (∀ a, X a → Y a) → (∀ a, Y a → XX a) → (∀ a ∈ wr, Y a → ∃ o, h₃.get? a = some o) → (∀ b o, b ∉ wr → H.get? b = some o → h₃.get? b = some o) → FOk C Y bx β' sc ρ' env ow' h₃ := fun Y h₃ xy yx live H3 => by
      refine FH.gen (fun b o e => ?_) (fun a q => y0 a (yx a q)) (fun a q => ?_) (fun a q => ?_) (fun b o p e => H3 b o (privwr b p) e) (fun b o n e => ⟨H3 b o (fun q => n (.inl (.inr q))) e, fun q => n (q.imp (yx b) id)⟩) (fun a m q => FH.onx a m (yx a q)) (fun a q => xy a (F.bxx a q))
      · refine H3 b o (fun q => ?_) (FH.s.base b o e)
        rw [y0 b (.inr q)] at e; cases e
      · by_cases w : a ∈ wr
        · exact live a w q
        · obtain ⟨o, e⟩ := FH.s.xlive a (.inl (yx a q))
          exact ⟨o, H3 a o w e⟩
      · obtain ⟨_, vs, hl, rr⟩ := FH.s.box a q
        refine ⟨.inl (xy a (F.bxx a q)), vs, IsList.keepAt hl fun o e => H3 a o (fun w => bxfp a (wrfp a w) q) e, rr.move fun b o n e => ⟨H3 b o (fun q => n (.inl (.inr q))) e, fun q => n (q.imp (yx b) id)⟩⟩
    by_cases hlt : i < ds.length
    · obtain ⟨d, hd⟩ : ∃ d, ds[i]? = some d := ⟨_, List.getElem?_eq_getElem hlt⟩
      have hdrop : ds.drop i = d :: ds.drop (i + 1) := by
        rw [List.drop_eq_getElem_cons hlt]
        congr 1
        rw [List.getElem?_eq_getElem hlt] at hd
        exact Option.some.inj hd
      rw [hdrop] at hr
      refine Tn.item i _ _ _ hlt hst fun v h₂ tk₂ hMd hk₂ => ?_
      show wpAny _ _ (assign (.Name x px) env v) _ _ _
      rw [show assign (.Name x px) env v = (letOwnedTupleGo (.Name x px) (.ref I) v >>= fun _ => assign (.Name x px) env v) from rfl]
      refine wpAny_bind (Tn.go i v _ _ _ hMd fun h₃ hP hst₃ hk₃ => ?_)
      have H3 : ∀ b o, b ∉ wr → H.get? b = some o → h₃.get? b = some o := fun b o nw e => hk₃ b o nw (hk₂ b o nw e)
      have F3 := step XX h₃ (fun a q => .inl q) (fun a q => q) (fun a hw _ => Tn.live _ _ hst₃ a hw) H3
      have hIt : Rep h₃ (fun a => XO XX ow' a ∨ a ∈ ow.map (·.2)) v d := itm _ h₃ (fun a q => by
          rcases q with ((q | q) | q) | q
          · exact .inl (.inl q)
          · exact .inr (wrm a q)
          · rcases xH a q with q | q
            · exact .inl (.inr q)
            · refine .inr ?_
              cases e : hm.get? a with
              | none => rfl
              | some o => rw [kmh a o e] at q; cases q
          · exact .inl (.inr q)) (fun b o n e nf => by
          have e1 := kmh b o e
          have nw : b ∉ wr := nwr b o e
          obtain ⟨n1, n2⟩ := F1.frameNot e1 nf
          refine H3 b o nw (kH b o (fun q => n (.inl (.inl (.inl (F.bxx b q))))) (fun p => ?_) nw e1)
          rcases p with p | p | p
          · exact n1 p
          · exact n2 p
          · exact n (.inr p)) i v d hP hd
      have hIt' : Rep h₃ (XO XX ow') v d := hIt.move fun b o n e => ⟨e, fun q => n (.inl q)⟩
      refine wpAny_assign_Name (store_core F3 hx fun h₄ tk₄ S4 => ?_)
      have F4 := F3.bind S4 (.inl ⟨d, rfl, hIt'⟩)
      have npr : ∀ b o, h'.get? b = some o → ¬ Priv env ow b → ¬ Priv env ow' b := fun b o e n p => by
        rcases p with p | p | p
        · exact n (.inl p)
        · exact n (.inr (.inl p))
        · rcases xH b p with q | q
          · exact n (.inr (.inr q))
          · rw [e] at q; cases q
      have k4 : ∀ b o, bx ≠ some b → ¬ Priv env ow b → b ∉ wr → h'.get? b = some o → h₄.get? b = some o := fun b o nb np nw e =>
        S4.keep b o (fun q => np (.inl q)) (fun q => np (.inr (.inl q))) (H3 b o nw (kH b o nb np nw e))
      have keep5 : ∀ h₅, KeepF bx env ow' h₄ h₅ → ∀ b o, bx ≠ some b → ¬ Priv env ow b → b ∉ wr → h'.get? b = some o → h₅.get? b = some o := fun h₅ k5 b o nb np nw e =>
        k5 b o nb (npr b o e np) (k4 b o nb np nw e)
      refine hr A { s with heap := h₄, toks := tk₄ } env XX bx ow' _ _ R F4 (fun h₅ tk₅ ρ₅ β₅ ow₅ n5 F5 k5 x5 => ?_) (fun v₅ h₅ tk₅ d5 β₅ t5 k5 B5 r5 => ?_)
      · refine ⟨ds.length + 1 - (i + 1), by omega, h₅, tk₅, i + 1, ρ₅, β₅, ow₅, rfl, rfl, hlt, ?_, F5, keep5 h₅ k5, fun a m => ?_, n5⟩
        · refine Tn.frame (i + 1) h₃ h₅ hst₃ fun b hb o e => k5 b o (bxfp b hb) (fun p => ?_) (S4.keep b o (cellfp b hb).1 (cellfp b hb).2 e)
          rcases p with p | p | p
          · exact (cellfp b hb).1 p
          · exact (cellfp b hb).2 p
          · exact owfp' b hb p
        · rcases x5 a m with m | m
          · exact xH a m
          · by_cases w1 : a ∈ ow.map (·.2)
            · exact .inl w1
            · refine .inr ?_
              cases e : h'.get? a with
              | none => rfl
              | some o =>
                exfalso
                have dead : ∀ {P : Prop}, (∃ o, h₄.get? a = some o) → P := fun ⟨o, e⟩ => by rw [m] at e; cases e
                by_cases w2 : a ∈ wr
                · obtain ⟨o, e⟩ := Tn.live _ _ hst₃ a w2
                  exact dead ⟨o, S4.keep a o (cellfp a (wrfp a w2)).1 (cellfp a (wrfp a w2)).2 e⟩
                · by_cases nb : bx = some a
                  · exact dead (F4.privLive (.inl nb))
                  · by_cases p : Priv env ow a
                    · rcases p with p | p | p
                      · exact dead (F4.privLive (.inr (.inl p)))
                      · exact dead (F4.privLive (.inr (.inr (.inl p))))
                      · exact w1 p
                    · exact dead ⟨o, k4 a o nb p w2 e⟩
      · refine r v₅ h₅ tk₅ d5 β₅ t5 (fun b o nb np e => keep5 h₅ k5 b o nb np (nwr0 b o nb e) (k1 b o nb e)) (fun a q => ?_) (r5.move fun b o n e => ⟨e, fun q => n (.inl q)⟩)
        obtain ⟨_, vs, hl, rr⟩ := B5 a q
        exact ⟨F.bxx a q, vs, hl, rr.move fun b o n e => ⟨e, fun q => n (.inl q)⟩⟩
    · have hin : i = ds.length := Nat.le_antisymm hi (Nat.not_lt.mp hlt)
      subst hin
      rw [List.drop_length] at hr
      refine Tn.done _ _ _ hst fun h₂ tk₂ hk₂ => wpAny_execs_nil ?_
      refine c h₂ tk₂ ρ' β' ow' hr (step X h₂ (fun a q => q) (fun a q => .inl q) (fun a hw xa => absurd (Or.inl xa) (fpx a (wrfp a hw))) hk₂) (fun b o nb np e => ?_) (fun a m => ?_)
      · have nw := nwr0 b o nb e
        exact hk₂ b o nw (kH b o nb np nw (k1 b o nb e))
      · rcases xH a m with q | q
        · exact .inl q
        · refine .inr ?_
          cases e : s.heap.get? a with
          | none => rfl
          | some o =>
            by_cases nb : bx = some a
            · obtain ⟨_, vs, ⟨o', e', _⟩, _⟩ := B1 a nb
              rw [e'] at q; cases q
            · rw [k1 a o nb e] at q; cases q
end
end Mine
namespace Mine
set_option maxHeartbeats 200000

section
variable {C : Cx} {X : Addr → Prop} {bx : Option Addr} {β β' : Bx} {sc : Scope} {ρ ρ' : PEnv} {env : Env} {ow : Own} {h h' : Heap}

theorem VarIs.at' {x : Str} {v : Value} (hk : ∀ o, h.get? env.locals = some o → h'.get? env.locals = some o) (hc : ∀ c, c ∈ env.cells.map (·.2) → ∀ o, h.get? c = some o → h'.get? c = some o) (r : VarIs h env x v) : VarIs h' env x v := by
  rcases r with ⟨h1, m, hn, hm⟩ | ⟨h1, c, hcl, o, ho, hd⟩
  · exact .inl ⟨h1, m, hn.at' hk, hm⟩
  · exact .inr ⟨h1, c, hcl, o, hc c (lookup_in hcl) o ho, hd⟩

/-- an own list of the frame's turned -/
theorem FOk.setOwn {x : Str} {D : Addr} {vs ws : List Value} {xs : List PyData} (F : FOk C X bx β sc ρ env ow h) (hl : ow.lookup x = some D) (hv : VarIs h env x (.ref D)) (hD : PlainL h D ws.toArray) (hs : ∀ b o, b ≠ D → h.get? b = some o → h'.get? b = some o) (hp : PlainL h' D vs.toArray) (r : RepAll h (XO X ow) vs xs) :
    FOk C X bx β sc ((x, .own xs) :: ρ) env ow h' := by
  have DX : XO X ow D := .inr (lookup_in hl)
  have bxD : bx ≠ some D := F.bxNot (.inr (.inr (lookup_in hl)))
  obtain ⟨oD, nD, eD, _, _, dD⟩ := id hD
  have fr := F.frameNot eD (seqNF ⟨_, _, dD⟩)
  have mv : ∀ b o, ¬ XO X ow b → h.get? b = some o → h'.get? b = some o ∧ ¬ XO X ow b := fun b o n e => ⟨hs b o (fun q => n (q ▸ DX)) e, n⟩
  have vm : ∀ {y u}, VarIs h env y u → VarIs h' env y u := fun q => q.at' (fun o e => hs _ o (fun q => fr.1 q.symm) e) fun c hc o e => hs c o (fun q => fr.2 (q ▸ hc)) e
  refine { F with s := ⟨fun b o e => hs b o (fun q => ?_) (F.s.base b o e), F.s.xnew, fun a q => ?_, fun a q => ?_⟩, loc := ?_, cel := fun y c hc => ?_, vars := fun y p hy n => ?_, own := fun y ys hy => ?_ }
  · have := F.s.xnew D DX; rw [← q, e] at this; cases this
  · by_cases e : a = D
    · obtain ⟨o, _, e', _⟩ := hp
      exact ⟨o, e ▸ e'⟩
    · obtain ⟨o, e'⟩ := F.s.xlive a q
      exact ⟨o, hs a o e e'⟩
  · obtain ⟨xa, us, hl', rr⟩ := F.s.box a q
    exact ⟨xa, us, IsList.keepAt hl' fun o e => hs a o (fun e' => bxD (e' ▸ q)) e, rr.move mv⟩
  · obtain ⟨m, hn⟩ := F.loc
    exact ⟨m, hn.at' fun o e => hs _ o (fun q => fr.1 q.symm) e⟩
  · obtain ⟨v, o, ho, hd⟩ := F.cel y c hc
    exact ⟨v, o, hs c o (fun q => fr.2 (q ▸ lookup_in hc)) ho, hd⟩
  · rw [List.lookup_cons] at hy
    cases hb : y == x with
    | true => rw [hb] at hy; cases hy; exact absurd rfl (n xs)
    | false =>
      rw [hb] at hy
      obtain ⟨v, hv', rp⟩ := F.vars y p hy n
      refine ⟨v, vm hv', ?_⟩
      cases p with
      | d x => exact Rep.move mv rp
      | box => exact rp
      | own xs => exact absurd rfl (n xs)
  · rw [List.lookup_cons] at hy
    cases hb : y == x with
    | true =>
      rw [hb] at hy
      cases hy
      have e : y = x := beq_iff_eq.mp hb
      subst e
      exact ⟨D, vs, hl, vm hv, hp, r.move mv, bxD⟩
    | false =>
      rw [hb] at hy
      obtain ⟨a, us, h1, h2, h3, h4, h5⟩ := F.own y ys hy
      have ne : a ≠ D := fun q => by
        have e := F.ond y x D (q ▸ h1) hl
        rw [e] at hb; simp at hb
      exact ⟨a, us, h1, vm h2, PlainL.keepAt h3 fun o e => hs a o ne e, h4.move mv, h5⟩
end

section
variable {C : Cx} {k : Nat} {sc : Scope} {ρ : PEnv} {β : Bx} {N : PEnv → Bx → Prop} {T : PyData → Bx → Prop}

theorem WS.mono {body : List Stmt} {N' : PEnv → Bx → Prop} {T' : PyData → Bx → Prop} (h : WS C k sc body ρ β N T) (n : ∀ ρ' β', N ρ' β' → N' ρ' β') (t : ∀ d β', T d β' → T' d β') : WS C k sc body ρ β N' T' :=
  fun A s env X bx ow P E R F c r => h A s env X bx ow P E R F (fun h' tk ρ' β' ow' q => c h' tk ρ' β' ow' (n ρ' β' q)) fun v h' tk d β' q => r v h' tk d β' (t d β' q)
theorem WX.mono {st : Stmt} {N' : PEnv → Bx → Prop} {T' : PyData → Bx → Prop} (h : WX C k sc st ρ β N T) (n : ∀ ρ' β', N ρ' β' → N' ρ' β') (t : ∀ d β', T d β' → T' d β') : WX C k sc st ρ β N' T' :=
  fun A s env X bx ow P E R F c r => h A s env X bx ow P E R F (fun h' tk ρ' β' ow' q => c h' tk ρ' β' ow' (n ρ' β' q)) fun v h' tk d β' q => r v h' tk d β' (t d β' q)
/-- fewer names are known -/
theorem WS.weaken {body : List Stmt} {ρ₁ : PEnv} (h : WS C k sc body ρ₁ β N T) (w : Sub ρ₁ ρ) : WS C k sc body ρ β N T :=
  fun A s env X bx ow P E R F c r => h A s env X bx ow P E R (F.weaken w) c r
theorem WX.weaken {st : Stmt} {ρ₁ : PEnv} (h : WX C k sc st ρ₁ β N T) (w : Sub ρ₁ ρ) : WX C k sc st ρ β N T :=
  fun A s env X bx ow P E R F c r => h A s env X bx ow P E R (F.weaken w) c r

theorem x_append {x : Str} {xp apos epos pos : Pos} {elt : Expr} {xs : List PyData} (hl : ρ.lookup x = some (.own xs)) (hz : xs.length ≤ 16384) (h : WE C k sc.names elt ρ β fun p β' => ∃ d, p = .d d ∧ N ((x, .own (xs ++ [d])) :: ρ) β') (ok : okName x = true := by rfl)
    (hi : ∀ env : Env, env.scope = sc → interactive env = false := by intro env h; unfold interactive; rw [h]; rfl)
    (hs : ∀ env, swapsWith (.Call (.Attribute (.Name x xp) "append" apos) [elt] [] epos) none pos.line env = pure false := by intro _; rfl)
    (hbase : ∀ env, attributeBase (.Name x xp) "append" env (eval (.Name x xp) env) = eval (.Name x xp) env := by intro _; rfl)
    (hfew : ∀ env, ((backTo epos (starEach [elt] env)).all (fun x => !x.1) && (backToKw epos (keywordEach [] env)).all (fun x => x.1.isSome)
      && decide (([elt] : List Expr).length + ([] : List Keyword).length + (if ([] : List Keyword).isEmpty then 0 else 1) < 30)) = true := by intro _; rfl)
    (hline : (apos.endLine == epos.line) = true := by rfl)
    (htrees : ∀ env, backTo epos (starEach [elt] env) = [(false, eval elt env)] := by intro _; rfl) : WX C k sc (.Expr (.Call (.Attribute (.Name x xp) "append" apos) [elt] [] epos) pos) ρ β N T :=
  fun A s env X bx ow P E R F c r => by
    refine wpAny_Expr_any (wpAny_Call_append (hbase env) (hfew env) hline (htrees env) ?_) (hi env F.scope) (hs env)
    obtain ⟨D, ws, h1, h2, h3, h4, h5⟩ := F.own x xs hl
    refine load_var F.eok.kind ok h2 ⟨D, ws.toArray, rfl, h3, ?_⟩
    refine h A s env (XO X ow) bx _ E R F.e fun v h' tk p β' q k1 B1 r1 => ?_
    obtain ⟨d, rfl, q⟩ := q
    have F1 := F.step k1 B1
    have p1 : PlainL h' D ws.toArray := PlainL.keepAt h3 fun o e => k1 D o h5 e
    refine list_append_plainL p1 (fun h'' hp hsb => ?_) (by rw [List.size_toArray, h4.length]; exact size_ok hz)
    have hs' : ∀ b o, b ≠ D → h'.get? b = some o → h''.get? b = some o := fun b o n e => hsb.extBut b o n e
    have e : ws.toArray.push v = (ws ++ [v]).toArray := by simp
    rw [e] at hp
    refine c h'' tk _ β' ow q (F1.setOwn h1 (h2.keep F.s k1) p1 hs' hp ((h4.keep F.s k1).append (.cons r1 .nil))) (fun b o nb np e => hs' b o (fun q => np (.inr (.inr (q ▸ lookup_in h1)))) (k1 b o nb e)) OwExt.refl

/-- a store into the box -/
theorem x_setBox {x : Str} {xp ip sp pos : Pos} {n : Int} {kd : Nat} {value : Expr} (hl : ρ.lookup x = some .box) (h : WE C k sc.names value ρ β fun p β' => ∃ d, p = .d d ∧ 0 ≤ n ∧ n.toNat < β'.length ∧ β'.length ≤ 16384 ∧ N ρ (β'.set n.toNat d)) (ok : okName x = true := by rfl)
    (hs : ∀ env, swapsWith value (some (.Subscript (.Name x xp) (.Constant (.int n) kd ip) sp)) pos.line env = pure false := by intro _; rfl) : WX C k sc (.Assign [.Subscript (.Name x xp) (.Constant (.int n) kd ip) sp] value pos) ρ β N T :=
  fun A s env X bx ow P E R F c r => by
    refine wpAny_Assign_Subscript (h A s env (XO X ow) bx _ E R F.e fun v h' tk p β' q k1 B1 r1 => ?_) (hs env)
    obtain ⟨d, rfl, h0, h1, hz, q⟩ := q
    have F1 := F.step k1 B1
    obtain ⟨u, hu, rb⟩ := F1.vars x _ hl (fun _ e => nomatch e)
    obtain ⟨a, hb, rfl⟩ := rb
    refine load_var F.eok.kind ok hu (wpAny_Constant_int ?_)
    obtain ⟨xa, vs, hls, hr⟩ := B1 a hb
    refine wpAny_setItem_list hls h0 (by have := h1; omega) (by rw [List.size_toArray, hr.length]; omega) fun h'' hl2 hsb => ?_
    have k2 : Keep bx h' h'' := fun b o nb e => hsb.extBut b o (fun q => nb (q ▸ hb)) e
    have B2 : BoxIs h'' (XO X ow) bx (β'.set n.toNat d) := fun a' q' => by
      rw [hb] at q'; cases q'
      refine ⟨xa, vs.set n.toNat v, by simpa using hl2, ?_⟩
      exact (RepAll.set r1 n.toNat hr).move fun b o nX e => ⟨hsb.extBut b o (fun q => nX (q ▸ xa)) e, nX⟩
    exact c h'' _ ρ _ ow q (F1.step k2 B2) ((KeepF.of k1).trans OwExt.refl (KeepF.of k2)) OwExt.refl

/-- while: a measure that falls -/
theorem x_while {test : Expr} {body : List Stmt} {pos : Pos} (J : Nat → PEnv → Bx → Prop) {n₀ : Nat} (h0 : J n₀ ρ β)
    (step : ∀ n ρ' β', J n ρ' β' → WT C k sc.names test ρ' β' fun b β₁ => if b = true then WS C k sc body ρ' β₁ (fun ρ₂ β₂ => ∃ m, m < n ∧ J m ρ₂ β₂) T else N ρ' β₁) : WX C k sc (.While test body [] pos) ρ β N T :=
  fun A s env X bx ow P E R F c r => by
    refine wpAny_While (codeAny_whileLoop (fun n s' => ∃ H tk ρ' β' ow', s' = { s with heap := H, toks := tk } ∧ FOk C X bx β' sc ρ' env ow' H ∧ KeepF bx env ow s.heap H ∧ OwExt s.heap ow ow' ∧ J n ρ' β') ?_ n₀ ⟨s.heap, s.toks, ρ, β, ow, rfl, F, KeepF.refl, OwExt.refl, h0⟩)
    rintro n s' ⟨H, tk, ρ', β', ow', rfl, FH, kH, xH, j⟩
    refine step n ρ' β' j A { s with heap := H, toks := tk } env _ bx _ _ _ R FH.e fun b h' tk' β₁ q k1 B1 => ?_
    have F1 := FH.step k1 B1
    cases b with
    | false =>
      simp only [Bool.false_eq_true, if_false] at q ⊢
      refine wpAny_execs_nil (c h' tk' ρ' β₁ ow' q F1 (kH.trans xH (KeepF.of k1)) xH)
    | true =>
      simp only [if_true] at q ⊢
      refine q A { s with heap := h', toks := tk' } env X bx ow' _ _ R F1 (fun h2 tk2 ρ2 β2 ow2 n2 F2 k2 x2 => ?_) (fun v h2 tk2 d β2 t k2 B2 r2 => ?_)
      · obtain ⟨m, hm, j2⟩ := n2
        have xt : OwExt H ow' ow2 := OwExt.trans F1 (KeepF.of k1) OwExt.refl x2
        exact ⟨m, hm, h2, tk2, ρ2, β2, ow2, rfl, F2, kH.trans xH ((KeepF.of k1).trans OwExt.refl k2), OwExt.trans FH kH xH xt, j2⟩
      · exact r v h2 tk2 d β2 t (kH.trans xH ((KeepF.of k1).trans OwExt.refl k2)) B2 r2
end
end Mine
namespace Mine
set_option maxHeartbeats 200000

theorem lk_here {α : Type} {x : Str} {p : α} {l : List (Str × α)} : List.lookup x ((x, p) :: l) = some p := by simp
theorem lk_there {α : Type} {x y : Str} {p q : α} {l : List (Str × α)} (h : (x == y) = false) (t : List.lookup x l = some p) : List.lookup x ((y, q) :: l) = some p := by
  rw [List.lookup_cons, h]; exact t

theorem allD1 {a : PyData} {Q : List PyData → Prop} (h : Q [a]) : AllD [.d a] Q := ⟨[a], rfl, by simp, h⟩
theorem allD2 {a b : PyData} {Q : List PyData → Prop} (h : Q [a, b]) : AllD [.d a, .d b] Q := ⟨[a, b], rfl, by simp, h⟩
theorem allD3 {a b c : PyData} {Q : List PyData → Prop} (h : Q [a, b, c]) : AllD [.d a, .d b, .d c] Q := ⟨[a, b, c], rfl, by simp, h⟩
theorem isD {x : PyData} {Q : PyData → Prop} (h : Q x) : ∃ d, PV.d x = .d d ∧ Q d := ⟨x, rfl, h⟩

/-- a function of the program, its place and its name -/
structure FnAt (C : Cx) (x : Str) (f : Addr) (fd : FuncData) (body : List Stmt) (xs : List Str) : Prop where
  ok : fnOk C.K f fd body xs
  gl : nsIn C.K mainGlobals x = some (some (.ref f))
  fn : isFun C.K f = true

section
variable {C : Cx} {k : Nat} {ns : Names} {ρ : PEnv} {β : Bx} {Q : PV → Bx → Prop}

theorem CallR.le {j f : Nat} {ps : List PV} {d : PyData} {β' : Bx} (h : CallR C j f ps β d β') (l : j ≤ k) : CallR C k f ps β d β' := WV.le h l

/-- a call by name: what is known of it may be loose -/
theorem e_callW {x : Str} {np pos : Pos} {e : Expr} {es : List Expr} {f : Addr} (hl : ns.lookup x = some .globalImplicit) (hg : nsIn C.K mainGlobals x = some (some (.ref f))) (hf : isFun C.K f = true)
    (h : WEs C k ns (e :: es) ρ β fun ps β₁ => WV C k (fun vs => call (.ref f) vs) ps β₁ Q) (ok : okName x = true)
    (he : ∀ env, starEach (e :: es) env = (false, eval e env) :: starEach es env) : WE C k ns (.Call (.Name x np) (e :: es) [] pos) ρ β Q :=
  fun A s env X bx P E R S c => by
    refine Call_ (load_glob S.base S.eok hl hg ok ?_)
    have hfo : ∃ o fd, C.K.lookup f = some o ∧ o.data = .func fd := by
      unfold isFun at hf
      split at hf
      · rename_i c d fd sl q; exact ⟨_, fd, q, rfl⟩
      · cases hf
    obtain ⟨o, fd, ho, hd⟩ := hfo
    refine callWith_def hd (h A s env X bx pos _ E R S fun vs h' tk ps β₁ q k1 B1 r1 => ⟨(S.step k1 B1).base f o (C.okK f o ho), ?_⟩) (he env)
    exact q A { s with heap := h', toks := tk } X bx vs P E R (S.toSOk.step k1 B1) r1 fun v h'' tk' p β₃ q2 k2 B2 r2 => c v h'' tk' _ _ q2 (k1.trans k2) B2 r2
theorem wv_of {j f : Nat} {ps : List PV} {d : PyData} {β' : Bx} (h : CallR C j f ps β d β') (l : j ≤ k) (q : Q (.d d) β') : WV C k (fun vs => call (.ref f) vs) ps β Q :=
  (CallR.le h l).mono fun p β₁ ⟨e1, e2⟩ => by subst e1 e2; exact q

end
end Mine
namespace Mine
set_option maxHeartbeats 200000
theorem all1 {α : Type} {P : List α → Prop} (h : ∀ a, P [a]) : ∀ vs : List α, vs.length = 1 → P vs
  | [a], _ => h a
theorem all2 {α : Type} {P : List α → Prop} (h : ∀ a b, P [a, b]) : ∀ vs : List α, vs.length = 2 → P vs
  | [a, b], _ => h a b
theorem all3 {α : Type} {P : List α → Prop} (h : ∀ a b c, P [a, b, c]) : ∀ vs : List α, vs.length = 3 → P vs
  | [a, b, c], _ => h a b c
theorem all4 {α : Type} {P : List α → Prop} (h : ∀ a b c d, P [a, b, c, d]) : ∀ vs : List α, vs.length = 4 → P vs
  | [a, b, c, d], _ => h a b c d
theorem mkF {C : Cx} (hC : C.K = KK C.w.params) {x : Str} {f : Addr} {fd : FuncData} {body : List Stmt} {xs : List Str} (h : fnOk (KK C.w.params) f fd body xs)
    (g : nsIn (KK C.w.params) mainGlobals x = some (some (.ref f))) (i : isFun (KK C.w.params) f = true) : FnAt C x f fd body xs := by
  rw [← hC] at h g i
  exact ⟨h, g, i⟩
noncomputable abbrev b_gcdF : List Stmt := fnB (stmtAt pw.main.body 3)
theorem F_gcd {C : Cx} (hC : C.K = KK C.w.params) : FnAt C "gcd" 41 fdgcd b_gcdF ["a", "b"] :=
  mkF hC ⟨⟨⟨.type "function", none, .func fdgcd, #[]⟩, by kernel_rfl, by kernel_rfl⟩, by kernel_rfl, by kernel_rfl, all2 fun _ _ => by kernel_rfl, by kernel_rfl, by kernel_rfl, by kernel_rfl, by kernel_rfl, by kernel_rfl, by kernel_rfl, by decide +kernel, by kernel_rfl, by decide +kernel⟩ (by kernel_rfl) (by kernel_rfl)
noncomputable abbrev b_ratF : List Stmt := fnB (stmtAt pw.main.body 8)
theorem F_rat {C : Cx} (hC : C.K = KK C.w.params) : FnAt C "rat" 57 fdrat b_ratF ["top", "bottom"] :=
  mkF hC ⟨⟨⟨.type "function", none, .func fdrat, #[]⟩, by kernel_rfl, by kernel_rfl⟩, by kernel_rfl, by kernel_rfl, all2 fun _ _ => by kernel_rfl, by kernel_rfl, by kernel_rfl, by kernel_rfl, by kernel_rfl, by kernel_rfl, by kernel_rfl, by decide +kernel, by kernel_rfl, by decide +kernel⟩ (by kernel_rfl) (by kernel_rfl)
noncomputable abbrev b_raddF : List Stmt := fnB (stmtAt pw.main.body 9)
theorem F_radd {C : Cx} (hC : C.K = KK C.w.params) : FnAt C "radd" 64 fdradd b_raddF ["a", "b"] :=
  mkF hC ⟨⟨⟨.type "function", none, .func fdradd, #[]⟩, by kernel_rfl, by kernel_rfl⟩, by kernel_rfl, by kernel_rfl, all2 fun _ _ => by kernel_rfl, by kernel_rfl, by kernel_rfl, by kernel_rfl, by kernel_rfl, by kernel_rfl, by kernel_rfl, by decide +kernel, by kernel_rfl, by decide +kernel⟩ (by kernel_rfl) (by kernel_rfl)
noncomputable abbrev b_rsubF : List Stmt := fnB (stmtAt pw.main.body 10)
theorem F_rsub {C : Cx} (hC : C.K = KK C.w.params) : FnAt C "rsub" 71 fdrsub b_rsubF ["a", "b"] :=
  mkF hC ⟨⟨⟨.type "function", none, .func fdrsub, #[]⟩, by kernel_rfl, by kernel_rfl⟩, by kernel_rfl, by kernel_rfl, all2 fun _ _ => by kernel_rfl, by kernel_rfl, by kernel_rfl, by kernel_rfl, by kernel_rfl, by kernel_rfl, by kernel_rfl, by decide +kernel, by kernel_rfl, by decide +kernel⟩ (by kernel_rfl) (by kernel_rfl)
noncomputable abbrev b_rmulF : List Stmt := fnB (stmtAt pw.main.body 11)
theorem F_rmul {C : Cx} (hC : C.K = KK C.w.params) : FnAt C "rmul" 78 fdrmul b_rmulF ["a", "b"] :=
  mkF hC ⟨⟨⟨.type "function", none, .func fdrmul, #[]⟩, by kernel_rfl, by kernel_rfl⟩, by kernel_rfl, by kernel_rfl, all2 fun _ _ => by kernel_rfl, by kernel_rfl, by kernel_rfl, by kernel_rfl, by kernel_rfl, by kernel_rfl, by kernel_rfl, by decide +kernel, by kernel_rfl, by decide +kernel⟩ (by kernel_rfl) (by kernel_rfl)
noncomputable abbrev b_rdivF : List Stmt := fnB (stmtAt pw.main.body 12)
theorem F_rdiv {C : Cx} (hC : C.K = KK C.w.params) : FnAt C "rdiv" 85 fdrdiv b_rdivF ["a", "b"] :=
  mkF hC ⟨⟨⟨.type "function", none, .func fdrdiv, #[]⟩, by kernel_rfl, by kernel_rfl⟩, by kernel_rfl, by kernel_rfl, all2 fun _ _ => by kernel_rfl, by kernel_rfl, by kernel_rfl, by kernel_rfl, by kernel_rfl, by kernel_rfl, by kernel_rfl, by decide +kernel, by kernel_rfl, by decide +kernel⟩ (by kernel_rfl) (by kernel_rfl)
noncomputable abbrev b_rcompareF : List Stmt := fnB (stmtAt pw.main.body 13)
theorem F_rcompare {C : Cx} (hC : C.K = KK C.w.params) : FnAt C "rcompare" 92 fdrcompare b_rcompareF ["a", "b"] :=
  mkF hC ⟨⟨⟨.type "function", none, .func fdrcompare, #[]⟩, by kernel_rfl, by kernel_rfl⟩, by kernel_rfl, by kernel_rfl, all2 fun _ _ => by kernel_rfl, by kernel_rfl, by kernel_rfl, by kernel_rfl, by kernel_rfl, by kernel_rfl, by kernel_rfl, by decide +kernel, by kernel_rfl, by decide +kernel⟩ (by kernel_rfl) (by kernel_rfl)
noncomputable abbrev b_cutF : List Stmt := fnB (stmtAt pw.main.body 15)
theorem F_cut {C : Cx} (hC : C.K = KK C.w.params) : FnAt C "cut" 99 fdcut b_cutF ["a", "order"] :=
  mkF hC ⟨⟨⟨.type "function", none, .func fdcut, #[]⟩, by kernel_rfl, by kernel_rfl⟩, by kernel_rfl, by kernel_rfl, all2 fun _ _ => by kernel_rfl, by kernel_rfl, by kernel_rfl, by kernel_rfl, by kernel_rfl, by kernel_rfl, by kernel_rfl, by decide +kernel, by kernel_rfl, by decide +kernel⟩ (by kernel_rfl) (by kernel_rfl)
noncomputable abbrev b_saddF : List Stmt := fnB (stmtAt pw.main.body 16)
theorem F_sadd {C : Cx} (hC : C.K = KK C.w.params) : FnAt C "sadd" 104 fdsadd b_saddF ["a", "b"] :=
  mkF hC ⟨⟨⟨.type "function", none, .func fdsadd, #[]⟩, by kernel_rfl, by kernel_rfl⟩, by kernel_rfl, by kernel_rfl, all2 fun _ _ => by kernel_rfl, by kernel_rfl, by kernel_rfl, by kernel_rfl, by kernel_rfl, by kernel_rfl, by kernel_rfl, by decide +kernel, by kernel_rfl, by decide +kernel⟩ (by kernel_rfl) (by kernel_rfl)
noncomputable abbrev b_mixedF : List Stmt := fnB (stmtAt pw.main.body 18)
theorem F_mixed {C : Cx} (hC : C.K = KK C.w.params) : FnAt C "mixed" 116 fdmixed b_mixedF ["a", "b", "at"] :=
  mkF hC ⟨⟨⟨.type "function", none, .func fdmixed, #[]⟩, by kernel_rfl, by kernel_rfl⟩, by kernel_rfl, by kernel_rfl, all3 fun _ _ _ => by kernel_rfl, by kernel_rfl, by kernel_rfl, by kernel_rfl, by kernel_rfl, by kernel_rfl, by kernel_rfl, by decide +kernel, by kernel_rfl, by decide +kernel⟩ (by kernel_rfl) (by kernel_rfl)
noncomputable abbrev b_smulF : List Stmt := fnB (stmtAt pw.main.body 19)
theorem F_smul {C : Cx} (hC : C.K = KK C.w.params) : FnAt C "smul" 121 fdsmul b_smulF ["a", "b"] :=
  mkF hC ⟨⟨⟨.type "function", none, .func fdsmul, #[]⟩, by kernel_rfl, by kernel_rfl⟩, by kernel_rfl, by kernel_rfl, all2 fun _ _ => by kernel_rfl, by kernel_rfl, by kernel_rfl, by kernel_rfl, by kernel_rfl, by kernel_rfl, by kernel_rfl, by decide +kernel, by kernel_rfl, by decide +kernel⟩ (by kernel_rfl) (by kernel_rfl)
noncomputable abbrev b_sinverseF : List Stmt := fnB (stmtAt pw.main.body 20)
theorem F_sinverse {C : Cx} (hC : C.K = KK C.w.params) : FnAt C "sinverse" 128 fdsinverse b_sinverseF ["a"] :=
  mkF hC ⟨⟨⟨.type "function", none, .func fdsinverse, #[]⟩, by kernel_rfl, by kernel_rfl⟩, by kernel_rfl, by kernel_rfl, all1 fun _ => by kernel_rfl, by kernel_rfl, by kernel_rfl, by kernel_rfl, by kernel_rfl, by kernel_rfl, by kernel_rfl, by decide +kernel, by kernel_rfl, by decide +kernel⟩ (by kernel_rfl) (by kernel_rfl)
noncomputable abbrev b_sderiveF : List Stmt := fnB (stmtAt pw.main.body 21)
theorem F_sderive {C : Cx} (hC : C.K = KK C.w.params) : FnAt C "sderive" 133 fdsderive b_sderiveF ["a"] :=
  mkF hC ⟨⟨⟨.type "function", none, .func fdsderive, #[]⟩, by kernel_rfl, by kernel_rfl⟩, by kernel_rfl, by kernel_rfl, all1 fun _ => by kernel_rfl, by kernel_rfl, by kernel_rfl, by kernel_rfl, by kernel_rfl, by kernel_rfl, by kernel_rfl, by decide +kernel, by kernel_rfl, by decide +kernel⟩ (by kernel_rfl) (by kernel_rfl)
noncomputable abbrev b_sintegrateF : List Stmt := fnB (stmtAt pw.main.body 22)
theorem F_sintegrate {C : Cx} (hC : C.K = KK C.w.params) : FnAt C "sintegrate" 138 fdsintegrate b_sintegrateF ["a"] :=
  mkF hC ⟨⟨⟨.type "function", none, .func fdsintegrate, #[]⟩, by kernel_rfl, by kernel_rfl⟩, by kernel_rfl, by kernel_rfl, all1 fun _ => by kernel_rfl, by kernel_rfl, by kernel_rfl, by kernel_rfl, by kernel_rfl, by kernel_rfl, by kernel_rfl, by decide +kernel, by kernel_rfl, by decide +kernel⟩ (by kernel_rfl) (by kernel_rfl)
noncomputable abbrev b_need_beginF : List Stmt := fnB (stmtAt pw.main.body 23)
theorem F_need_begin {C : Cx} (hC : C.K = KK C.w.params) : FnAt C "need_begin" 145 fdneed_begin b_need_beginF ["a", "number"] :=
  mkF hC ⟨⟨⟨.type "function", none, .func fdneed_begin, #[]⟩, by kernel_rfl, by kernel_rfl⟩, by kernel_rfl, by kernel_rfl, all2 fun _ _ => by kernel_rfl, by kernel_rfl, by kernel_rfl, by kernel_rfl, by kernel_rfl, by kernel_rfl, by kernel_rfl, by decide +kernel, by kernel_rfl, by decide +kernel⟩ (by kernel_rfl) (by kernel_rfl)
noncomputable abbrev b_sexpF : List Stmt := fnB (stmtAt pw.main.body 24)
theorem F_sexp {C : Cx} (hC : C.K = KK C.w.params) : FnAt C "sexp" 152 fdsexp b_sexpF ["a"] :=
  mkF hC ⟨⟨⟨.type "function", none, .func fdsexp, #[]⟩, by kernel_rfl, by kernel_rfl⟩, by kernel_rfl, by kernel_rfl, all1 fun _ => by kernel_rfl, by kernel_rfl, by kernel_rfl, by kernel_rfl, by kernel_rfl, by kernel_rfl, by kernel_rfl, by decide +kernel, by kernel_rfl, by decide +kernel⟩ (by kernel_rfl) (by kernel_rfl)
noncomputable abbrev b_slogF : List Stmt := fnB (stmtAt pw.main.body 25)
theorem F_slog {C : Cx} (hC : C.K = KK C.w.params) : FnAt C "slog" 159 fdslog b_slogF ["a"] :=
  mkF hC ⟨⟨⟨.type "function", none, .func fdslog, #[]⟩, by kernel_rfl, by kernel_rfl⟩, by kernel_rfl, by kernel_rfl, all1 fun _ => by kernel_rfl, by kernel_rfl, by kernel_rfl, by kernel_rfl, by kernel_rfl, by kernel_rfl, by kernel_rfl, by decide +kernel, by kernel_rfl, by decide +kernel⟩ (by kernel_rfl) (by kernel_rfl)
noncomputable abbrev b_ssin_cosF : List Stmt := fnB (stmtAt pw.main.body 26)
theorem F_ssin_cos {C : Cx} (hC : C.K = KK C.w.params) : FnAt C "ssin_cos" 166 fdssin_cos b_ssin_cosF ["a"] :=
  mkF hC ⟨⟨⟨.type "function", none, .func fdssin_cos, #[]⟩, by kernel_rfl, by kernel_rfl⟩, by kernel_rfl, by kernel_rfl, all1 fun _ => by kernel_rfl, by kernel_rfl, by kernel_rfl, by kernel_rfl, by kernel_rfl, by kernel_rfl, by kernel_rfl, by decide +kernel, by kernel_rfl, by decide +kernel⟩ (by kernel_rfl) (by kernel_rfl)
noncomputable abbrev b_ssinF : List Stmt := fnB (stmtAt pw.main.body 27)
theorem F_ssin {C : Cx} (hC : C.K = KK C.w.params) : FnAt C "ssin" 173 fdssin b_ssinF ["a"] :=
  mkF hC ⟨⟨⟨.type "function", none, .func fdssin, #[]⟩, by kernel_rfl, by kernel_rfl⟩, by kernel_rfl, by kernel_rfl, all1 fun _ => by kernel_rfl, by kernel_rfl, by kernel_rfl, by kernel_rfl, by kernel_rfl, by kernel_rfl, by kernel_rfl, by decide +kernel, by kernel_rfl, by decide +kernel⟩ (by kernel_rfl) (by kernel_rfl)
noncomputable abbrev b_scosF : List Stmt := fnB (stmtAt pw.main.body 28)
theorem F_scos {C : Cx} (hC : C.K = KK C.w.params) : FnAt C "scos" 180 fdscos b_scosF ["a"] :=
  mkF hC ⟨⟨⟨.type "function", none, .func fdscos, #[]⟩, by kernel_rfl, by kernel_rfl⟩, by kernel_rfl, by kernel_rfl, all1 fun _ => by kernel_rfl, by kernel_rfl, by kernel_rfl, by kernel_rfl, by kernel_rfl, by kernel_rfl, by kernel_rfl, by decide +kernel, by kernel_rfl, by decide +kernel⟩ (by kernel_rfl) (by kernel_rfl)
noncomputable abbrev b_swhole_powerF : List Stmt := fnB (stmtAt pw.main.body 31)
theorem F_swhole_power {C : Cx} (hC : C.K = KK C.w.params) : FnAt C "swhole_power" 201 fdswhole_power b_swhole_powerF ["a", "many"] :=
  mkF hC ⟨⟨⟨.type "function", none, .func fdswhole_power, #[]⟩, by kernel_rfl, by kernel_rfl⟩, by kernel_rfl, by kernel_rfl, all2 fun _ _ => by kernel_rfl, by kernel_rfl, by kernel_rfl, by kernel_rfl, by kernel_rfl, by kernel_rfl, by kernel_rfl, by decide +kernel, by kernel_rfl, by decide +kernel⟩ (by kernel_rfl) (by kernel_rfl)
noncomputable abbrev b_lplainF : List Stmt := fnB (stmtAt pw.main.body 33)
theorem F_lplain {C : Cx} (hC : C.K = KK C.w.params) : FnAt C "lplain" 208 fdlplain b_lplainF ["number", "many"] :=
  mkF hC ⟨⟨⟨.type "function", none, .func fdlplain, #[]⟩, by kernel_rfl, by kernel_rfl⟩, by kernel_rfl, by kernel_rfl, all2 fun _ _ => by kernel_rfl, by kernel_rfl, by kernel_rfl, by kernel_rfl, by kernel_rfl, by kernel_rfl, by kernel_rfl, by decide +kernel, by kernel_rfl, by decide +kernel⟩ (by kernel_rfl) (by kernel_rfl)
noncomputable abbrev b_lmovedF : List Stmt := fnB (stmtAt pw.main.body 34)
theorem F_lmoved {C : Cx} (hC : C.K = KK C.w.params) : FnAt C "lmoved" 215 fdlmoved b_lmovedF ["a", "low"] :=
  mkF hC ⟨⟨⟨.type "function", none, .func fdlmoved, #[]⟩, by kernel_rfl, by kernel_rfl⟩, by kernel_rfl, by kernel_rfl, all2 fun _ _ => by kernel_rfl, by kernel_rfl, by kernel_rfl, by kernel_rfl, by kernel_rfl, by kernel_rfl, by kernel_rfl, by decide +kernel, by kernel_rfl, by decide +kernel⟩ (by kernel_rfl) (by kernel_rfl)
noncomputable abbrev b_laddF : List Stmt := fnB (stmtAt pw.main.body 35)
theorem F_ladd {C : Cx} (hC : C.K = KK C.w.params) : FnAt C "ladd" 222 fdladd b_laddF ["a", "b"] :=
  mkF hC ⟨⟨⟨.type "function", none, .func fdladd, #[]⟩, by kernel_rfl, by kernel_rfl⟩, by kernel_rfl, by kernel_rfl, all2 fun _ _ => by kernel_rfl, by kernel_rfl, by kernel_rfl, by kernel_rfl, by kernel_rfl, by kernel_rfl, by kernel_rfl, by decide +kernel, by kernel_rfl, by decide +kernel⟩ (by kernel_rfl) (by kernel_rfl)
noncomputable abbrev b_lmulF : List Stmt := fnB (stmtAt pw.main.body 36)
theorem F_lmul {C : Cx} (hC : C.K = KK C.w.params) : FnAt C "lmul" 229 fdlmul b_lmulF ["a", "b"] :=
  mkF hC ⟨⟨⟨.type "function", none, .func fdlmul, #[]⟩, by kernel_rfl, by kernel_rfl⟩, by kernel_rfl, by kernel_rfl, all2 fun _ _ => by kernel_rfl, by kernel_rfl, by kernel_rfl, by kernel_rfl, by kernel_rfl, by kernel_rfl, by kernel_rfl, by decide +kernel, by kernel_rfl, by decide +kernel⟩ (by kernel_rfl) (by kernel_rfl)
noncomputable abbrev b_ltrimF : List Stmt := fnB (stmtAt pw.main.body 37)
theorem F_ltrim {C : Cx} (hC : C.K = KK C.w.params) : FnAt C "ltrim" 236 fdltrim b_ltrimF ["a"] :=
  mkF hC ⟨⟨⟨.type "function", none, .func fdltrim, #[]⟩, by kernel_rfl, by kernel_rfl⟩, by kernel_rfl, by kernel_rfl, all1 fun _ => by kernel_rfl, by kernel_rfl, by kernel_rfl, by kernel_rfl, by kernel_rfl, by kernel_rfl, by kernel_rfl, by decide +kernel, by kernel_rfl, by decide +kernel⟩ (by kernel_rfl) (by kernel_rfl)
noncomputable abbrev b_linverseF : List Stmt := fnB (stmtAt pw.main.body 38)
theorem F_linverse {C : Cx} (hC : C.K = KK C.w.params) : FnAt C "linverse" 243 fdlinverse b_linverseF ["a"] :=
  mkF hC ⟨⟨⟨.type "function", none, .func fdlinverse, #[]⟩, by kernel_rfl, by kernel_rfl⟩, by kernel_rfl, by kernel_rfl, all1 fun _ => by kernel_rfl, by kernel_rfl, by kernel_rfl, by kernel_rfl, by kernel_rfl, by kernel_rfl, by kernel_rfl, by decide +kernel, by kernel_rfl, by decide +kernel⟩ (by kernel_rfl) (by kernel_rfl)
noncomputable abbrev b_lpowerF : List Stmt := fnB (stmtAt pw.main.body 39)
theorem F_lpower {C : Cx} (hC : C.K = KK C.w.params) : FnAt C "lpower" 250 fdlpower b_lpowerF ["a", "many"] :=
  mkF hC ⟨⟨⟨.type "function", none, .func fdlpower, #[]⟩, by kernel_rfl, by kernel_rfl⟩, by kernel_rfl, by kernel_rfl, all2 fun _ _ => by kernel_rfl, by kernel_rfl, by kernel_rfl, by kernel_rfl, by kernel_rfl, by kernel_rfl, by kernel_rfl, by decide +kernel, by kernel_rfl, by decide +kernel⟩ (by kernel_rfl) (by kernel_rfl)
noncomputable abbrev b_lcutF : List Stmt := fnB (stmtAt pw.main.body 40)
theorem F_lcut {C : Cx} (hC : C.K = KK C.w.params) : FnAt C "lcut" 257 fdlcut b_lcutF ["a", "end"] :=
  mkF hC ⟨⟨⟨.type "function", none, .func fdlcut, #[]⟩, by kernel_rfl, by kernel_rfl⟩, by kernel_rfl, by kernel_rfl, all2 fun _ _ => by kernel_rfl, by kernel_rfl, by kernel_rfl, by kernel_rfl, by kernel_rfl, by kernel_rfl, by kernel_rfl, by decide +kernel, by kernel_rfl, by decide +kernel⟩ (by kernel_rfl) (by kernel_rfl)
noncomputable abbrev b_from_zeroF : List Stmt := fnB (stmtAt pw.main.body 44)
theorem F_from_zero {C : Cx} (hC : C.K = KK C.w.params) : FnAt C "from_zero" 271 fdfrom_zero b_from_zeroF ["told"] :=
  mkF hC ⟨⟨⟨.type "function", none, .func fdfrom_zero, #[]⟩, by kernel_rfl, by kernel_rfl⟩, by kernel_rfl, by kernel_rfl, all1 fun _ => by kernel_rfl, by kernel_rfl, by kernel_rfl, by kernel_rfl, by kernel_rfl, by kernel_rfl, by kernel_rfl, by decide +kernel, by kernel_rfl, by decide +kernel⟩ (by kernel_rfl) (by kernel_rfl)
noncomputable abbrev b_of_callF : List Stmt := fnB (stmtAt pw.main.body 45)
theorem F_of_call {C : Cx} (hC : C.K = KK C.w.params) : FnAt C "of_call" 278 fdof_call b_of_callF ["name", "told"] :=
  mkF hC ⟨⟨⟨.type "function", none, .func fdof_call, #[]⟩, by kernel_rfl, by kernel_rfl⟩, by kernel_rfl, by kernel_rfl, all2 fun _ _ => by kernel_rfl, by kernel_rfl, by kernel_rfl, by kernel_rfl, by kernel_rfl, by kernel_rfl, by kernel_rfl, by decide +kernel, by kernel_rfl, by decide +kernel⟩ (by kernel_rfl) (by kernel_rfl)
noncomputable abbrev b_of_powerF : List Stmt := fnB (stmtAt pw.main.body 47)
theorem F_of_power {C : Cx} (hC : C.K = KK C.w.params) : FnAt C "of_power" 292 fdof_power b_of_powerF ["base", "exponent", "many", "letter"] :=
  mkF hC ⟨⟨⟨.type "function", none, .func fdof_power, #[]⟩, by kernel_rfl, by kernel_rfl⟩, by kernel_rfl, by kernel_rfl, all4 fun _ _ _ _ => by kernel_rfl, by kernel_rfl, by kernel_rfl, by kernel_rfl, by kernel_rfl, by kernel_rfl, by kernel_rfl, by decide +kernel, by kernel_rfl, by decide +kernel⟩ (by kernel_rfl) (by kernel_rfl)
noncomputable abbrev b_of_termF : List Stmt := fnB (stmtAt pw.main.body 48)
theorem F_of_term {C : Cx} (hC : C.K = KK C.w.params) : FnAt C "of_term" 299 fdof_term b_of_termF ["t", "many", "letter"] :=
  mkF hC ⟨⟨⟨.type "function", none, .func fdof_term, #[]⟩, by kernel_rfl, by kernel_rfl⟩, by kernel_rfl, by kernel_rfl, all3 fun _ _ _ => by kernel_rfl, by kernel_rfl, by kernel_rfl, by kernel_rfl, by kernel_rfl, by kernel_rfl, by kernel_rfl, by decide +kernel, by kernel_rfl, by decide +kernel⟩ (by kernel_rfl) (by kernel_rfl)
noncomputable abbrev b_laurent_ofF : List Stmt := fnB (stmtAt pw.main.body 49)
theorem F_laurent_of {C : Cx} (hC : C.K = KK C.w.params) : FnAt C "laurent_of" 306 fdlaurent_of b_laurent_ofF ["t", "letter", "end"] :=
  mkF hC ⟨⟨⟨.type "function", none, .func fdlaurent_of, #[]⟩, by kernel_rfl, by kernel_rfl⟩, by kernel_rfl, by kernel_rfl, all3 fun _ _ _ => by kernel_rfl, by kernel_rfl, by kernel_rfl, by kernel_rfl, by kernel_rfl, by kernel_rfl, by kernel_rfl, by decide +kernel, by kernel_rfl, by decide +kernel⟩ (by kernel_rfl) (by kernel_rfl)
noncomputable abbrev b_series_ofF : List Stmt := fnB (stmtAt pw.main.body 50)
theorem F_series_of {C : Cx} (hC : C.K = KK C.w.params) : FnAt C "series_of" 313 fdseries_of b_series_ofF ["t", "name", "at", "order"] :=
  mkF hC ⟨⟨⟨.type "function", none, .func fdseries_of, #[]⟩, by kernel_rfl, by kernel_rfl⟩, by kernel_rfl, by kernel_rfl, all4 fun _ _ _ _ => by kernel_rfl, by kernel_rfl, by kernel_rfl, by kernel_rfl, by kernel_rfl, by kernel_rfl, by kernel_rfl, by decide +kernel, by kernel_rfl, by decide +kernel⟩ (by kernel_rfl) (by kernel_rfl)
noncomputable abbrev b_law_takeF : List Stmt := fnB (stmtAt pw.main.body 52)
theorem F_law_take {C : Cx} (hC : C.K = KK C.w.params) : FnAt C "_law_take" 320 fd_law_take b_law_takeF ["box", "many"] :=
  mkF hC ⟨⟨⟨.type "function", none, .func fd_law_take, #[]⟩, by kernel_rfl, by kernel_rfl⟩, by kernel_rfl, by kernel_rfl, all2 fun _ _ => by kernel_rfl, by kernel_rfl, by kernel_rfl, by kernel_rfl, by kernel_rfl, by kernel_rfl, by kernel_rfl, by decide +kernel, by kernel_rfl, by decide +kernel⟩ (by kernel_rfl) (by kernel_rfl)
noncomputable abbrev b_law_boxF : List Stmt := fnB (stmtAt pw.main.body 53)
theorem F_law_box {C : Cx} (hC : C.K = KK C.w.params) : FnAt C "_law_box" 325 fd_law_box b_law_boxF ["script"] :=
  mkF hC ⟨⟨⟨.type "function", none, .func fd_law_box, #[]⟩, by kernel_rfl, by kernel_rfl⟩, by kernel_rfl, by kernel_rfl, all1 fun _ => by kernel_rfl, by kernel_rfl, by kernel_rfl, by kernel_rfl, by kernel_rfl, by kernel_rfl, by kernel_rfl, by decide +kernel, by kernel_rfl, by decide +kernel⟩ (by kernel_rfl) (by kernel_rfl)
noncomputable abbrev b_law_lowF : List Stmt := fnB (stmtAt pw.main.body 54)
theorem F_law_low {C : Cx} (hC : C.K = KK C.w.params) : FnAt C "_law_low" 332 fd_law_low b_law_lowF ["top", "bottom"] :=
  mkF hC ⟨⟨⟨.type "function", none, .func fd_law_low, #[]⟩, by kernel_rfl, by kernel_rfl⟩, by kernel_rfl, by kernel_rfl, all2 fun _ _ => by kernel_rfl, by kernel_rfl, by kernel_rfl, by kernel_rfl, by kernel_rfl, by kernel_rfl, by kernel_rfl, by decide +kernel, by kernel_rfl, by decide +kernel⟩ (by kernel_rfl) (by kernel_rfl)
noncomputable abbrev b_law_plusF : List Stmt := fnB (stmtAt pw.main.body 55)
theorem F_law_plus {C : Cx} (hC : C.K = KK C.w.params) : FnAt C "_law_plus" 337 fd_law_plus b_law_plusF ["one", "other"] :=
  mkF hC ⟨⟨⟨.type "function", none, .func fd_law_plus, #[]⟩, by kernel_rfl, by kernel_rfl⟩, by kernel_rfl, by kernel_rfl, all2 fun _ _ => by kernel_rfl, by kernel_rfl, by kernel_rfl, by kernel_rfl, by kernel_rfl, by kernel_rfl, by kernel_rfl, by decide +kernel, by kernel_rfl, by decide +kernel⟩ (by kernel_rfl) (by kernel_rfl)
noncomputable abbrev b_law_timesF : List Stmt := fnB (stmtAt pw.main.body 56)
theorem F_law_times {C : Cx} (hC : C.K = KK C.w.params) : FnAt C "_law_times" 344 fd_law_times b_law_timesF ["one", "other"] :=
  mkF hC ⟨⟨⟨.type "function", none, .func fd_law_times, #[]⟩, by kernel_rfl, by kernel_rfl⟩, by kernel_rfl, by kernel_rfl, all2 fun _ _ => by kernel_rfl, by kernel_rfl, by kernel_rfl, by kernel_rfl, by kernel_rfl, by kernel_rfl, by kernel_rfl, by decide +kernel, by kernel_rfl, by decide +kernel⟩ (by kernel_rfl) (by kernel_rfl)
noncomputable abbrev b_law_rowsF : List Stmt := fnB (stmtAt pw.main.body 57)
theorem F_law_rows {C : Cx} (hC : C.K = KK C.w.params) : FnAt C "_law_rows" 349 fd_law_rows b_law_rowsF ["name", "told"] :=
  mkF hC ⟨⟨⟨.type "function", none, .func fd_law_rows, #[]⟩, by kernel_rfl, by kernel_rfl⟩, by kernel_rfl, by kernel_rfl, all2 fun _ _ => by kernel_rfl, by kernel_rfl, by kernel_rfl, by kernel_rfl, by kernel_rfl, by kernel_rfl, by kernel_rfl, by decide +kernel, by kernel_rfl, by decide +kernel⟩ (by kernel_rfl) (by kernel_rfl)
noncomputable abbrev b_law_turnedF : List Stmt := fnB (stmtAt pw.main.body 58)
theorem F_law_turned {C : Cx} (hC : C.K = KK C.w.params) : FnAt C "_law_turned" 354 fd_law_turned b_law_turnedF ["told"] :=
  mkF hC ⟨⟨⟨.type "function", none, .func fd_law_turned, #[]⟩, by kernel_rfl, by kernel_rfl⟩, by kernel_rfl, by kernel_rfl, all1 fun _ => by kernel_rfl, by kernel_rfl, by kernel_rfl, by kernel_rfl, by kernel_rfl, by kernel_rfl, by kernel_rfl, by decide +kernel, by kernel_rfl, by decide +kernel⟩ (by kernel_rfl) (by kernel_rfl)
noncomputable abbrev b_law_polyF : List Stmt := fnB (stmtAt pw.main.body 59)
theorem F_law_poly {C : Cx} (hC : C.K = KK C.w.params) : FnAt C "_law_poly" 359 fd_law_poly b_law_polyF ["box", "size"] :=
  mkF hC ⟨⟨⟨.type "function", none, .func fd_law_poly, #[]⟩, by kernel_rfl, by kernel_rfl⟩, by kernel_rfl, by kernel_rfl, all2 fun _ _ => by kernel_rfl, by kernel_rfl, by kernel_rfl, by kernel_rfl, by kernel_rfl, by kernel_rfl, by kernel_rfl, by decide +kernel, by kernel_rfl, by decide +kernel⟩ (by kernel_rfl) (by kernel_rfl)
noncomputable abbrev b_law_drawnF : List Stmt := fnB (stmtAt pw.main.body 60)
theorem F_law_drawn {C : Cx} (hC : C.K = KK C.w.params) : FnAt C "_law_drawn" 366 fd_law_drawn b_law_drawnF ["box", "size", "deep"] :=
  mkF hC ⟨⟨⟨.type "function", none, .func fd_law_drawn, #[]⟩, by kernel_rfl, by kernel_rfl⟩, by kernel_rfl, by kernel_rfl, all3 fun _ _ _ => by kernel_rfl, by kernel_rfl, by kernel_rfl, by kernel_rfl, by kernel_rfl, by kernel_rfl, by kernel_rfl, by decide +kernel, by kernel_rfl, by decide +kernel⟩ (by kernel_rfl) (by kernel_rfl)
end Mine
namespace Mine
set_option maxHeartbeats 200000

noncomputable abbrev encQ (q : Rat) : PyData := .tuple [.int q.num, .int q.den]
/-! ## globals that bear data -/
theorem tup_in {C : Cx} (hC : C.K = KK C.w.params) {x : Str} {a : Addr} {i j : Int} {t u : Tok} (hg : nsIn (KK C.w.params) mainGlobals x = some (some (.ref a))) (hl : (KK C.w.params).lookup a = some ⟨.type "tuple", none, .seq #[.int i t, .int j u] 0, #[]⟩) : GlobD C x (.tuple [.int i, .int j]) := by
  refine ⟨.ref a, by rw [hC]; exact hg, fun h X b xn => ?_⟩
  have h0 := C.okK a _ (by rw [hC]; exact hl)
  have hh := b a _ h0
  refine .tuple (vs := [.int i t, .int j u]) ⟨_, hh, rfl, 0, rfl⟩ (fun q => ?_) (.cons (.int _ _) (.cons (.int _ _) .nil))
  rw [xn a q] at h0; cases h0
theorem G_R0 {C : Cx} (hC : C.K = KK C.w.params) : GlobD C "R0" (encQ 0) := tup_in (t := 243) (u := 244) (a := 49) hC (by kernel_rfl) (by kernel_rfl)
theorem G_R1 {C : Cx} (hC : C.K = KK C.w.params) : GlobD C "R1" (encQ 1) := tup_in (t := 246) (u := 247) (a := 50) hC (by kernel_rfl) (by kernel_rfl)
theorem G_MM {C : Cx} (hC : C.K = KK C.w.params) : GlobD C "MOST_MORE" (.int 24) := ⟨.int 24 522, by rw [hC]; kernel_rfl, fun _ _ _ _ => .int _ _⟩
theorem is_fn {C : Cx} (hC : C.K = KK C.w.params) {f : Addr} (h : isFun (KK C.w.params) f = true) : isFun C.K f = true := by rw [hC]; exact h
theorem no_glob {C : Cx} (hC : C.K = KK C.w.params) {x : Str} (h : nsIn (KK C.w.params) mainGlobals x = some none) : nsIn C.K mainGlobals x = some none := by rw [hC]; exact h

/-! ## several stores, told flat -/
section
variable {C : Cx} {k : Nat} {sc : Scope} {ρ : PEnv} {β : Bx} {N : PEnv → Bx → Prop} {T : PyData → Bx → Prop}
theorem x_tups2 {kd kd2 : Nat} {es : List Expr} {px py tp tp2 pos : Pos} {x y : Str} (h : WE C k sc.names (.Tuple es kd2 tp2) ρ β fun p β' => ∃ d1 d2, p = .d (.tuple [d1, d2]) ∧ N ((x, .d d1) :: (y, .d d2) :: ρ) β') (hx : ([x, y].reverse.all fun x => isVar sc x) = true)
    (hs : ∀ env, swapsWithSole [.Tuple [.Name x px, .Name y py] kd tp] (.Tuple es kd2 tp2) pos.line env = pure false) (hw : ∀ env, env.scope = sc → swappedStores [.Tuple [.Name x px, .Name y py] kd tp] (.Tuple es kd2 tp2) env = pure (some [x, y])) : WX C k sc (.Assign [.Tuple [.Name x px, .Name y py] kd tp] (.Tuple es kd2 tp2) pos) ρ β N T :=
  x_tups (xs := [x, y]) (h.mono fun p β' ⟨d1, d2, e, n⟩ => ⟨[d1, d2], e, rfl, n⟩) hx hs hw
theorem x_tups3 {kd kd2 : Nat} {es : List Expr} {px py pz tp tp2 pos : Pos} {x y z : Str} (h : WE C k sc.names (.Tuple es kd2 tp2) ρ β fun p β' => ∃ d1 d2 d3, p = .d (.tuple [d1, d2, d3]) ∧ N ((x, .d d1) :: (y, .d d2) :: (z, .d d3) :: ρ) β') (hx : ([x, y, z].reverse.all fun x => isVar sc x) = true)
    (hs : ∀ env, swapsWithSole [.Tuple [.Name x px, .Name y py, .Name z pz] kd tp] (.Tuple es kd2 tp2) pos.line env = pure false) (hw : ∀ env, env.scope = sc → swappedStores [.Tuple [.Name x px, .Name y py, .Name z pz] kd tp] (.Tuple es kd2 tp2) env = pure (some [x, y, z])) : WX C k sc (.Assign [.Tuple [.Name x px, .Name y py, .Name z pz] kd tp] (.Tuple es kd2 tp2) pos) ρ β N T :=
  x_tups (xs := [x, y, z]) (h.mono fun p β' ⟨d1, d2, d3, e, n⟩ => ⟨[d1, d2, d3], e, rfl, n⟩) hx hs hw
theorem x_tup2 {kd : Nat} {px py tp pos : Pos} {e : Expr} {x y : Str} (h : WE C k sc.names e ρ β fun p β' => ∃ d1 d2, p = .d (.tuple [d1, d2]) ∧ N ((y, .d d2) :: (x, .d d1) :: ρ) β') (hx : ([x, y].all fun x => isVar sc x) = true)
    (hs : ∀ env, swapsWithSole [.Tuple [.Name x px, .Name y py] kd tp] e pos.line env = pure false) (hw : ∀ env, env.scope = sc → swappedStores [.Tuple [.Name x px, .Name y py] kd tp] e env = pure none) : WX C k sc (.Assign [.Tuple [.Name x px, .Name y py] kd tp] e pos) ρ β N T :=
  x_tup (xs := [x, y]) (h.mono fun p β' ⟨d1, d2, e, n⟩ => ⟨[d1, d2], e, rfl, n⟩) hx (fun A M E env => ⟨fun v P s h => PyProof.Rows.assign_Name h, ⟨fun v P s h => PyProof.Rows.assign_Name h, trivial⟩⟩) (fun _ => rfl) (fun _ => rfl) hs hw
end

section
variable {C : Cx} {k : Nat} {ns : Names} {ρ : PEnv} {β : Bx} {Q : PV → Bx → Prop}
/-- what an index by a place wants -/
noncomputable def SubP (o ix : PV) (β : Bx) (Q : PV → Bx → Prop) : Prop := ∃ n xs r, ix = .d (.int n) ∧ ItemD o β = some xs ∧ 0 ≤ n ∧ n < 2 ^ 62 ∧ xs[n.toNat]? = some r ∧ Q (.d r) β
theorem e_subP {v i : Expr} {pos : Pos} (h : WE C k ns v ρ β fun o β₁ => WE C k ns i ρ β₁ fun ix β₂ => SubP o ix β₂ Q)
    (hs : ∀ o j, subscripted i false o j = operate [o, j] (getItem o j)) : WE C k ns (.Subscript v i pos) ρ β Q := e_sub h hs
theorem sub_nat {o : PV} {n : Nat} {xs : List PyData} {r : PyData} (e : ItemD o β = some xs) (hr : xs[n]? = some r) (h1 : n < 2 ^ 62) (q : Q (.d r) β) : SubP o (.d (.int (n : Int))) β Q := ⟨n, xs, r, rfl, e, Int.natCast_nonneg _, by omega, by simpa using hr, q⟩
end

section
variable {C : Cx} {k : Nat} {β β' : Bx} {f : Addr} {fd : FuncData} {body : List Stmt} {d : PyData} {T : PyData → Bx → Prop}
theorem enter1 {x : Str} {p : PV} {g : Str} (F : FnAt C g f fd body [x]) (h : WS C k fd.scope body [(x, p)] β (fun _ _ => False) fun d' β₁ => d' = d ∧ β₁ = β') (hno : ([p].all notOwn) = true := by rfl) : CallR C (k + 1) f [p] β d β' := call_det F.ok rfl hno h
theorem enter2 {x y : Str} {p q : PV} {g : Str} (F : FnAt C g f fd body [x, y]) (h : WS C k fd.scope body [(x, p), (y, q)] β (fun _ _ => False) fun d' β₁ => d' = d ∧ β₁ = β') (hno : ([p, q].all notOwn) = true := by rfl) : CallR C (k + 1) f [p, q] β d β' := call_det F.ok rfl hno h
theorem enter3 {x y z : Str} {p q r : PV} {g : Str} (F : FnAt C g f fd body [x, y, z]) (h : WS C k fd.scope body [(x, p), (y, q), (z, r)] β (fun _ _ => False) fun d' β₁ => d' = d ∧ β₁ = β') (hno : ([p, q, r].all notOwn) = true := by rfl) : CallR C (k + 1) f [p, q, r] β d β' := call_det F.ok rfl hno h
theorem enter4 {x y z u : Str} {p q r t : PV} {g : Str} (F : FnAt C g f fd body [x, y, z, u]) (h : WS C k fd.scope body [(x, p), (y, q), (z, r), (u, t)] β (fun _ _ => False) fun d' β₁ => d' = d ∧ β₁ = β') (hno : ([p, q, r, t].all notOwn) = true := by rfl) : CallR C (k + 1) f [p, q, r, t] β d β' := call_det F.ok rfl hno h
/-- what is assigned to two names -/
theorem two_of {a b : PyData} {N : PyData → PyData → Prop} (h : N a b) : ∃ d1 d2, PV.d (.tuple [a, b]) = .d (.tuple [d1, d2]) ∧ N d1 d2 := ⟨a, b, rfl, h⟩
theorem three_of {a b c : PyData} {N : PyData → PyData → PyData → Prop} (h : N a b c) : ∃ d1 d2 d3, PV.d (.tuple [a, b, c]) = .d (.tuple [d1, d2, d3]) ∧ N d1 d2 d3 := ⟨a, b, c, rfl, h⟩
end

section
variable {C : Cx} {k : Nat} {sc : Scope} {ρ : PEnv} {β : Bx} {N : PEnv → Bx → Prop} {T : PyData → Bx → Prop}
theorem EOk.weaken {X : Addr → Prop} {bx : Option Addr} {ns : Names} {ρ₁ : PEnv} {env : Env} {h : Heap} (S : EOk C X bx β ns ρ env h) (w : Sub ρ₁ ρ) : EOk C X bx β ns ρ₁ env h := { S with vars := fun x p hl => S.vars x p (w x p hl) }
theorem WT.weaken {ns : Names} {e : Expr} {ρ₁ : PEnv} {Q : Bool → Bx → Prop} (h : WT C k ns e ρ₁ β Q) (w : Sub ρ₁ ρ) : WT C k ns e ρ β Q :=
  fun A s env X bx whole P E R S c => h A s env X bx whole P E R (S.weaken w) c
theorem WT.mono {ns : Names} {e : Expr} {Q Q' : Bool → Bx → Prop} (h : WT C k ns e ρ β Q) (m : ∀ b β', Q b β' → Q' b β') : WT C k ns e ρ β Q' :=
  fun A s env X bx whole P E R S c => h A s env X bx whole P E R S fun b h' tk β' q => c b h' tk β' (m b β' q)

/-- while, by what is known of the names between the turns -/
theorem x_whileC {test : Expr} {body : List Stmt} {pos : Pos} (J : Nat → PEnv → Prop) {n₀ : Nat} {ρ₀ : PEnv} (h0 : J n₀ ρ₀) (w0 : Sub ρ₀ ρ)
    (step : ∀ n ρc, J n ρc → WT C k sc.names test ρc β fun b β₁ => β₁ = β ∧ if b = true then WS C k sc body ρc β (fun ρ₂ β₂ => β₂ = β ∧ ∃ m ρ', m < n ∧ J m ρ' ∧ Sub ρ' ρ₂) T else ∀ ρ₁, Sub ρc ρ₁ → N ρ₁ β) : WX C k sc (.While test body [] pos) ρ β N T :=
  x_while (fun n ρ' β' => β' = β ∧ ∃ ρc, J n ρc ∧ Sub ρc ρ') (n₀ := n₀) ⟨rfl, ρ₀, h0, w0⟩ fun n ρ' β' ⟨e, ρc, j, w⟩ => by
    subst e
    refine ((step n ρc j).weaken w).mono fun b β₁ ⟨e, q⟩ => ?_
    subst e
    cases b with
    | true =>
      simp only [if_true] at q ⊢
      refine (q.mono (fun ρ₂ β₂ ⟨e, m, ρ'', hm, j', w'⟩ => ⟨m, hm, e, ρ'', j', w'⟩) fun _ _ t => t).weaken w
    | false =>
      simp only [Bool.false_eq_true, if_false] at q ⊢
      exact q ρ' w

/-- for, by what is known of the names between the turns -/
theorem forR_of {ds : List PyData} {step : PyData → PEnv → Bx → (PEnv → Bx → Prop) → Prop} (mono : ∀ d ρ β (N N' : PEnv → Bx → Prop), step d ρ β N → (∀ ρ' β', N ρ' β' → N' ρ' β') → step d ρ β N') (J : Nat → PEnv → Prop)
    (hs : ∀ i d ρ', ds[i]? = some d → (∃ ρc, J i ρc ∧ Sub ρc ρ') → step d ρ' β fun ρ₂ β₂ => β₂ = β ∧ ∃ ρc', J (i + 1) ρc' ∧ Sub ρc' ρ₂) (hN : ∀ ρc ρ', J ds.length ρc → Sub ρc ρ' → N ρ' β) : ∀ (es : List PyData) (i : Nat) (ρ' : PEnv), ds.drop i = es → i ≤ ds.length → (∃ ρc, J i ρc ∧ Sub ρc ρ') → ForR step es ρ' β N
  | [], i, ρ', e, hi, ⟨ρc, j, w⟩ => by
    have : i = ds.length := by
      have := congrArg List.length e
      simp at this; omega
    subst this
    exact hN ρc ρ' j w
  | d :: es, i, ρ', e, hi, h => by
    have hd : ds[i]? = some d := by
      have := congrArg (·[0]?) e
      simpa using this
    have hlt : i < ds.length := (List.getElem?_eq_some_iff.mp hd).1
    refine mono d ρ' β _ _ (hs i d ρ' hd h) fun ρ₂ β₂ ⟨e2, h2⟩ => ?_
    rw [e2]
    refine forR_of mono J hs hN es (i + 1) ρ₂ ?_ hlt h2
    rw [← List.drop_drop, e]; rfl
theorem x_forC {x : Str} {px pos : Pos} {iter : Expr} {body : List Stmt} (J : Nat → PEnv → Prop) (h : WI C k sc.names (.Name x px) iter ρ β fun ds β₁ => β₁ = β ∧ (∃ ρc, J 0 ρc ∧ Sub ρc ρ) ∧
      (∀ i d ρc, ds[i]? = some d → J i ρc → WS C k sc body ((x, .d d) :: ρc) β (fun ρ₂ β₂ => β₂ = β ∧ ∃ ρc', J (i + 1) ρc' ∧ Sub ρc' ρ₂) T) ∧ ∀ ρc ρ', J ds.length ρc → Sub ρc ρ' → N ρ' β)
    (hx : isVar sc x = true) (hs : ∀ env x, foldedSetIterable iter env x = pure x) : WX C k sc (.For (.Name x px) iter body [] pos) ρ β N T := by
  refine x_for (fun A s env X bx P E R S c => h A s env X bx P E R S fun it h' tk ds β' q => c it h' tk ds β' ?_) hx hs
  obtain ⟨e, h0, step, hN⟩ := q
  subst e
  refine forR_of (fun d ρ β N N' h m => h.mono m fun _ _ t => t) J (fun i d ρ' hd ⟨ρc, j, w⟩ => ?_) hN ds 0 ρ rfl (Nat.zero_le _) h0
  refine (step i d ρc hd j).weaken fun y p hl => ?_
  rw [List.lookup_cons] at hl ⊢
  cases hb : y == x with
  | true => rw [hb] at hl; exact hl
  | false => rw [hb] at hl; exact w y p hl
end

section
variable {C : Cx} {k : Nat} {ns : Names} {ρ : PEnv} {β : Bx} {Q : PV → Bx → Prop}
theorem isB {b : Bool} {P : Bool → Prop} (h : P b) : ∃ c, PV.d (.bool b) = .d (.bool c) ∧ P c := ⟨b, rfl, h⟩
theorem ite_of {P : Prop} [Decidable P] {A B : Prop} (h1 : P → A) (h2 : ¬ P → B) : if decide P = true then A else B := by
  by_cases h : P
  · rw [if_pos (by simpa using h)]; exact h1 h
  · rw [if_neg (by simpa using h)]; exact h2 h
theorem ite_t {A B : Prop} (h : A) : if true = true then A else B := by rw [if_pos rfl]; exact h
theorem ite_f {A B : Prop} (h : B) : if false = true then A else B := by rw [if_neg (by decide)]; exact h
theorem beq_dec {α : Type} [DecidableEq α] {a b : α} : (a == b) = decide (a = b) := by
  by_cases h : a = b
  · subst h; simp
  · simp [h]
theorem bne_dec {α : Type} [DecidableEq α] {a b : α} : (a != b) = decide (a ≠ b) := by
  by_cases h : a = b
  · subst h; simp
  · simp [h]
theorem b_eqI {a b : Int} (h : Q (.d (.bool (decide (a = b)))) β) : WV C k (two (compareOp .Eq)) [.d (.int a), .d (.int b)] β Q :=
  v2 fun A s X bx va vb P E R S ra rb c => by
    cases ra; cases rb
    refine PyProof.Rows.eq_int ?_
    rw [beq_dec]
    exact c _ s.heap s.toks _ _ h (Keep.refl _ _) S.box (.bool _)
theorem b_neI {a b : Int} (h : Q (.d (.bool (decide (a ≠ b)))) β) : WV C k (two (compareOp .NotEq)) [.d (.int a), .d (.int b)] β Q :=
  v2 fun A s X bx va vb P E R S ra rb c => by
    cases ra; cases rb
    refine PyProof.Rows.ne_int ?_
    rw [bne_dec]
    exact c _ s.heap s.toks _ _ h (Keep.refl _ _) S.box (.bool _)
theorem b_eqS {a b : Str} (h : Q (.d (.bool (decide (a = b)))) β) : WV C k (two (compareOp .Eq)) [.d (.str a), .d (.str b)] β Q :=
  v2 fun A s X bx va vb P E R S ra rb c => by
    cases ra; cases rb
    refine PyProof.Rows.eq_str ?_
    rw [show (a == b) = decide (a = b) from beq_dec]
    exact c _ s.heap s.toks _ _ h (Keep.refl _ _) S.box (.bool _)
theorem b_neS {a b : Str} (h : Q (.d (.bool (decide (a ≠ b)))) β) : WV C k (two (compareOp .NotEq)) [.d (.str a), .d (.str b)] β Q :=
  v2 fun A s X bx va vb P E R S ra rb c => by
    cases ra; cases rb
    refine PyProof.Rows.ne_str ?_
    rw [show (a != b) = decide (a ≠ b) from bne_dec]
    exact c _ s.heap s.toks _ _ h (Keep.refl _ _) S.box (.bool _)
end

section
variable {C : Cx} {k : Nat} {ns : Names} {ρ : PEnv} {β : Bx} {Q : PV → Bx → Prop}
theorem b_mulR {a b : Int} (h : Q (.d (.int (a * b))) β) (hm : IntMulOk a b) : WV C k (two (binaryOp .Mult)) [.d (.int a), .d (.int b)] β Q := b_mul hm h
theorem b_divR {a b : Int} (h : Q (.d (.int (a.fdiv b))) β) (hb : b ≠ 0) : WV C k (two (binaryOp .FloorDiv)) [.d (.int a), .d (.int b)] β Q := b_div hb h
theorem b_modR {a b : Int} (h : Q (.d (.int (a.fmod b))) β) (hb : b ≠ 0) : WV C k (two (binaryOp .Mod)) [.d (.int a), .d (.int b)] β Q := b_mod hb h
theorem freeze_at : ∀ {ρ : PEnv} {x : Str} {p : PV}, ρ.lookup x = some p → (freeze ρ).lookup x = some (fz p)
  | [], _, _, h => by simp at h
  | (y, q) :: ρ, x, p, h => by
    show List.lookup x ((y, fz q) :: freeze ρ) = _
    rw [List.lookup_cons] at h ⊢
    cases hb : x == y with
    | true => rw [hb] at h; cases h; rfl
    | false => rw [hb] at h; exact freeze_at h
theorem lkf_d {x : Str} {y : PyData} (h : ρ.lookup x = some (.d y)) : (freeze ρ).lookup x = some (.d y) := freeze_at h
theorem lkf_own {x : Str} {ys : List PyData} (h : ρ.lookup x = some (.own ys)) : (freeze ρ).lookup x = some (.d (.list ys)) := freeze_at h
theorem lkf_box {x : Str} (h : ρ.lookup x = some .box) : (freeze ρ).lookup x = some .box := freeze_at h
end

theorem b_subB {C : Cx} {k : Nat} {β : Bx} {Q : PV → Bx → Prop} {a b : Bool} (h : Q (.d (.int ((if a = true then 1 else 0) - (if b = true then 1 else 0)))) β) : WV C k (two (binaryOp .Sub)) [.d (.bool a), .d (.bool b)] β Q :=
  v2 fun A s X bx va vb P E R S ra rb c => by
    cases ra; cases rb
    refine PyProof.Rows.sub_bool ?_
    exact c _ s.heap _ _ _ h (Keep.refl _ _) S.box (by cases a <;> cases b <;> exact .int _ _)

section
variable {β : Bx} {Q : PV → Bx → Prop} {a b c : PyData} {l : List PyData}
theorem sub_t0 (q : Q (.d a) β) : SubP (.d (.tuple (a :: l))) (.d (.int 0)) β Q := ⟨0, _, a, rfl, rfl, by decide, by decide, rfl, q⟩
theorem sub_t1 (q : Q (.d b) β) : SubP (.d (.tuple (a :: b :: l))) (.d (.int 1)) β Q := ⟨1, _, b, rfl, rfl, by decide, by decide, rfl, q⟩
theorem sub_t2 (q : Q (.d c) β) : SubP (.d (.tuple (a :: b :: c :: l))) (.d (.int 2)) β Q := ⟨2, _, c, rfl, rfl, by decide, by decide, rfl, q⟩
theorem sub_l0 (q : Q (.d a) β) : SubP (.d (.list (a :: l))) (.d (.int 0)) β Q := ⟨0, _, a, rfl, rfl, by decide, by decide, rfl, q⟩
theorem sub_l1 (q : Q (.d b) β) : SubP (.d (.list (a :: b :: l))) (.d (.int 1)) β Q := ⟨1, _, b, rfl, rfl, by decide, by decide, rfl, q⟩
theorem sub_l2 (q : Q (.d c) β) : SubP (.d (.list (a :: b :: c :: l))) (.d (.int 2)) β Q := ⟨2, _, c, rfl, rfl, by decide, by decide, rfl, q⟩
theorem sub_b0 (q : Q (.d a) (a :: l)) : SubP .box (.d (.int 0)) (a :: l) Q := ⟨0, _, a, rfl, rfl, by decide, by decide, rfl, q⟩
theorem sub_b1 (q : Q (.d b) (a :: b :: l)) : SubP .box (.d (.int 1)) (a :: b :: l) Q := ⟨1, _, b, rfl, rfl, by decide, by decide, rfl, q⟩
theorem sub_b2 (q : Q (.d c) (a :: b :: c :: l)) : SubP .box (.d (.int 2)) (a :: b :: c :: l) Q := ⟨2, _, c, rfl, rfl, by decide, by decide, rfl, q⟩
end

/-! ## comprehensions that read; ranges -/
theorem lk_free {names : Names} {ρ : PEnv} {x : Str} {p : PV} (hm : names.lookup x = some .free) (hl : ρ.lookup x = some p) : (freeEnv names ρ).lookup x = some p := by
  have hmem := lookup_mem hm
  unfold freeEnv
  clear hm
  induction names with
  | nil => cases hmem
  | cons y r ih =>
    obtain ⟨z, kd⟩ := y
    rw [List.filterMap_cons]
    by_cases hz : x = z
    · subst hz
      by_cases hk : kd = .free
      · subst hk
        simp [hl]
      · have hb : (kd == NameKind.free) = false := by simpa using hk
        simp only [hb, Bool.false_eq_true, if_false]
        rcases List.mem_cons.mp hmem with e | e
        · cases e; exact absurd rfl hk
        · exact ih e
    · have hb : (x == z) = false := by simpa using hz
      have hr : (x, NameKind.free) ∈ r := by
        rcases List.mem_cons.mp hmem with e | e
        · cases e; exact absurd rfl hz
        · exact e
      by_cases hk : (kd == NameKind.free) = true
      · simp only [hk, if_true]
        cases hq : ρ.lookup z with
        | none => exact ih hr
        | some q =>
          simp only [Option.map_some]
          rw [List.lookup_cons, hb]
          exact ih hr
      · have hk' : (kd == NameKind.free) = false := by simpa using hk
        simp only [hk', Bool.false_eq_true, if_false]
        exact ih hr
section
variable {C : Cx} {k : Nat} {ns : Names} {ρ : PEnv} {β : Bx} {Q : PV → Bx → Prop}
theorem compR_of {step : PyData → Bx → (PyData → Bx → Prop) → Prop} (mono : ∀ d β (N N' : PyData → Bx → Prop), step d β N → (∀ y β', N y β' → N' y β') → step d β N') {ds : List PyData} {f : Nat → PyData} {Qo : List PyData → Bx → Prop}
    (hs : ∀ i d, ds[i]? = some d → step d β fun y β' => y = f i ∧ β' = β) (hQ : Qo ((List.range ds.length).map f) β) : ∀ (es : List PyData) (i : Nat) (acc : List PyData), ds.drop i = es → i ≤ ds.length → acc = (List.range i).map f → CompR step es acc β Qo
  | [], i, acc, e, hi, ea => by
    have : i = ds.length := by
      have := congrArg List.length e
      simp at this; omega
    subst this
    subst ea
    exact hQ
  | d :: es, i, acc, e, hi, ea => by
    have hd : ds[i]? = some d := by
      have := congrArg (·[0]?) e
      simpa using this
    have hlt : i < ds.length := (List.getElem?_eq_some_iff.mp hd).1
    refine mono d β _ _ (hs i d hd) fun y β' ⟨e1, e2⟩ => ?_
    rw [e1, e2]
    refine compR_of mono hs hQ es (i + 1) _ ?_ hlt ?_
    · rw [← List.drop_drop, e]; rfl
    · rw [ea, List.range_succ]; simp
theorem stepC_mono {names : Names} {target elt : Expr} {ρf : PEnv} (d : PyData) (β : Bx) (N N' : PyData → Bx → Prop) (h : stepC C k names target elt ρf d β N) (m : ∀ y β', N y β' → N' y β') : stepC C k names target elt ρf d β N' :=
  ⟨h.1, h.2.mono fun p β' ⟨y, e, n⟩ => ⟨y, e, m y β' n⟩⟩
theorem e_compN {elt iter : Expr} {x : Str} {px : Pos} {cs : Scope} {pos : Pos} (f : Nat → PyData)
    (h : WI C k ns (.Name x px) iter ρ β fun ds β₁ => β₁ = β ∧ ds.length ≤ 16384 ∧ (∀ i d, ds[i]? = some d → WE C k cs.names elt ((x, .d d) :: freeEnv cs.names ρ) β fun p β' => p = .d (f i) ∧ β' = β) ∧ Q (.d (.list ((List.range ds.length).map f))) β)
    (hkd : cs.kind = .function) (hsc : scopeOk cs = true) (hfr : freeOk cs.names ns ρ = true) (htg : okT (fun x => cs.names.lookup x) (.Name x px) = true) (hs : ∀ env x, foldedSetIterable iter env x = pure x) : WE C k ns (.ListComp elt [⟨.Name x px, iter, [], 0⟩] cs pos) ρ β Q := by
  refine e_comp (fun A s env X bx P E R S c => h A s env X bx P E R S fun it h' tk ds β' q => c it h' tk ds β' ?_) hkd hsc hfr htg hs
  obtain ⟨e, hz, hst, hq⟩ := q
  subst e
  exact ⟨hz, compR_of (step := stepC C k cs.names (.Name x px) elt (freeEnv cs.names ρ)) stepC_mono (fun i d hd => ⟨trivial, (hst i d hd).mono fun p β' ⟨e1, e2⟩ => ⟨_, e1, rfl, e2⟩⟩) hq ds 0 [] rfl (Nat.zero_le _) rfl⟩
theorem e_compP {elt iter : Expr} {x y : Str} {px py tp : Pos} {kd : Nat} {cs : Scope} {pos : Pos} (f : Nat → PyData)
    (h : WI C k ns (.Tuple [.Name x px, .Name y py] kd tp) iter ρ β fun ds β₁ => β₁ = β ∧ ds.length ≤ 16384 ∧ (∀ i d, ds[i]? = some d → ∃ da db, d = .tuple [da, db] ∧ WE C k cs.names elt ((y, .d db) :: (x, .d da) :: freeEnv cs.names ρ) β fun p β' => p = .d (f i) ∧ β' = β) ∧ Q (.d (.list ((List.range ds.length).map f))) β)
    (hkd : cs.kind = .function) (hsc : scopeOk cs = true) (hfr : freeOk cs.names ns ρ = true) (htg : okT (fun x => cs.names.lookup x) (.Tuple [.Name x px, .Name y py] kd tp) = true) (hs : ∀ env x, foldedSetIterable iter env x = pure x) : WE C k ns (.ListComp elt [⟨.Tuple [.Name x px, .Name y py] kd tp, iter, [], 0⟩] cs pos) ρ β Q := by
  refine e_comp (fun A s env X bx P E R S c => h A s env X bx P E R S fun it h' tk ds β' q => c it h' tk ds β' ?_) hkd hsc hfr htg hs
  obtain ⟨e, hz, hst, hq⟩ := q
  subst e
  refine ⟨hz, compR_of stepC_mono (fun i d hd => ?_) hq ds 0 [] rfl (Nat.zero_le _) rfl⟩
  obtain ⟨da, db, rfl, hw⟩ := hst i d hd
  exact ⟨⟨da, db, rfl⟩, hw.mono fun p β' ⟨e1, e2⟩ => ⟨_, e1, rfl, e2⟩⟩
end
theorem rng_len {a : Int} {n : Nat} : (rng a n).length = n := by simp [rng]
theorem rng_get {a : Int} {n i : Nat} {d : PyData} (h : (rng a n)[i]? = some d) : i < n ∧ d = .int (a + i) := by
  have hi : i < n := by
    have := (List.getElem?_eq_some_iff.mp h).1
    rwa [rng_len] at this
  refine ⟨hi, ?_⟩
  simp [rng, hi] at h
  exact h.symm
theorem intE {a b : Int} (e : a = b) : PV.d (.int a) = PV.d (.int b) := by rw [e]
section
variable {C : Cx} {k : Nat} {ns : Names} {ρ : PEnv} {β : Bx}
theorem wi_range1N {x : Str} {px np pos : Pos} {e : Expr} {Q : List PyData → Bx → Prop} (hl : ns.lookup (Str.ofString "range") = some .globalImplicit) (hg : nsIn C.K mainGlobals "range" = some none)
    (h : WE C k ns e ρ β fun p β₁ => ∃ n : Nat, p = .d (.int n) ∧ n ≤ 16384 ∧ Q (rng 0 n) β₁)
    (he : ∀ env, starEach [e] env = (false, eval e env) :: starEach [] env) : WI C k ns (.Name x px) (.Call (.Name "range" np) [e] [] pos) ρ β Q :=
  wi_range1 hl hg (h.mono fun p β₁ ⟨n, e, hn, q⟩ => ⟨n, e, by omega, by omega, by rw [Int.toNat_natCast]; exact q⟩) he
theorem wi_range2N {x : Str} {px np pos : Pos} {e e2 : Expr} {Q : List PyData → Bx → Prop} (hl : ns.lookup (Str.ofString "range") = some .globalImplicit) (hg : nsIn C.K mainGlobals "range" = some none)
    (h : WE C k ns e ρ β fun p β₁ => WE C k ns e2 ρ β₁ fun p2 β₂ => ∃ a n : Nat, p = .d (.int a) ∧ p2 = .d (.int ((a : Int) + n)) ∧ a + n ≤ 16384 ∧ Q (rng a n) β₂)
    (he : ∀ env, starEach [e, e2] env = (false, eval e env) :: starEach [e2] env) (he2 : ∀ env, starEach [e2] env = (false, eval e2 env) :: starEach [] env)
    (hp : ∀ env, ((backTo pos (starEach [e2] env)).any (·.1)) = false) : WI C k ns (.Name x px) (.Call (.Name "range" np) [e, e2] [] pos) ρ β Q :=
  wi_range2 hl hg (h.mono fun p β₁ w => w.mono fun p2 β₂ ⟨a, n, e1, e2, hn, q⟩ => ⟨a, (a : Int) + n, e1, e2, by omega, by omega, by omega, by omega, by rw [show ((a : Int) + n - a).toNat = n by omega]; exact q⟩) he he2 hp
end

section
variable {C : Cx} {k : Nat} {sc : Scope} {ρ : PEnv} {β : Bx} {N : PEnv → Bx → Prop} {T : PyData → Bx → Prop}
/-- two new lists at once -/
theorem x_own2 {x y : Str} {px py tp lp1 lp2 tp2 pos : Pos} {kd kd2 : Nat} (h : N ((x, .own []) :: (y, .own []) :: ρ) β) (hx : isVar sc x = true) (hy : isVar sc y = true) (hne : (x == y) = false) (hne' : (y == x) = false)
    (hs : ∀ env, swapsWithSole [.Tuple [.Name x px, .Name y py] kd tp] (.Tuple [.List [] lp1, .List [] lp2] kd2 tp2) pos.line env = pure false)
    (hw : ∀ env, env.scope = sc → swappedStores [.Tuple [.Name x px, .Name y py] kd tp] (.Tuple [.List [] lp1, .List [] lp2] kd2 tp2) env = pure (some [x, y])) :
    WX C k sc (.Assign [.Tuple [.Name x px, .Name y py] kd tp] (.Tuple [.List [] lp1, .List [] lp2] kd2 tp2) pos) ρ β N T :=
  fun A s env X bx ow P E R F c r => by
    refine PyProof.Rows.Assign_Tuple_swapped (names := [x, y]) ?_ (hs env) (hw env F.scope)
    refine Tuple_ (spliced_more (List_ (spliced_none ?_)) rfl)
    refine wpAny_newObj_type ?_ (size_ok (n := 0) (by decide))
    refine spliced_more (List_ (spliced_none ?_)) rfl
    refine wpAny_newObj_type ?_ (size_ok (n := 0) (by decide))
    refine spliced_none ?_
    have F1 := F.newOwn (o := { cls := .type "list", data := .seq #[] }) x rfl
    have F2 := F1.newOwn (o := { cls := .type "list", data := .seq #[] }) y rfl
    dsimp only
    refine wpAny_newObj_type ?_ (size_ok (n := 2) (by decide))
    dsimp only
    generalize hH2 : (s.heap.push { cls := .type "list", data := .seq ([] : List Value).toArray }).push { cls := .type "list", data := .seq ([] : List Value).toArray } = H2 at *
    have F2' := F2
    have pa : PlainL H2 s.heap.objs.size (([] : List Value)).toArray := by
      rw [← hH2]
      exact ⟨_, 0, Heap.get?_push_of_some _ (Heap.get?_push_size _ rfl), rfl, rfl, rfl⟩
    have pb : PlainL H2 (s.heap.push { cls := .type "list", data := .seq ([] : List Value).toArray }).objs.size (([] : List Value)).toArray := by
      rw [← hH2]
      exact ⟨_, 0, Heap.get?_push_size _ rfl, rfl, rfl, rfl⟩
    have old : ∀ b o, s.heap.get? b = some o → H2.get? b = some o := fun b o e => by
      rw [← hH2]
      exact Heap.get?_push_of_some _ (Heap.get?_push_of_some _ e)
    have da : s.heap.get? s.heap.objs.size = none := size_dead
    have db : s.heap.get? (s.heap.push { cls := .type "list", data := .seq ([] : List Value).toArray }).objs.size = none := by
      cases e : s.heap.get? (s.heap.push { cls := .type "list", data := .seq ([] : List Value).toArray }).objs.size with
      | none => rfl
      | some o => exact absurd (Heap.lt_size e) (by rw [Heap.size_push]; exact Nat.not_lt.mpr (Nat.le_succ _))
    generalize (s.heap.push { cls := .type "list", data := .seq ([] : List Value).toArray }).objs.size = ab at *
    generalize haa : s.heap.objs.size = aa at *
    have pp : ∀ b o, H2.get? b = some o → (H2.push { cls := .type "tuple", data := .seq ([.ref aa, .ref ab] : List Value).toArray }).get? b = some o := fun b o e => Heap.get?_push_of_some _ e
    have F3 := F2'.step (Keep.all pp) (F2'.s.box.keepAll pp)
    refine PyProof.Rows.unpackItems_tuple (items := ([.ref aa, .ref ab] : List Value).toArray) R.hh ⟨{ cls := .type "tuple", data := .seq ([.ref aa, .ref ab] : List Value).toArray }, Heap.get?_push_size _ rfl, rfl, 0, rfl⟩ fun h3 x3 => ?_
    have k3 : ∀ b o, (H2.push { cls := .type "tuple", data := .seq ([.ref aa, .ref ab] : List Value).toArray }).get? b = some o → h3.get? b = some o := fun b o e => x3 b o (Nat.ne_of_lt (Heap.lt_size e)) e
    have F4 := F3.step (Keep.all k3) (F3.s.box.keepAll k3)
    show wpAny _ _ (assignInOrder [bindName env y, bindName env x] [.ref ab, .ref aa]) _ _ _
    have owx : List.lookup x ((y, ab) :: (x, aa) :: ow) = some aa := by rw [List.lookup_cons, hne]; simp
    have owy : List.lookup y ((y, ab) :: (x, aa) :: ow) = some ab := by simp
    refine PyProof.Rows.assignInOrder_cons (PyProof.Rows.bindName_ (store_core F4 hy fun h5 tk5 S5 => ?_))
    have F5 := F4.bind S5 (.inr ⟨[], ab, [], rfl, rfl, owy, (PlainL.keepAt (PlainL.keepAt pb fun o e => pp _ o e) fun o e => k3 _ o e), .nil, F4.bxNot (.inr (.inr (lookup_in owy)))⟩)
    refine PyProof.Rows.assignInOrder_cons (PyProof.Rows.bindName_ (store_core F5 hx fun h6 tk6 S6 => ?_))
    have pa5 : PlainL h5 aa (([] : List Value)).toArray := by
      obtain ⟨o, n, e, e1, e2, e3⟩ := pa
      exact ⟨o, n, S5.seq _ o (k3 _ o (pp _ o e)) (seqNF ⟨_, _, e3⟩), e1, e2, e3⟩
    have F6 := F5.bind S6 (.inr ⟨[], aa, [], rfl, rfl, owx, pa5, .nil, F5.bxNot (.inr (.inr (lookup_in owx)))⟩)
    refine PyProof.Rows.assignInOrder_nil ?_
    refine c h6 tk6 _ β _ h (F6.weaken fun z p hl => ?_) (fun b o nb np e => ?_) (fun a m => ?_)
    · rw [List.lookup_cons] at hl ⊢
      cases hb : z == x with
      | true => rw [hb] at hl; exact hl
      | false =>
        rw [hb] at hl
        rw [List.lookup_cons] at hl ⊢
        cases hb2 : z == y with
        | true => rw [hb2] at hl; exact hl
        | false =>
          rw [hb2] at hl
          show List.lookup z ((ρ.filter fun y => y.1 != x).filter fun z => z.1 != y) = some p
          rw [filter_lookup' (by simpa using hb2), filter_lookup' (by simpa using hb)]
          exact hl
    · refine S6.keep b o (fun q => np (.inl q)) (fun q => np (.inr (.inl q))) (S5.keep b o (fun q => np (.inl q)) (fun q => np (.inr (.inl q))) (k3 b o (pp b o (old b o e))))
    · rcases List.mem_cons.mp m with q | m
      · exact .inr (q ▸ db)
      · rcases List.mem_cons.mp m with q | m
        · exact .inr (q ▸ da)
        · exact .inl m
theorem enter2N {f : Addr} {fd : FuncData} {body : List Stmt} {x y : Str} {p q : PV} {g : Str} {β' : Bx} (F : FnAt C g f fd body [x, y]) (h : WS C k fd.scope body [(x, p), (y, q)] β (fun _ β₁ => β₁ = β') fun _ _ => False) (hno : ([p, q].all notOwn) = true := by rfl) : CallR C (k + 1) f [p, q] β .none β' := call_none F.ok rfl hno h
end
/-! ### the functions that are called by name, and where they lie -/
noncomputable def fnTab : List (Str × Addr) :=
  ("gcd", 41) :: ("rat", 57) :: ("radd", 64) :: ("rsub", 71) :: ("rmul", 78) :: ("rdiv", 85) :: ("rcompare", 92) :: ("cut", 99) :: ("sadd", 104) :: ("mixed", 116) :: ("smul", 121) :: ("sinverse", 128) :: ("sderive", 133) :: ("sintegrate", 138) :: ("need_begin", 145) :: ("sexp", 152) :: ("slog", 159) :: ("ssin_cos", 166) :: ("ssin", 173) :: ("scos", 180) :: ("swhole_power", 201) :: ("lplain", 208) :: ("lmoved", 215) :: ("ladd", 222) :: ("lmul", 229) :: ("ltrim", 236) :: ("linverse", 243) :: ("lpower", 250) :: ("lcut", 257) :: ("from_zero", 271) :: ("of_call", 278) :: ("of_power", 292) :: ("of_term", 299) :: ("laurent_of", 306) :: ("series_of", 313) :: ("_law_take", 320) :: ("_law_box", 325) :: ("_law_low", 332) :: ("_law_plus", 337) :: ("_law_times", 344) :: ("_law_rows", 349) :: ("_law_turned", 354) :: ("_law_poly", 359) :: ("_law_drawn", 366) :: []
theorem fn_all (w : _) : fnTab.map (fun p => nsIn (KK w) mainGlobals p.1) = fnTab.map (fun p => some (some (.ref p.2))) := by kernel_rfl
theorem map_at {α β : Type} {f g : Str × α → β} {x : Str} {a : α} : ∀ {l : List (Str × α)}, l.map f = l.map g → l.lookup x = some a → f (x, a) = g (x, a)
  | (y, b) :: l, e, h => by
    rw [List.map_cons, List.map_cons] at e
    injection e with e1 e2
    rw [List.lookup_cons] at h
    split at h
    · rename_i q
      cases h
      have := beq_iff_eq.mp q
      subst this
      exact e1
    · exact map_at e2 h
theorem fn_gl {C : Cx} (hC : C.K = KK C.w.params) {x : Str} {f : Addr} (h : fnTab.lookup x = some f) : nsIn C.K mainGlobals x = some (some (.ref f)) := by
  rw [hC]
  exact map_at (f := fun p => nsIn (KK C.w.params) mainGlobals p.1) (g := fun p => some (some (.ref p.2))) (fn_all _) h
end Mine
namespace Mine
set_option maxHeartbeats 200000

/-! ## a call, told from below: what is not data may come in, and it may raise -/
structure Room0 (A : Around) (k : Nat) : Prop where
  hh : A.handled = none
  dp : A.depth + k + 200 < recursionLimit
  un : A.units + 8 * k + 80 < cLine
  fr : ∃ l, A.frames = some l
theorem Room.to0 {A : Around} {k : Nat} (R : Room A k) : Room0 A k := ⟨R.hh, R.dp, R.un, let ⟨_, _, e, _⟩ := R.fr; ⟨_, e⟩⟩
theorem Room0.le {A : Around} {k j : Nat} (R : Room0 A k) (h : j ≤ k) : Room0 A j := ⟨R.hh, by have := R.dp; omega, by have := R.un; omega, R.fr⟩

section
variable {C : Cx} {k : Nat} {β : Bx}
theorem call_low {f : Addr} {fd : FuncData} {body : List Stmt} {xs : List Str} {vs : List Value} {A : Around} {s : Shared} {X : Addr → Prop} {bx : Option Addr} {ρ : PEnv} {P E : Value → Shared → Prop} (ok : fnOk C.K f fd body xs) (hz : xs.length = vs.length) (R : Room0 A (k + 1)) (S : SOk C X bx β s.heap)
    (hρ : ∀ x p, ρ.lookup x = some p → (∀ ys, p ≠ .own ys) ∧ ∃ v, (xs.zip vs).lookup x = some v ∧ PRep s.heap X bx v p)
    (h : ∀ env h₁ tk, Room (A.deeper env) k → env.frame = some env.locals → s.heap.get? env.locals = none → FOk C X bx β fd.scope ρ env [] h₁ → (∀ x v, (xs.zip vs).lookup x = some v → VarIs h₁ env x v) → (∀ b o, s.heap.get? b = some o → h₁.get? b = some o) → (∀ b o, s.heap.get? b = some o → ¬ Priv env [] b) →
      wpAny (model C.prog C.w) (A.deeper env) (execs body env) (fun fl s' => P (match fl with | .ret v => v | _ => .none) s') (fun e s' => wpAny (model C.prog C.w) (A.deeper env) (leaving env e) (fun _ s'' => E e s'') (fun e' s'' => E e' s'') s') { s with heap := h₁, toks := tk }) :
    wpAny (model C.prog C.w) A (call (.ref f) vs) P E s := by
  obtain ⟨⟨o, ho, hd⟩, hcode, hbody, hbind, hclo, hg, hbi, hco, hgen, hk, hnd, hkinds, hcnd⟩ := ok
  have KIn : C.K.In s.heap := fun a o e => S.base a o (C.okK a o e)
  have hvl : vs.length = xs.length := hz.symm
  refine wpAny_call (codeAny_call_cells (by have := R.dp; omega) (KIn f o ho) hd (C.lim.keeps S.base) (codeRec_of KIn hcode) hbody (hbind vs hvl) hclo
    (kindsX (by
      rw [List.all_eq_true] at hkinds ⊢
      intro y hy
      exact hkinds y.1 (by
        have := List.mem_map_of_mem (f := (·.1)) hy
        rwa [map_fst_zip hvl.symm] at this)) _) ?_ hco hgen hk)
  intro s₁ IC
  obtain ⟨h₁, tk, rfl, kp⟩ := IC.done
  have hL : (callEnvC fd s.heap.objs.size f).locals = s.heap.objs.size := rfl
  have hsc : (callEnvC fd s.heap.objs.size f).scope = fd.scope := rfl
  have hcells : (callEnvC fd s.heap.objs.size f).cells = cellsFrom (s.heap.objs.size + 1) fd.scope.names [] := rfl
  have hkf : ∀ x, (callEnvC fd s.heap.objs.size f).kindOf x = fd.scope.names.lookup x := fun _ => rfl
  have hgl : (callEnvC fd s.heap.objs.size f).globals = mainGlobals := hg
  have hbl : (callEnvC fd s.heap.objs.size f).builtins = builtinsNs := hbi
  have hfr : (A.deeper (callEnvC fd s.heap.objs.size f)).frames = some (callEnvC fd s.heap.objs.size f :: (A.frames.getD [])) := by
    obtain ⟨l, e⟩ := R.fr
    show (A.frames.map _) = _
    rw [e]; rfl
  have hgs : (callEnvC fd s.heap.objs.size f).scope.isGenerator = false := hgen
  have hcs : (callEnvC fd s.heap.objs.size f).scope.isCoroutine = false := hco
  have hff : (callEnvC fd s.heap.objs.size f).frame = some (callEnvC fd s.heap.objs.size f).locals := rfl
  generalize hE : callEnvC fd s.heap.objs.size f = env at *
  have R' : Room (A.deeper env) k := by
    refine ⟨?_, ?_, ?_, ?_⟩
    · exact R.hh
    · have := R.dp; show A.depth + 1 + k + 200 < _; omega
    · have := R.un; show A.units + 3 + 8 * k + 80 < _; omega
    · exact ⟨env, _, hfr, hgs, hcs, hbl, hgl⟩
  have dead : ∀ a, s.heap.objs.size ≤ a → s.heap.get? a = none := fun a ha => by
    cases e : s.heap.get? a with
    | none => rfl
    | some o => exact absurd (Heap.lt_size e) (Nat.not_lt.mpr ha)
  have h0dead : ∀ a, s.heap.get? a = none → C.h₀.get? a = none := fun a ha => by
    cases e : C.h₀.get? a with
    | none => rfl
    | some o => rw [S.base a o e] at ha; cases ha
  have cellGe : ∀ c, c ∈ env.cells.map (·.2) → s.heap.objs.size ≤ c := fun c hc => by
    obtain ⟨⟨n, c'⟩, hm, rfl⟩ := List.mem_map.mp hc
    have := IC.above n c' hm
    rw [hL] at this
    exact Nat.le_of_lt this
  have hXO : ∀ a, XO X [] a ↔ X a := fun a => by simp [XO]
  have mv : ∀ b o, ¬ X b → s.heap.get? b = some o → h₁.get? b = some o ∧ ¬ XO X [] b := fun b o nx e => ⟨kp b o e, fun q => nx ((hXO b).mp q)⟩
  have cnd' : (env.cells.map (·.1)).Nodup := by
    rw [hcells, cellsFrom_names fd.scope.names (s.heap.objs.size + 1) 0 [] [] rfl]; exact hcnd
  have vis : ∀ x v, (xs.zip vs).lookup x = some v → VarIs h₁ env x v := fun x v hv => by
    have hkeys := lookup_mem_keys hv
    have nd : ((xs.zip vs).map (·.1)).Nodup := by rw [map_fst_zip hvl.symm]; exact hnd
    rw [map_fst_zip hvl.symm] at hkeys
    have hkx := List.all_eq_true.mp hkinds x hkeys
    rcases Bool.or_eq_true_iff.mp hkx with q | q
    · have q' : env.kindOf x = some .local := (hkf x).trans (by simpa using q)
      exact .inl ⟨q', _, IC.toInCall.ns, bindL_at q' nd hv⟩
    · have q' : env.kindOf x = some .cell := (hkf x).trans (by simpa using q)
      obtain ⟨c, hc⟩ : ∃ c, env.cells.lookup x = some c := by
        rw [hcells]
        exact Option.isSome_iff_exists.mp (cellsFrom_some _ _ _ (.inl (by simpa using q)))
      have ic := IC.cell x c hc
      rw [bindC_at (by rw [q']; simp) nd hv] at ic
      exact .inr ⟨.inl q', c, hc, ic⟩
  have FF : FOk C X bx β fd.scope ρ env [] h₁ := by
    refine {
      s := ⟨fun b o e => kp b o (S.base b o e), fun a q => S.xnew a ((hXO a).mp q), fun a q => (let ⟨o, e⟩ := S.xlive a ((hXO a).mp q); ⟨o, kp a o e⟩), fun a q => ?_⟩
      eok := ⟨hsc ▸ hk, hgl, hbl, fun x e => (hkf x).trans e, fun x e => (hkf x).trans e⟩
      scope := hsc
      lnew := (by rw [hL]; exact h0dead _ (dead _ (Nat.le_refl _)))
      cnew := fun c hc => h0dead _ (dead _ (cellGe c hc))
      loc := ⟨_, IC.toInCall.ns⟩
      cel := fun x c hc => ⟨_, IC.cell x c hc⟩
      cla := fun x e => ?_
      cnd := fun x y c hx hy => name_of_addr IC.apart (mem_of_lookup hx) (mem_of_lookup hy)
      clk := fun c hc => ?_
      vars := fun x p hl n => ?_
      own := fun x ys hl => ?_
      ond := fun _ _ _ e => nomatch e
      onx := fun _ m => nomatch m
      bxx := fun a q => (S.box a q).1 }
    · obtain ⟨xa, ws, hl, rr⟩ := S.box a q
      exact ⟨(hXO a).mpr xa, ws, IsList.keepAt hl fun o e => kp a o e, rr.move mv⟩
    · rw [hcells]
      exact Option.isSome_iff_exists.mp (cellsFrom_some _ _ _ (.inl e))
    · obtain ⟨⟨n, c'⟩, hm, rfl⟩ := List.mem_map.mp hc
      exact ⟨n, lookup_of_mem_nodup cnd' hm⟩
    · obtain ⟨_, v, hv, rp⟩ := hρ x p hl
      refine ⟨v, vis x v hv, ?_⟩
      cases p with
      | d y => exact Rep.move mv rp
      | box => exact rp
      | own ys => exact absurd rfl (n ys)
    · exact absurd rfl ((hρ x _ hl).1 ys)
  have priv0 : ∀ b o, s.heap.get? b = some o → ¬ Priv env [] b := fun b o e q => by
    rcases q with q | q | q
    · rw [q, hL, dead _ (Nat.le_refl _)] at e; cases e
    · rw [dead _ (cellGe b q)] at e; cases e
    · cases q
  exact h env h₁ tk R' hff (by rw [hL]; exact dead _ (Nat.le_refl _)) FF vis kp priv0
end
end Mine
namespace Mine
set_option maxHeartbeats 200000

/-! ## ratios in lowest terms -/
theorem divInt_num {a b : Int} (hb : b ≠ 0) : (Rat.divInt a b).num = a.fdiv (if 0 < b then (Int.gcd a b : Int) else -(Int.gcd a b : Int)) := by
  rw [Rat.num_divInt, Int.gcd_comm b a]
  have hg : (Int.gcd a b : Int) ∣ a := Int.gcd_dvd_left ..
  have hgp : 0 < (Int.gcd a b : Int) := by
    have : Int.gcd a b ≠ 0 := fun h => hb (Int.gcd_eq_zero_iff.mp h).2
    omega
  obtain ⟨c, hc⟩ := hg
  generalize (Int.gcd a b : Int) = g at *
  subst hc
  by_cases h : 0 < b
  · rw [if_pos h, Int.sign_eq_one_of_pos h, Int.one_mul, Int.mul_ediv_cancel_left _ (by omega), Int.mul_fdiv_cancel_left _ (by omega)]
  · rw [if_neg h, Int.sign_eq_neg_one_of_neg (by omega)]
    have e1 : -1 * (g * c) = g * (-c) := by rw [Int.mul_neg]; omega
    rw [e1, Int.mul_ediv_cancel_left _ (by omega)]
    have e2 : g * c = (-g) * (-c) := by rw [Int.neg_mul_neg]
    rw [e2, Int.mul_fdiv_cancel_left _ (by omega)]
theorem divInt_den {a b : Int} (hb : b ≠ 0) : ((Rat.divInt a b).den : Int) = b.fdiv (if 0 < b then (Int.gcd a b : Int) else -(Int.gcd a b : Int)) := by
  rw [Rat.den_divInt, if_neg hb, Int.gcd_comm b a]
  have hg : (Int.gcd a b : Int) ∣ b := Int.gcd_dvd_right ..
  have hgp : 0 < (Int.gcd a b : Int) := by
    have : Int.gcd a b ≠ 0 := fun h => hb (Int.gcd_eq_zero_iff.mp h).2
    omega
  rw [Int.natCast_ediv]
  obtain ⟨c, hc⟩ := hg
  generalize (Int.gcd a b : Int) = g at *
  subst hc
  by_cases h : 0 < g * c
  · rw [if_pos h, Int.mul_fdiv_cancel_left _ (by omega), Int.natAbs_of_nonneg (by omega), Int.mul_ediv_cancel_left _ (by omega)]
  · rw [if_neg h]
    have e2 : g * c = (-g) * (-c) := by rw [Int.neg_mul_neg]
    have e3 : ((g * c).natAbs : Int) = g * (-c) := by rw [Int.mul_neg]; omega
    rw [e3, Int.mul_ediv_cancel_left _ (by omega), e2, Int.mul_fdiv_cancel_left _ (by omega)]

theorem den_pos (q : Rat) : 0 < (q.den : Int) := by have := q.den_nz; omega
theorem q_add (a b : Rat) : Rat.divInt (a.num * b.den + b.num * a.den) (a.den * b.den) = a + b := by
  have h1 := den_pos a
  have h2 := den_pos b
  rw [← Rat.divInt_add_divInt _ _ (by omega) (by omega), Rat.num_divInt_den, Rat.num_divInt_den]
theorem q_sub (a b : Rat) : Rat.divInt (a.num * b.den - b.num * a.den) (a.den * b.den) = a - b := by
  have h1 := den_pos a
  have h2 := den_pos b
  rw [← Rat.divInt_sub_divInt _ _ (by omega) (by omega), Rat.num_divInt_den, Rat.num_divInt_den]
theorem q_mul (a b : Rat) : Rat.divInt (a.num * b.num) (a.den * b.den) = a * b := by
  rw [← Rat.divInt_mul_divInt, Rat.num_divInt_den, Rat.num_divInt_den]
theorem q_div (a b : Rat) : Rat.divInt (a.num * b.den) (a.den * b.num) = a / b := by
  rw [← Rat.divInt_mul_divInt, Rat.num_divInt_den, Rat.div_def, Rat.inv_def]
theorem den_mul_ne (a b : Rat) : (a.den : Int) * b.den ≠ 0 := by
  have h1 := den_pos a
  have h2 := den_pos b
  exact Int.ne_of_gt (Int.mul_pos h1 h2)

/-! ## sizes -/
noncomputable def Sz (B : Nat) (q : Rat) : Prop := q.num.natAbs ≤ 2 ^ B ∧ q.den ≤ 2 ^ B
theorem natAbs_fdiv_le {a g : Int} (h : g ∣ a) (hg : g ≠ 0) : (a.fdiv g).natAbs ≤ a.natAbs := by
  obtain ⟨c, rfl⟩ := h
  rw [Int.mul_fdiv_cancel_left _ hg, Int.natAbs_mul]
  exact Nat.le_mul_of_pos_left _ (by omega)
theorem sg_dvd {a b : Int} : (if 0 < b then (Int.gcd a b : Int) else -(Int.gcd a b : Int)) ∣ a ∧ (if 0 < b then (Int.gcd a b : Int) else -(Int.gcd a b : Int)) ∣ b := by
  split
  · exact ⟨Int.gcd_dvd_left .., Int.gcd_dvd_right ..⟩
  · exact ⟨Int.neg_dvd.mpr (Int.gcd_dvd_left ..), Int.neg_dvd.mpr (Int.gcd_dvd_right ..)⟩
theorem sg_ne {a b : Int} (hb : b ≠ 0) : (if 0 < b then (Int.gcd a b : Int) else -(Int.gcd a b : Int)) ≠ 0 := by
  have : Int.gcd a b ≠ 0 := fun h => hb (Int.gcd_eq_zero_iff.mp h).2
  split <;> omega
theorem Sz.divInt {a b : Int} {B : Nat} (hb : b ≠ 0) (h1 : a.natAbs ≤ 2 ^ B) (h2 : b.natAbs ≤ 2 ^ B) : Sz B (Rat.divInt a b) := by
  refine ⟨?_, ?_⟩
  · rw [divInt_num hb]
    exact Nat.le_trans (natAbs_fdiv_le sg_dvd.1 (sg_ne hb)) h1
  · have := divInt_den (a := a) hb
    have h3 := natAbs_fdiv_le (sg_dvd (a := a) (b := b)).2 (sg_ne hb)
    rw [← this] at h3
    exact Nat.le_trans (by simpa using h3) h2
theorem Sz.le {q : Rat} {x y : Nat} (h : Sz x q) (l : x ≤ y) : Sz y q := ⟨Nat.le_trans h.1 (Nat.pow_le_pow_right (by decide) l), Nat.le_trans h.2 (Nat.pow_le_pow_right (by decide) l)⟩
theorem Sz.one {B : Nat} : Sz B 1 := ⟨Nat.one_le_two_pow, Nat.one_le_two_pow⟩
theorem Sz.zero {B : Nat} : Sz B 0 := ⟨Nat.zero_le _, Nat.one_le_two_pow⟩
theorem absmul_le {a b : Int} {x y : Nat} (h1 : a.natAbs ≤ 2 ^ x) (h2 : b.natAbs ≤ 2 ^ y) : (a * b).natAbs ≤ 2 ^ (x + y) := by
  rw [Int.natAbs_mul, Nat.pow_add]; exact Nat.mul_le_mul h1 h2
theorem Sz.cross {a b : Rat} {x y : Nat} (h1 : Sz x a) (h2 : Sz y b) : (a.num * b.den).natAbs ≤ 2 ^ (x + y) ∧ (b.num * a.den).natAbs ≤ 2 ^ (x + y) ∧ ((a.den : Int) * b.den).natAbs ≤ 2 ^ (x + y) ∧ (a.num * b.num).natAbs ≤ 2 ^ (x + y) ∧ ((a.den : Int) * b.num).natAbs ≤ 2 ^ (x + y) := by
  refine ⟨absmul_le h1.1 (by simpa using h2.2), ?_, absmul_le (by simpa using h1.2) (by simpa using h2.2), absmul_le h1.1 h2.1, absmul_le (by simpa using h1.2) h2.1⟩
  rw [Nat.add_comm x y]; exact absmul_le h2.1 (by simpa using h1.2)
theorem dbl (n : Nat) : 2 ^ (n + 1) = 2 ^ n + 2 ^ n := by rw [Nat.pow_succ]; omega
theorem Sz.add {a b : Rat} {x y : Nat} (h1 : Sz x a) (h2 : Sz y b) : Sz (x + y + 1) (a + b) := by
  obtain ⟨c1, c2, c3, _⟩ := h1.cross h2
  rw [← q_add]
  refine Sz.divInt (den_mul_ne _ _) ?_ ?_
  · rw [dbl]; omega
  · rw [dbl]; omega
theorem Sz.sub {a b : Rat} {x y : Nat} (h1 : Sz x a) (h2 : Sz y b) : Sz (x + y + 1) (a - b) := by
  obtain ⟨c1, c2, c3, _⟩ := h1.cross h2
  rw [← q_sub]
  refine Sz.divInt (den_mul_ne _ _) ?_ ?_
  · rw [dbl]; omega
  · rw [dbl]; omega
theorem Sz.mul {a b : Rat} {x y : Nat} (h1 : Sz x a) (h2 : Sz y b) : Sz (x + y) (a * b) := by
  obtain ⟨c1, c2, c3, c4, _⟩ := h1.cross h2
  rw [← q_mul]
  exact Sz.divInt (den_mul_ne _ _) c4 c3
theorem num_ne {b : Rat} (h : b ≠ 0) : b.num ≠ 0 := fun e => h (Rat.num_eq_zero.mp e)
theorem Sz.div {a b : Rat} {x y : Nat} (hb : b ≠ 0) (h1 : Sz x a) (h2 : Sz y b) : Sz (x + y) (a / b) := by
  obtain ⟨c1, c2, c3, c4, c5⟩ := h1.cross h2
  rw [← q_div]
  have := den_pos a
  exact Sz.divInt (Int.mul_ne_zero (by omega) (num_ne hb)) c1 c5

theorem bits_le {a : Int} {x : Nat} (h : a.natAbs ≤ 2 ^ x) : Builtin.Int.intBits a ≤ x + 1 := by
  exact intBits_le_iff.mpr (Nat.lt_of_le_of_lt h (Nat.pow_lt_pow_right (by decide) (Nat.lt_succ_self _)))
theorem mulOk {a b : Int} {x y : Nat} (h1 : a.natAbs ≤ 2 ^ x) (h2 : b.natAbs ≤ 2 ^ y) (h : x + y ≤ 100000000) : IntMulOk a b :=
  IntMulOk.of_le (bits_le h1) (bits_le h2) (by omega)
end Mine
namespace Mine
set_option maxHeartbeats 200000

/-! ## series told by functions -/
noncomputable def encF (f : Nat → Rat) (n : Nat) : List PyData := (List.range n).map fun i => encQ (f i)
noncomputable def sumF (h : Nat → Rat) : Nat → Rat
  | 0 => 0
  | n + 1 => sumF h n + h n
noncomputable def conv (f g : Nat → Rat) (n : Nat) : Rat := sumF (fun s => f s * g (n - s)) (n + 1)
noncomputable def dl (i : Nat) : Rat := if i = 0 then 1 else 0
noncomputable def covT {α : Type} [Inhabited α] (F : Nat → (Nat → α) → α) : Nat → Nat → α
  | 0, _ => default
  | k + 1, n => F n fun m => if m < n then covT F k m else default
noncomputable def cov {α : Type} [Inhabited α] (F : Nat → (Nat → α) → α) (n : Nat) : α := covT F (n + 1) n
theorem covT_eq {α : Type} [Inhabited α] (F : Nat → (Nat → α) → α) (hF : ∀ n g g', (∀ m, m < n → g m = g' m) → F n g = F n g') : ∀ k k' n, n < k → n < k' → covT F k n = covT F k' n
  | k + 1, k' + 1, n, h, h' => hF n _ _ fun m hm => by
    rw [if_pos hm, if_pos hm]
    exact covT_eq F hF k k' m (Nat.lt_of_lt_of_le hm (Nat.le_of_lt_succ h)) (Nat.lt_of_lt_of_le hm (Nat.le_of_lt_succ h'))
theorem cov_eq {α : Type} [Inhabited α] (F : Nat → (Nat → α) → α) (hF : ∀ n g g', (∀ m, m < n → g m = g' m) → F n g = F n g') (n : Nat) : cov F n = F n (cov F) :=
  hF n _ _ fun m hm => by
    rw [if_pos hm]
    exact covT_eq F hF n (m + 1) m hm (Nat.lt_succ_self m)
theorem sumF_congr {h h' : Nat → Rat} : ∀ {n : Nat}, (∀ s, s < n → h s = h' s) → sumF h n = sumF h' n
  | 0, _ => rfl
  | n + 1, e => by
    unfold sumF
    rw [sumF_congr fun s hs => e s (Nat.lt_succ_of_lt hs), e n (Nat.lt_succ_self n)]

noncomputable def invT (f : Nat → Rat) (n : Nat) (g : Nat → Rat) : Rat := (dl n - sumF (fun i => f (i + 1) * g (n - 1 - i)) n) / f 0
noncomputable def invF (f : Nat → Rat) : Nat → Rat := cov (invT f)
theorem invF_eq (f : Nat → Rat) (n : Nat) : invF f n = invT f n (invF f) := cov_eq _ (fun n g g' e => by
  unfold invT
  rw [sumF_congr fun s hs => by rw [e (n - 1 - s) (by omega)]]) n
noncomputable def expT (f : Nat → Rat) (n : Nat) (g : Nat → Rat) : Rat := if n = 0 then 1 else sumF (fun i => ((i + 1 : Nat) : Rat) * f (i + 1) * g (n - 1 - i)) n / (n : Rat)
noncomputable def expF (f : Nat → Rat) : Nat → Rat := cov (expT f)
theorem expF_eq (f : Nat → Rat) (n : Nat) : expF f n = expT f n (expF f) := cov_eq _ (fun n g g' e => by
  unfold expT
  rw [sumF_congr fun s hs => by rw [e (n - 1 - s) (by omega)]]) n
noncomputable def scT (f : Nat → Rat) (n : Nat) (g : Nat → Rat × Rat) : Rat × Rat :=
  (if n = 0 then 0 else sumF (fun i => ((i + 1 : Nat) : Rat) * f (i + 1) * (g (n - 1 - i)).2) n / (n : Rat), if n = 0 then 1 else (0 - sumF (fun i => ((i + 1 : Nat) : Rat) * f (i + 1) * (g (n - 1 - i)).1) n) / (n : Rat))
noncomputable def scF (f : Nat → Rat) : Nat → Rat × Rat := cov (scT f)
theorem scF_eq (f : Nat → Rat) (n : Nat) : scF f n = scT f n (scF f) := cov_eq _ (fun n g g' e => by
  unfold scT
  rw [sumF_congr (h := fun i => ((i + 1 : Nat) : Rat) * f (i + 1) * (g (n - 1 - i)).2) fun s hs => by rw [e (n - 1 - s) (by omega)],
    sumF_congr (h := fun i => ((i + 1 : Nat) : Rat) * f (i + 1) * (g (n - 1 - i)).1) fun s hs => by rw [e (n - 1 - s) (by omega)]]) n
noncomputable def derF (f : Nat → Rat) (i : Nat) : Rat := ((i + 1 : Nat) : Rat) * f (i + 1)
noncomputable def intF (g : Nat → Rat) (i : Nat) : Rat := if i = 0 then 0 else g (i - 1) / (i : Rat)
noncomputable def logF (f : Nat → Rat) : Nat → Rat := intF (conv (derF f) (invF f))

theorem encF_len (f : Nat → Rat) (n : Nat) : (encF f n).length = n := by simp [encF]
theorem encF_get {f : Nat → Rat} {n i : Nat} (h : i < n) : (encF f n)[i]? = some (encQ (f i)) := by simp [encF, h]
theorem encF_succ (f : Nat → Rat) (n : Nat) : encF f (n + 1) = encF f n ++ [encQ (f n)] := by simp [encF, List.range_succ]
theorem encF_congr {f g : Nat → Rat} {n : Nat} (h : ∀ i, i < n → f i = g i) : encF f n = encF g n := by
  unfold encF
  refine List.map_congr_left fun i hi => ?_
  rw [h i (by simpa using hi)]
theorem encF_map {f : Nat → Rat} {n : Nat} : (List.range n).map (fun i => encQ (f i)) = encF f n := rfl
theorem encF_ext {xs : List PyData} {f : Nat → Rat} {n : Nat} (hl : xs.length = n) (h : ∀ i, i < n → xs[i]? = some (encQ (f i))) : xs = encF f n := by
  apply List.ext_getElem?
  intro i
  by_cases hi : i < n
  · rw [h i hi, encF_get hi]
  · rw [List.getElem?_eq_none (by omega), List.getElem?_eq_none (by rw [encF_len]; omega)]
theorem encF_cons (f : Nat → Rat) (n : Nat) : encF f (n + 1) = encQ (f 0) :: encF (fun i => f (i + 1)) n := by
  refine (encF_ext (by simp [encF_len]) fun i hi => ?_).symm
  cases i with
  | zero => rfl
  | succ i => rw [List.getElem?_cons_succ, encF_get (by omega)]
theorem encF_app (f g : Nat → Rat) (n m : Nat) : encF f n ++ encF g m = encF (fun i => if i < n then f i else g (i - n)) (n + m) := by
  refine encF_ext (by simp [encF_len]) fun i hi => ?_
  by_cases h : i < n
  · rw [List.getElem?_append_left (by rw [encF_len]; exact h), encF_get h, if_pos h]
  · rw [List.getElem?_append_right (by rw [encF_len]; omega), encF_len, encF_get (by omega), if_neg h]
theorem encF_rep (q : Rat) (n : Nat) : List.replicate n (encQ q) = encF (fun _ => q) n :=
  encF_ext (by simp) fun i hi => by simp [hi]
theorem encF_take (f : Nat → Rat) (n m : Nat) : (encF f n).take m = encF f (min m n) := by
  refine encF_ext (by simp [encF_len]) fun i hi => ?_
  rw [List.getElem?_take, if_pos (by omega), encF_get (by omega)]
theorem encF_drop (f : Nat → Rat) (n m : Nat) : (encF f n).drop m = encF (fun i => f (i + m)) (n - m) := by
  refine encF_ext (by simp [encF_len]) fun i hi => ?_
  rw [List.getElem?_drop, encF_get (by omega), Nat.add_comm]

/-! ## sizes -/
theorem Sz.sumF {h : Nat → Rat} {B : Nat} : ∀ {n : Nat}, (∀ s, s < n → Sz B (h s)) → Sz (n * (B + 1)) (sumF h n)
  | 0, _ => Sz.zero
  | n + 1, e => by
    unfold Mine.sumF
    refine ((Sz.sumF fun s hs => e s (Nat.lt_succ_of_lt hs)).add (e n (Nat.lt_succ_self n))).le ?_
    rw [Nat.succ_mul]; omega
theorem Sz.conv {f g : Nat → Rat} {x y n m : Nat} (hf : ∀ i, i < m → Sz x (f i)) (hg : ∀ i, i < m → Sz y (g i)) (h : n < m) : Sz ((n + 1) * (x + y + 1)) (conv f g n) :=
  Sz.sumF fun s hs => (hf s (by omega)).mul (hg (n - s) (by omega))
theorem Sz.nat {k B : Nat} (h : k ≤ 2 ^ B) : Sz B (k : Rat) := ⟨by simpa using h, by simpa using Nat.one_le_two_pow⟩
theorem Sz.dl (i B : Nat) : Sz B (dl i) := by
  unfold Mine.dl
  split
  · exact Sz.one
  · exact Sz.zero
theorem enc_nat (k : Nat) {m : Int} (e : m = k) : PyData.tuple [.int m, .int 1] = encQ (k : Rat) := by subst e; simp [encQ]
theorem nat_ne {k : Nat} (h : k ≠ 0) : (k : Rat) ≠ 0 := fun e => h (by simpa using congrArg Rat.num e)
end Mine
namespace Mine
set_option maxHeartbeats 200000


local macro_rules | `(tactic| walk_at "ik") => `(tactic| (intro _; kernel_rfl))
local macro_rules | `(tactic| walk_at "ie") => `(tactic| (intro e he; cases e; cases he; kernel_rfl))
local macro_rules | `(tactic| walk_at "isf") => `(tactic| (refine is_fn (by assumption) ?_; kernel_rfl))
local macro_rules | `(tactic| walk_at "lk") => `(tactic| first | with_reducible exact lk_here | with_reducible assumption | (with_reducible refine' lkf_d ?hlk; (case hlk => walk_at "lk")) | (with_reducible refine' lkf_own ?hlk; (case hlk => walk_at "lk")) | (with_reducible refine' lkf_box ?hlk; (case hlk => walk_at "lk")) | (with_reducible refine' lk_free ?hfm ?hlk; (case hfm => kernel_rfl); (case hlk => walk_at "lk")) | (with_reducible refine' lk_there ?hne ?htl; (case hne => kernel_rfl); (case htl => walk_at "lk")))
local macro_rules | `(tactic| walk_at "sub") => `(tactic| first | with_reducible exact sub_nil | (with_reducible refine' sub_cons ?hlk ?hrs; (case hlk => walk_at "lk"); (case hrs => walk_at "sub")))
local macro_rules | `(tactic| walk_at "glob") => `(tactic| ((with_reducible first | apply G_R0 | apply G_R1 | apply G_MM); assumption))
local macro_rules | `(tactic| walk_at "nog") => `(tactic| (refine no_glob (by assumption) ?_; kernel_rfl))
local macro_rules | `(tactic| walk_at "boot") => `(tactic| with_reducible first | exact boot_len | exact boot_abs | exact boot_min | exact boot_max | exact boot_sum | exact boot_list | exact boot_tuple | exact boot_range | exact boot_zip)
local macro_rules | `(tactic| walk_at "fn") => `(tactic| (with_reducible refine' fn_gl (by assumption) ?hfa; (case hfa => with_unfolding_all rfl)))
local macro_rules | `(tactic| walk_at "me") => `(tactic| first
  | (with_reducible first | refine e_int ?_ | refine e_str ?_ | refine e_none ?_)
  | (with_reducible refine' e_var ?hlk ?hok ?_; (case hlk => walk_at "lk"); (case hok => kernel_rfl))
  | (with_reducible refine' e_glob ?hns ?hgl ?hok ?_; (case hns => kernel_rfl); (case hgl => walk_at "glob"); (case hok => kernel_rfl))
  | (with_reducible first | refine e_tuple ?_ | refine e_list ?_)
  | (with_reducible refine e_mulList ?_ ?hse; (case hse => walk_at "ik"))
  | (with_reducible first | refine e_bin ?_ | refine e_un ?_)
  | (with_reducible refine e_cmp ?_ ?hm; (case hm => kernel_rfl))
  | (with_reducible first | refine e_if ?_ | refine e_upto ?_ | refine e_from ?_)
  | (with_reducible refine e_subP ?_ ?hsb; (case hsb => (intro _ _; kernel_rfl)))
  | (with_reducible refine' e_callW ?hns ?hfn ?hif ?_ ?hok ?hse; (case hns => kernel_rfl); (case hfn => walk_at "fn"); (case hif => walk_at "isf"); (case hok => kernel_rfl); (case hse => walk_at "ik"))
  | (with_reducible refine' e_callB ?hns ?hng ?hbt ?_ ?hnn ?hok ?hse ?hpl; (case hns => kernel_rfl); (case hng => walk_at "nog"); (case hbt => walk_at "boot"); (case hnn => decide +kernel); (case hok => kernel_rfl); (case hse => walk_at "ik"); (case hpl => walk_at "ik"))
  | (with_reducible refine' e_callT ?hns ?hng ?hbt ?_ ?hnn ?hok ?hse ?hpl; (case hns => kernel_rfl); (case hng => walk_at "nog"); (case hbt => walk_at "boot"); (case hnn => decide +kernel); (case hok => kernel_rfl); (case hse => walk_at "ik"); (case hpl => walk_at "ik"))
  | (with_reducible first | refine es_nil ?_)
  | (with_reducible refine es_cons ?_ ?hse; (case hse => walk_at "ik"))
  | (with_reducible refine t_cmp ?_ ?hm; (case hm => kernel_rfl))
  | (with_reducible first | refine t_and_nil ?_ | refine t_and ?_ | refine allD2 ?_ | refine allD1 ?_ | refine allD3 ?_)
  | (with_reducible refine wi_range1N ?hns ?hng ?_ ?hse; (case hns => kernel_rfl); (case hng => walk_at "nog"); (case hse => walk_at "ik"))
  | (with_reducible refine wi_range2N ?hns ?hng ?_ ?hse ?hse2 ?hpl; (case hns => kernel_rfl); (case hng => walk_at "nog"); (case hse => walk_at "ik"); (case hse2 => walk_at "ik"); (case hpl => walk_at "ik"))
  | (with_reducible refine wi_zip ?hns ?hng ?_ ?hse ?hse2 ?hpl; (case hns => kernel_rfl); (case hng => walk_at "nog"); (case hse => walk_at "ik"); (case hse2 => walk_at "ik"); (case hpl => walk_at "ik"))
  | with_reducible exact rfl
  | (with_reducible first | refine isD ?_ | refine isB ?_ | refine ite_of ?_ ?_ | refine ite_t ?_ | refine ite_f ?_ | refine ⟨rfl, ?_⟩ | refine two_of ?_ | refine three_of ?_ | refine sub_t0 ?_ | refine sub_t1 ?_ | refine sub_t2 ?_ | refine sub_l0 ?_ | refine sub_l1 ?_ | refine sub_l2 ?_ | refine sub_b0 ?_ | refine sub_b1 ?_ | refine sub_b2 ?_ | refine b_modR ?_ ?hnz | refine b_divR ?_ ?hnz | refine b_eqI ?_ | refine b_neI ?_ | refine b_eqS ?_ | refine b_neS ?_ | refine b_add ?_ | refine b_sub ?_ | refine b_mulR ?_ ?hmul | refine b_lt ?_ | refine b_le ?_ | refine b_gt ?_ | refine b_ge ?_ | refine b_subB ?_ | refine b_neg ?_ | refine n_abs ?_ | refine n_min ?_ | refine n_max ?_))
local macro_rules | `(tactic| walk_at "ms") => `(tactic| first
  | (with_reducible first | refine s_cons ?_ | refine s_nil ?_)
  | (with_reducible refine x_own2 ?_ ?hva ?hvb ?hna ?hnb ?hsw ?hst; (case hva => kernel_rfl); (case hvb => kernel_rfl); (case hna => kernel_rfl); (case hnb => kernel_rfl); (case hsw => walk_at "ik"); (case hst => walk_at "ie"))
  | (with_reducible refine x_own ?_ ?hvr; (case hvr => kernel_rfl))
  | (with_reducible refine x_assign ?_ ?hvr ?hsw; (case hvr => kernel_rfl); (case hsw => walk_at "ie"))
  | (with_reducible refine x_expr ?_ ?hi ?hs; (case hi => walk_at "ie"); (case hs => walk_at "ik"))
  | (with_reducible first | refine x_ret ?_ | refine x_if ?_)
  | ((with_reducible first | refine x_tups2 ?_ ?hvr ?hsw ?hst | refine x_tups3 ?_ ?hvr ?hsw ?hst | refine x_tup2 ?_ ?hvr ?hsw ?hst); (case hvr => kernel_rfl); (case hsw => walk_at "ik"); (case hst => walk_at "ie")))
local macro_rules | `(tactic| walk_at "go") => `(tactic| repeat (first | walk_at "me" | walk_at "ms"))


theorem c_gcd {C : Cx} (hC : C.K = KK C.w.params) (a b : Int) (β : Bx) : CallR C 1 41 [.d (.int a), .d (.int b)] β (.int (Int.gcd a b)) β := by
  refine enter2 (F_gcd hC) ?_
  refine s_cons ?_
  walk_at "ms"
  repeat walk_at "me"
  refine s_cons ?_
  refine x_whileC (fun n ρc => ∃ x y : Nat, Nat.gcd x y = Int.gcd a b ∧ y = n ∧ ρc = ([("a", .d (.int x)), ("b", .d (.int y))] : PEnv)) (n₀ := b.natAbs) ⟨a.natAbs, b.natAbs, rfl, rfl, rfl⟩ (by walk_at "sub") ?step
  rintro n ρc ⟨x, y, hg, rfl, rfl⟩
  repeat walk_at "me"
  · intro hy
    walk_at "ms"
    walk_at "ms"
    repeat walk_at "me"
    walk_at "ms"
    have e : Int.fmod (x : Int) (y : Int) = ((x % y : Nat) : Int) := by rw [Int.fmod_eq_emod_of_nonneg _ (Int.natCast_nonneg _)]; rfl
    refine ⟨rfl, x % y, _, Nat.mod_lt _ (by omega), ⟨y, x % y, ?_, rfl, rfl⟩, ?_⟩
    · rw [← hg, Nat.gcd_comm x y, Nat.gcd_rec y x, Nat.gcd_comm]
    · rw [e]; walk_at "sub"
    · exact hy
  · intro hy ρ₁ hs
    refine WS.weaken ?_ hs
    walk_at "ms"
    walk_at "ms"
    repeat walk_at "me"
    have : y = 0 := by omega
    subst this
    rw [← hg]; simp

local macro_rules | `(tactic| walk_at "me") => `(tactic| (with_reducible refine' wv_of (c_gcd (by assumption) _ _ _) ?hle ?_; (case hle => decide)))
theorem c_rat {C : Cx} (hC : C.K = KK C.w.params) (a b : Int) (hb : b ≠ 0) (β : Bx) : CallR C 2 57 [.d (.int a), .d (.int b)] β (encQ (Rat.divInt a b)) β := by
  refine enter2 (F_rat hC) ?_
  refine s_cons ?_
  walk_at "go"
  · exact fun h => absurd h hb
  intro _
  walk_at "go"
  · intro h
    walk_at "go"
    · refine ⟨?_, rfl⟩
      rw [encQ, divInt_num hb, divInt_den hb, if_pos h]
    all_goals (have := sg_ne (a := a) hb; rw [if_pos h] at this; exact this)
  · intro h
    walk_at "go"
    · refine ⟨?_, rfl⟩
      rw [encQ, divInt_num hb, divInt_den hb, if_neg h, Int.zero_sub]
    all_goals (have := sg_ne (a := a) hb; rw [if_neg h] at this; rw [Int.zero_sub]; exact this)

theorem c_radd {C : Cx} (hC : C.K = KK C.w.params) {x y : Nat} (a b : Rat) (ha : Sz x a) (hb : Sz y b) (hz : x + y ≤ 100000000) (β : Bx) : CallR C 3 64 [.d (encQ a), .d (encQ b)] β (encQ (a + b)) β := by
  refine enter2 (F_radd hC) ?_
  refine s_cons ?_
  walk_at "go"
  · refine wv_of (c_rat hC _ _ (den_mul_ne _ _) _) ?hle ?_
    case hle => decide
    walk_at "go"
    rw [q_add]; exact ⟨rfl, rfl⟩
  all_goals first | exact mulOk ha.1 (y := y) (by simpa using hb.2) (by omega) | exact mulOk hb.1 (y := x) (by simpa using ha.2) (by omega) | exact mulOk (x := x) (y := y) (by simpa using ha.2) (by simpa using hb.2) (by omega)
theorem c_rsub {C : Cx} (hC : C.K = KK C.w.params) {x y : Nat} (a b : Rat) (ha : Sz x a) (hb : Sz y b) (hz : x + y ≤ 100000000) (β : Bx) : CallR C 3 71 [.d (encQ a), .d (encQ b)] β (encQ (a - b)) β := by
  refine enter2 (F_rsub hC) ?_
  refine s_cons ?_
  walk_at "go"
  · refine wv_of (c_rat hC _ _ (den_mul_ne _ _) _) ?hle ?_
    case hle => decide
    walk_at "go"
    rw [q_sub]; exact ⟨rfl, rfl⟩
  all_goals first | exact mulOk ha.1 (y := y) (by simpa using hb.2) (by omega) | exact mulOk hb.1 (y := x) (by simpa using ha.2) (by omega) | exact mulOk (x := x) (y := y) (by simpa using ha.2) (by simpa using hb.2) (by omega)
theorem c_rmul {C : Cx} (hC : C.K = KK C.w.params) {x y : Nat} (a b : Rat) (ha : Sz x a) (hb : Sz y b) (hz : x + y ≤ 100000000) (β : Bx) : CallR C 3 78 [.d (encQ a), .d (encQ b)] β (encQ (a * b)) β := by
  refine enter2 (F_rmul hC) ?_
  refine s_cons ?_
  walk_at "go"
  · refine wv_of (c_rat hC _ _ (den_mul_ne _ _) _) ?hle ?_
    case hle => decide
    walk_at "go"
    rw [q_mul]; exact ⟨rfl, rfl⟩
  all_goals first | exact mulOk ha.1 hb.1 (by omega) | exact mulOk (x := x) (y := y) (by simpa using ha.2) (by simpa using hb.2) (by omega)
theorem c_rdiv {C : Cx} (hC : C.K = KK C.w.params) {x y : Nat} (a b : Rat) (hne : b ≠ 0) (ha : Sz x a) (hb : Sz y b) (hz : x + y ≤ 100000000) (β : Bx) : CallR C 3 85 [.d (encQ a), .d (encQ b)] β (encQ (a / b)) β := by
  refine enter2 (F_rdiv hC) ?_
  refine s_cons ?_
  walk_at "go"
  · refine wv_of (c_rat hC _ _ (Int.mul_ne_zero (by have := den_pos a; omega) (num_ne hne)) _) ?hle ?_
    case hle => decide
    walk_at "go"
    rw [q_div]; exact ⟨rfl, rfl⟩
  all_goals first | exact mulOk ha.1 (y := y) (by simpa using hb.2) (by omega) | exact mulOk (x := x) (by simpa using ha.2) hb.1 (by omega)
/-- the law's own lowest terms -/
theorem c_low {C : Cx} (hC : C.K = KK C.w.params) (a b : Int) (hb : 0 < b) (β : Bx) : CallR C 1 332 [.d (.int a), .d (.int b)] β (encQ (Rat.divInt a b)) β := by
  refine enter2 (F_law_low hC) ?_
  refine s_cons ?_
  walk_at "go"
  refine x_whileC (fun n ρc => ∃ x y : Nat, Nat.gcd x y = Int.gcd a b ∧ y = n ∧ ρc = ([("one", .d (.int x)), ("other", .d (.int y)), ("top", .d (.int a)), ("bottom", .d (.int b))] : PEnv)) (n₀ := b.natAbs) ⟨a.natAbs, b.natAbs, rfl, rfl, rfl⟩ ?sb ?step
  case sb =>
    have e : ((b.natAbs : Nat) : Int) = b := by omega
    rw [e]
    walk_at "sub"
  rintro n ρc ⟨x, y, hg, rfl, rfl⟩
  walk_at "go"
  · intro hy
    walk_at "go"
    · have e : Int.fmod (x : Int) (y : Int) = ((x % y : Nat) : Int) := by rw [Int.fmod_eq_emod_of_nonneg _ (Int.natCast_nonneg _)]; rfl
      refine ⟨x % y, _, Nat.mod_lt _ (by omega), ⟨y, x % y, ?_, rfl, rfl⟩, ?_⟩
      · rw [← hg, Nat.gcd_comm x y, Nat.gcd_rec y x, Nat.gcd_comm]
      · rw [e]; walk_at "sub"
    · omega
  · intro hy ρ₁ hs
    refine WS.weaken ?_ hs
    have : y = 0 := by omega
    subst this
    have hx : x = Int.gcd a b := by rw [← hg]; simp
    have hgn := sg_ne (a := a) (show b ≠ 0 by omega)
    rw [if_pos hb] at hgn
    walk_at "go"
    · refine ⟨?_, rfl⟩
      rw [encQ, divInt_num (by omega), divInt_den (by omega), if_pos hb, hx]
    all_goals (rw [hx]; exact hgn)
theorem c_rcompare {C : Cx} (hC : C.K = KK C.w.params) {x y : Nat} (a b : Rat) (ha : Sz x a) (hb : Sz y b) (hz : x + y ≤ 100000000) (β : Bx) : CallR C 1 92 [.d (encQ a), .d (encQ b)] β (.int ((if decide (0 < a.num * b.den - b.num * a.den) = true then 1 else 0) - (if decide (a.num * b.den - b.num * a.den < 0) = true then 1 else 0))) β := by
  refine enter2 (F_rcompare hC) ?_
  refine s_cons ?_
  walk_at "go"
  all_goals first | rfl | exact mulOk ha.1 (y := y) (by simpa using hb.2) (by omega) | exact mulOk hb.1 (y := x) (by simpa using ha.2) (by omega)
set_option maxHeartbeats 200000




section
variable {C : Cx} {k : Nat} {β : Bx} {Q : PV → Bx → Prop}
theorem sub_F {f : Nat → Rat} {n : Nat} {m : Int} (i : Nat) (q : Q (.d (encQ (f i))) β) (e : m = (i : Int)) (h : i < n) (hn : n ≤ 16384) : SubP (.d (.list (encF f n))) (.d (.int m)) β Q := by
  subst e
  exact sub_nat rfl (encF_get h) (by omega) q
theorem sub_O {f : Nat → Rat} {n : Nat} {m : Int} (i : Nat) (q : Q (.d (encQ (f i))) β) (e : m = (i : Int)) (h : i < n) (hn : n ≤ 16384) : SubP (.own (encF f n)) (.d (.int m)) β Q := by
  subst e
  exact sub_nat rfl (encF_get h) (by omega) q
theorem n_lenF {f : Nat → Rat} {n : Nat} (h : Q (.d (.int n)) β) (hz : n ≤ 16384) : WV C k (fun vs => call (.builtin "len") vs) [.d (.list (encF f n))] β Q :=
  n_len (.inl rfl) (by rw [encF_len]; exact hz) (by rw [encF_len]; exact h)
theorem eqv_Q (a b : Rat) : (encQ a).eqv (encQ b) = decide (a = b) := by
  unfold encQ
  simp only [PyData.eqv, PyData.eqvAll, Bool.and_true]
  rw [Bool.eq_iff_iff]
  simp only [Bool.and_eq_true, beq_iff_eq, decide_eq_true_eq]
  constructor
  · rintro ⟨h1, h2⟩; exact Rat.ext h1 (by omega)
  · rintro rfl; exact ⟨rfl, rfl⟩
theorem shaped_Q (a : Rat) : SeqAt.shaped (encQ a) = true := by
  unfold SeqAt.shaped encQ
  simp [PyData.canLay0, PyData.canLayAll0, PyData.depth, PyData.depthAll]
theorem b_eqQ {a b : Rat} (h : Q (.d (.bool (decide (a = b)))) β) : WV C k (two (compareOp .Eq)) [.d (encQ a), .d (encQ b)] β Q :=
  b_eq (shaped_Q a) (shaped_Q b) (by rw [eqv_Q]; exact h)
theorem b_neQ {a b : Rat} (h : Q (.d (.bool (decide (a ≠ b)))) β) : WV C k (two (compareOp .NotEq)) [.d (encQ a), .d (encQ b)] β Q :=
  b_ne (shaped_Q a) (shaped_Q b) (by
    rw [eqv_Q]
    rw [show (!decide (a = b)) = decide (a ≠ b) from by simp]
    exact h)
end
section
variable {C : Cx} {k : Nat} {sc : Scope} {ρ : PEnv} {β : Bx} {N : PEnv → Bx → Prop} {T : PyData → Bx → Prop}
theorem x_assignV {x : Str} {px pos : Pos} {e : Expr} (d : PyData) (h : WE C k sc.names e ρ β fun p β' => p = .d d ∧ β' = β) (hn : N ((x, .d d) :: ρ) β) (hx : isVar sc x = true)
    (hs : ∀ env, env.scope = sc → swapsWith e (some (.Name x px)) pos.line env = pure false) : WX C k sc (.Assign [.Name x px] e pos) ρ β N T :=
  x_assign (h.mono fun p β' ⟨e1, e2⟩ => by subst e1 e2; exact ⟨d, rfl, hn⟩) hx hs
theorem x_appendF {x : Str} {xp apos epos pos : Pos} {elt : Expr} {f : Nat → Rat} {n : Nat} (hl : ρ.lookup x = some (.own (encF f n))) (hz : n ≤ 16384) (h : WE C k sc.names elt ρ β fun p β' => p = .d (encQ (f n)) ∧ N ((x, .own (encF f (n + 1))) :: ρ) β') (ok : okName x = true)
    (hi : ∀ env : Env, env.scope = sc → interactive env = false)
    (hs : ∀ env, swapsWith (.Call (.Attribute (.Name x xp) "append" apos) [elt] [] epos) none pos.line env = pure false)
    (hbase : ∀ env, attributeBase (.Name x xp) "append" env (eval (.Name x xp) env) = eval (.Name x xp) env)
    (hfew : ∀ env, ((backTo epos (starEach [elt] env)).all (fun x => !x.1) && (backToKw epos (keywordEach [] env)).all (fun x => x.1.isSome)
      && decide (([elt] : List Expr).length + ([] : List Keyword).length + (if ([] : List Keyword).isEmpty then 0 else 1) < 30)) = true)
    (hline : (apos.endLine == epos.line) = true)
    (htrees : ∀ env, backTo epos (starEach [elt] env) = [(false, eval elt env)]) : WX C k sc (.Expr (.Call (.Attribute (.Name x xp) "append" apos) [elt] [] epos) pos) ρ β N T :=
  x_append hl (by rw [encF_len]; exact hz) (h.mono fun p β' ⟨e, q⟩ => ⟨_, e, by rw [← encF_succ]; exact q⟩) ok hi hs hbase hfew hline htrees
end
theorem ib_mono (B : Nat) (F : Nat → Nat) (h : ∀ k, F k ≤ F (k + 1)) : ∀ {i j : Nat}, i ≤ j → F i ≤ F j
  | i, 0, e => by rw [Nat.le_zero.mp e]; exact Nat.le_refl _
  | i, j + 1, e => by
    rcases Nat.lt_or_eq_of_le e with q | q
    · exact Nat.le_trans (ib_mono B F h (Nat.lt_succ_iff.mp q)) (h j)
    · rw [q]; exact Nat.le_refl _
noncomputable def ib (B : Nat) : Nat → Nat
  | 0 => B + 1
  | k + 1 => (k + 1) * (B + ib B k + 1) + B + 1
theorem ib_le (B k : Nat) : ib B k ≤ ib B (k + 1) := by
  show _ ≤ (k + 1) * (B + ib B k + 1) + B + 1
  have := Nat.le_mul_of_pos_left (B + ib B k + 1) (show 0 < k + 1 by omega)
  omega
theorem Sz.invF {f : Nat → Rat} {B n : Nat} (h0 : f 0 ≠ 0) (hf : ∀ i, i < n → Sz B (f i)) : ∀ k, k < n → Sz (ib B k) (invF f k) := fun k => by
  induction k using Nat.strongRecOn with
  | ind k ih =>
    intro hk
    rw [invF_eq]
    unfold invT
    cases k with
    | zero =>
      have := (((Sz.dl 0 0).sub (Sz.sumF (h := fun i => f (i + 1) * Mine.invF f (0 - 1 - i)) (B := 0) (n := 0) fun s hs => absurd hs (Nat.not_lt_zero _))).div h0 (hf 0 hk))
      exact this.le (by show 0 + 0 * (0 + 1) + 1 + B ≤ B + 1; omega)
    | succ k =>
      have hs : Sz ((k + 1) * (B + ib B k + 1)) (Mine.sumF (fun i => f (i + 1) * Mine.invF f (k + 1 - 1 - i)) (k + 1)) := Sz.sumF fun s hs => (hf (s + 1) (by omega)).mul ((ih (k + 1 - 1 - s) (by omega) (by omega)).le (ib_mono B (ib B) (ib_le B) (by omega)))
      refine (((Sz.dl (k + 1) 0).sub hs).div h0 (hf 0 (by omega))).le ?_
      show _ ≤ (k + 1) * (B + ib B k + 1) + B + 1
      omega
theorem ib6 (B k : Nat) (h : k < 6) : ib B k ≤ 700 * (B + 1) := by
  refine Nat.le_trans (ib_mono B (ib B) (ib_le B) (show k ≤ 5 by omega)) ?_
  simp only [ib]
  omega
section
variable {C : Cx} {k : Nat} {sc : Scope} {ρ : PEnv} {β : Bx} {N : PEnv → Bx → Prop} {T : PyData → Bx → Prop}
/-- a guard that does not fire -/
theorem x_ifF {test : Expr} {body orelse : List Stmt} {pos : Pos} (h : WT C k sc.names test ρ β fun b β' => b = false ∧ β' = β) (q : WS C k sc orelse ρ β N T) : WX C k sc (.If test body orelse pos) ρ β N T :=
  x_if (h.mono fun b β' ⟨e1, e2⟩ => by subst e1 e2; simpa using q)
end
noncomputable def eb (B : Nat) : Nat → Nat
  | 0 => 3
  | k + 1 => (k + 1) * (3 + B + eb B k + 1) + 3
theorem eb_le (B k : Nat) : eb B k ≤ eb B (k + 1) := by
  show _ ≤ (k + 1) * (3 + B + eb B k + 1) + 3
  have := Nat.le_mul_of_pos_left (3 + B + eb B k + 1) (show 0 < k + 1 by omega)
  omega
theorem eb6 (B k : Nat) (h : k < 6) : eb B k ≤ 460 * (B + 5) := by
  refine Nat.le_trans (ib_mono B (eb B) (eb_le B) (show k ≤ 5 by omega)) ?_
  simp only [eb]
  omega
theorem Sz.expF {f : Nat → Rat} {B n : Nat} (hn : n ≤ 7) (hf : ∀ i, i < n → Sz B (f i)) : ∀ k, k < n → Sz (eb B k) (expF f k) := fun k => by
  induction k using Nat.strongRecOn with
  | ind k ih =>
    intro hk
    rw [expF_eq]
    unfold expT
    cases k with
    | zero => rw [if_pos rfl]; exact Sz.one
    | succ k =>
      rw [if_neg (by omega)]
      have hs : Sz ((k + 1) * (3 + B + eb B k + 1)) (Mine.sumF (fun i => ((i + 1 : Nat) : Rat) * f (i + 1) * Mine.expF f (k + 1 - 1 - i)) (k + 1)) := Sz.sumF fun s hs => ((Sz.nat (by omega)).mul (hf (s + 1) (by omega))).mul ((ih (k + 1 - 1 - s) (by omega) (by omega)).le (ib_mono B (eb B) (eb_le B) (by omega)))
      exact hs.div (nat_ne (by omega)) (Sz.nat (by omega))
theorem Sz.scF {f : Nat → Rat} {B n : Nat} (hn : n ≤ 7) (hf : ∀ i, i < n → Sz B (f i)) : ∀ k, k < n → Sz (eb (B + 1) k) (scF f k).1 ∧ Sz (eb (B + 1) k) (scF f k).2 := fun k => by
  induction k using Nat.strongRecOn with
  | ind k ih =>
    intro hk
    rw [scF_eq]
    unfold scT
    cases k with
    | zero => exact ⟨Sz.zero, Sz.one⟩
    | succ k =>
      dsimp only
      rw [if_neg (by omega), if_neg (by omega)]
      have hs1 : Sz ((k + 1) * (3 + B + eb (B + 1) k + 1)) (Mine.sumF (fun i => ((i + 1 : Nat) : Rat) * f (i + 1) * (Mine.scF f (k + 1 - 1 - i)).2) (k + 1)) := Sz.sumF fun s hs => ((Sz.nat (by omega)).mul (hf (s + 1) (by omega))).mul ((ih (k + 1 - 1 - s) (by omega) (by omega)).2.le (ib_mono B (eb (B + 1)) (eb_le (B + 1)) (by omega)))
      have hs2 : Sz ((k + 1) * (3 + B + eb (B + 1) k + 1)) (Mine.sumF (fun i => ((i + 1 : Nat) : Rat) * f (i + 1) * (Mine.scF f (k + 1 - 1 - i)).1) (k + 1)) := Sz.sumF fun s hs => ((Sz.nat (by omega)).mul (hf (s + 1) (by omega))).mul ((ih (k + 1 - 1 - s) (by omega) (by omega)).1.le (ib_mono B (eb (B + 1)) (eb_le (B + 1)) (by omega)))
      have hle : (k + 1) * (3 + B + eb (B + 1) k + 1) + (k + 1) = (k + 1) * (3 + (B + 1) + eb (B + 1) k + 1) := by
        rw [← Nat.mul_succ]; congr 1; omega
      constructor
      · refine (hs1.div (nat_ne (by omega)) (Sz.nat (show k + 1 ≤ 2 ^ 3 by omega))).le ?_
        show _ ≤ (k + 1) * (3 + (B + 1) + eb (B + 1) k + 1) + 3
        omega
      · refine (((Sz.zero (B := 0)).sub hs2).div (nat_ne (by omega)) (Sz.nat (show k + 1 ≤ 2 ^ 3 by omega))).le ?_
        show _ ≤ (k + 1) * (3 + (B + 1) + eb (B + 1) k + 1) + 3
        omega
/-- a whole number over one -/
theorem c_rmulN {C : Cx} (hC : C.K = KK C.w.params) {y : Nat} (j : Nat) (m : Int) (e : m = (j : Int)) (hj : j ≤ 8) (b : Rat) (hb : Sz y b) (hz : 3 + y ≤ 100000000) (β : Bx) : CallR C 3 78 [.d (.tuple [.int m, .int 1]), .d (encQ b)] β (encQ ((j : Rat) * b)) β := by
  rw [enc_nat j e]
  exact c_rmul hC _ _ (Sz.nat (show j ≤ 2 ^ 3 by omega)) hb hz β
theorem c_rdivN {C : Cx} (hC : C.K = KK C.w.params) {y : Nat} (j : Nat) (m : Int) (e : m = (j : Int)) (h0 : j ≠ 0) (hj : j ≤ 8) (b : Rat) (hb : Sz y b) (hz : 3 + y ≤ 100000000) (β : Bx) : CallR C 3 85 [.d (encQ b), .d (.tuple [.int m, .int 1])] β (encQ (b / (j : Rat))) β := by
  rw [enc_nat j e]
  exact c_rdiv hC _ _ (nat_ne h0) hb (Sz.nat (show j ≤ 2 ^ 3 by omega)) (by omega) β

local macro_rules | `(tactic| walk_at "me") => `(tactic| with_reducible first | refine b_eqQ ?_ | refine b_neQ ?_ | refine n_lenF ?_ ?_)
local macro_rules | `(tactic| walk_at "ms") => `(tactic| (with_reducible refine' x_appendF ?hlk ?hz ?_ ?hok ?hi ?hs ?hb ?hfw ?hln ?htr; (case hlk => walk_at "lk"); (case hz => omega); (case hok => kernel_rfl); (case hi => walk_at "ie"); (case hs => walk_at "ik"); (case hb => walk_at "ik"); (case hfw => walk_at "ik"); (case hln => kernel_rfl); (case htr => walk_at "ik")))
theorem c_cut {C : Cx} (hC : C.K = KK C.w.params) (f : Nat → Rat) (n m : Nat) (hn : n ≤ 1000) (hm : m ≤ 1000) (β : Bx) : CallR C 1 99 [.d (.list (encF f n)), .d (.int m)] β (.list (encF (fun i => if i < n then f i else 0) m)) β := by
  refine enter2 (F_cut hC) ?_
  refine s_cons ?_
  walk_at "go"
  refine ⟨_, m, rfl, rfl, by omega, by rw [encF_len]; omega, ?_⟩
  walk_at "go"
  have hlt : (List.take ((m : Int)).toNat (encF f n)).length ≤ 1000 := by rw [List.length_take, encF_len]; omega
  refine n_list (by omega) ?_
  walk_at "go"
  · refine ⟨_, _, rfl, rfl, by omega, by omega, ?_⟩
    refine b_join (by rw [List.length_replicate]; omega) ?_
    walk_at "go"
    refine ⟨?_, rfl⟩
    rw [Int.toNat_natCast, encF_take, encF_rep, encF_app]
    congr 1
    have e : min m n + ((m : Int) - (n : Int)).toNat = m := by omega
    rw [e]
    refine encF_congr fun i hi => ?_
    by_cases h : i < n
    · rw [if_pos h, if_pos (by omega)]
    · rw [if_neg h, if_neg (by omega)]
  · omega
theorem c_sadd {C : Cx} (hC : C.K = KK C.w.params) {x y : Nat} (f g : Nat → Rat) (n m : Nat) (hn : n ≤ 1000) (hm : m ≤ 1000) (hf : ∀ i, i < n → Sz x (f i)) (hg : ∀ i, i < m → Sz y (g i)) (hz : x + y ≤ 100000000) (β : Bx) :
    CallR C 4 104 [.d (.list (encF f n)), .d (.list (encF g m))] β (.list (encF (fun i => f i + g i) (min n m))) β := by
  refine enter2 (F_sadd hC) ?_
  refine s_cons ?_
  walk_at "go"
  refine e_compN (fun i => encQ (f i + g i)) ?_ (by kernel_rfl) (by kernel_rfl) (by kernel_rfl) (by kernel_rfl) (by intro _ _; kernel_rfl)
  walk_at "go"
  · refine ⟨min n m, intE (by omega), by omega, rfl, by rw [rng_len]; omega, fun i d hd => ?_, ?_⟩
    · obtain ⟨hi, rfl⟩ := rng_get hd
      walk_at "go"
      refine sub_F i ?_ ?_ ?_ ?_
      · walk_at "go"
        refine sub_F i ?_ ?_ ?_ ?_
        · walk_at "go"
          refine wv_of (c_radd hC _ _ (hf i (by omega)) (hg i (by omega)) hz _) ?_ ?_
          · decide
          exact ⟨rfl, rfl⟩
        all_goals omega
      all_goals omega
    · rw [rng_len]
      walk_at "go"
  all_goals omega
theorem c_mixed {C : Cx} (hC : C.K = KK C.w.params) {x y : Nat} (f g : Nat → Rat) (n m at' : Nat) (hn : n ≤ 1000) (hm : m ≤ 1000) (h1 : at' < n) (h2 : at' < m) (hf : ∀ i, i < n → Sz x (f i)) (hg : ∀ i, i < m → Sz y (g i)) (hz : (at' + 2) * (x + y + 1) ≤ 100000000) (β : Bx) :
    CallR C 4 116 [.d (.list (encF f n)), .d (.list (encF g m)), .d (.int at')] β (encQ (conv f g at')) β := by
  have hxy : x + y ≤ 100000000 := by
    have := Nat.le_mul_of_pos_left (x + y + 1) (show 0 < at' + 2 by omega)
    omega
  refine enter3 (F_mixed hC) ?_
  refine s_cons ?_
  walk_at "go"
  refine x_forC (fun i ρc => i ≤ at' + 1 ∧ ∃ q, q = sumF (fun s => f s * g (at' - s)) i ∧ ρc = ([("found", .d (encQ q)), ("a", .d (.list (encF f n))), ("b", .d (.list (encF g m))), ("at", .d (.int at'))] : PEnv)) ?_ (by kernel_rfl) (by intro _ _; kernel_rfl)
  walk_at "go"
  refine ⟨at' + 1, intE (by omega), by omega, rfl, ⟨_, ⟨Nat.zero_le _, 0, rfl, rfl⟩, ?_⟩, fun i d ρc hd hJ => ?_, fun ρc ρ' hJ hs => ?_⟩
  · walk_at "sub"
  · obtain ⟨hi, rfl⟩ := rng_get hd
    obtain ⟨_, q, hq, rfl⟩ := hJ
    have hSz : Sz (i * (x + y + 1)) q := by rw [hq]; exact Sz.sumF fun s hs => (hf s (by omega)).mul (hg (at' - s) (by omega))
    have hi2 : i * (x + y + 1) + (x + y) ≤ 100000000 := by
      have : (i + 1) * (x + y + 1) ≤ (at' + 2) * (x + y + 1) := Nat.mul_le_mul_right _ (by omega)
      rw [Nat.succ_mul] at this
      omega
    have hnext : q + f i * g (at' - i) = sumF (fun s => f s * g (at' - s)) (i + 1) := by rw [hq]; rfl
    have skip : f i * g (at' - i) = 0 → q = sumF (fun s => f s * g (at' - s)) (i + 1) := fun h => by rw [← hnext, h]; grind
    walk_at "go"
    refine sub_F i ?_ ?_ ?_ ?_
    · walk_at "go"
      · intro hne
        walk_at "go"
        refine sub_F (at' - i) ?_ ?_ ?_ ?_
        · walk_at "go"
          · intro hne2
            walk_at "go"
            refine sub_F i ?_ ?_ ?_ ?_
            · walk_at "go"
              refine sub_F (at' - i) ?_ ?_ ?_ ?_
              · walk_at "go"
                refine wv_of (c_rmul hC _ _ (hf i (by omega)) (hg (at' - i) (by omega)) hxy _) ?_ ?_
                · decide
                walk_at "go"
                refine wv_of (c_radd hC _ _ hSz ((hf i (by omega)).mul (hg (at' - i) (by omega))) hi2 _) ?_ ?_
                · decide
                walk_at "go"
                exact ⟨_, ⟨by omega, _, hnext, rfl⟩, by walk_at "sub"⟩
              all_goals omega
            all_goals omega
          · intro hz2
            walk_at "go"
            exact ⟨_, ⟨by omega, q, skip (by have : g (at' - i) = 0 := by simpa using hz2
                                             rw [this]; grind), rfl⟩, by walk_at "sub"⟩
        all_goals omega
      · intro hz2
        walk_at "go"
        exact ⟨_, ⟨by omega, q, skip (by have : f i = 0 := by simpa using hz2
                                         rw [this]; grind), rfl⟩, by walk_at "sub"⟩
    all_goals omega
  · obtain ⟨_, q, hq, rfl⟩ := hJ
    rw [rng_len] at hq
    refine WS.weaken ?_ hs
    walk_at "go"
    exact ⟨by rw [hq]; rfl, rfl⟩
theorem c_smul {C : Cx} (hC : C.K = KK C.w.params) {x y : Nat} (f g : Nat → Rat) (n m : Nat) (hn : n ≤ 1000) (hm : m ≤ 1000) (hf : ∀ i, i < n → Sz x (f i)) (hg : ∀ i, i < m → Sz y (g i)) (hz : (n + 2) * (x + y + 1) ≤ 100000000) (β : Bx) :
    CallR C 5 121 [.d (.list (encF f n)), .d (.list (encF g m))] β (.list (encF (conv f g) (min n m))) β := by
  refine enter2 (F_smul hC) ?_
  refine s_cons ?_
  walk_at "go"
  refine e_compN (fun i => encQ (conv f g i)) ?_ (by kernel_rfl) (by kernel_rfl) (by kernel_rfl) (by kernel_rfl) (by intro _ _; kernel_rfl)
  walk_at "go"
  · refine ⟨min n m, intE (by omega), by omega, rfl, by rw [rng_len]; omega, fun i d hd => ?_, ?_⟩
    · obtain ⟨hi, rfl⟩ := rng_get hd
      have e : (0 : Int) + (i : Int) = (i : Int) := by omega
      rw [e]
      walk_at "go"
      refine wv_of (c_mixed hC f g n m i hn hm (by omega) (by omega) hf hg (Nat.le_trans (Nat.mul_le_mul_right _ (by omega)) hz) _) ?_ ?_
      · decide
      exact ⟨rfl, rfl⟩
    · rw [rng_len]
      walk_at "go"
  all_goals omega
theorem c_sinverse {C : Cx} (hC : C.K = KK C.w.params) {B : Nat} (f : Nat → Rat) (n : Nat) (hn : n ≤ 6) (h0 : f 0 ≠ 0) (hf : ∀ i, i < n → Sz B (f i)) (hB : B ≤ 20000) (β : Bx) :
    CallR C 4 128 [.d (.list (encF f n))] β (.list (encF (invF f) n)) β := by
  have hI : ∀ k, k < n → Sz (700 * (B + 1)) (invF f k) := fun k hk => (Sz.invF h0 hf k hk).le (ib6 B k (by omega))
  refine enter1 (F_sinverse hC) ?_
  refine s_cons ?_
  refine x_ifF ?_ ?_
  · walk_at "go"
    · intro hpos
      walk_at "go"
      refine sub_F 0 ?_ ?_ ?_ ?_
      · walk_at "go"
        · intro h; exact absurd h h0
        · intro _; exact ⟨rfl, rfl⟩
      all_goals omega
    · intro _
      exact ⟨rfl, rfl⟩
    · omega
  walk_at "go"
  refine x_forC (fun i ρc => i ≤ n ∧ ∃ L, L = encF (invF f) i ∧ ρc = ([("found", .own L), ("a", .d (.list (encF f n)))] : PEnv)) ?_ (by kernel_rfl) (by intro _ _; kernel_rfl)
  walk_at "go"
  · refine ⟨n, rfl, by omega, rfl, ⟨_, ⟨Nat.zero_le _, [], rfl, rfl⟩, ?_⟩, fun at' d ρc hd hJ => ?_, fun ρc ρ' hJ hs => ?_⟩
    · walk_at "sub"
    · obtain ⟨hi, rfl⟩ := rng_get hd
      obtain ⟨_, L, rfl, rfl⟩ := hJ
      have e0 : (0 : Int) + (at' : Int) = (at' : Int) := by omega
      rw [e0]
      refine s_cons ?_
      refine x_assignV (encQ (dl at')) ?_ ?_ (by kernel_rfl) (by intro e he; cases e; cases he; kernel_rfl)
      · walk_at "go"
        · intro h
          walk_at "go"
          refine ⟨?_, rfl⟩
          have : at' = 0 := by omega
          subst this; rfl
        · intro h
          walk_at "go"
          refine ⟨?_, rfl⟩
          rw [dl, if_neg (by omega)]
      walk_at "go"
      refine x_forC (fun j ρc => j ≤ at' ∧ ∃ q, q = dl at' - sumF (fun s => f (s + 1) * invF f (at' - 1 - s)) j ∧ ρc = ([("total", .d (encQ q)), ("at", .d (.int at')), ("found", .own (encF (invF f) at')), ("a", .d (.list (encF f n)))] : PEnv)) ?_ (by kernel_rfl) (by intro _ _; kernel_rfl)
      walk_at "go"
      refine ⟨1, at', rfl, intE (by omega), by omega, rfl, ⟨_, ⟨Nat.zero_le _, dl at', by simp only [sumF]; grind, rfl⟩, ?_⟩, fun j d ρc hd hJ => ?_, fun ρc ρ' hJ hs => ?_⟩
      · walk_at "sub"
      · obtain ⟨hj, rfl⟩ := rng_get hd
        obtain ⟨_, q, hq, rfl⟩ := hJ
        have hs1 : Sz (j * (B + 700 * (B + 1) + 1)) (sumF (fun s => f (s + 1) * invF f (at' - 1 - s)) j) := Sz.sumF fun s hs => (hf (s + 1) (by omega)).mul (hI (at' - 1 - s) (by omega))
        have hSz : Sz (0 + j * (B + 700 * (B + 1) + 1) + 1) q := by rw [hq]; exact (Sz.dl at' 0).sub hs1
        have hj6 : j * (B + 700 * (B + 1) + 1) ≤ 6 * (B + 700 * (B + 1) + 1) := Nat.mul_le_mul_right _ (by omega)
        walk_at "go"
        refine sub_F (j + 1) ?_ ?_ ?_ ?_
        · walk_at "go"
          refine sub_O (at' - 1 - j) ?_ ?_ ?_ ?_
          · walk_at "go"
            refine wv_of (c_rmul hC _ _ (hf (j + 1) (by omega)) (hI (at' - 1 - j) (by omega)) (by omega) _) ?_ ?_
            · decide
            walk_at "go"
            refine wv_of (c_rsub hC _ _ hSz ((hf (j + 1) (by omega)).mul (hI (at' - 1 - j) (by omega))) (by omega) _) ?_ ?_
            · decide
            walk_at "go"
            refine ⟨_, ⟨by omega, _, ?_, rfl⟩, by walk_at "sub"⟩
            rw [hq]
            simp only [sumF]
            grind
          all_goals omega
        all_goals omega
      · obtain ⟨_, q, hq, rfl⟩ := hJ
        rw [rng_len] at hq
        have hs1 : Sz (at' * (B + 700 * (B + 1) + 1)) (sumF (fun s => f (s + 1) * invF f (at' - 1 - s)) at') := Sz.sumF fun s hs => (hf (s + 1) (by omega)).mul (hI (at' - 1 - s) (by omega))
        have hSz : Sz (0 + at' * (B + 700 * (B + 1) + 1) + 1) q := by rw [hq]; exact (Sz.dl at' 0).sub hs1
        have hj6 : at' * (B + 700 * (B + 1) + 1) ≤ 6 * (B + 700 * (B + 1) + 1) := Nat.mul_le_mul_right _ (by omega)
        refine WS.weaken ?_ hs
        walk_at "go"
        refine sub_F 0 ?_ ?_ ?_ ?_
        · walk_at "go"
          refine wv_of (c_rdiv hC _ _ h0 hSz (hf 0 (by omega)) (by omega) _) ?_ ?_
          · decide
          refine ⟨?_, ?_⟩
          · rw [hq, invF_eq]; rfl
          walk_at "go"
          exact ⟨_, ⟨by omega, _, rfl, rfl⟩, by walk_at "sub"⟩
        all_goals omega
    · obtain ⟨_, L, rfl, rfl⟩ := hJ
      rw [rng_len] at hs
      refine WS.weaken ?_ hs
      walk_at "go"
  · omega
set_option maxHeartbeats 200000




theorem c_need {C : Cx} (hC : C.K = KK C.w.params) {B : Nat} (f : Nat → Rat) (n : Nat) (q : Rat) (hn : n ≤ 1000) (h0 : f 0 = q) (hf : ∀ i, i < n → Sz B (f i)) (hq : Sz 0 q) (hB : B ≤ 10000000) (β : Bx) : CallR C 2 145 [.d (.list (encF f n)), .d (encQ q)] β .none β := by
  refine enter2N (F_need_begin hC) ?_
  refine s_cons ?_
  refine x_ifF ?_ ?_
  · walk_at "go"
    · intro hpos
      walk_at "go"
      refine sub_F 0 ?_ ?_ ?_ ?_
      · walk_at "go"
        refine wv_of (c_rcompare hC _ _ (hf 0 (by omega)) hq (by omega) _) ?_ ?_
        · decide
        walk_at "go"
        · intro h
          exfalso
          rw [h0] at h
          simp at h
        · intro _; exact ⟨rfl, rfl⟩
      all_goals omega
    · intro _
      exact ⟨rfl, rfl⟩
    · omega
  walk_at "go"
theorem c_sexp {C : Cx} (hC : C.K = KK C.w.params) {B : Nat} (f : Nat → Rat) (n : Nat) (hn : n ≤ 6) (h0 : f 0 = 0) (hf : ∀ i, i < n → Sz B (f i)) (hB : B ≤ 20000) (β : Bx) :
    CallR C 4 152 [.d (.list (encF f n))] β (.list (encF (expF f) n)) β := by
  have hI : ∀ k, k < n → Sz (460 * (B + 5)) (expF f k) := fun k hk => (Sz.expF (by omega) hf k hk).le (eb6 B k (by omega))
  refine enter1 (F_sexp hC) ?_
  refine s_cons ?_
  walk_at "go"
  refine wv_of (c_need hC f n 0 (by omega) h0 hf Sz.zero (by omega) _) ?_ ?_
  · decide
  walk_at "go"
  refine x_forC (fun i ρc => i ≤ n ∧ ∃ L, L = encF (expF f) i ∧ ρc = ([("found", .own L), ("a", .d (.list (encF f n)))] : PEnv)) ?_ (by kernel_rfl) (by intro _ _; kernel_rfl)
  walk_at "go"
  · refine ⟨n, rfl, by omega, rfl, ⟨_, ⟨Nat.zero_le _, [], rfl, rfl⟩, ?_⟩, fun at' d ρc hd hJ => ?_, fun ρc ρ' hJ hs => ?_⟩
    · walk_at "sub"
    · obtain ⟨hi, rfl⟩ := rng_get hd
      obtain ⟨_, L, rfl, rfl⟩ := hJ
      have e0 : (0 : Int) + (at' : Int) = (at' : Int) := by omega
      rw [e0]
      walk_at "go"
      refine x_forC (fun j ρc => j ≤ at' ∧ ∃ q, q = sumF (fun s => ((s + 1 : Nat) : Rat) * f (s + 1) * expF f (at' - 1 - s)) j ∧ ρc = ([("total", .d (encQ q)), ("at", .d (.int at')), ("found", .own (encF (expF f) at')), ("a", .d (.list (encF f n)))] : PEnv)) ?_ (by kernel_rfl) (by intro _ _; kernel_rfl)
      walk_at "go"
      have hS : ∀ j, j ≤ at' → Sz (j * (3 + B + 460 * (B + 5) + 1)) (sumF (fun s => ((s + 1 : Nat) : Rat) * f (s + 1) * expF f (at' - 1 - s)) j) := fun j hj => Sz.sumF fun s hs => ((Sz.nat (show s + 1 ≤ 2 ^ 3 by omega)).mul (hf (s + 1) (by omega))).mul (hI (at' - 1 - s) (by omega))
      refine ⟨1, at', rfl, intE (by omega), by omega, rfl, ⟨_, ⟨Nat.zero_le _, 0, rfl, rfl⟩, ?_⟩, fun j d ρc hd hJ => ?_, fun ρc ρ' hJ hs => ?_⟩
      · walk_at "sub"
      · obtain ⟨hj, rfl⟩ := rng_get hd
        obtain ⟨_, q, hq, rfl⟩ := hJ
        have hSz := hS j (by omega)
        rw [← hq] at hSz
        have hj6 : j * (3 + B + 460 * (B + 5) + 1) ≤ 6 * (3 + B + 460 * (B + 5) + 1) := Nat.mul_le_mul_right _ (by omega)
        walk_at "go"
        refine sub_F (j + 1) ?_ ?_ ?_ ?_
        · walk_at "go"
          refine wv_of (c_rmulN hC (j + 1) _ (by omega) (by omega) _ (hf (j + 1) (by omega)) (by omega) _) ?_ ?_
          · decide
          walk_at "go"
          refine sub_O (at' - 1 - j) ?_ ?_ ?_ ?_
          · walk_at "go"
            refine wv_of (c_rmul hC _ _ ((Sz.nat (show j + 1 ≤ 2 ^ 3 by omega)).mul (hf (j + 1) (by omega))) (hI (at' - 1 - j) (by omega)) (by omega) _) ?_ ?_
            · decide
            walk_at "go"
            refine wv_of (c_radd hC _ _ hSz (((Sz.nat (show j + 1 ≤ 2 ^ 3 by omega)).mul (hf (j + 1) (by omega))).mul (hI (at' - 1 - j) (by omega))) (by omega) _) ?_ ?_
            · decide
            walk_at "go"
            refine ⟨_, ⟨by omega, _, ?_, rfl⟩, by walk_at "sub"⟩
            rw [hq]; rfl
          all_goals omega
        all_goals omega
      · obtain ⟨_, q, hq, rfl⟩ := hJ
        rw [rng_len] at hq
        have hSz := hS at' (by omega)
        rw [← hq] at hSz
        have hj6 : at' * (3 + B + 460 * (B + 5) + 1) ≤ 6 * (3 + B + 460 * (B + 5) + 1) := Nat.mul_le_mul_right _ (by omega)
        refine WS.weaken ?_ hs
        walk_at "go"
        · intro h
          walk_at "go"
          refine ⟨?_, ?_⟩
          · rw [expF_eq, expT, if_pos (by omega)]
          walk_at "go"
          exact ⟨_, ⟨by omega, _, rfl, rfl⟩, by walk_at "sub"⟩
        · intro h
          walk_at "go"
          refine wv_of (c_rdivN hC at' _ rfl (by omega) (by omega) _ hSz (by omega) _) ?_ ?_
          · decide
          refine ⟨?_, ?_⟩
          · rw [hq, expF_eq, expT, if_neg (by omega)]
          walk_at "go"
          exact ⟨_, ⟨by omega, _, rfl, rfl⟩, by walk_at "sub"⟩
    · obtain ⟨_, L, rfl, rfl⟩ := hJ
      rw [rng_len] at hs
      refine WS.weaken ?_ hs
      walk_at "go"
  · omega
theorem c_ssin_cos {C : Cx} (hC : C.K = KK C.w.params) {B : Nat} (f : Nat → Rat) (n : Nat) (hn : n ≤ 6) (h0 : f 0 = 0) (hf : ∀ i, i < n → Sz B (f i)) (hB : B ≤ 20000) (β : Bx) :
    CallR C 4 166 [.d (.list (encF f n))] β (.tuple [.list (encF (fun i => (scF f i).1) n), .list (encF (fun i => (scF f i).2) n)]) β := by
  have hI : ∀ k, k < n → Sz (460 * (B + 6)) (scF f k).1 ∧ Sz (460 * (B + 6)) (scF f k).2 := fun k hk => ⟨(Sz.scF (by omega) hf k hk).1.le (eb6 (B + 1) k (by omega)), (Sz.scF (by omega) hf k hk).2.le (eb6 (B + 1) k (by omega))⟩
  refine enter1 (F_ssin_cos hC) ?_
  refine s_cons ?_
  walk_at "go"
  refine wv_of (c_need hC f n 0 (by omega) h0 hf Sz.zero (by omega) _) ?_ ?_
  · decide
  walk_at "go"
  refine x_forC (fun i ρc => i ≤ n ∧ ∃ L1 L2, L1 = encF (fun i => (scF f i).1) i ∧ L2 = encF (fun i => (scF f i).2) i ∧ ρc = ([("sines", .own L1), ("others", .own L2), ("a", .d (.list (encF f n)))] : PEnv)) ?_ (by kernel_rfl) (by intro _ _; kernel_rfl)
  walk_at "go"
  · refine ⟨n, rfl, by omega, rfl, ⟨_, ⟨Nat.zero_le _, [], [], rfl, rfl, rfl⟩, ?_⟩, fun at' d ρc hd hJ => ?_, fun ρc ρ' hJ hs => ?_⟩
    · walk_at "sub"
    · obtain ⟨hi, rfl⟩ := rng_get hd
      obtain ⟨_, L1, L2, rfl, rfl, rfl⟩ := hJ
      have e0 : (0 : Int) + (at' : Int) = (at' : Int) := by omega
      rw [e0]
      walk_at "go"
      have hS1 : ∀ j, j ≤ at' → Sz (j * (3 + B + 460 * (B + 6) + 1)) (sumF (fun s => ((s + 1 : Nat) : Rat) * f (s + 1) * (scF f (at' - 1 - s)).2) j) := fun j hj => Sz.sumF fun s hs => ((Sz.nat (show s + 1 ≤ 2 ^ 3 by omega)).mul (hf (s + 1) (by omega))).mul (hI (at' - 1 - s) (by omega)).2
      have hS2 : ∀ j, j ≤ at' → Sz (0 + j * (3 + B + 460 * (B + 6) + 1) + 1) (0 - sumF (fun s => ((s + 1 : Nat) : Rat) * f (s + 1) * (scF f (at' - 1 - s)).1) j) := fun j hj => Sz.zero.sub (Sz.sumF fun s hs => ((Sz.nat (show s + 1 ≤ 2 ^ 3 by omega)).mul (hf (s + 1) (by omega))).mul (hI (at' - 1 - s) (by omega)).1)
      refine x_forC (fun j ρc => j ≤ at' ∧ ∃ q r, q = sumF (fun s => ((s + 1 : Nat) : Rat) * f (s + 1) * (scF f (at' - 1 - s)).2) j ∧ r = 0 - sumF (fun s => ((s + 1 : Nat) : Rat) * f (s + 1) * (scF f (at' - 1 - s)).1) j ∧
        ρc = ([("one", .d (encQ q)), ("other", .d (encQ r)), ("at", .d (.int at')), ("sines", .own (encF (fun i => (scF f i).1) at')), ("others", .own (encF (fun i => (scF f i).2) at')), ("a", .d (.list (encF f n)))] : PEnv)) ?_ (by kernel_rfl) (by intro _ _; kernel_rfl)
      walk_at "go"
      refine ⟨1, at', rfl, intE (by omega), by omega, rfl, ⟨_, ⟨Nat.zero_le _, 0, 0, rfl, by simp only [sumF]; grind, rfl⟩, ?_⟩, fun j d ρc hd hJ => ?_, fun ρc ρ' hJ hs => ?_⟩
      · walk_at "sub"
      · obtain ⟨hj, rfl⟩ := rng_get hd
        obtain ⟨_, q, r, hq, hr, rfl⟩ := hJ
        have hSz1 := hS1 j (by omega)
        have hSz2 := hS2 j (by omega)
        rw [← hq] at hSz1
        rw [← hr] at hSz2
        have hj6 : j * (3 + B + 460 * (B + 6) + 1) ≤ 6 * (3 + B + 460 * (B + 6) + 1) := Nat.mul_le_mul_right _ (by omega)
        have hmv := (Sz.nat (show j + 1 ≤ 2 ^ 3 by omega)).mul (hf (j + 1) (by omega))
        walk_at "go"
        refine sub_F (j + 1) ?_ ?_ ?_ ?_
        · walk_at "go"
          refine wv_of (c_rmulN hC (j + 1) _ (by omega) (by omega) _ (hf (j + 1) (by omega)) (by omega) _) ?_ ?_
          · decide
          walk_at "go"
          refine sub_O (at' - 1 - j) ?_ ?_ ?_ ?_
          · walk_at "go"
            refine wv_of (c_rmul hC _ _ hmv (hI (at' - 1 - j) (by omega)).2 (by omega) _) ?_ ?_
            · decide
            walk_at "go"
            refine wv_of (c_radd hC _ _ hSz1 (hmv.mul (hI (at' - 1 - j) (by omega)).2) (by omega) _) ?_ ?_
            · decide
            walk_at "go"
            refine sub_O (at' - 1 - j) ?_ ?_ ?_ ?_
            · walk_at "go"
              refine wv_of (c_rmul hC _ _ hmv (hI (at' - 1 - j) (by omega)).1 (by omega) _) ?_ ?_
              · decide
              walk_at "go"
              refine wv_of (c_rsub hC _ _ hSz2 (hmv.mul (hI (at' - 1 - j) (by omega)).1) (by omega) _) ?_ ?_
              · decide
              walk_at "go"
              refine ⟨_, ⟨by omega, _, _, ?_, ?_, rfl⟩, by walk_at "sub"⟩
              · rw [hq]; rfl
              · rw [hr]; simp only [sumF]; grind
            all_goals omega
          all_goals omega
        all_goals omega
      · obtain ⟨_, q, r, hq, hr, rfl⟩ := hJ
        rw [rng_len] at hq hr
        have hSz1 := hS1 at' (by omega)
        have hSz2 := hS2 at' (by omega)
        rw [← hq] at hSz1
        rw [← hr] at hSz2
        have hj6 : at' * (3 + B + 460 * (B + 6) + 1) ≤ 6 * (3 + B + 460 * (B + 6) + 1) := Nat.mul_le_mul_right _ (by omega)
        refine WS.weaken ?_ hs
        walk_at "go"
        · intro h
          walk_at "go"
          refine ⟨?_, ?_⟩
          · have : (scF f at').1 = 0 := by rw [scF_eq, scT]; simp only; rw [if_pos (by omega)]
            rw [this]
          walk_at "go"
          · intro h
            walk_at "go"
            refine ⟨?_, ?_⟩
            · have : (scF f at').2 = 1 := by rw [scF_eq, scT]; simp only; rw [if_pos (by omega)]
              rw [this]
            walk_at "go"
            exact ⟨_, ⟨by omega, _, _, rfl, rfl, rfl⟩, by walk_at "sub"⟩
          · intro h2; omega
        · intro h
          walk_at "go"
          refine wv_of (c_rdivN hC at' _ rfl (by omega) (by omega) _ hSz1 (by omega) _) ?_ ?_
          · decide
          refine ⟨?_, ?_⟩
          · have : (scF f at').1 = q / (at' : Rat) := by rw [scF_eq, scT]; simp only; rw [if_neg (by omega), hq]
            rw [this]
          walk_at "go"
          · intro h2; omega
          · intro h2
            walk_at "go"
            refine wv_of (c_rdivN hC at' _ rfl (by omega) (by omega) _ hSz2 (by omega) _) ?_ ?_
            · decide
            refine ⟨?_, ?_⟩
            · have : (scF f at').2 = r / (at' : Rat) := by rw [scF_eq, scT]; simp only; rw [if_neg (by omega), hr]
              rw [this]
            walk_at "go"
            exact ⟨_, ⟨by omega, _, _, rfl, rfl, rfl⟩, by walk_at "sub"⟩
    · obtain ⟨_, L1, L2, rfl, rfl, rfl⟩ := hJ
      rw [rng_len] at hs
      refine WS.weaken ?_ hs
      walk_at "go"
  · omega
theorem c_ssin {C : Cx} (hC : C.K = KK C.w.params) {B : Nat} (f : Nat → Rat) (n : Nat) (hn : n ≤ 6) (h0 : f 0 = 0) (hf : ∀ i, i < n → Sz B (f i)) (hB : B ≤ 20000) (β : Bx) :
    CallR C 5 173 [.d (.list (encF f n))] β (.list (encF (fun i => (scF f i).1) n)) β := by
  refine enter1 (F_ssin hC) ?_
  refine s_cons ?_
  walk_at "go"
  refine wv_of (c_ssin_cos hC f n hn h0 hf hB _) ?_ ?_
  · decide
  walk_at "go"
theorem c_scos {C : Cx} (hC : C.K = KK C.w.params) {B : Nat} (f : Nat → Rat) (n : Nat) (hn : n ≤ 6) (h0 : f 0 = 0) (hf : ∀ i, i < n → Sz B (f i)) (hB : B ≤ 20000) (β : Bx) :
    CallR C 5 180 [.d (.list (encF f n))] β (.list (encF (fun i => (scF f i).2) n)) β := by
  refine enter1 (F_scos hC) ?_
  refine s_cons ?_
  walk_at "go"
  refine wv_of (c_ssin_cos hC f n hn h0 hf hB _) ?_ ?_
  · decide
  walk_at "go"
theorem c_sderive {C : Cx} (hC : C.K = KK C.w.params) {B : Nat} (f : Nat → Rat) (n : Nat) (hn : n ≤ 6) (hf : ∀ i, i < n + 1 → Sz B (f i)) (hB : B ≤ 90000000) (β : Bx) :
    CallR C 4 133 [.d (.list (encF f (n + 1)))] β (.list (encF (derF f) n)) β := by
  refine enter1 (F_sderive hC) ?_
  refine s_cons ?_
  walk_at "go"
  refine e_compN (fun i => encQ (derF f i)) ?_ (by kernel_rfl) (by kernel_rfl) (by kernel_rfl) (by kernel_rfl) (by intro _ _; kernel_rfl)
  walk_at "go"
  · refine ⟨1, n, rfl, intE (by omega), by omega, rfl, by rw [rng_len]; omega, fun i d hd => ?_, ?_⟩
    · obtain ⟨hi, rfl⟩ := rng_get hd
      walk_at "go"
      refine sub_F (i + 1) ?_ ?_ ?_ ?_
      · walk_at "go"
        refine wv_of (c_rmulN hC (i + 1) _ (by omega) (by omega) _ (hf (i + 1) (by omega)) (by omega) _) ?_ ?_
        · decide
        exact ⟨rfl, rfl⟩
      all_goals omega
    · rw [rng_len]
      walk_at "go"
  · omega
theorem c_sintegrate {C : Cx} (hC : C.K = KK C.w.params) {B : Nat} (f : Nat → Rat) (n : Nat) (hn : n ≤ 6) (hf : ∀ i, i < n → Sz B (f i)) (hB : B ≤ 90000000) (β : Bx) :
    CallR C 4 138 [.d (.list (encF f n))] β (.list (encF (intF f) (n + 1))) β := by
  refine enter1 (F_sintegrate hC) ?_
  refine s_cons ?_
  walk_at "go"
  refine e_compN (fun i => encQ (f i / ((i + 1 : Nat) : Rat))) ?_ (by kernel_rfl) (by kernel_rfl) (by kernel_rfl) (by kernel_rfl) (by intro _ _; kernel_rfl)
  walk_at "go"
  · refine ⟨n, rfl, by omega, rfl, by rw [rng_len]; omega, fun i d hd => ?_, ?_⟩
    · obtain ⟨hi, rfl⟩ := rng_get hd
      walk_at "go"
      refine sub_F i ?_ ?_ ?_ ?_
      · walk_at "go"
        refine wv_of (c_rdivN hC (i + 1) _ (by omega) (by omega) (by omega) _ (hf i (by omega)) (by omega) _) ?_ ?_
        · decide
        exact ⟨rfl, rfl⟩
      all_goals omega
    · rw [rng_len]
      refine b_join (by simp; omega) ?_
      walk_at "go"
      refine ⟨?_, rfl⟩
      rw [encF_map (f := fun i => f i / ((i + 1 : Nat) : Rat)), encF_cons]
      rfl
  · omega
set_option maxHeartbeats 200000




/-! ## Laurent shapes -/
noncomputable def encL (l : Nat) (f : Nat → Rat) (n : Nat) : PyData := .tuple [.int (l : Int), .list (encF f n)]
noncomputable def cst (q : Rat) (i : Nat) : Rat := if i = 0 then q else 0
noncomputable def shF (j : Nat) (f : Nat → Rat) (i : Nat) : Rat := if i < j then 0 else f (i - j)
noncomputable def lz (f : Nat → Rat) : Nat → Nat
  | 0 => 0
  | n + 1 => if f 0 = 0 then lz (fun i => f (i + 1)) n + 1 else 0
theorem lz_le : ∀ (n : Nat) (f : Nat → Rat), lz f n ≤ n
  | 0, _ => Nat.le_refl _
  | n + 1, f => by
    unfold lz
    split
    · exact Nat.succ_le_succ (lz_le n _)
    · exact Nat.zero_le _
theorem lz_zero : ∀ (n : Nat) (f : Nat → Rat) (i : Nat), i < lz f n → f i = 0
  | 0, _, i, h => absurd h (Nat.not_lt_zero _)
  | n + 1, f, i, h => by
    unfold lz at h
    split at h
    · rename_i h0
      cases i with
      | zero => exact h0
      | succ i => exact lz_zero n (fun i => f (i + 1)) i (Nat.lt_of_succ_lt_succ h)
    · exact absurd h (Nat.not_lt_zero _)
theorem lz_end : ∀ (n : Nat) (f : Nat → Rat), lz f n = n ∨ f (lz f n) ≠ 0
  | 0, _ => .inl rfl
  | n + 1, f => by
    unfold lz
    split
    · rcases lz_end n (fun i => f (i + 1)) with h | h
      · exact .inl (by rw [h])
      · exact .inr h
    · rename_i h; exact .inr h
theorem lz_ne {f : Nat → Rat} {n : Nat} (h : f 0 ≠ 0) : lz f n = 0 := by
  cases n with
  | zero => rfl
  | succ n => unfold lz; rw [if_neg h]
theorem enc0 : encQ 0 = .tuple [.int 0, .int 1] := rfl
theorem encF_nil (f : Nat → Rat) : encF f 0 = [] := rfl
theorem encF_cst (q : Rat) (n : Nat) : encQ q :: List.replicate n (encQ 0) = encF (cst q) (n + 1) := by
  rw [encF_cons, encF_rep]; rfl
theorem encF_shift (f : Nat → Rat) (j n : Nat) : List.replicate j (encQ 0) ++ encF f n = encF (shF j f) (j + n) := by
  rw [encF_rep, encF_app]; rfl
theorem Sz.shF {f : Nat → Rat} {B j n : Nat} (h : ∀ i, i < n → Sz B (f i)) : ∀ i, i < j + n → Sz B (shF j f i) := fun i hi => by
  unfold Mine.shF
  split
  · exact Sz.zero
  · exact h (i - j) (by omega)
theorem conv_dl (f : Nat → Rat) (n : Nat) : conv dl f n = f n := by
  unfold conv
  have : ∀ m, m ≤ n → sumF (fun s => dl s * f (n - s)) (m + 1) = f n := fun m => by
    induction m with
    | zero =>
      intro _
      simp only [sumF, dl, if_true, Nat.sub_zero]
      grind
    | succ m ih =>
      intro hm
      unfold sumF
      rw [ih (by omega), dl, if_neg (by omega)]
      grind
  exact this n (Nat.le_refl _)
theorem conv_dl' (f : Nat → Rat) : conv dl f = f := funext (conv_dl f)
theorem Sz.logF {f : Nat → Rat} {B n : Nat} (hn : n ≤ 6) (h0 : f 0 ≠ 0) (hf : ∀ i, i < n → Sz B (f i)) : ∀ k, k < n → Sz (700 * (B + 5)) (logF f k) := fun k hk => by
  unfold Mine.logF intF
  split
  · exact Sz.zero
  · have hI : ∀ i, i < k → Sz (129 * (B + 1)) (Mine.invF f i) := fun i hi => by
      refine (Sz.invF h0 hf i (by omega)).le (Nat.le_trans (ib_mono B (ib B) (ib_le B) (show i ≤ 4 by omega)) ?_)
      simp only [ib]; omega
    have hD : ∀ i, i < k → Sz (3 + B) (derF f i) := fun i hi => (Sz.nat (show i + 1 ≤ 2 ^ 3 by omega)).mul (hf (i + 1) (by omega))
    have hc := Sz.conv (n := k - 1) (m := k) hD hI (by omega)
    refine (hc.div (nat_ne (by omega)) (Sz.nat (show k ≤ 2 ^ 3 by omega))).le ?_
    have : (k - 1 + 1) * (3 + B + 129 * (B + 1) + 1) ≤ 5 * (3 + B + 129 * (B + 1) + 1) := Nat.mul_le_mul_right _ (by omega)
    omega
theorem c_slog {C : Cx} (hC : C.K = KK C.w.params) {B : Nat} (f : Nat → Rat) (n : Nat) (hn : n + 1 ≤ 6) (h0 : f 0 = 1) (hf : ∀ i, i < n + 1 → Sz B (f i)) (hB : B ≤ 10000) (β : Bx) :
    CallR C 6 159 [.d (.list (encF f (n + 1)))] β (.list (encF (logF f) (n + 1))) β := by
  have hne : f 0 ≠ 0 := by rw [h0]; decide
  have hI : ∀ k, k < n + 1 → Sz (700 * (B + 1)) (invF f k) := fun k hk => (Sz.invF hne hf k hk).le (ib6 B k (by omega))
  have hD : ∀ i, i < n → Sz (3 + B) (derF f i) := fun i hi => (Sz.nat (show i + 1 ≤ 2 ^ 3 by omega)).mul (hf (i + 1) (by omega))
  refine enter1 (F_slog hC) ?_
  refine s_cons ?_
  walk_at "go"
  refine wv_of (c_need hC f (n + 1) 1 (by omega) h0 hf Sz.one (by omega) _) ?_ ?_
  · decide
  walk_at "go"
  · intro h; exfalso; omega
  · intro _
    walk_at "go"
    refine wv_of (c_sderive hC f n (by omega) hf (by omega) _) ?_ ?_
    · decide
    walk_at "go"
    refine wv_of (c_sinverse hC f (n + 1) (by omega) hne hf (by omega) _) ?_ ?_
    · decide
    walk_at "go"
    refine wv_of (c_smul hC (derF f) (invF f) n (n + 1) (by omega) (by omega) hD hI ?_ _) ?_ ?_
    · have : (n + 2) * (3 + B + 700 * (B + 1) + 1) ≤ 8 * (3 + B + 700 * (B + 1) + 1) := Nat.mul_le_mul_right _ (by omega)
      omega
    · decide
    rw [Nat.min_eq_left (Nat.le_succ n)]
    walk_at "go"
    refine wv_of (c_sintegrate hC (conv (derF f) (invF f)) n (by omega) (B := 6 * (3 + B + 700 * (B + 1) + 1)) (fun i hi => (Sz.conv (m := n) hD (fun i hi => hI i (by omega)) hi).le (Nat.mul_le_mul_right _ (by omega))) (by omega) _) ?_ ?_
    · decide
    walk_at "go"
  · omega
theorem c_wp1 {C : Cx} (hC : C.K = KK C.w.params) {B : Nat} (f : Nat → Rat) (n : Nat) (hn : n ≤ 6) (hf : ∀ i, i < n → Sz B (f i)) (hB : B ≤ 6000000) (β : Bx) :
    CallR C 6 201 [.d (.list (encF f n)), .d (.int 1)] β (.list (encF f n)) β := by
  have h8 : ∀ x, (n + 2) * (x + 1) ≤ 8 * (x + 1) := fun x => Nat.mul_le_mul_right _ (by omega)
  refine enter2 (F_swhole_power hC) ?_
  refine s_cons ?_
  walk_at "go"
  · intro h; exfalso; omega
  intro _
  walk_at "go"
  refine wv_of (by rw [show [encQ 1] = encF (fun _ => 1) 1 from rfl]; exact c_cut hC (fun _ => 1) 1 n (by omega) (by omega) _) ?_ ?_
  · decide
  rw [show (fun i => if i < 1 then (1 : Rat) else 0) = dl from funext fun i => by unfold dl; congr 1; simp]
  walk_at "go"
  refine x_whileC (fun m ρc => (m = 1 ∧ ∃ e : Int, e = 1 ∧ ρc = ([("found", .d (.list (encF dl n))), ("left", .d (.int e)), ("base", .d (.list (encF f n)))] : PEnv)) ∨ (m = 0 ∧ ∃ e : Int, e = 0 ∧ ∃ g, ρc = ([("found", .d (.list (encF f n))), ("left", .d (.int e)), ("base", .d g)] : PEnv))) (n₀ := 1) (.inl ⟨rfl, ((Int.natAbs 1 : Nat) : Int), rfl, rfl⟩) (by walk_at "sub") ?step
  rintro m ρc (⟨rfl, e, he, rfl⟩ | ⟨rfl, e, he, g, rfl⟩)
  · walk_at "go"
    · intro _
      walk_at "go"
      · intro _
        walk_at "go"
        refine wv_of (c_smul hC dl f n n (by omega) (by omega) (fun i _ => Sz.dl i 0) hf (by have := h8 (0 + B); omega) _) ?_ ?_
        · decide
        rw [Nat.min_self, conv_dl']
        walk_at "go"
        refine wv_of (c_smul hC f f n n (by omega) (by omega) hf hf (by have := h8 (B + B); omega) _) ?_ ?_
        · decide
        walk_at "go"
        · exact ⟨0, _, by omega, .inr ⟨rfl, e.fdiv 2, by rw [he]; rfl, _, rfl⟩, by walk_at "sub"⟩
        · decide
      · intro h; exfalso; exact h (by rw [he]; rfl)
      · decide
    · intro h; exfalso; exact h (by rw [he]; decide)
  · walk_at "go"
    · intro h; exfalso; omega
    · intro _ ρ₁ hs
      refine WS.weaken ?_ hs
      walk_at "go"
  · omega
theorem c_wp2 {C : Cx} (hC : C.K = KK C.w.params) {B : Nat} (f : Nat → Rat) (n : Nat) (hn : n ≤ 6) (hf : ∀ i, i < n → Sz B (f i)) (hB : B ≤ 1000) (β : Bx) :
    CallR C 6 201 [.d (.list (encF f n)), .d (.int 2)] β (.list (encF (conv f f) n)) β := by
  have h8 : ∀ x, (n + 2) * (x + 1) ≤ 8 * (x + 1) := fun x => Nat.mul_le_mul_right _ (by omega)
  have h2 : ∀ i, i < n → Sz (6 * (B + B + 1)) (conv f f i) := fun i hi => (Sz.conv (m := n) hf hf hi).le (Nat.mul_le_mul_right _ (by omega))
  refine enter2 (F_swhole_power hC) ?_
  refine s_cons ?_
  walk_at "go"
  · intro h; exfalso; omega
  intro _
  walk_at "go"
  refine wv_of (by rw [show [encQ 1] = encF (fun _ => 1) 1 from rfl]; exact c_cut hC (fun _ => 1) 1 n (by omega) (by omega) _) ?_ ?_
  · decide
  rw [show (fun i => if i < 1 then (1 : Rat) else 0) = dl from funext fun i => by unfold dl; congr 1; simp]
  walk_at "go"
  refine x_whileC (fun m ρc => (m = 2 ∧ ∃ e : Int, e = 2 ∧ ρc = ([("found", .d (.list (encF dl n))), ("left", .d (.int e)), ("base", .d (.list (encF f n)))] : PEnv)) ∨ (m = 1 ∧ ∃ e : Int, e = 1 ∧ ρc = ([("found", .d (.list (encF dl n))), ("left", .d (.int e)), ("base", .d (.list (encF (conv f f) n)))] : PEnv)) ∨ (m = 0 ∧ ∃ e : Int, e = 0 ∧ ∃ g, ρc = ([("found", .d (.list (encF (conv f f) n))), ("left", .d (.int e)), ("base", .d g)] : PEnv))) (n₀ := 2) (.inl ⟨rfl, ((Int.natAbs 2 : Nat) : Int), rfl, rfl⟩) (by walk_at "sub") ?step
  rintro m ρc (⟨rfl, e, he, rfl⟩ | ⟨rfl, e, he, rfl⟩ | ⟨rfl, e, he, g, rfl⟩)
  · walk_at "go"
    · intro _
      walk_at "go"
      · intro h; exfalso; rw [he] at h; exact absurd h (by decide)
      · intro _
        walk_at "go"
        refine wv_of (c_smul hC f f n n (by omega) (by omega) hf hf (by have := h8 (B + B); omega) _) ?_ ?_
        · decide
        rw [Nat.min_self]
        walk_at "go"
        · exact ⟨1, _, by omega, .inr (.inl ⟨rfl, e.fdiv 2, by rw [he]; rfl, rfl⟩), by walk_at "sub"⟩
        · decide
      · decide
    · intro h; exfalso; exact h (by rw [he]; decide)
  · walk_at "go"
    · intro _
      walk_at "go"
      · intro _
        walk_at "go"
        refine wv_of (c_smul hC dl (conv f f) n n (by omega) (by omega) (fun i _ => Sz.dl i 0) h2 (by have := h8 (0 + 6 * (B + B + 1)); omega) _) ?_ ?_
        · decide
        rw [Nat.min_self, conv_dl']
        walk_at "go"
        refine wv_of (c_smul hC (conv f f) (conv f f) n n (by omega) (by omega) h2 h2 (by have := h8 (6 * (B + B + 1) + 6 * (B + B + 1)); omega) _) ?_ ?_
        · decide
        walk_at "go"
        · exact ⟨0, _, by omega, .inr (.inr ⟨rfl, e.fdiv 2, by rw [he]; rfl, _, rfl⟩), by walk_at "sub"⟩
        · decide
      · intro h; exfalso; exact h (by rw [he]; rfl)
      · decide
    · intro h; exfalso; exact h (by rw [he]; decide)
  · walk_at "go"
    · intro h; exfalso; omega
    · intro _ ρ₁ hs
      refine WS.weaken ?_ hs
      walk_at "go"
  · omega
set_option maxHeartbeats 4000000




theorem c_lplain {C : Cx} (hC : C.K = KK C.w.params) (q : Rat) (n : Nat) (hn : n + 1 ≤ 1000) (β : Bx) : CallR C 1 208 [.d (encQ q), .d (.int ((n + 1 : Nat) : Int))] β (encL 0 (cst q) (n + 1)) β := by
  refine enter2 (F_lplain hC) ?_
  refine s_cons ?_
  walk_at "go"
  refine ⟨_, _, rfl, rfl, by omega, by omega, ?_⟩
  refine b_join (by simp; omega) ?_
  walk_at "go"
  refine ⟨?_, rfl⟩
  rw [show (((n + 1 : Nat) : Int) - 1).toNat = n by omega, encL, ← encF_cst]
  rfl
theorem c_lmoved {C : Cx} (hC : C.K = KK C.w.params) (l : Nat) (f : Nat → Rat) (n : Nat) (hn : n ≤ 1000) (hl : l ≤ 1000) (β : Bx) : CallR C 1 215 [.d (encL l f n), .d (.int 0)] β (encL 0 (shF l f) (l + n)) β := by
  unfold encL
  refine enter2 (F_lmoved hC) ?_
  refine s_cons ?_
  walk_at "go"
  refine ⟨_, _, rfl, rfl, by omega, by omega, ?_⟩
  walk_at "go"
  refine b_join (by rw [List.length_replicate, encF_len]; omega) ?_
  walk_at "go"
  refine ⟨?_, rfl⟩
  rw [show ((l : Int) - 0).toNat = l by omega, encF_shift]
  rfl
theorem shF0 (f : Nat → Rat) : shF 0 f = f := funext fun i => by unfold shF; rw [if_neg (Nat.not_lt_zero _), Nat.sub_zero]
theorem c_ladd {C : Cx} (hC : C.K = KK C.w.params) {x y : Nat} (f : Nat → Rat) (n l : Nat) (g : Nat → Rat) (m : Nat) (hn : n ≤ 500) (hm : l + m ≤ 500) (hf : ∀ i, i < n → Sz x (f i)) (hg : ∀ i, i < m → Sz y (g i)) (hz : x + y ≤ 100000000) (β : Bx) :
    CallR C 5 222 [.d (encL 0 f n), .d (encL l g m)] β (encL 0 (fun i => f i + shF l g i) (min n (l + m))) β := by
  unfold encL
  refine enter2 (F_ladd hC) ?_
  refine s_cons ?_
  walk_at "go"
  rw [show min (((0 : Nat) : Int)) (l : Int) = 0 by omega]
  walk_at "go"
  refine wv_of (by have := c_lmoved hC 0 f n (by omega) (by omega) β; unfold encL at this; exact this) ?_ ?_
  · decide
  walk_at "go"
  refine wv_of (by have := c_lmoved hC l g m (by omega) (by omega) β; unfold encL at this; exact this) ?_ ?_
  · decide
  walk_at "go"
  refine wv_of (c_sadd hC (shF 0 f) (shF l g) (0 + n) (l + m) (by omega) (by omega) (by rw [shF0]; intro i hi; exact hf i (by omega)) (Sz.shF hg) hz _) ?_ ?_
  · decide
  walk_at "go"
  refine ⟨?_, rfl⟩
  rw [shF0, Nat.zero_add]
  rfl
theorem c_lmul {C : Cx} (hC : C.K = KK C.w.params) {x y : Nat} (l : Nat) (f : Nat → Rat) (n l2 : Nat) (g : Nat → Rat) (m : Nat) (hn : n ≤ 500) (hm : m ≤ 500) (hf : ∀ i, i < n → Sz x (f i)) (hg : ∀ i, i < m → Sz y (g i)) (hz : (n + 2) * (x + y + 1) ≤ 100000000) (β : Bx) :
    CallR C 6 229 [.d (encL l f n), .d (encL l2 g m)] β (encL (l + l2) (conv f g) (min n m)) β := by
  unfold encL
  refine enter2 (F_lmul hC) ?_
  refine s_cons ?_
  walk_at "go"
  refine wv_of (c_smul hC f g n m (by omega) (by omega) hf hg hz _) ?_ ?_
  · decide
  walk_at "go"
theorem c_ltrim {C : Cx} (hC : C.K = KK C.w.params) (l : Nat) (f : Nat → Rat) (n : Nat) (hn : n ≤ 500) (β : Bx) : CallR C 1 236 [.d (encL l f n)] β (encL (l + lz f n) (fun i => f (i + lz f n)) (n - lz f n)) β := by
  unfold encL
  refine enter1 (F_ltrim hC) ?_
  refine s_cons ?_
  walk_at "go"
  have hle := lz_le n f
  refine x_whileC (fun m ρc => ∃ j, j ≤ lz f n ∧ m = n - j ∧ ∃ e g, e = ((l + j : Nat) : Int) ∧ g = encF (fun i => f (i + j)) (n - j) ∧ ρc = ([("low", .d (.int e)), ("rest", .d (.list g))] : PEnv)) (n₀ := n) ⟨0, Nat.zero_le _, rfl, (l : Int), encF f n, rfl, rfl, rfl⟩ (by walk_at "sub") ?step
  rintro m ρc ⟨j, hj, rfl, e, g, rfl, rfl, rfl⟩
  walk_at "go"
  · intro hp
    walk_at "go"
    refine sub_F 0 ?_ ?_ ?_ ?_
    · walk_at "go"
      · intro hz
        have hlt : j < lz f n := by
          rcases Nat.lt_or_eq_of_le hj with h | h
          · exact h
          · exfalso
            rcases lz_end n f with e | e
            · omega
            · rw [← h] at e; exact e (by simpa using hz)
        walk_at "go"
        refine ⟨_, 1, rfl, rfl, by omega, by rw [encF_len]; omega, ?_⟩
        walk_at "go"
        refine ⟨n - (j + 1), _, by omega, ⟨j + 1, hlt, rfl, _, _, ?_, ?_, rfl⟩, by walk_at "sub"⟩
        · omega
        · rw [encF_drop, show n - j - (1 : Int).toNat = n - (j + 1) from by rw [show (1 : Int).toNat = 1 from rfl]; omega]
          refine encF_congr fun i _ => ?_
          show f (i + (1 : Int).toNat + j) = f (i + (j + 1))
          rw [show i + (1 : Int).toNat + j = i + (j + 1) from by rw [show (1 : Int).toNat = 1 from rfl]; omega]
      · intro hz
        walk_at "go"
        intro ρ₁ hs
        have ej : j = lz f n := by
          rcases Nat.lt_or_eq_of_le hj with h | h
          · exfalso
            have := lz_zero n f j h
            exact hz (by simpa using this)
          · exact h
        subst ej
        refine WS.weaken ?_ hs
        walk_at "go"
    all_goals omega
  · intro hp
    walk_at "go"
    intro ρ₁ hs
    have ej : j = lz f n := by omega
    subst ej
    refine WS.weaken ?_ hs
    walk_at "go"
  · omega
set_option maxHeartbeats 4000000




theorem c_linverse {C : Cx} (hC : C.K = KK C.w.params) {B : Nat} (f : Nat → Rat) (n : Nat) (hn : n + 1 ≤ 6) (h0 : f 0 ≠ 0) (hf : ∀ i, i < n + 1 → Sz B (f i)) (hB : B ≤ 5000) (β : Bx) :
    CallR C 5 243 [.d (encL 0 f (n + 1))] β (encL 0 (invF f) (n + 1)) β := by
  refine enter1 (F_linverse hC) ?_
  refine s_cons ?_
  walk_at "go"
  refine wv_of (c_ltrim hC 0 f (n + 1) (by omega) _) ?_ ?_
  · decide
  rw [lz_ne h0]
  unfold encL
  walk_at "go"
  · intro h; exfalso; omega
  · intro _
    walk_at "go"
    refine wv_of (c_sinverse hC f (n + 1) hn h0 hf (by omega) _) ?_ ?_
    · decide
    walk_at "go"
  · omega
theorem c_lpow1 {C : Cx} (hC : C.K = KK C.w.params) {B : Nat} (f : Nat → Rat) (n : Nat) (hn : n ≤ 6) (h0 : f 0 ≠ 0) (hf : ∀ i, i < n → Sz B (f i)) (hB : B ≤ 6000000) (β : Bx) :
    CallR C 7 250 [.d (encL 0 f n), .d (.int 1)] β (encL 0 f n) β := by
  refine enter2 (F_lpower hC) ?_
  refine s_cons ?_
  walk_at "go"
  · intro h; exact absurd h (by decide)
  intro _
  walk_at "go"
  · intro h; exact absurd h (by decide)
  intro _
  walk_at "go"
  refine wv_of (c_ltrim hC 0 f n (by omega) _) ?_ ?_
  · decide
  rw [lz_ne h0]
  unfold encL
  walk_at "go"
  · refine wv_of (c_wp1 hC f n hn hf hB _) ?_ ?_
    · decide
    walk_at "go"
  · exact IntMulOk.of_right (by decide)
theorem c_lpowm {C : Cx} (hC : C.K = KK C.w.params) {B : Nat} (f : Nat → Rat) (n : Nat) (hn : n + 1 ≤ 6) (h0 : f 0 ≠ 0) (hf : ∀ i, i < n + 1 → Sz B (f i)) (hB : B ≤ 5000) (β : Bx) :
    CallR C 8 250 [.d (encL 0 f (n + 1)), .d (.int (-1))] β (encL 0 (invF f) (n + 1)) β := by
  have hi0 : invF f 0 ≠ 0 := by
    rw [invF_eq, invT]
    simp only [dl, sumF, if_true]
    grind
  refine enter2 (F_lpower hC) ?_
  refine s_cons ?_
  walk_at "go"
  · intro h; exact absurd h (by decide)
  intro _
  walk_at "go"
  · intro _
    walk_at "go"
    refine wv_of (c_linverse hC f n hn h0 hf hB _) ?_ ?_
    · decide
    walk_at "go"
    refine wv_of (c_lpow1 hC (invF f) (n + 1) hn hi0 (fun k hk => (Sz.invF h0 hf k hk).le (ib6 B k (by omega))) (by omega) _) ?_ ?_
    · decide
    walk_at "go"
  · intro h; exact absurd (by decide) h
theorem c_lpow2 {C : Cx} (hC : C.K = KK C.w.params) {B : Nat} (f : Nat → Rat) (n : Nat) (hn : n ≤ 6) (hf : ∀ i, i < n → Sz B (f i)) (hB : B ≤ 1000) (β : Bx) :
    CallR C 7 250 [.d (encL 0 f n), .d (.int 2)] β (encL (lz f n * 2) (conv (fun i => f (i + lz f n)) (fun i => f (i + lz f n))) (n - lz f n)) β := by
  refine enter2 (F_lpower hC) ?_
  refine s_cons ?_
  walk_at "go"
  · intro h; exact absurd h (by decide)
  intro _
  walk_at "go"
  · intro h; exact absurd h (by decide)
  intro _
  walk_at "go"
  refine wv_of (c_ltrim hC 0 f n (by omega) _) ?_ ?_
  · decide
  unfold encL
  walk_at "go"
  · refine wv_of (c_wp2 hC (fun i => f (i + lz f n)) (n - lz f n) (by omega) (fun i hi => hf (i + lz f n) (by omega)) hB _) ?_ ?_
    · decide
    walk_at "go"
    refine ⟨?_, rfl⟩
    rw [Nat.zero_add, Int.natCast_mul]
    rfl
  · exact IntMulOk.of_right (by decide)
theorem c_from_zero {C : Cx} (hC : C.K = KK C.w.params) (f : Nat → Rat) (n : Nat) (hn : n ≤ 500) (β : Bx) :
    CallR C 2 271 [.d (encL 0 f n)] β (.list (encF f n)) β := by
  have hle := lz_le n f
  refine enter1 (F_from_zero hC) ?_
  refine s_cons ?_
  walk_at "go"
  refine wv_of (c_ltrim hC 0 f n hn _) ?_ ?_
  · decide
  rw [Nat.zero_add]
  unfold encL
  walk_at "go"
  · intro h; exfalso; omega
  intro _
  walk_at "go"
  refine ⟨_, _, rfl, rfl, by omega, by omega, ?_⟩
  walk_at "go"
  refine b_join (by rw [List.length_replicate, encF_len]; omega) ?_
  walk_at "go"
  refine ⟨?_, rfl⟩
  rw [show (max ((lz f n : Nat) : Int) 0).toNat = lz f n by omega, encF_shift, show lz f n + (n - lz f n) = n by omega]
  congr 1
  refine encF_congr fun i hi => ?_
  unfold shF
  split
  · rename_i h; exact (lz_zero n f i h).symm
  · show f (i - lz f n + lz f n) = f i
    rw [show i - lz f n + lz f n = i by omega]
theorem cut_eq (f : Nat → Rat) (n m : Nat) (hm : m ≤ n) : (List.replicate ((lz f n : Nat) : Int).toNat (encQ 0) ++ encF (fun i => f (i + lz f n)) (n - lz f n)).take (m : Int).toNat = encF f m := by
  have hle := lz_le n f
  rw [Int.toNat_natCast, Int.toNat_natCast, encF_shift, encF_take, show min m (lz f n + (n - lz f n)) = m by omega]
  refine encF_congr fun i hi => ?_
  unfold shF
  split
  · rename_i h; exact (lz_zero n f i h).symm
  · show f (i - lz f n + lz f n) = f i
    rw [show i - lz f n + lz f n = i by omega]
theorem c_lcut {C : Cx} (hC : C.K = KK C.w.params) (f : Nat → Rat) (n m : Nat) (hn : n ≤ 500) (hm : m ≤ n) (β : Bx) :
    CallR C 2 257 [.d (encL 0 f n), .d (.int m)] β (.list (encF f m)) β := by
  have hle := lz_le n f
  refine enter2 (F_lcut hC) ?_
  refine s_cons ?_
  walk_at "go"
  refine wv_of (c_ltrim hC 0 f n hn _) ?_ ?_
  · decide
  rw [Nat.zero_add]
  unfold encL
  walk_at "go"
  · intro hp
    walk_at "go"
    · intro h; exfalso; omega
    · intro _
      walk_at "go"
      · intro h; exfalso; omega
      · intro _
        walk_at "go"
        · intro _
          walk_at "go"
          refine ⟨_, _, rfl, rfl, by omega, by omega, ?_⟩
          walk_at "go"
          refine b_join (by rw [List.length_replicate, encF_len]; omega) ?_
          walk_at "go"
          refine ⟨_, _, rfl, rfl, by omega, by rw [List.length_append, List.length_replicate, encF_len]; omega, ?_⟩
          walk_at "go"
          refine ⟨?_, rfl⟩
          exact congrArg PyData.list (cut_eq f n m hm)
        · intro h; exfalso; omega
      · omega
  · intro hp
    walk_at "go"
    · intro h; exfalso; omega
    · intro _
      walk_at "go"
      · intro _
        walk_at "go"
        refine ⟨_, _, rfl, rfl, by omega, by omega, ?_⟩
        walk_at "go"
        refine b_join (by rw [List.length_replicate, encF_len]; omega) ?_
        walk_at "go"
        refine ⟨_, _, rfl, rfl, by omega, by rw [List.length_append, List.length_replicate, encF_len]; omega, ?_⟩
        walk_at "go"
        refine ⟨?_, rfl⟩
        exact congrArg PyData.list (cut_eq f n m hm)
      · intro h; exfalso; omega
    · omega
  · omega
theorem c_exp {C : Cx} (hC : C.K = KK C.w.params) {B : Nat} (f : Nat → Rat) (n : Nat) (hn : n ≤ 6) (h0 : f 0 = 0) (hf : ∀ i, i < n → Sz B (f i)) (hB : B ≤ 10000) (β : Bx) :
    CallR C 8 278 [.d (.str "exp"), .d (encL 0 f n)] β (encL 0 (expF f) n) β := by
  refine enter2 (F_of_call hC) ?_
  refine s_cons ?_
  walk_at "go"
  refine wv_of (c_from_zero hC f n (by omega) _) ?_ ?_
  · decide
  walk_at "go"
  · intro _
    walk_at "go"
    refine wv_of (c_sexp hC f n hn h0 hf (by omega) _) ?_ ?_
    · decide
    walk_at "go"
  · intro h; exact absurd rfl h
theorem c_log {C : Cx} (hC : C.K = KK C.w.params) {B : Nat} (f : Nat → Rat) (n : Nat) (hn : n + 1 ≤ 6) (h0 : f 0 = 1) (hf : ∀ i, i < n + 1 → Sz B (f i)) (hB : B ≤ 10000) (β : Bx) :
    CallR C 8 278 [.d (.str "log"), .d (encL 0 f (n + 1))] β (encL 0 (logF f) (n + 1)) β := by
  refine enter2 (F_of_call hC) ?_
  refine s_cons ?_
  walk_at "go"
  refine wv_of (c_from_zero hC f (n + 1) (by omega) _) ?_ ?_
  · decide
  walk_at "go"
  · intro h; exact absurd h (by decide +kernel)
  intro _
  walk_at "go"
  · intro _
    walk_at "go"
    refine wv_of (c_slog hC f n hn h0 hf (by omega) _) ?_ ?_
    · decide
    walk_at "go"
  · intro h; exact absurd rfl h
theorem c_sin {C : Cx} (hC : C.K = KK C.w.params) {B : Nat} (f : Nat → Rat) (n : Nat) (hn : n ≤ 6) (h0 : f 0 = 0) (hf : ∀ i, i < n → Sz B (f i)) (hB : B ≤ 10000) (β : Bx) :
    CallR C 8 278 [.d (.str "sin"), .d (encL 0 f n)] β (encL 0 (fun i => (scF f i).1) n) β := by
  refine enter2 (F_of_call hC) ?_
  refine s_cons ?_
  walk_at "go"
  refine wv_of (c_from_zero hC f n (by omega) _) ?_ ?_
  · decide
  walk_at "go"
  · intro h; exact absurd h (by decide +kernel)
  intro _
  walk_at "go"
  · intro h; exact absurd h (by decide +kernel)
  intro _
  walk_at "go"
  · intro _
    walk_at "go"
    refine wv_of (c_ssin hC f n hn h0 hf (by omega) _) ?_ ?_
    · decide
    walk_at "go"
  · intro h; exact absurd rfl h
theorem c_cos {C : Cx} (hC : C.K = KK C.w.params) {B : Nat} (f : Nat → Rat) (n : Nat) (hn : n ≤ 6) (h0 : f 0 = 0) (hf : ∀ i, i < n → Sz B (f i)) (hB : B ≤ 10000) (β : Bx) :
    CallR C 8 278 [.d (.str "cos"), .d (encL 0 f n)] β (encL 0 (fun i => (scF f i).2) n) β := by
  refine enter2 (F_of_call hC) ?_
  refine s_cons ?_
  walk_at "go"
  refine wv_of (c_from_zero hC f n (by omega) _) ?_ ?_
  · decide
  walk_at "go"
  · intro h; exact absurd h (by decide +kernel)
  intro _
  walk_at "go"
  · intro h; exact absurd h (by decide +kernel)
  intro _
  walk_at "go"
  · intro h; exact absurd h (by decide +kernel)
  intro _
  walk_at "go"
  · intro _
    walk_at "go"
    refine wv_of (c_scos hC f n hn h0 hf (by omega) _) ?_ ?_
    · decide
    walk_at "go"
  · intro h; exact absurd rfl h
set_option maxHeartbeats 4000000




noncomputable def letX (q : Rat) : PyData := .tuple [.str "x", .tuple [.int 0, .list [encQ q, encQ 1]]]
noncomputable def tN (q : Rat) : PyData := .tuple [.str "num", .int q.num, .int q.den]
noncomputable def tX : PyData := .tuple [.str "sym", .str "x"]
noncomputable def tPow (t : PyData) (q : Rat) : PyData := .tuple [.str "pow", t, tN q]
noncomputable def tCall (nm : Str) (t : PyData) : PyData := .tuple [.str "call", .str nm, .tuple [t]]
noncomputable def tSum (ts : List PyData) : PyData := .tuple [.str "sum", .tuple ts]
noncomputable def tProd (ts : List PyData) : PyData := .tuple [.str "prod", .tuple ts]
/-- a term's series: what of_term tells -/
noncomputable def OT (C : Cx) (k : Nat) (q : Rat) (many : Nat) (t d : PyData) : Prop := ∀ β, CallR C k 299 [.d t, .d (.int many), .d (letX q)] β d β
theorem OT.le {C : Cx} {k j : Nat} {q : Rat} {many : Nat} {t d : PyData} (h : OT C k q many t d) (l : k ≤ j) : OT C j q many t d := fun β => (h β).le l
theorem OT_num {C : Cx} (hC : C.K = KK C.w.params) (q : Rat) (many : Nat) (hm : many + 1 ≤ 100) (c : Rat) : OT C 10 q (many + 1) (tN c) (encL 0 (cst c) (many + 1)) := fun β => by
  unfold tN letX
  refine enter3 (F_of_term hC) ?_
  refine s_cons ?_
  walk_at "go"
  · intro _
    walk_at "go"
    refine wv_of (c_lplain hC c many (by omega) _) ?_ ?_
    · decide
    walk_at "go"
  · intro h; exact absurd rfl h
noncomputable def symF (q : Rat) (i : Nat) : Rat := if i = 0 then q else if i = 1 then 1 else 0
theorem OT_sym {C : Cx} (hC : C.K = KK C.w.params) (q : Rat) (many : Nat) (hm : many + 2 ≤ 100) : OT C 10 q (many + 2) tX (encL 0 (symF q) (many + 2)) := fun β => by
  unfold tX letX
  refine enter3 (F_of_term hC) ?_
  refine s_cons ?_
  walk_at "go"
  · intro h; exact absurd h (by decide +kernel)
  intro _
  walk_at "go"
  · intro _
    walk_at "go"
    · intro h; exact absurd rfl h
    intro _
    walk_at "go"
    refine n_len (.inl rfl) (by simp only [List.length_cons, List.length_nil]; omega) ?_
    walk_at "go"
    refine ⟨_, _, rfl, rfl, by simp only [List.length_cons, List.length_nil]; omega, by simp only [List.length_cons, List.length_nil]; omega, ?_⟩
    refine b_join (by simp; omega) ?_
    walk_at "go"
    refine ⟨?_, rfl⟩
    rw [show (((many + 2 : Nat) : Int) - (([encQ q, encQ 1] : List PyData).length : Int)).toNat = many by simp only [List.length_cons, List.length_nil]; omega]
    unfold encL
    rw [encF_cons, encF_cons, encF_rep]
    rfl
  · intro h; exact absurd rfl h
theorem c_ofpow {C : Cx} (hC : C.K = KK C.w.params) {k : Nat} (hk : 8 ≤ k) (q : Rat) (many : Nat) (t : PyData) (e : Rat) (he : e.den = 1) (d d2 : PyData) (h : OT C k q many t d) (h2 : ∀ β, CallR C 8 250 [.d d, .d (.int e.num)] β d2 β) (β : Bx) : CallR C (k + 1) 292 [.d t, .d (tN e), .d (.int many), .d (letX q)] β d2 β := by
  unfold tN
  refine enter4 (F_of_power hC) ?_
  refine s_cons ?_
  walk_at "go"
  · intro h; exact absurd rfl h
  intro _
  walk_at "go"
  refine wv_of (h _) (Nat.le_refl _) ?_
  walk_at "go"
  · intro _
    walk_at "go"
    refine wv_of (h2 _) hk ?_
    walk_at "go"
  · intro h; exfalso; exact h (by rw [he]; rfl)
theorem OT_pow {C : Cx} (hC : C.K = KK C.w.params) {k : Nat} (hk : 8 ≤ k) (q : Rat) (many : Nat) (t : PyData) (e : Rat) (he : e.den = 1) (d d2 : PyData) (h : OT C k q many t d) (h2 : ∀ β, CallR C 8 250 [.d d, .d (.int e.num)] β d2 β) : OT C (k + 2) q many (tPow t e) d2 := fun β => by
  have hp := c_ofpow hC hk q many t e he d d2 h h2
  unfold tPow
  refine enter3 (F_of_term hC) ?_
  refine s_cons ?_
  walk_at "go"
  · intro h; exact absurd h (by decide +kernel)
  intro _
  walk_at "go"
  · intro h; exact absurd h (by decide +kernel)
  intro _
  walk_at "go"
  · intro _
    walk_at "go"
    refine wv_of (hp _) (Nat.le_refl _) ?_
    walk_at "go"
  · intro h; exact absurd rfl h
theorem OT_call {C : Cx} (hC : C.K = KK C.w.params) {k : Nat} (hk : 8 ≤ k) (q : Rat) (many : Nat) (nm : Str) (t : PyData) (d d2 : PyData) (h : OT C k q many t d) (h2 : ∀ β, CallR C 8 278 [.d (.str nm), .d d] β d2 β) : OT C (k + 1) q many (tCall nm t) d2 := fun β => by
  unfold tCall
  refine enter3 (F_of_term hC) ?_
  refine s_cons ?_
  walk_at "go"
  · intro h; exact absurd h (by decide +kernel)
  intro _
  walk_at "go"
  · intro h; exact absurd h (by decide +kernel)
  intro _
  walk_at "go"
  · intro h; exact absurd h (by decide +kernel)
  intro _
  walk_at "go"
  · intro _
    walk_at "go"
    refine n_len (.inr rfl) (by simp only [List.length_cons, List.length_nil]; omega) ?_
    walk_at "go"
    · intro _
      walk_at "go"
      refine wv_of (h _) (Nat.le_refl _) ?_
      walk_at "go"
      refine wv_of (h2 _) hk ?_
      walk_at "go"
    · intro h; exact absurd rfl h
  · intro h; exact absurd rfl h
theorem OT_sum {C : Cx} (hC : C.K = KK C.w.params) {k : Nat} (hk : 8 ≤ k) (q : Rat) (many : Nat) (hm : many + 1 ≤ 100) (ts : List PyData) (L M : Nat → Nat) (G acc : Nat → Nat → Rat) {X Y : Nat} (hX : X + Y ≤ 100000000)
    (h : ∀ i t, ts[i]? = some t → OT C k q (many + 1) t (encL (L i) (G i) (M i)) ∧ many + 1 ≤ L i + M i ∧ L i + M i ≤ 500 ∧ ∀ j, j < M i → Sz Y (G i j)) (h0 : acc 0 = cst 0) (hs : ∀ i, i < ts.length → acc (i + 1) = fun n => acc i n + shF (L i) (G i) n)
    (hb : ∀ i, i < ts.length → ∀ j, j < many + 1 → Sz X (acc i j)) : OT C (k + 1) q (many + 1) (tSum ts) (encL 0 (acc ts.length) (many + 1)) := fun β => by
  unfold tSum
  refine enter3 (F_of_term hC) ?_
  refine s_cons ?_
  walk_at "go"
  · intro h; exact absurd h (by decide +kernel)
  intro _
  walk_at "go"
  · intro h; exact absurd h (by decide +kernel)
  intro _
  walk_at "go"
  · intro h; exact absurd h (by decide +kernel)
  intro _
  walk_at "go"
  · intro h; exact absurd h (by decide +kernel)
  intro _
  walk_at "go"
  refine b_notIn (ys := ["sum", "prod"]) ?_
  rw [show (!([("sum" : Str), "prod"].any (· == ("sum" : Str)))) = false by decide +kernel]
  walk_at "go"
  · intro _
    walk_at "go"
    refine wv_of (c_lplain hC 0 many (by omega) _) (by omega) ?_
    walk_at "go"
    refine x_forC (fun i ρc => i ≤ ts.length ∧ ∃ d, d = encL 0 (acc i) (many + 1) ∧ ρc = ([("found", .d d), ("t", .d (.tuple [.str "sum", .tuple ts])), ("many", .d (.int ((many + 1 : Nat) : Int))), ("letter", .d (letX q))] : PEnv)) ?_ (by kernel_rfl) (by intro _ _; kernel_rfl)
    refine wi_tuple ?_
    walk_at "go"
    refine ⟨_, rfl, rfl, ⟨_, ⟨Nat.zero_le _, encL 0 (cst 0) (many + 1), by rw [h0], rfl⟩, by walk_at "sub"⟩, fun i t ρc hd hJ => ?_, fun ρc ρ' hJ hsu => ?_⟩
    · obtain ⟨_, d, rfl, rfl⟩ := hJ
      obtain ⟨hot, hlm, hl5, hsz⟩ := h i t hd
      have hlt : i < ts.length := (List.getElem?_eq_some_iff.mp hd).1
      walk_at "go"
      refine wv_of (hot _) (Nat.le_refl _) ?_
      walk_at "go"
      · intro _
        walk_at "go"
        refine wv_of (c_ladd hC (acc i) (many + 1) (L i) (G i) (M i) (by omega) hl5 (hb i hlt) hsz hX _) (by omega) ?_
        walk_at "go"
        refine ⟨_, ⟨by omega, _, ?_, rfl⟩, by walk_at "sub"⟩
        rw [hs i hlt, Nat.min_eq_left hlm]
      · intro h; exact absurd rfl h
    · obtain ⟨_, d, rfl, rfl⟩ := hJ
      refine WS.weaken ?_ hsu
      walk_at "go"
  · intro h; exact absurd rfl h
theorem OT_prod {C : Cx} (hC : C.K = KK C.w.params) {k : Nat} (hk : 8 ≤ k) (q : Rat) (many : Nat) (hm : many + 1 ≤ 100) (ts : List PyData) (L M LA NA : Nat → Nat) (G acc : Nat → Nat → Rat) {X Y : Nat}
    (h : ∀ i t, ts[i]? = some t → OT C k q (many + 1) t (encL (L i) (G i) (M i)) ∧ M i ≤ 100 ∧ ∀ j, j < M i → Sz Y (G i j)) (h0 : acc 0 = cst 1 ∧ LA 0 = 0 ∧ NA 0 = many + 1) (hs : ∀ i, i < ts.length → acc (i + 1) = conv (acc i) (G i) ∧ LA (i + 1) = LA i + L i ∧ NA (i + 1) = min (NA i) (M i))
    (hb : ∀ i, i < ts.length → NA i ≤ 100 ∧ (NA i + 2) * (X + Y + 1) ≤ 100000000 ∧ ∀ j, j < NA i → Sz X (acc i j)) : OT C (k + 1) q (many + 1) (tProd ts) (encL (LA ts.length) (acc ts.length) (NA ts.length)) := fun β => by
  unfold tProd
  refine enter3 (F_of_term hC) ?_
  refine s_cons ?_
  walk_at "go"
  · intro h; exact absurd h (by decide +kernel)
  intro _
  walk_at "go"
  · intro h; exact absurd h (by decide +kernel)
  intro _
  walk_at "go"
  · intro h; exact absurd h (by decide +kernel)
  intro _
  walk_at "go"
  · intro h; exact absurd h (by decide +kernel)
  intro _
  walk_at "go"
  refine b_notIn (ys := ["sum", "prod"]) ?_
  rw [show (!([("sum" : Str), "prod"].any (· == ("prod" : Str)))) = false by decide +kernel]
  walk_at "go"
  · intro h; exact absurd h (by decide +kernel)
  · intro _
    walk_at "go"
    refine wv_of (c_lplain hC 1 many (by omega) _) (by omega) ?_
    walk_at "go"
    refine x_forC (fun i ρc => i ≤ ts.length ∧ ∃ d, d = encL (LA i) (acc i) (NA i) ∧ ρc = ([("found", .d d), ("t", .d (.tuple [.str "prod", .tuple ts])), ("many", .d (.int ((many + 1 : Nat) : Int))), ("letter", .d (letX q))] : PEnv)) ?_ (by kernel_rfl) (by intro _ _; kernel_rfl)
    refine wi_tuple ?_
    walk_at "go"
    refine ⟨_, rfl, rfl, ⟨_, ⟨Nat.zero_le _, encL 0 (cst 1) (many + 1), by rw [h0.1, h0.2.1, h0.2.2], rfl⟩, by walk_at "sub"⟩, fun i t ρc hd hJ => ?_, fun ρc ρ' hJ hsu => ?_⟩
    · obtain ⟨_, d, rfl, rfl⟩ := hJ
      obtain ⟨hot, hl5, hsz⟩ := h i t hd
      have hlt : i < ts.length := (List.getElem?_eq_some_iff.mp hd).1
      obtain ⟨hn1, hn2, hn3⟩ := hb i hlt
      walk_at "go"
      refine wv_of (hot _) (Nat.le_refl _) ?_
      walk_at "go"
      · intro h; exact absurd h (by decide +kernel)
      · intro _
        walk_at "go"
        refine wv_of (c_lmul hC (LA i) (acc i) (NA i) (L i) (G i) (M i) (by omega) (by omega) hn3 hsz hn2 _) (by omega) ?_
        walk_at "go"
        refine ⟨_, ⟨by omega, _, ?_, rfl⟩, by walk_at "sub"⟩
        rw [(hs i hlt).1, (hs i hlt).2.1, (hs i hlt).2.2]
    · obtain ⟨_, d, rfl, rfl⟩ := hJ
      refine WS.weaken ?_ hsu
      walk_at "go"
set_option maxHeartbeats 4000000




section
variable {C : Cx} {k : Nat} {sc : Scope} {ρ : PEnv} {β : Bx} {N : PEnv → Bx → Prop} {T : PyData → Bx → Prop}
/-- a try whose body does not raise -/
theorem x_try {body orelse : List Stmt} {h₀ : ExceptHandler} {hs : List ExceptHandler} {pos : Pos} (h : WS C k sc body ρ β (fun ρ' β' => WS C k sc orelse ρ' β' N T) T) : WX C k sc (.Try body (h₀ :: hs) orelse [] pos) ρ β N T :=
  fun A s env X bx ow P E R F c r => by
    refine PySem.wpAny_Try_except (h A s env X bx ow _ _ R F (fun h' tk ρ' β' ow' n F' k1 x1 => ?_) fun v h' tk d β' t k1 B1 r1 => r v h' tk d β' t k1 B1 r1)
    exact n A { s with heap := h', toks := tk } env X bx ow' P E R F' (fun h2 tk2 ρ2 β2 ow2 n2 F2 k2 x2 => c h2 tk2 ρ2 β2 ow2 n2 F2 (k1.trans x1 k2) (OwExt.trans F' k1 x1 x2))
      fun v h2 tk2 d β2 t k2 B2 r2 => r v h2 tk2 d β2 t (k1.trans x1 k2) B2 r2
theorem b_isL {Q : PV → Bx → Prop} {xs : List PyData} (h : Q (.d (.bool false)) β) : WV C k (two (compareOp .Is)) [.d (.list xs), .d .none] β Q := b_isNone (a := .list xs) h
end
theorem c_laurent {C : Cx} (hC : C.K = KK C.w.params) {k : Nat} (hk : 8 ≤ k) (q : Rat) (m : Nat) (hm : m + 1 ≤ 50) (t : PyData) (p : Nat → Rat) (h : OT C k q (m + 3) t (encL 0 p (m + 3))) (β : Bx) :
    CallR C (k + 1) 306 [.d t, .d (letX q), .d (.int ((m + 1 : Nat) : Int))] β (encL 0 p (m + 3)) β := by
  refine enter3 (F_laurent_of hC) ?_
  refine s_cons ?_
  walk_at "go"
  refine x_whileC (fun n ρc => n = 0 ∧ ρc = ([("more", .d (.int 2)), ("t", .d t), ("letter", .d (letX q)), ("end", .d (.int ((m + 1 : Nat) : Int)))] : PEnv)) (n₀ := 0) ⟨rfl, rfl⟩ (by walk_at "sub") ?step
  rintro n ρc ⟨rfl, rfl⟩
  walk_at "go"
  · intro _
    walk_at "ms"
    refine x_try ?_
    walk_at "go"
    rw [show max ((m + 1 : Nat) : Int) 1 + 2 = ((m + 3 : Nat) : Int) by omega]
    walk_at "go"
    refine wv_of (h _) (Nat.le_refl _) ?_
    unfold encL
    walk_at "go"
    · intro _
      walk_at "go"
    · intro h; exfalso; omega
    · omega
  · intro h; exfalso; exact h (by decide)
theorem c_series {C : Cx} (hC : C.K = KK C.w.params) {k : Nat} (hk : 8 ≤ k) (q : Rat) (m : Nat) (hm : m + 1 ≤ 50) (t : PyData) (p : Nat → Rat) (h : OT C k q (m + 3) t (encL 0 p (m + 3))) (β : Bx) :
    CallR C (k + 2) 313 [.d t, .d (.str "x"), .d (encQ q), .d (.int ((m + 1 : Nat) : Int))] β (.list (encF p (m + 1))) β := by
  refine enter4 (F_series_of hC) ?_
  refine s_cons ?_
  walk_at "go"
  refine wv_of (c_laurent hC hk q m hm t p h _) (Nat.le_refl _) ?_
  walk_at "go"
  refine wv_of (c_lcut hC p (m + 3) (m + 1) (by omega) (by omega) _) (by omega) ?_
  walk_at "go"
  refine b_isL ?_
  walk_at "go"
set_option maxHeartbeats 4000000




noncomputable def bxOf (ns : List Int) (i s : Int) : Bx := [.list (ns.map .int), .int i, .int s]
noncomputable def BG (β : Bx) : Prop := ∃ ns i s, β = bxOf ns i s ∧ ns.length ≤ 24 ∧ 0 ≤ i
section
variable {C : Cx} {k : Nat} {sc : Scope} {ρ : PEnv} {β : Bx} {N : PEnv → Bx → Prop} {T : PyData → Bx → Prop}
theorem x_setBox1 {x : Str} {xp ip sp pos : Pos} {kd : Nat} {value : Expr} {a b c : PyData} (h : WE C k sc.names value ρ [a, b, c] fun p β' => ∃ d, p = .d d ∧ β' = [a, b, c] ∧ N ρ [a, d, c]) (hl : ρ.lookup x = some .box) (ok : okName x = true)
    (hs : ∀ env, swapsWith value (some (.Subscript (.Name x xp) (.Constant (.int 1) kd ip) sp)) pos.line env = pure false) : WX C k sc (.Assign [.Subscript (.Name x xp) (.Constant (.int 1) kd ip) sp] value pos) ρ [a, b, c] N T :=
  x_setBox hl (h.mono fun p β' ⟨d, e, e2, q⟩ => ⟨d, e, by decide, by rw [e2]; exact (by decide : 1 < 3), by rw [e2]; exact (by decide : 3 ≤ 16384), by rw [e2]; exact q⟩) ok hs
theorem sub_I {Q : PV → Bx → Prop} {ns : List Int} {m : Int} (i : Nat) (q : ∀ z, ns[i]? = some z → Q (.d (.int z)) β) (e : m = (i : Int)) (h : i < ns.length) (hn : ns.length ≤ 16384) : SubP (.d (.list (ns.map .int))) (.d (.int m)) β Q := by
  subst e
  obtain ⟨z, hz⟩ : ∃ z, ns[i]? = some z := ⟨_, List.getElem?_eq_getElem h⟩
  exact sub_nat rfl (r := .int z) (by rw [List.getElem?_map, hz]; rfl) (by omega) (q z hz)
end
theorem fmod_rng (a : Int) {m : Int} (hm : 0 < m) : 0 ≤ a.fmod m ∧ a.fmod m < m := by
  rw [Int.fmod_eq_emod_of_nonneg _ (by omega)]
  exact ⟨Int.emod_nonneg _ (by omega), Int.emod_lt_of_pos _ hm⟩
theorem c_take {C : Cx} (hC : C.K = KK C.w.params) (m : Int) (hm : 0 < m) (β : Bx) (hb : BG β) : ∃ v β', BG β' ∧ 0 ≤ v ∧ v < m ∧ CallR C 1 320 [.box, .d (.int m)] β (.int v) β' := by
  obtain ⟨ns, i, s, rfl, hl, hi⟩ := hb
  have hl2 : (ns.map PyData.int).length = ns.length := by simp
  by_cases h : i + 1 ≤ (ns.length : Int)
  · obtain ⟨j, rfl⟩ := Int.eq_ofNat_of_zero_le hi
    obtain ⟨z, hz⟩ : ∃ z, ns[j]? = some z := ⟨_, List.getElem?_eq_getElem (by omega)⟩
    refine ⟨z.fmod m, bxOf ns ((j : Int) + 1) s, ⟨ns, _, s, rfl, hl, by omega⟩, (fmod_rng z hm).1, (fmod_rng z hm).2, ?_⟩
    unfold bxOf
    refine enter2 (F_law_take hC) ?_
    refine s_cons ?_
    refine x_setBox1 ?_ (by walk_at "lk") (by kernel_rfl) (by intro _; kernel_rfl)
    walk_at "go"
    refine n_len (.inl rfl) (by omega) ?_
    walk_at "go"
    · intro _
      walk_at "go"
      refine sub_I j (fun z' hz' => ?_) (by omega) (by omega) (by omega)
      rw [hz] at hz'; cases hz'
      walk_at "go"
      omega
    · intro h2; exfalso; exact h2 (by rw [hl2]; exact h)
  · refine ⟨(7 * (i + 1) + (i + 1).fdiv 5 + s).fmod m, bxOf ns (i + 1) s, ⟨ns, _, s, rfl, hl, by omega⟩, (fmod_rng _ hm).1, (fmod_rng _ hm).2, ?_⟩
    unfold bxOf
    refine enter2 (F_law_take hC) ?_
    refine s_cons ?_
    refine x_setBox1 ?_ (by walk_at "lk") (by kernel_rfl) (by intro _; kernel_rfl)
    walk_at "go"
    refine n_len (.inl rfl) (by omega) ?_
    walk_at "go"
    · intro h2; exfalso; rw [hl2] at h2; exact h h2
    · intro _
      walk_at "go"
      · omega
      · decide
      · exact IntMulOk.of_left (by decide)
theorem q_mac (t a b : Rat) : Rat.divInt (t.num * a.den * b.den + a.num * b.num * t.den) (t.den * a.den * b.den) = t + a * b := by
  have h1 := den_pos t
  have h2 := den_mul_ne a b
  rw [Int.mul_assoc t.num, Int.mul_assoc (t.den : Int), ← Rat.divInt_add_divInt _ _ (by omega) h2, Rat.num_divInt_den, q_mul]
theorem zip_get {f g : Nat → Rat} {n m i : Nat} {d : PyData} (h : (zipD (encF f n) (encF g m))[i]? = some d) : i < min n m ∧ d = .tuple [encQ (f i), encQ (g i)] := by
  have hlt : i < min n m := by
    have := (List.getElem?_eq_some_iff.mp h).1
    rwa [zipD_length, encF_len, encF_len] at this
  obtain ⟨x, y, hx, hy, rfl⟩ := zipD_get _ _ _ _ h
  rw [encF_get (by omega)] at hx hy
  cases hx; cases hy
  exact ⟨hlt, rfl⟩
theorem c_plus {C : Cx} (hC : C.K = KK C.w.params) {x y : Nat} (f g : Nat → Rat) (n m : Nat) (hn : n ≤ 100) (hm : m ≤ 100) (hf : ∀ i, i < n → Sz x (f i)) (hg : ∀ i, i < m → Sz y (g i)) (hz : x + y ≤ 100000000) (β : Bx) :
    CallR C 2 337 [.d (.list (encF f n)), .d (.list (encF g m))] β (.list (encF (fun i => f i + g i) (min n m))) β := by
  refine enter2 (F_law_plus hC) ?_
  refine s_cons ?_
  walk_at "go"
  refine e_compP (fun i => encQ (f i + g i)) ?_ (by kernel_rfl) (by kernel_rfl) (by kernel_rfl) (by kernel_rfl) (by intro _ _; kernel_rfl)
  walk_at "go"
  refine ⟨_, _, rfl, rfl, rfl, by rw [zipD_length, encF_len, encF_len]; omega, fun i d hd => ?_, ?_⟩
  · obtain ⟨hi, rfl⟩ := zip_get hd
    refine ⟨_, _, rfl, ?_⟩
    have hf' := hf i (by omega)
    have hg' := hg i (by omega)
    have d1 := den_pos (f i)
    have d2 := den_pos (g i)
    walk_at "go"
    · refine wv_of (c_low hC _ _ (Int.mul_pos d1 d2) _) ?_ ?_
      · decide
      rw [q_add]
      exact ⟨rfl, rfl⟩
    all_goals first | exact mulOk hf'.1 (y := y) (by simpa using hg'.2) (by omega) | exact mulOk hg'.1 (y := x) (by simpa using hf'.2) (by omega) | exact mulOk (x := x) (y := y) (by simpa using hf'.2) (by simpa using hg'.2) (by omega)
  · rw [zipD_length, encF_len, encF_len]
    walk_at "go"
theorem c_times {C : Cx} (hC : C.K = KK C.w.params) {x y : Nat} (f g : Nat → Rat) (n m : Nat) (hn : n ≤ 100) (hm : m ≤ 100) (hf : ∀ i, i < n → Sz x (f i)) (hg : ∀ i, i < m → Sz y (g i)) (hz : (n + 2) * (x + y + 1) ≤ 50000000) (β : Bx) :
    CallR C 2 344 [.d (.list (encF f n)), .d (.list (encF g m))] β (.list (encF (conv f g) (min n m))) β := by
  have hxy : x + y ≤ 25000000 := by
    have := Nat.mul_le_mul_right (x + y + 1) (show 2 ≤ n + 2 by omega)
    omega
  refine enter2 (F_law_times hC) ?_
  refine s_cons ?_
  walk_at "go"
  refine x_forC (fun i ρc => i ≤ min n m ∧ ∃ L, L = encF (conv f g) i ∧ ρc = ([("found", .own L), ("one", .d (.list (encF f n))), ("other", .d (.list (encF g m)))] : PEnv)) ?_ (by kernel_rfl) (by intro _ _; kernel_rfl)
  walk_at "go"
  · refine ⟨min n m, intE (by omega), by omega, rfl, ⟨_, ⟨Nat.zero_le _, [], rfl, rfl⟩, by walk_at "sub"⟩, fun at' d ρc hd hJ => ?_, fun ρc ρ' hJ hs => ?_⟩
    · obtain ⟨hi, rfl⟩ := rng_get hd
      obtain ⟨_, L, rfl, rfl⟩ := hJ
      have e0 : (0 : Int) + (at' : Int) = (at' : Int) := by omega
      rw [e0]
      walk_at "go"
      refine x_forC (fun j ρc => j ≤ at' + 1 ∧ ∃ d, d = encQ (sumF (fun s => f s * g (at' - s)) j) ∧ ρc = ([("total", .d d), ("at", .d (.int at')), ("found", .own (encF (conv f g) at')), ("one", .d (.list (encF f n))), ("other", .d (.list (encF g m)))] : PEnv)) ?_ (by kernel_rfl) (by intro _ _; kernel_rfl)
      walk_at "go"
      refine ⟨at' + 1, intE (by omega), by omega, rfl, ⟨_, ⟨Nat.zero_le _, .tuple [.int 0, .int 1], rfl, rfl⟩, by walk_at "sub"⟩, fun j d ρc hd hJ => ?_, fun ρc ρ' hJ hs => ?_⟩
      · obtain ⟨hj, rfl⟩ := rng_get hd
        obtain ⟨_, d, rfl, rfl⟩ := hJ
        have hSz : Sz (j * (x + y + 1)) (sumF (fun s => f s * g (at' - s)) j) := Sz.sumF fun s hs => (hf s (by omega)).mul (hg (at' - s) (by omega))
        have hj6 : j * (x + y + 1) ≤ (n + 2) * (x + y + 1) := Nat.mul_le_mul_right _ (by omega)
        have hf' := hf j (by omega)
        have hg' := hg (at' - j) (by omega)
        have d1 := den_pos (f j)
        have d2 := den_pos (g (at' - j))
        have d3 := den_pos (sumF (fun s => f s * g (at' - s)) j)
        walk_at "go"
        refine sub_F j ?_ ?_ ?_ ?_
        · walk_at "go"
          refine sub_F (at' - j) ?_ ?_ ?_ ?_
          · walk_at "go"
            · refine wv_of (c_low hC _ _ (Int.mul_pos (Int.mul_pos d3 d1) d2) _) ?_ ?_
              · decide
              rw [q_mac]
              walk_at "go"
              exact ⟨_, ⟨by omega, encQ (sumF (fun s => f s * g (at' - s)) j + f j * g (at' - j)), rfl, rfl⟩, by walk_at "sub"⟩
            all_goals first
              | exact mulOk (absmul_le (x := j * (x + y + 1)) (y := x) (by simpa using hSz.2) (by simpa using hf'.2)) (y := y) (by simpa using hg'.2) (by omega)
              | exact mulOk (absmul_le (x := j * (x + y + 1)) (y := x) hSz.1 (by simpa using hf'.2)) (y := y) (by simpa using hg'.2) (by omega)
              | exact mulOk (absmul_le hf'.1 hg'.1) (y := j * (x + y + 1)) (by simpa using hSz.2) (by omega)
              | exact mulOk hf'.1 hg'.1 (by omega)
              | exact mulOk hSz.1 (y := x) (by simpa using hf'.2) (by omega)
              | exact mulOk (x := j * (x + y + 1)) (y := x) (by simpa using hSz.2) (by simpa using hf'.2) (by omega)
          all_goals omega
        all_goals omega
      · obtain ⟨_, d, rfl, rfl⟩ := hJ
        rw [rng_len] at hs
        refine WS.weaken ?_ hs
        walk_at "go"
        exact ⟨_, ⟨by omega, _, rfl, rfl⟩, by walk_at "sub"⟩
    · obtain ⟨_, L, rfl, rfl⟩ := hJ
      rw [rng_len] at hs
      refine WS.weaken ?_ hs
      walk_at "go"
  all_goals omega
set_option maxHeartbeats 4000000




section
variable {C : Cx} {k : Nat} {sc : Scope} {ρ ρc : PEnv} {β : Bx} {N : PEnv → Bx → Prop} {T : PyData → Bx → Prop}
/-- ways that meet -/
theorem s_join {st : Stmt} {rest : List Stmt} (ρc : PEnv) (h : WX C k sc st ρ β (fun ρ' β' => β' = β ∧ Sub ρc ρ') fun _ _ => False) (q : WS C k sc rest ρc β N T) : WS C k sc (st :: rest) ρ β N T :=
  s_cons (h.mono (fun ρ' β' ⟨e, s⟩ => by subst e; exact q.weaken s) fun _ _ f => f.elim)
theorem sub_cons' {x : Str} {p p' : PV} {ρ₁ ρ : PEnv} (h : ρ.lookup x = some p') (e : p = p') (t : Sub ρ₁ ρ) : Sub ((x, p) :: ρ₁) ρ := by subst e; exact sub_cons h t
theorem sub_l01 {Q : PV → Bx → Prop} {a b : PyData} {m : Int} (h : (m = 0 ∧ Q (.d a) β) ∨ (m = 1 ∧ Q (.d b) β)) : SubP (.d (.list [a, b])) (.d (.int m)) β Q := by
  rcases h with ⟨rfl, h⟩ | ⟨rfl, h⟩
  · exact sub_l0 h
  · exact sub_l1 h
end
noncomputable def fac : Nat → Nat
  | 0 => 1
  | n + 1 => fac n * (n + 1)
noncomputable def pwF (f : Nat → Rat) : Nat → Nat → Rat
  | 0 => dl
  | k + 1 => conv (pwF f k) f
noncomputable def nuP (nm : Str) (n : Nat) : Int × Int :=
  if nm = "exp" then (1, fac n) else if nm = "log" then (if n = 0 then (0, 1) else (if n % 2 = 0 then -1 else 1, n)) else
    if n % 2 = (if nm = "sin" then 1 else 0) then (if n / 2 % 2 = 0 then 1 else -1, fac n) else (0, 1)
noncomputable def nuQ (nm : Str) (n : Nat) : Rat := Rat.divInt (nuP nm n).1 (nuP nm n).2
noncomputable def rowsF (nm : Str) (f : Nat → Rat) (n i : Nat) : Rat := sumF (fun k => pwF f k i * nuQ nm k) n
noncomputable def isNm (nm : Str) : Prop := nm = "exp" ∨ nm = "log" ∨ nm = "sin" ∨ nm = "cos"
theorem nuP_ok (nm : Str) (h : isNm nm) (n : Nat) (hn : n < 4) : 0 < (nuP nm n).2 ∧ (nuP nm n).1.natAbs ≤ 2 ^ 3 ∧ (nuP nm n).2.natAbs ≤ 2 ^ 3 := by
  rcases (by omega : n = 0 ∨ n = 1 ∨ n = 2 ∨ n = 3) with rfl | rfl | rfl | rfl <;> rcases h with rfl | rfl | rfl | rfl <;> decide +kernel
theorem q_scale (q : Rat) (u v : Int) : Rat.divInt (q.num * u) (q.den * v) = q * Rat.divInt u v := by
  rw [← Rat.divInt_mul_divInt, Rat.num_divInt_den]
noncomputable def pb (B : Nat) : Nat → Nat
  | 0 => 0
  | k + 1 => 4 * (pb B k + B + 1)
theorem Sz.pwF {f : Nat → Rat} {B n : Nat} (hn : n ≤ 4) (hf : ∀ i, i < n → Sz B (f i)) : ∀ (k : Nat) (i : Nat), i < n → Sz (pb B k) (Mine.pwF f k i)
  | 0, i, _ => Sz.dl i _
  | k + 1, i, hi => (Sz.conv (m := n) (Sz.pwF hn hf k) hf hi).le (Nat.mul_le_mul_right _ (by omega))
theorem pb4 (B k : Nat) (h : k ≤ 4) : pb B k ≤ 340 * (B + 1) := by
  rcases (by omega : k = 0 ∨ k = 1 ∨ k = 2 ∨ k = 3 ∨ k = 4) with rfl | rfl | rfl | rfl | rfl <;> simp only [pb] <;> omega
theorem c_rows {C : Cx} (hC : C.K = KK C.w.params) {B : Nat} (nm : Str) (hnm : isNm nm) (f : Nat → Rat) (n : Nat) (hn : n + 1 ≤ 4) (hf : ∀ i, i < n + 1 → Sz B (f i)) (hB : B ≤ 10000) (β : Bx) :
    CallR C 3 349 [.d (.str nm), .d (.list (encF f (n + 1)))] β (.list (encF (rowsF nm f (n + 1)) (n + 1))) β := by
  have hP : ∀ k, k ≤ 4 → ∀ i, i < n + 1 → Sz (340 * (B + 1)) (pwF f k i) := fun k hk i hi => (Sz.pwF hn hf k i hi).le (pb4 B k hk)
  have hNu : ∀ k, k < 4 → Sz 3 (nuQ nm k) := fun k hk => by
    obtain ⟨h1, h2, h3⟩ := nuP_ok nm hnm k hk
    exact Sz.divInt (by omega) h2 h3
  refine enter2 (F_law_rows hC) ?_
  refine s_cons ?_
  walk_at "go"
  · refine ⟨_, _, rfl, rfl, by omega, by omega, ?_⟩
    walk_at "go"
    refine ⟨_, _, rfl, rfl, by omega, by omega, ?_⟩
    refine b_join (by simp; omega) ?_
    walk_at "go"
    refine x_forC (fun at' ρc => at' ≤ n + 1 ∧ ∃ d1 d2 e, d1 = PyData.list (encF (rowsF nm f at') (n + 1)) ∧ d2 = PyData.list (encF (pwF f at') (n + 1)) ∧ e = ((fac at' : Nat) : Int) ∧
      ρc = ([("found", .d d1), ("raised", .d d2), ("fact", .d (.int e)), ("name", .d (.str nm)), ("told", .d (.list (encF f (n + 1))))] : PEnv)) ?_ (by kernel_rfl) (by intro _ _; kernel_rfl)
    walk_at "go"
    refine ⟨n + 1, rfl, by omega, rfl, ⟨_, ⟨Nat.zero_le _, .list (List.replicate ((n + 1 : Nat) : Int).toNat (.tuple [.int 0, .int 1])), .list ([.tuple [.int 1, .int 1]] ++ List.replicate (((n + 1 : Nat) : Int) - 1).toNat (.tuple [.int 0, .int 1])), 1, ?_, ?_, rfl, rfl⟩, by walk_at "sub"⟩, fun at' d ρc hd hJ => ?_, fun ρc ρ' hJ hs => ?_⟩
    · rw [Int.toNat_natCast]
      exact congrArg PyData.list (encF_rep 0 (n + 1))
    · rw [show (((n + 1 : Nat) : Int) - 1).toNat = n by omega]
      refine congrArg PyData.list ?_
      rw [show pwF f 0 = cst 1 from rfl, ← encF_cst]
      rfl
    · obtain ⟨hi, rfl⟩ := rng_get hd
      obtain ⟨_, d1, d2, e, rfl, rfl, rfl, rfl⟩ := hJ
      have e0 : (0 : Int) + (at' : Int) = (at' : Int) := by omega
      rw [e0]
      obtain ⟨hv0, hv1, hv2⟩ := nuP_ok nm hnm at' (by omega)
      obtain ⟨u, hu⟩ : ∃ u, u = (nuP nm at').1 := ⟨_, rfl⟩
      obtain ⟨v, hv⟩ : ∃ v, v = (nuP nm at').2 := ⟨_, rfl⟩
      refine s_cons ?_
      walk_at "ms"
      repeat walk_at "me"
      generalize hτ : ([("at", .d (.int (at' : Int))), ("found", .d (.list (encF (rowsF nm f at') (n + 1)))), ("raised", .d (.list (encF (pwF f at') (n + 1)))), ("fact", .d (.int ((fac at' : Nat) : Int))), ("name", .d (.str nm)), ("told", .d (.list (encF f (n + 1))))] : PEnv) = τ
      refine s_join (("number", .d (.tuple [.int u, .int v])) :: τ) ?_ ?_
      · have l1 : List.lookup ("at" : Str) τ = some (.d (.int (at' : Int))) := by rw [← hτ]; walk_at "lk"
        have l2 : List.lookup ("fact" : Str) τ = some (.d (.int ((fac at' : Nat) : Int))) := by rw [← hτ]; walk_at "lk"
        have l3 : List.lookup ("name" : Str) τ = some (.d (.str nm)) := by rw [← hτ]; walk_at "lk"
        have l4 : ∀ p, Sub τ (("number", p) :: τ) := fun p => by rw [← hτ]; walk_at "sub"
        have l5 : ∀ p q, Sub τ (("number", p) :: ("number", q) :: τ) := fun p q => by rw [← hτ]; walk_at "sub"
        clear hP hNu hf hv0 hv1 hv2 hd hB e0 hτ
        rcases hnm with rfl | rfl | rfl | rfl
        · walk_at "go"
          · intro _
            walk_at "go"
            exact sub_cons' (by walk_at "lk") (by rw [hu, hv]; exact by kernel_rfl) (by first | exact l5 _ _ | exact l4 _)
          · intro h; exact absurd rfl h
        · walk_at "go"
          · intro h; exact absurd h (by decide +kernel)
          intro _
          walk_at "go"
          · intro _
            walk_at "go"
            · intro h
              walk_at "go"
              obtain rfl : at' = 0 := by omega
              exact sub_cons' (by walk_at "lk") (by rw [hu, hv]; exact by kernel_rfl) (by first | exact l5 _ _ | exact l4 _)
            · intro h
              walk_at "go"
              · refine sub_l01 ?_
                rcases (by omega : at' = 0 ∨ at' = 1 ∨ at' = 2 ∨ at' = 3) with rfl | rfl | rfl | rfl
                · exact absurd rfl h
                · refine .inr ⟨rfl, ?_⟩
                  walk_at "go"
                  exact sub_cons' (by walk_at "lk") (by rw [hu, hv]; exact by kernel_rfl) (by first | exact l5 _ _ | exact l4 _)
                · refine .inl ⟨rfl, ?_⟩
                  walk_at "go"
                  exact sub_cons' (by walk_at "lk") (by rw [hu, hv]; exact by kernel_rfl) (by first | exact l5 _ _ | exact l4 _)
                · refine .inr ⟨rfl, ?_⟩
                  walk_at "go"
                  exact sub_cons' (by walk_at "lk") (by rw [hu, hv]; exact by kernel_rfl) (by first | exact l5 _ _ | exact l4 _)
              · decide
          · intro h; exact absurd rfl h
        · walk_at "go"
          · intro h; exact absurd h (by decide +kernel)
          intro _
          walk_at "go"
          · intro h; exact absurd h (by decide +kernel)
          intro _
          rcases (by omega : at' = 0 ∨ at' = 1 ∨ at' = 2 ∨ at' = 3) with rfl | rfl | rfl | rfl
          all_goals
            walk_at "go"
            · intro _
              walk_at "go"
              · intro h
                first
                | (exfalso; exact absurd h (by decide))
                | (walk_at "go"
                   · refine sub_l01 ?_
                     first
                     | (refine .inl ⟨rfl, ?_⟩
                        walk_at "go"
                        exact sub_cons' (by walk_at "lk") (by rw [hu, hv]; exact by kernel_rfl) (by first | exact l5 _ _ | exact l4 _))
                     | (refine .inr ⟨rfl, ?_⟩
                        walk_at "go"
                        exact sub_cons' (by walk_at "lk") (by rw [hu, hv]; exact by kernel_rfl) (by first | exact l5 _ _ | exact l4 _))
                   all_goals decide)
              · intro h
                first
                | (exfalso; exact absurd (by decide) h)
                | (walk_at "go"
                   exact sub_cons' (by walk_at "lk") (by rw [hu, hv]; exact by kernel_rfl) (by first | exact l5 _ _ | exact l4 _))
            · intro h; exact absurd rfl h
            · decide
        · walk_at "go"
          · intro h; exact absurd h (by decide +kernel)
          intro _
          walk_at "go"
          · intro h; exact absurd h (by decide +kernel)
          intro _
          rcases (by omega : at' = 0 ∨ at' = 1 ∨ at' = 2 ∨ at' = 3) with rfl | rfl | rfl | rfl
          all_goals
            walk_at "go"
            · intro h; exact absurd h (by decide +kernel)
            · intro _
              walk_at "go"
              · intro h
                first
                | (exfalso; exact absurd h (by decide))
                | (walk_at "go"
                   · refine sub_l01 ?_
                     first
                     | (refine .inl ⟨rfl, ?_⟩
                        walk_at "go"
                        exact sub_cons' (by walk_at "lk") (by rw [hu, hv]; exact by kernel_rfl) (by first | exact l5 _ _ | exact l4 _))
                     | (refine .inr ⟨rfl, ?_⟩
                        walk_at "go"
                        exact sub_cons' (by walk_at "lk") (by rw [hu, hv]; exact by kernel_rfl) (by first | exact l5 _ _ | exact l4 _))
                   all_goals decide)
              · intro h
                first
                | (exfalso; exact absurd (by decide) h)
                | (walk_at "go"
                   exact sub_cons' (by walk_at "lk") (by rw [hu, hv]; exact by kernel_rfl) (by first | exact l5 _ _ | exact l4 _))
            · decide
      · subst hτ
        have hSf : ∀ i, i < n + 1 → Sz (at' * (340 * (B + 1) + 3 + 1)) (sumF (fun k => pwF f k i * nuQ nm k) at') := fun i hi' => Sz.sumF fun s hs => (hP s (by omega) i hi').mul (hNu s (by omega))
        have hat4 : at' * (340 * (B + 1) + 3 + 1) ≤ 4 * (340 * (B + 1) + 3 + 1) := Nat.mul_le_mul_right _ (by omega)
        have hPa := hP at' (by omega)
        walk_at "go"
        refine e_compP (fun i => encQ (pwF f at' i * nuQ nm at')) ?_ (by kernel_rfl) (by kernel_rfl) (by kernel_rfl) (by kernel_rfl) (by intro _ _; kernel_rfl)
        refine wi_list ?_ (.inr ⟨_, _, _, rfl⟩)
        walk_at "go"
        refine ⟨_, rfl, fun d hd => ?_, rfl, by rw [encF_len]; omega, fun i d hd => ?_, ?_⟩
        · obtain ⟨i, _, rfl⟩ := List.mem_map.mp hd
          exact .inr ⟨_, rfl⟩
        · have hi' : i < n + 1 := by
            have := (List.getElem?_eq_some_iff.mp hd).1
            rwa [encF_len] at this
          rw [encF_get hi'] at hd
          cases hd
          refine ⟨_, _, rfl, ?_⟩
          have dp := den_pos (pwF f at' i)
          walk_at "go"
          · refine wv_of (c_low hC _ _ (Int.mul_pos dp (by rw [hv]; exact hv0)) _) ?_ ?_
            · decide
            rw [q_scale, hu, hv]
            exact ⟨rfl, rfl⟩
          all_goals first | exact mulOk (hPa i hi').1 (by rw [hu]; exact hv1) (by omega) | exact mulOk (x := 340 * (B + 1)) (by simpa using (hPa i hi').2) (by rw [hv]; exact hv2) (by omega)
        · rw [encF_len]
          walk_at "go"
          refine wv_of (c_plus hC (rowsF nm f at') (fun i => pwF f at' i * nuQ nm at') (n + 1) (n + 1) (by omega) (by omega) hSf (fun i hi' => (hPa i hi').mul (hNu at' (by omega))) (by omega) _) ?_ ?_
          · decide
          rw [Nat.min_self]
          walk_at "go"
          · refine wv_of (c_times hC (pwF f at') f (n + 1) (n + 1) (by omega) (by omega) hPa hf ?_ _) ?_ ?_
            · have : (n + 1 + 2) * (340 * (B + 1) + B + 1) ≤ 6 * (340 * (B + 1) + B + 1) := Nat.mul_le_mul_right _ (by omega)
              omega
            · decide
            rw [Nat.min_self]
            walk_at "go"
            · refine ⟨_, ⟨by omega, .list (encF (fun i => rowsF nm f at' i + pwF f at' i * nuQ nm at') (n + 1)), .list (encF (conv (pwF f at') f) (n + 1)), ((fac at' : Nat) : Int) * ((at' : Int) + 1), rfl, rfl, ?_, rfl⟩, by walk_at "sub"⟩
              show _ = ((fac at' * (at' + 1) : Nat) : Int)
              rw [Int.natCast_mul]; rfl
            · exact IntMulOk.of_right (intBits_le_64 (by omega) (by omega))
    · obtain ⟨_, d1, d2, e, rfl, rfl, rfl, rfl⟩ := hJ
      rw [rng_len] at hs
      refine WS.weaken ?_ hs
      walk_at "go"
  all_goals first | omega | (rw [encF_len]; omega)
set_option maxHeartbeats 4000000




theorem Sz.inv {c : Rat} {B : Nat} (hc : c ≠ 0) (h : Sz B c) : Sz B c⁻¹ := by
  have := Sz.div hc (Sz.one (B := 0)) h
  rw [Rat.div_def] at this
  have e : (1 : Rat) * c⁻¹ = c⁻¹ := by grind
  rw [e, Nat.zero_add] at this
  exact this
theorem inv_pos {c : Rat} (h : 0 < c.num) : encQ c⁻¹ = .tuple [.int c.den, .int c.num] := by
  rw [Rat.inv_def]
  have hg : Int.gcd c.den c.num = 1 := by rw [Int.gcd_comm]; exact c.reduced
  have hn : c.num ≠ 0 := by omega
  have e1 := divInt_num (a := (c.den : Int)) hn
  have e2 := divInt_den (a := (c.den : Int)) hn
  rw [if_pos h, hg] at e1 e2
  unfold encQ
  rw [e1, e2]
  simp
theorem inv_neg {c : Rat} (h : c.num < 0) : encQ c⁻¹ = .tuple [.int (0 - c.den), .int (0 - c.num)] := by
  rw [Rat.inv_def]
  have hg : Int.gcd c.den c.num = 1 := by rw [Int.gcd_comm]; exact c.reduced
  have hn : c.num ≠ 0 := by omega
  have e1 := divInt_num (a := (c.den : Int)) hn
  have e2 := divInt_den (a := (c.den : Int)) hn
  rw [if_neg (by omega), hg] at e1 e2
  unfold encQ
  rw [e1, e2]
  have f1 : ∀ z : Int, z.fdiv (-((1 : Nat) : Int)) = 0 - z := fun z => by
    have : z = (-((1 : Nat) : Int)) * (0 - z) := by simp
    conv => lhs; rw [this]
    rw [Int.mul_fdiv_cancel_left _ (by decide)]
  rw [f1, f1]
noncomputable def leftF (f : Nat → Rat) (i : Nat) : Rat := if i = 0 then 0 else -(f i * (f 0)⁻¹)
noncomputable def turnF (f : Nat → Rat) (n i : Nat) : Rat := sumF (fun k => pwF (leftF f) k i) n * (f 0)⁻¹
theorem q_negmul (a b : Rat) : Rat.divInt (0 - a.num * b.num) (a.den * b.den) = -(a * b) := by
  rw [Int.zero_sub, ← Rat.neg_divInt, q_mul]
noncomputable def accF (f : Nat → Rat) (n i : Nat) : Rat := sumF (fun k => pwF (leftF f) k i) n
theorem c_turned {C : Cx} (hC : C.K = KK C.w.params) {B : Nat} (f : Nat → Rat) (n : Nat) (hn : n + 1 ≤ 4) (h0 : f 0 ≠ 0) (hf : ∀ i, i < n + 1 → Sz B (f i)) (hB : B ≤ 10000) (β : Bx) :
    CallR C 3 354 [.d (.list (encF f (n + 1)))] β (.list (encF (turnF f (n + 1)) (n + 1))) β := by
  have hI : Sz B (f 0)⁻¹ := Sz.inv h0 (hf 0 (by omega))
  have hL : ∀ i, i < n + 1 → Sz (2 * B) (leftF f i) := fun i hi => by
    unfold leftF
    split
    · exact Sz.zero
    · have h := (hf i hi).mul hI
      rw [← q_negmul]
      obtain ⟨_, _, c3, c4, _⟩ := (hf i hi).cross hI
      refine Sz.divInt (den_mul_ne _ _) ?_ ?_
      · rw [Int.zero_sub, Int.natAbs_neg, Nat.two_mul]; exact c4
      · rw [Nat.two_mul]; exact c3
  have hP : ∀ k, k ≤ 4 → ∀ i, i < n + 1 → Sz (340 * (2 * B + 1)) (pwF (leftF f) k i) := fun k hk i hi => (Sz.pwF hn hL k i hi).le (pb4 (2 * B) k hk)
  have hSf : ∀ k, k ≤ 4 → ∀ i, i < n + 1 → Sz (4 * (340 * (2 * B + 1) + 1)) (accF f k i) := fun k hk i hi' => (Sz.sumF (n := k) fun s hs => (hP s (by omega) i hi')).le (Nat.mul_le_mul_right _ hk)
  refine enter1 (F_law_turned hC) ?_
  refine s_cons ?_
  walk_at "ms"
  repeat walk_at "me"
  refine sub_F 0 ?_ ?_ ?_ ?_
  · repeat walk_at "me"
    refine s_cons ?_
    refine x_assignV (encQ (f 0)⁻¹) ?_ ?_ (by kernel_rfl) (by intro e he; cases e; cases he; kernel_rfl)
    · walk_at "go"
      · intro h
        walk_at "go"
        exact ⟨by rw [inv_pos h], rfl⟩
      · intro h
        walk_at "go"
        have := num_ne h0
        exact ⟨by rw [inv_neg (by omega)], rfl⟩
    walk_at "go"
    refine e_compN (fun i => encQ (-(f (i + 1) * (f 0)⁻¹))) ?_ (by kernel_rfl) (by kernel_rfl) (by kernel_rfl) (by kernel_rfl) (by intro _ _; kernel_rfl)
    refine wi_list ?_ (.inl ⟨_, _, rfl⟩)
    walk_at "go"
    refine ⟨_, 1, rfl, rfl, by omega, by rw [encF_len]; omega, ?_⟩
    rw [encF_drop, show n + 1 - (1 : Int).toNat = n from by rw [show (1 : Int).toNat = 1 from rfl]; omega]
    refine ⟨_, rfl, fun d hd => .inl ⟨_, _, rfl⟩, rfl, by rw [encF_len]; omega, fun i d hd => ?_, ?_⟩
    · have hi' : i < n := by
        have := (List.getElem?_eq_some_iff.mp hd).1
        rwa [encF_len] at this
      rw [encF_get hi'] at hd
      cases hd
      have hfi := hf (i + 1) (by omega)
      show WE C 2 _ _ ((_, .d (encQ (f (i + 1)))) :: _) _ _
      walk_at "go"
      · refine wv_of (c_low hC _ _ (Int.mul_pos (den_pos _) (den_pos _)) _) ?_ ?_
        · decide
        rw [q_negmul]
        exact ⟨rfl, rfl⟩
      all_goals first | exact mulOk hfi.1 hI.1 (by omega) | exact mulOk (x := B) (y := B) (by simpa using hfi.2) (by simpa using hI.2) (by omega)
    · rw [encF_len]
      refine b_join (by simp; omega) ?_
      rw [show [PyData.tuple [.int 0, .int 1]] ++ List.map (fun i => encQ (-(f (i + 1) * (f 0)⁻¹))) (List.range n) = encF (leftF f) (n + 1) from by
        rw [encF_cons]
        show _ = encQ 0 :: _
        refine congrArg (List.cons _) (encF_congr (f := fun i => -(f (i + 1) * (f 0)⁻¹)) fun i _ => ?_)
        unfold leftF
        rw [if_neg (Nat.succ_ne_zero i)]]
      walk_at "go"
      · refine ⟨_, _, rfl, rfl, by omega, by omega, ?_⟩
        walk_at "go"
        · refine ⟨_, _, rfl, rfl, by omega, by omega, ?_⟩
          refine b_join (by simp; omega) ?_
          walk_at "go"
          refine x_forC (fun at' ρc => at' ≤ n + 1 ∧ ∃ d1 d2, d1 = PyData.list (encF (accF f at') (n + 1)) ∧ d2 = PyData.list (encF (pwF (leftF f) at') (n + 1)) ∧
            ρc = ([("found", .d d1), ("raised", .d d2), ("first", .d (encQ (f 0)⁻¹)), ("left", .d (.list (encF (leftF f) (n + 1))))] : PEnv)) ?_ (by kernel_rfl) (by intro _ _; kernel_rfl)
          walk_at "go"
          · refine ⟨n + 1, rfl, by omega, rfl, ⟨_, ⟨Nat.zero_le _, .list (List.replicate ((n + 1 : Nat) : Int).toNat (.tuple [.int 0, .int 1])), .list ([.tuple [.int 1, .int 1]] ++ List.replicate (((n + 1 : Nat) : Int) - 1).toNat (.tuple [.int 0, .int 1])), ?_, ?_, rfl⟩, by walk_at "sub"⟩, fun at' d ρc hd hJ => ?_, fun ρc ρ' hJ hs => ?_⟩
            · rw [Int.toNat_natCast]
              exact congrArg PyData.list (encF_rep 0 (n + 1))
            · rw [show (((n + 1 : Nat) : Int) - 1).toNat = n by omega]
              refine congrArg PyData.list ?_
              rw [show pwF (leftF f) 0 = cst 1 from rfl, ← encF_cst]
              rfl
            · obtain ⟨hi, rfl⟩ := rng_get hd
              obtain ⟨_, d1, d2, rfl, rfl, rfl⟩ := hJ
              walk_at "go"
              refine wv_of (c_plus hC (accF f at') (pwF (leftF f) at') (n + 1) (n + 1) (by omega) (by omega) (hSf at' (by omega)) (hP at' (by omega)) (by omega) _) ?_ ?_
              · decide
              rw [Nat.min_self]
              walk_at "go"
              refine wv_of (c_times hC (pwF (leftF f) at') (leftF f) (n + 1) (n + 1) (by omega) (by omega) (hP at' (by omega)) hL ?_ _) ?_ ?_
              · have : (n + 1 + 2) * (340 * (2 * B + 1) + 2 * B + 1) ≤ 6 * (340 * (2 * B + 1) + 2 * B + 1) := Nat.mul_le_mul_right _ (by omega)
                omega
              · decide
              rw [Nat.min_self]
              walk_at "go"
              exact ⟨_, ⟨by omega, .list (encF (fun i => accF f at' i + pwF (leftF f) at' i) (n + 1)), .list (encF (conv (pwF (leftF f) at') (leftF f)) (n + 1)), rfl, rfl, rfl⟩, by walk_at "sub"⟩
            · obtain ⟨_, d1, d2, rfl, rfl, rfl⟩ := hJ
              rw [rng_len] at hs
              refine WS.weaken ?_ hs
              walk_at "go"
              refine e_compN (fun i => encQ (accF f (n + 1) i * (f 0)⁻¹)) ?_ (by kernel_rfl) (by kernel_rfl) (by kernel_rfl) (by kernel_rfl) (by intro _ _; kernel_rfl)
              refine wi_list ?_ (.inl ⟨_, _, rfl⟩)
              walk_at "go"
              refine ⟨_, rfl, fun d hd => .inl ⟨_, _, rfl⟩, rfl, by rw [encF_len]; omega, fun i d hd => ?_, ?_⟩
              · have hi' : i < n + 1 := by
                  have := (List.getElem?_eq_some_iff.mp hd).1
                  rwa [encF_len] at this
                rw [encF_get hi'] at hd
                cases hd
                have hfi := hSf (n + 1) (by omega) i hi'
                show WE C 2 _ _ ((_, .d (encQ (accF f (n + 1) i))) :: _) _ _
                walk_at "go"
                · refine wv_of (c_low hC _ _ (Int.mul_pos (den_pos _) (den_pos _)) _) ?_ ?_
                  · decide
                  rw [q_mul]
                  exact ⟨rfl, rfl⟩
                all_goals first | exact mulOk hfi.1 hI.1 (by omega) | exact mulOk (x := 4 * (340 * (2 * B + 1) + 1)) (y := B) (by simpa using hfi.2) (by simpa using hI.2) (by omega)
              · rw [encF_len]
                walk_at "go"
          all_goals omega
        all_goals omega
      all_goals omega
  all_goals omega
set_option maxHeartbeats 1000000

section
variable {C : Cx} {X Y : Addr → Prop} {bx : Option Addr} {β β' : Bx} {sc : Scope} {ρ ρ' : PEnv} {env : Env} {ow ow' : Own} {h h' : Heap}
theorem FOk.genS (F : FOk C X bx β sc ρ env ow h) (h0 : C.h₀.StaysIn h') (y0 : ∀ a, Y a → C.h₀.get? a = none) (yl : ∀ a, Y a → ∃ o, h'.get? a = some o) (B : BoxIs h' (XO Y ow) bx β')
    (pk : ∀ b o, Priv env ow b → h.get? b = some o → h'.get? b = some o) (k : ∀ b o, ¬ XO X ow b → h.get? b = some o → (∃ its n, o.data = .seq its n) → h'.get? b = some o ∧ ¬ XO Y ow b) (oy : ∀ a ∈ ow.map (·.2), ¬ Y a) (by' : ∀ a, bx = some a → Y a) : FOk C Y bx β' sc ρ env ow h' where
  s := ⟨h0, fun a q => q.elim (y0 a) fun q => F.s.xnew a (.inr q), fun a q => q.elim (yl a) fun q => let ⟨o, e⟩ := F.s.xlive a (.inr q); ⟨o, pk a o (.inr (.inr q)) e⟩, B⟩
  eok := F.eok
  scope := F.scope
  lnew := F.lnew
  cnew := F.cnew
  loc := let ⟨m, hn⟩ := F.loc; ⟨m, hn.at' fun o e => pk _ o (.inl rfl) e⟩
  cel := fun x c hc => by
    obtain ⟨v, o, ho, hd⟩ := F.cel x c hc
    exact ⟨v, o, pk _ o (.inr (.inl (lookup_in hc))) ho, hd⟩
  cla := F.cla
  cnd := F.cnd
  clk := F.clk
  vars := fun x p hl n => by
    obtain ⟨v, hv, r⟩ := F.vars x p hl n
    have hv' : VarIs h' env x v := hv.at' (fun o e => pk _ o (.inl rfl) e) fun c hc o e => pk c o (.inr (.inl hc)) e
    cases p with
    | d x => exact ⟨v, hv', Rep.moveS k r⟩
    | box => exact ⟨v, hv', r⟩
    | own xs => exact absurd rfl (n xs)
  own := fun x xs hl => by
    obtain ⟨a, vs, h1, hv, h3, h4, h5⟩ := F.own x xs hl
    exact ⟨a, vs, h1, hv.at' (fun o e => pk _ o (.inl rfl) e) fun c hc o e => pk c o (.inr (.inl hc)) e, PlainL.keepAt h3 fun o e => pk _ o (.inr (.inr (lookup_in h1))) e, h4.moveS k, h5⟩
  ond := F.ond
  onx := oy
  bxx := by'
end
section
variable {C : Cx} {k : Nat} {sc : Scope} {ρ : PEnv} {β : Bx} {N : PEnv → Bx → Prop} {T : PyData → Bx → Prop}
/-- a comprehension whose value goes to a name at once -/
theorem x_assignComp {elt iter target : Expr} {cs : Scope} {x : Str} {px pos cpos : Pos}
    (h : WI C k sc.names target iter ρ β fun ds β₁ => ds.length ≤ 16384 ∧ CompR (stepC C k cs.names target elt (freeEnv cs.names ρ)) ds [] β₁ fun out β₂ => N ((x, .d (.list out)) :: ρ) β₂)
    (hx : isVar sc x = true) (hkd : cs.kind = .function) (hsc : scopeOk cs = true) (hfr : freeOk cs.names sc.names ρ = true) (htg : okT (fun x => cs.names.lookup x) target = true)
    (hs : ∀ env x, foldedSetIterable iter env x = pure x) (hsw : ∀ env, env.scope = sc → swapsWith (.ListComp elt [⟨target, iter, [], 0⟩] cs cpos) (some (.Name x px)) pos.line env = pure true) :
    WX C k sc (.Assign [.Name x px] (.ListComp elt [⟨target, iter, [], 0⟩] cs cpos) pos) ρ β N T :=
  fun A s env X bx ow P E R F c r => by
    rw [exec_Assign_Name_used x px _ pos (hsw env F.scope)]
    refine wpAny_bind (wpAny_standAt (wpAny_bind ?_))
    rw [arm_evalThenUse_ListComp]
    obtain ⟨cl, hclos, hcl⟩ := closure_ok (cells_of F.e hfr)
    refine wpAny_bind (wpAny_comprehension_free (use := some (assign (.Name x px) env)) rfl (hs env) hclos hkd (scope_names hsc) (h A s env (XO X ow) bx _ E R F.e fun it h' tk ds β₁ q k1 B1 I1 => ?_))
    obtain ⟨hz, hr⟩ := q
    refine comp_core (s := { s with heap := h', toks := tk }) (RR := fun acc L => compPost (model C.prog C.w) A E (some (assign (.Name x px) env)) _ acc L) R F.e k1 (F.e.step k1 B1) I1 hz hr hkd hsc hfr htg hcl ?_
    intro D L h2 tk2 m out β₂ q2 hn hL hD hDL k2 B2 r2
    have nbL : bx ≠ some L := fun q => by
      obtain ⟨_, vs, ⟨o', e', _, n, d'⟩, _⟩ := B2 _ q
      obtain ⟨oL, _, _, eL, dL, _⟩ := hn
      rw [eL] at e'; cases e'; rw [dL] at d'; cases d'
    have hL0 : s.heap.get? L = none := by
      cases e : s.heap.get? L with
      | none => rfl
      | some o => have := k1 L o nbL e; rw [hL] at this; cases this
    have XL : ¬ XO X ow L := fun q => by
      obtain ⟨o, e⟩ := F.s.xlive _ q
      rw [hL0] at e; cases e
    have F2 : FOk C X bx β₂ sc ρ env ow h2 := F.step k2 B2
    have Lp : ¬ Priv env ow L := fun q => by
      obtain ⟨o, e⟩ := F.privLive (.inr q)
      rw [hL0] at e; cases e
    refine wpAny_assign_Name (store_core (s := { s with heap := h2, toks := tk2 }) F2 hx fun h3 tk3 S => ?_)
    refine ⟨m, hn.at' fun o e => S.keep L o (fun q => Lp (.inl q)) (fun q => Lp (.inr (.inl q))) e, fun h4 hs4 => wpAny_pure (wpAny_pure ?_)⟩
    have rr : Rep h2 (XO X ow) (.ref D) (.list out) := r2.move fun b o n e => ⟨e, fun q => n (.inl q)⟩
    have F3 := F2.bind S (.inl ⟨_, rfl, rr⟩)
    have F4 : FOk C X bx β₂ sc ((x, .d (.list out)) :: ρ) env ow h4 := by
      refine F3.genS (fun b o e => hs4.extBut b o (fun q => ?_) (F3.s.base b o e)) (fun a q => F.s.xnew a (.inl q)) (fun a q => ?_) (fun a q => ?_) (fun b o p e => hs4.extBut b o (fun q => Lp (q ▸ p)) e) (fun b o n e sq => ⟨hs4.extBut b o (fun q => ?_) e, n⟩) F.onx F.bxx
      · have := F.s.base b o e; rw [q, hL0] at this; cases this
      · obtain ⟨o, e⟩ := F3.s.xlive a (.inl q)
        exact ⟨o, hs4.extBut a o (fun q2 => XL (.inl (q2 ▸ q))) e⟩
      · obtain ⟨xa, vs, hl, r⟩ := F3.s.box a q
        refine ⟨xa, vs, IsList.keepAt hl fun o e => hs4.extBut a o (fun q2 => nbL (q2 ▸ q)) e, r.moveS fun b o n e sq => ⟨hs4.extBut b o (fun q2 => ?_) e, n⟩⟩
        obtain ⟨oL, es, ep, eL, dL, _⟩ := hn.at' fun o e => S.keep L o (fun q => Lp (.inl q)) (fun q => Lp (.inr (.inl q))) e
        obtain ⟨its, n', sd⟩ := sq
        rw [q2, eL] at e; cases e; rw [dL] at sd; cases sd
      · obtain ⟨oL, es, ep, eL, dL, _⟩ := hn.at' fun o e => S.keep L o (fun q => Lp (.inl q)) (fun q => Lp (.inr (.inl q))) e
        obtain ⟨its, n', sd⟩ := sq
        rw [q, eL] at e; cases e; rw [dL] at sd; cases sd
    refine c h4 tk3 _ β₂ ow q2 F4 (fun b o nb np e => hs4.extBut b o (fun q => ?_) (S.keep b o (fun q => np (.inl q)) (fun q => np (.inr (.inl q))) (k2 b o nb e))) OwExt.refl
    rw [q, hL0] at e; cases e
end



section
variable {C : Cx} {k : Nat} {sc : Scope} {ρ : PEnv} {β : Bx} {N : PEnv → Bx → Prop} {T : PyData → Bx → Prop}
/-- a new list of the frame's own, with items -/
theorem x_ownL {x : Str} {px lp pos : Pos} {es : List Expr} (h : WEs C k sc.names es ρ β fun ps β₁ => AllD ps fun xs => N ((x, .own xs) :: ρ) β₁) (hx : isVar sc x = true)
    (hs : ∀ env, env.scope = sc → swapsWith (.List es lp) (some (.Name x px)) pos.line env = pure false) : WX C k sc (.Assign [.Name x px] (.List es lp) pos) ρ β N T :=
  fun A s env X bx ow P E R F c r => by
    refine PySem.wpAny_Assign_Name (List_ (h A s env (XO X ow) bx lp _ E R F.e fun vs h' tk ps β₁ q k1 B1 r1 => ?_)) (hs env F.scope)
    obtain ⟨xs, rfl, hz, q⟩ := q
    have rr := r1.all
    refine wpAny_newObj_type ?_ (by show vs.toArray.size ≤ sizeLine; rw [List.size_toArray, rr.length]; exact size_ok hz)
    have F1 := F.step k1 B1
    have F2 := F1.newOwn (o := { cls := .type "list", data := .seq vs.toArray }) x rfl
    refine store_core (s := { s with heap := h'.push _, toks := tk }) F2 hx fun h2 tk2 S => ?_
    have nb : bx ≠ some h'.objs.size := fun q => by
      obtain ⟨o, e⟩ := F1.s.xlive _ (F1.s.box _ q).1
      rw [size_dead] at e; cases e
    have rm : RepAll (h'.push { cls := .type "list", data := .seq vs.toArray }) (XO X ((x, h'.objs.size) :: ow)) vs xs := rr.move fun b o n e => ⟨Heap.get?_push_of_some _ e, fun q => by
      rcases q with q | q
      · exact n (.inl q)
      · rcases List.mem_cons.mp q with q | q
        · have e' : b = h'.objs.size := q
          rw [e', size_dead] at e; cases e
        · exact n (.inr q)⟩
    refine c h2 tk2 _ β₁ ((x, h'.objs.size) :: ow) q ((F2.bind S (.inr ⟨xs, h'.objs.size, vs, rfl, rfl, by simp, ⟨_, 0, Heap.get?_push_size _ rfl, rfl, rfl, rfl⟩, rm, nb⟩)).weaken sub_filter) ?_ fun a m => ?_
    · exact fun b o nb np e => S.keep b o (fun q => np (.inl q)) (fun q => np (.inr (.inl q))) (Heap.get?_push_of_some _ (k1 b o nb e))
    · rcases List.mem_cons.mp m with q | q
      · refine .inr ?_
        cases e : s.heap.get? a with
        | none => rfl
        | some o =>
          by_cases nb' : bx = some a
          · have e' : a = h'.objs.size := q
            exact absurd (e' ▸ nb') nb
          · have := k1 a o nb' e
            have e' : a = h'.objs.size := q
            rw [e', size_dead] at this; cases this
      · exact .inl q
end
noncomputable def tZ (a : Int) : PyData := .tuple [.str "num", .int a, .int 1]
noncomputable def tPoly (a b c : Int) : PyData := tSum [tZ a, tProd [tZ b, tX], tProd [tZ c, .tuple [.str "pow", tX, tZ 2]]]
noncomputable def polyAt (a b c : Int) (q : Rat) (i : Nat) : Rat := if i = 0 then (a : Rat) + b * q + c * (q * q) else if i = 1 then (b : Rat) + 2 * (c * q) else if i = 2 then (c : Rat) else 0
theorem encZ (a : Int) : encQ (a : Rat) = .tuple [.int a, .int 1] := by simp [encQ]
theorem poly_row (a b c : Int) (n : Nat) (h : n = 3 ∨ n = 4) : List.take n ([PyData.tuple [.int a, .int 1], .tuple [.int b, .int 1], .tuple [.int c, .int 1]] ++ List.replicate n (.tuple [.int 0, .int 1])) = encF (polyAt a b c 0) n := by
  have e0 : polyAt a b c 0 0 = (a : Rat) := by unfold polyAt; rw [if_pos rfl]; grind
  have e1 : polyAt a b c 0 1 = (b : Rat) := by unfold polyAt; rw [if_neg (by decide), if_pos rfl]; grind
  have e2 : polyAt a b c 0 2 = (c : Rat) := by unfold polyAt; rw [if_neg (by decide), if_neg (by decide), if_pos rfl]
  have e3 : polyAt a b c 0 3 = 0 := by unfold polyAt; rw [if_neg (by decide), if_neg (by decide), if_neg (by decide)]
  rcases h with rfl | rfl
  · simp only [encF, List.range, List.range.loop, List.map, e0, e1, e2, encZ]
    rfl
  · simp only [encF, List.range, List.range.loop, List.map, e0, e1, e2, e3, encZ]
    rfl
theorem c_poly {C : Cx} (hC : C.K = KK C.w.params) (n : Nat) (hn : n = 3 ∨ n = 4) (β : Bx) (hb : BG β) : ∃ a b c β', BG β' ∧ (-2 ≤ a ∧ a ≤ 2) ∧ (-2 ≤ b ∧ b ≤ 2) ∧ (-2 ≤ c ∧ c ≤ 2) ∧
    CallR C 2 359 [.box, .d (.int (n : Int))] β (.tuple [tPoly a b c, .list (encF (polyAt a b c 0) n)]) β' := by
  obtain ⟨v1, β1, g1, l1, u1, h1⟩ := c_take hC 5 (by decide) β hb
  obtain ⟨v2, β2, g2, l2, u2, h2⟩ := c_take hC 5 (by decide) β1 g1
  obtain ⟨v3, β3, g3, l3, u3, h3⟩ := c_take hC 5 (by decide) β2 g2
  refine ⟨v1 - 2, v2 - 2, v3 - 2, β3, g3, by omega, by omega, by omega, ?_⟩
  refine enter2 (F_law_poly hC) ?_
  refine s_cons ?_
  refine x_assignComp ?_ (by kernel_rfl) (by kernel_rfl) (by kernel_rfl) (by kernel_rfl) (by kernel_rfl) (by intro _ _; kernel_rfl) (by intro e he; cases e; cases he; kernel_rfl)
  walk_at "go"
  refine ⟨3, rfl, by omega, by decide, ?_⟩
  show CompR _ [.int (0 + ((0 : Nat) : Int)), .int (0 + ((1 : Nat) : Int)), .int (0 + ((2 : Nat) : Int))] [] β _
  refine ⟨trivial, ?_⟩
  show WE C _ _ _ ((_, .d _) :: freeEnv _ _) _ _
  walk_at "go"
  refine wv_of h1 (by decide) ?_
  walk_at "go"
  refine ⟨trivial, ?_⟩
  show WE C _ _ _ ((_, .d _) :: freeEnv _ _) _ _
  walk_at "go"
  refine wv_of h2 (by decide) ?_
  walk_at "go"
  refine ⟨trivial, ?_⟩
  show WE C _ _ _ ((_, .d _) :: freeEnv _ _) _ _
  walk_at "go"
  refine wv_of h3 (by decide) ?_
  walk_at "go"
  show WS C _ _ _ ((_, .d (.list [.int (v1 - 2), .int (v2 - 2), .int (v3 - 2)])) :: _) _ _ _
  refine s_cons ?_
  refine x_ownL ?_ (by kernel_rfl) (by intro e he; cases e; cases he; kernel_rfl)
  repeat walk_at "me"
  refine s_cons ?_
  refine x_append (by walk_at "lk") (by simp) ?_ (by kernel_rfl) (by intro e he; cases e; cases he; kernel_rfl) (by intro _; kernel_rfl) (by intro _; kernel_rfl) (by intro _; kernel_rfl) (by kernel_rfl) (by intro _; kernel_rfl)
  walk_at "go"
  refine n_tuple (by simp) ?_
  walk_at "go"
  refine e_compN (fun i => match i with | 0 => .tuple [.int (v1 - 2), .int 1] | 1 => .tuple [.int (v2 - 2), .int 1] | _ => .tuple [.int (v3 - 2), .int 1]) ?_ (by kernel_rfl) (by kernel_rfl) (by kernel_rfl) (by kernel_rfl) (by intro _ _; kernel_rfl)
  refine wi_list ?_ (.inl ⟨_, _, rfl⟩)
  walk_at "go"
  refine ⟨_, rfl, fun d hd => .inl ⟨_, _, rfl⟩, rfl, by simp, fun i d hd => ?_, ?_⟩
  · have hi : i < 3 := (List.getElem?_eq_some_iff.mp hd).1
    rcases (by omega : i = 0 ∨ i = 1 ∨ i = 2) with rfl | rfl | rfl
    all_goals
      cases hd
      walk_at "go"
  · walk_at "go"
    refine ⟨_, _, rfl, rfl, by omega, by omega, ?_⟩
    show WV C 1 _ [PV.d (.list [.tuple [.int (v1 - 2), .int 1], .tuple [.int (v2 - 2), .int 1], .tuple [.int (v3 - 2), .int 1]]), _] _ _
    refine b_join (by simp; omega) ?_
    walk_at "go"
    refine ⟨_, _, rfl, rfl, by omega, by simp; omega, ?_⟩
    rw [Int.toNat_natCast, poly_row _ _ _ n hn]
    walk_at "go"
set_option maxHeartbeats 1000000

theorem tZ_eq (a : Int) : tZ a = tN (a : Rat) := by simp [tZ, tN]
theorem cst0_add (p : Nat → Rat) (i : Nat) : cst 0 i + p i = p i := by
  unfold cst
  split <;> grind
theorem cst1_dl : cst 1 = dl := rfl
theorem encL_congr {l n : Nat} {f g : Nat → Rat} (h : ∀ i, i < n → f i = g i) : encL l f n = encL l g n := by
  unfold encL
  rw [encF_congr h]
theorem OT_prod2 {C : Cx} (hC : C.K = KK C.w.params) {k : Nat} (hk : 8 ≤ k) (q : Rat) (many : Nat) (hm : many + 1 ≤ 6) {t1 t2 : PyData} {p g : Nat → Rat} {l m : Nat} {X Y : Nat} (h1 : OT C k q (many + 1) t1 (encL 0 p (many + 1))) (h2 : OT C k q (many + 1) t2 (encL l g m)) (hml : m ≤ 6)
    (hX : ∀ i, i < many + 1 → Sz X (p i)) (hY : ∀ i, i < m → Sz Y (g i)) (hz : 8 * (X + (X + Y) + 1) ≤ 100000000) : OT C (k + 1) q (many + 1) (tProd [t1, t2]) (encL l (conv p g) (min (many + 1) m)) := by
  have := OT_prod hC hk q many (by omega) [t1, t2] (fun i => match i with | 0 => 0 | _ => l) (fun i => match i with | 0 => many + 1 | _ => m) (fun i => match i with | 0 => 0 | 1 => 0 | _ => l) (fun i => match i with | 0 => many + 1 | 1 => many + 1 | _ => min (many + 1) m)
    (fun i => match i with | 0 => p | _ => g) (fun i => match i with | 0 => cst 1 | 1 => p | _ => conv p g) (X := X) (Y := X + Y)
    (fun i t ht => ?_) ⟨rfl, rfl, rfl⟩ (fun i hi => ?_) (fun i hi => ?_)
  · exact this
  · rcases (by have := (List.getElem?_eq_some_iff.mp ht).1; simp at this; omega : i = 0 ∨ i = 1) with rfl | rfl
    · cases ht
      exact ⟨h1, by show many + 1 ≤ 100; omega, fun j hj => (hX j hj).le (by omega)⟩
    · cases ht
      exact ⟨h2, by show m ≤ 100; omega, fun j hj => (hY j hj).le (by omega)⟩
  · rcases (by simp at hi; omega : i = 0 ∨ i = 1) with rfl | rfl
    · exact ⟨by rw [show (cst 1) = dl from rfl]; exact (conv_dl' p).symm, rfl, (Nat.min_self _).symm⟩
    · exact ⟨rfl, (Nat.zero_add l).symm, rfl⟩
  · have h8 : (many + 1 + 2) * (X + (X + Y) + 1) ≤ 8 * (X + (X + Y) + 1) := Nat.mul_le_mul_right _ (by omega)
    rcases (by simp at hi; omega : i = 0 ∨ i = 1) with rfl | rfl
    · exact ⟨by show many + 1 ≤ 100; omega, by show (many + 1 + 2) * _ ≤ _; omega, fun j _ => Sz.dl j X⟩
    · exact ⟨by show many + 1 ≤ 100; omega, by show (many + 1 + 2) * _ ≤ _; omega, fun j hj => hX j hj⟩
theorem OT_sum2 {C : Cx} (hC : C.K = KK C.w.params) {k : Nat} (hk : 8 ≤ k) (q : Rat) (many : Nat) (hm : many + 1 ≤ 6) {t1 t2 : PyData} {p g : Nat → Rat} {X Y : Nat} (h1 : OT C k q (many + 1) t1 (encL 0 p (many + 1))) (h2 : OT C k q (many + 1) t2 (encL 0 g (many + 1)))
    (hX : ∀ i, i < many + 1 → Sz X (p i)) (hY : ∀ i, i < many + 1 → Sz Y (g i)) (hz : X + (X + Y) ≤ 100000000) : OT C (k + 1) q (many + 1) (tSum [t1, t2]) (encL 0 (fun i => p i + g i) (many + 1)) := by
  have := OT_sum hC hk q many (by omega) [t1, t2] (fun _ => 0) (fun _ => many + 1) (fun i => match i with | 0 => p | _ => g) (fun i => match i with | 0 => cst 0 | 1 => p | _ => fun i => p i + g i) (X := X) (Y := X + Y) hz
    (fun i t ht => ?_) rfl (fun i hi => ?_) (fun i hi => ?_)
  · exact this
  · rcases (by have := (List.getElem?_eq_some_iff.mp ht).1; simp at this; omega : i = 0 ∨ i = 1) with rfl | rfl
    · cases ht
      exact ⟨h1, by omega, by omega, fun j hj => (hX j hj).le (by omega)⟩
    · cases ht
      exact ⟨h2, by omega, by omega, fun j hj => (hY j hj).le (by omega)⟩
  · rcases (by simp at hi; omega : i = 0 ∨ i = 1) with rfl | rfl
    · funext n
      show p n = cst 0 n + shF 0 p n
      rw [shF0, cst0_add]
    · funext n
      show p n + g n = p n + shF 0 g n
      rw [shF0]
  · rcases (by simp at hi; omega : i = 0 ∨ i = 1) with rfl | rfl
    · intro j _
      show Sz X (cst 0 j)
      unfold cst
      split <;> exact Sz.zero
    · exact fun j hj => hX j hj
theorem i6 {P : Nat → Prop} (h0 : P 0) (h1 : P 1) (h2 : P 2) (h3 : P 3) (h4 : P 4) (h5 : P 5) : ∀ i, i < 6 → P i := fun i hi => by
  rcases (by omega : i = 0 ∨ i = 1 ∨ i = 2 ∨ i = 3 ∨ i = 4 ∨ i = 5) with rfl | rfl | rfl | rfl | rfl | rfl <;> assumption
theorem poly_ne (a b c : Rat) (q : Rat) : ∀ i, i < 6 → cst a i + shF 0 (conv (cst b) (symF q)) i + shF 0 (conv (cst c) (conv (symF q) (symF q))) i = (if i = 0 then a + b * q + c * (q * q) else if i = 1 then b + 2 * (c * q) else if i = 2 then c else 0) := by
  apply i6
  all_goals
    simp [cst, shF, conv, sumF, symF]
    try grind
theorem poly_0 (a b c : Rat) : ∀ i, i < 6 → cst a i + shF 0 (conv (cst b) (symF 0)) i + shF 2 (conv (cst c) dl) i = (if i = 0 then a + b * 0 + c * (0 * 0) else if i = 1 then b + 2 * (c * 0) else if i = 2 then c else 0) := by
  apply i6
  all_goals
    simp [cst, shF, conv, sumF, symF, dl]
    try grind
theorem Sz_int {a : Int} {B : Nat} (h : a.natAbs ≤ 2 ^ B) : Sz B (a : Rat) := ⟨by simpa using h, by simpa using Nat.one_le_two_pow⟩
theorem symF_sz {q : Rat} {B : Nat} (h : Sz B q) (i : Nat) : Sz B (symF q i) := by
  unfold symF
  split
  · exact h
  · split
    · exact Sz.one
    · exact Sz.zero
theorem cst_sz {q : Rat} {B : Nat} (h : Sz B q) (i : Nat) : Sz B (cst q i) := by
  unfold cst
  split
  · exact h
  · exact Sz.zero
theorem lz_sym0 (n : Nat) : lz (symF 0) (n + 2) = 1 := by
  have h1 : lz (fun i => symF 0 (i + 1)) (n + 1) = 0 := by
    unfold lz
    rw [if_neg (by simp [symF])]
  show (if symF 0 0 = 0 then lz (fun i => symF 0 (i + 1)) (n + 1) + 1 else 0) = 1
  rw [if_pos (by simp [symF]), h1]
theorem OT_poly {C : Cx} (hC : C.K = KK C.w.params) (s : Nat) (hs : s + 3 ≤ 6) (a b c : Int) (ha : -2 ≤ a ∧ a ≤ 2) (hb : -2 ≤ b ∧ b ≤ 2) (hc : -2 ≤ c ∧ c ≤ 2) (q : Rat) (hq : Sz 4 q) : OT C 20 q (s + 3) (tPoly a b c) (encL 0 (polyAt a b c q) (s + 3)) := by
  have za : Sz 1 (a : Rat) := Sz_int (by omega)
  have zb : Sz 1 (b : Rat) := Sz_int (by omega)
  have zc : Sz 1 (c : Rat) := Sz_int (by omega)
  have ox : OT C 10 q (s + 3) tX (encL 0 (symF q) (s + 3)) := OT_sym hC q (s + 1) (by omega)
  have o2 : OT C 12 q (s + 3) (.tuple [.str "pow", tX, tZ 2]) (encL (lz (symF q) (s + 3) * 2) (conv (fun i => symF q (i + lz (symF q) (s + 3))) (fun i => symF q (i + lz (symF q) (s + 3)))) (s + 3 - lz (symF q) (s + 3))) :=
    OT_pow hC (k := 10) (by decide) q (s + 3) tX 2 rfl _ _ ox fun β => (c_lpow2 hC (symF q) (s + 3) hs (fun i _ => symF_sz hq i) (by decide) β).le (by decide)
  have oa : OT C 10 q (s + 3) (tZ a) (encL 0 (cst a) (s + 3)) := by rw [tZ_eq]; exact OT_num hC q (s + 2) (by omega) a
  have ob : OT C 10 q (s + 3) (tZ b) (encL 0 (cst b) (s + 3)) := by rw [tZ_eq]; exact OT_num hC q (s + 2) (by omega) b
  have oc : OT C 10 q (s + 3) (tZ c) (encL 0 (cst c) (s + 3)) := by rw [tZ_eq]; exact OT_num hC q (s + 2) (by omega) c
  have zs : ∀ i, i < s + 3 - lz (symF q) (s + 3) → Sz (6 * (4 + 4 + 1)) (conv (fun i => symF q (i + lz (symF q) (s + 3))) (fun i => symF q (i + lz (symF q) (s + 3))) i) := fun i hi =>
    (Sz.conv (m := i + 1) (fun j _ => symF_sz hq _) (fun j _ => symF_sz hq _) (by omega)).le (Nat.mul_le_mul_right _ (by omega))
  have p1 : OT C 11 q (s + 3) (tProd [tZ b, tX]) (encL 0 (conv (cst b) (symF q)) (s + 3)) := by
    have := OT_prod2 hC (k := 10) (by decide) q (s + 2) (by omega) ob ox (by omega) (fun i _ => cst_sz zb i) (fun i _ => symF_sz hq i) (by decide)
    rwa [Nat.min_self] at this
  have p2 := OT_prod2 hC (k := 12) (by decide) q (s + 2) (by omega) (oc.le (by decide)) o2 (by omega) (fun i _ => cst_sz zc i) zs (by decide)
  have hlz := lz_le (s + 3) (symF q)
  rw [show min (s + 2 + 1) (s + 3 - lz (symF q) (s + 3)) = s + 3 - lz (symF q) (s + 3) by omega] at p2
  have z1 : ∀ j, j < s + 3 → Sz 60 (conv (cst b) (symF q) j) := fun j hj => (Sz.conv (m := s + 3) (fun j _ => cst_sz zb j) (fun j _ => symF_sz hq j) hj).le (by have := Nat.mul_le_mul_right (1 + 4 + 1) (show j + 1 ≤ 6 by omega); omega)
  have z2 : ∀ j, j < s + 3 - lz (symF q) (s + 3) → Sz 400 (conv (cst c) (conv (fun i => symF q (i + lz (symF q) (s + 3))) (fun i => symF q (i + lz (symF q) (s + 3)))) j) := fun j hj => (Sz.conv (m := s + 3 - lz (symF q) (s + 3)) (fun j _ => cst_sz zc j) zs hj).le (by have := Nat.mul_le_mul_right (1 + 6 * (4 + 4 + 1) + 1) (show j + 1 ≤ 6 by omega); omega)
  have z1' : ∀ j, j < s + 3 → Sz 62 (cst a j + shF 0 (conv (cst b) (symF q)) j) := fun j hj => by rw [shF0]; exact (cst_sz za j).add (z1 j hj)
  have := OT_sum hC (k := 13) (by decide) q (s + 2) (by omega) [tZ a, tProd [tZ b, tX], tProd [tZ c, .tuple [.str "pow", tX, tZ 2]]]
    (fun i => match i with | 0 => 0 | 1 => 0 | _ => lz (symF q) (s + 3) * 2) (fun i => match i with | 0 => s + 3 | 1 => s + 3 | _ => s + 3 - lz (symF q) (s + 3))
    (fun i => match i with | 0 => cst a | 1 => conv (cst b) (symF q) | _ => conv (cst c) (conv (fun i => symF q (i + lz (symF q) (s + 3))) (fun i => symF q (i + lz (symF q) (s + 3)))))
    (fun i => match i with | 0 => cst 0 | 1 => cst a | 2 => fun j => cst a j + shF 0 (conv (cst b) (symF q)) j | _ => fun j => (cst a j + shF 0 (conv (cst b) (symF q)) j) + shF (lz (symF q) (s + 3) * 2) (conv (cst c) (conv (fun i => symF q (i + lz (symF q) (s + 3))) (fun i => symF q (i + lz (symF q) (s + 3))))) j)
    (X := 400) (Y := 400) (by decide) (fun i t ht => ?_) rfl (fun i hi => ?_) (fun i hi => ?_)
  · have h14 : OT C 14 q (s + 3) (tPoly a b c) (encL 0 (fun j => (cst a j + shF 0 (conv (cst b) (symF q)) j) + shF (lz (symF q) (s + 3) * 2) (conv (cst c) (conv (fun i => symF q (i + lz (symF q) (s + 3))) (fun i => symF q (i + lz (symF q) (s + 3))))) j) (s + 3)) := this
    have e : encL 0 (polyAt a b c q) (s + 3) = encL 0 (fun j => (cst a j + shF 0 (conv (cst b) (symF q)) j) + shF (lz (symF q) (s + 3) * 2) (conv (cst c) (conv (fun i => symF q (i + lz (symF q) (s + 3))) (fun i => symF q (i + lz (symF q) (s + 3))))) j) (s + 3) := by
      refine encL_congr fun i hi => ?_
      unfold polyAt
      by_cases h0 : q = 0
      · subst h0
        rw [lz_sym0 (s + 1)]
        have ed : (fun i => symF 0 (i + 1)) = dl := by
          funext j
          unfold symF dl
          rw [if_neg (Nat.succ_ne_zero j)]
          congr 1
          simp
        rw [ed, conv_dl']
        exact (poly_0 a b c i (by omega)).symm
      · have h0' : symF q 0 ≠ 0 := by simpa [symF] using h0
        rw [lz_ne h0']
        exact (poly_ne a b c q i (by omega)).symm
    rw [e]
    exact h14.le (by decide)
  · rcases (by have := (List.getElem?_eq_some_iff.mp ht).1; simp at this; omega : i = 0 ∨ i = 1 ∨ i = 2) with rfl | rfl | rfl
    · cases ht
      exact ⟨oa.le (by decide), by show s + 2 + 1 ≤ 0 + (s + 3); omega, by show 0 + (s + 3) ≤ 500; omega, fun j hj => (cst_sz za j).le (by decide)⟩
    · cases ht
      exact ⟨p1.le (by decide), by show s + 2 + 1 ≤ 0 + (s + 3); omega, by show 0 + (s + 3) ≤ 500; omega, fun j hj => (z1 j hj).le (by decide)⟩
    · cases ht
      exact ⟨p2, by show s + 2 + 1 ≤ lz (symF q) (s + 3) * 2 + (s + 3 - lz (symF q) (s + 3)); omega, by show lz (symF q) (s + 3) * 2 + (s + 3 - lz (symF q) (s + 3)) ≤ 500; omega, fun j hj => z2 j hj⟩
  · rcases (by simp at hi; omega : i = 0 ∨ i = 1 ∨ i = 2) with rfl | rfl | rfl
    · funext n
      show cst (a : Rat) n = cst 0 n + shF 0 (cst a) n
      rw [shF0, cst0_add]
    · rfl
    · rfl
  · rcases (by simp at hi; omega : i = 0 ∨ i = 1 ∨ i = 2) with rfl | rfl | rfl
    · exact fun j _ => cst_sz Sz.zero j
    · exact fun j _ => (cst_sz za j).le (by decide)
    · exact fun j hj => (z1' j hj).le (by decide)
theorem poly_sz (a b c : Int) (ha : -2 ≤ a ∧ a ≤ 2) (hb : -2 ≤ b ∧ b ≤ 2) (hc : -2 ≤ c ∧ c ≤ 2) (i : Nat) : Sz 2 (polyAt a b c 0 i) := by
  unfold polyAt
  split
  · have : (a : Rat) + b * 0 + c * (0 * 0) = a := by grind
    rw [this]; exact Sz_int (by omega)
  · split
    · have : (b : Rat) + 2 * (c * 0) = b := by grind
      rw [this]; exact Sz_int (by omega)
    · split
      · exact Sz_int (by omega)
      · exact Sz.zero
set_option maxHeartbeats 1000000

theorem i4 {P : Nat → Prop} (h0 : P 0) (h1 : P 1) (h2 : P 2) (h3 : P 3) : ∀ i, i < 4 → P i := fun i hi => by
  rcases (by omega : i = 0 ∨ i = 1 ∨ i = 2 ∨ i = 3) with rfl | rfl | rfl | rfl <;> assumption
theorem pw1 (b : Nat → Rat) : pwF b 1 = b := conv_dl' b
theorem pw2 (b : Nat → Rat) : pwF b 2 = conv b b := by show conv (pwF b 1) b = _; rw [pw1]
theorem pw3 (b : Nat → Rat) : pwF b 3 = conv (conv b b) b := by show conv (pwF b 2) b = _; rw [pw2]
theorem nu_e0 : nuQ "exp" 0 = 1 := by decide +kernel
theorem nu_e1 : nuQ "exp" 1 = 1 := by decide +kernel
theorem nu_e2 : nuQ "exp" 2 = 1 / 2 := by decide +kernel
theorem nu_e3 : nuQ "exp" 3 = 1 / 6 := by decide +kernel
theorem nu_l0 : nuQ "log" 0 = 0 := by decide +kernel
theorem nu_l1 : nuQ "log" 1 = 1 := by decide +kernel
theorem nu_l2 : nuQ "log" 2 = -1 / 2 := by decide +kernel
theorem nu_l3 : nuQ "log" 3 = 1 / 3 := by decide +kernel
theorem nu_s0 : nuQ "sin" 0 = 0 := by decide +kernel
theorem nu_s1 : nuQ "sin" 1 = 1 := by decide +kernel
theorem nu_s2 : nuQ "sin" 2 = 0 := by decide +kernel
theorem nu_s3 : nuQ "sin" 3 = -1 / 6 := by decide +kernel
theorem nu_c0 : nuQ "cos" 0 = 1 := by decide +kernel
theorem nu_c1 : nuQ "cos" 1 = 0 := by decide +kernel
theorem nu_c2 : nuQ "cos" 2 = -1 / 2 := by decide +kernel
theorem nu_c3 : nuQ "cos" 3 = 0 := by decide +kernel
theorem rows4 (nm : Str) (b : Nat → Rat) (i : Nat) : rowsF nm b 4 i = dl i * nuQ nm 0 + b i * nuQ nm 1 + conv b b i * nuQ nm 2 + conv (conv b b) b i * nuQ nm 3 := by
  simp only [rowsF, sumF]
  rw [pw1, pw2, pw3]
  show 0 + dl i * _ + _ + _ + _ = _
  grind
theorem rows3 (nm : Str) (b : Nat → Rat) (i : Nat) : rowsF nm b 3 i = dl i * nuQ nm 0 + b i * nuQ nm 1 + conv b b i * nuQ nm 2 := by
  simp only [rowsF, sumF]
  rw [pw1, pw2]
  show 0 + dl i * _ + _ + _ = _
  grind
theorem rows43 (nm : Str) (b : Nat → Rat) (h0 : b 0 = 0) (i : Nat) (hi : i < 3) : rowsF nm b 3 i = rowsF nm b 4 i := by
  rw [rows3, rows4]
  have : conv (conv b b) b i = 0 := by
    rcases (by omega : i = 0 ∨ i = 1 ∨ i = 2) with rfl | rfl | rfl <;> simp [conv, sumF, h0] <;> grind
  rw [this]; grind
theorem exp_row (b : Nat → Rat) (h0 : b 0 = 0) : ∀ i, i < 4 → expF b i = rowsF "exp" b 4 i := by
  have e0 : expF b 0 = 1 := by rw [expF_eq]; rfl
  have e1 : expF b 1 = b 1 := by rw [expF_eq, expT, if_neg (by decide)]; simp [sumF, e0]; try grind
  have e2 : expF b 2 = (b 1 * b 1 + 2 * b 2) / 2 := by rw [expF_eq, expT, if_neg (by decide)]; simp [sumF, e0, e1]; try grind
  have e3 : expF b 3 = (b 1 * ((b 1 * b 1 + 2 * b 2) / 2) + 2 * b 2 * b 1 + 3 * b 3) / 3 := by rw [expF_eq, expT, if_neg (by decide)]; simp [sumF, e0, e1, e2]; try grind
  apply i4
  · rw [e0, rows4, nu_e0, nu_e1, nu_e2, nu_e3]; simp [conv, sumF, dl, h0]; try grind
  · rw [e1, rows4, nu_e0, nu_e1, nu_e2, nu_e3]; simp [conv, sumF, dl, h0]; try grind
  · rw [e2, rows4, nu_e0, nu_e1, nu_e2, nu_e3]; simp [conv, sumF, dl, h0]; try grind
  · rw [e3, rows4, nu_e0, nu_e1, nu_e2, nu_e3]; simp [conv, sumF, dl, h0]; try grind
theorem sc_row (b : Nat → Rat) (h0 : b 0 = 0) : ∀ i, i < 4 → (scF b i).1 = rowsF "sin" b 4 i ∧ (scF b i).2 = rowsF "cos" b 4 i := by
  have a0 : (scF b 0).1 = 0 := by rw [scF_eq]; rfl
  have e0 : (scF b 0).2 = 1 := by rw [scF_eq]; rfl
  have a1 : (scF b 1).1 = b 1 := by rw [scF_eq, scT]; simp [sumF, a0, e0]; try grind
  have e1 : (scF b 1).2 = 0 := by rw [scF_eq, scT]; simp [sumF, a0, e0]; try grind
  have a2 : (scF b 2).1 = b 2 := by rw [scF_eq, scT]; simp [sumF, a0, e0, a1, e1]; try grind
  have e2 : (scF b 2).2 = -(b 1 * b 1) / 2 := by rw [scF_eq, scT]; simp [sumF, a0, e0, a1, e1]; try grind
  have a3 : (scF b 3).1 = (b 1 * (-(b 1 * b 1) / 2) + 3 * b 3) / 3 := by rw [scF_eq, scT]; simp [sumF, a0, e0, a1, e1, a2, e2]; try grind
  have e3 : (scF b 3).2 = -(b 1 * b 2 + 2 * b 2 * b 1) / 3 := by rw [scF_eq, scT]; simp [sumF, a0, e0, a1, e1, a2, e2]; try grind
  apply i4
  · rw [a0, e0, rows4, rows4, nu_s0, nu_s1, nu_s2, nu_s3, nu_c0, nu_c1, nu_c2, nu_c3]; simp [conv, sumF, dl, h0]; try grind
  · rw [a1, e1, rows4, rows4, nu_s0, nu_s1, nu_s2, nu_s3, nu_c0, nu_c1, nu_c2, nu_c3]; simp [conv, sumF, dl, h0]; try grind
  · rw [a2, e2, rows4, rows4, nu_s0, nu_s1, nu_s2, nu_s3, nu_c0, nu_c1, nu_c2, nu_c3]; simp [conv, sumF, dl, h0]; try grind
  · rw [a3, e3, rows4, rows4, nu_s0, nu_s1, nu_s2, nu_s3, nu_c0, nu_c1, nu_c2, nu_c3]; simp [conv, sumF, dl, h0]; try grind
theorem log_row (g b : Nat → Rat) (g0 : g 0 = 1) (h0 : b 0 = 0) (h1 : g 1 = b 1) (h2 : g 2 = b 2) (h3 : g 3 = b 3) : ∀ i, i < 4 → logF g i = rowsF "log" b 4 i := by
  have e0 : invF g 0 = 1 := by rw [invF_eq, invT]; simp [sumF, dl, g0]; try grind
  have e1 : invF g 1 = - b 1 := by rw [invF_eq, invT]; simp [sumF, dl, g0, e0, h1]; try grind
  have e2 : invF g 2 = b 1 * b 1 - b 2 := by rw [invF_eq, invT]; simp [sumF, dl, g0, e0, e1, h1, h2]; try grind
  apply i4
  · rw [rows4, nu_l0, nu_l1, nu_l2, nu_l3]; simp [logF, intF, conv, sumF, dl, h0]; try grind
  · rw [rows4, nu_l0, nu_l1, nu_l2, nu_l3]; simp [logF, intF, derF, conv, sumF, dl, h0, e0, h1]; try grind
  · rw [rows4, nu_l0, nu_l1, nu_l2, nu_l3]; simp [logF, intF, derF, conv, sumF, dl, h0, e0, e1, h1, h2]; try grind
  · rw [rows4, nu_l0, nu_l1, nu_l2, nu_l3]; simp [logF, intF, derF, conv, sumF, dl, h0, e0, e1, e2, h1, h2, h3]; try grind
theorem turn_row (p : Nat → Rat) (h : p 0 ≠ 0) : (∀ i, i < 4 → invF p i = turnF p 4 i) ∧ ∀ i, i < 3 → invF p i = turnF p 3 i := by
  have hc : p 0 * (p 0)⁻¹ = 1 := by grind
  generalize hcc : (p 0)⁻¹ = c at hc
  have dv : ∀ x : Rat, x / p 0 = x * c := fun x => by rw [← hcc, Rat.div_def]
  have e0 : invF p 0 = c := by rw [invF_eq, invT, dv]; simp [sumF, dl]; try grind
  have e1 : invF p 1 = -(p 1 * c) * c := by rw [invF_eq, invT, dv]; simp [sumF, dl, e0]; try grind
  have e2 : invF p 2 = -(p 1 * (-(p 1 * c) * c) + p 2 * c) * c := by rw [invF_eq, invT, dv]; simp [sumF, dl, e0, e1]; try grind
  have e3 : invF p 3 = -(p 1 * (-(p 1 * (-(p 1 * c) * c) + p 2 * c) * c) + p 2 * (-(p 1 * c) * c) + p 3 * c) * c := by rw [invF_eq, invT, dv]; simp [sumF, dl, e0, e1, e2]; try grind
  have l0 : leftF p 0 = 0 := rfl
  have l1 : leftF p 1 = -(p 1 * c) := by unfold leftF; rw [if_neg (by decide), hcc]
  have l2 : leftF p 2 = -(p 2 * c) := by unfold leftF; rw [if_neg (by decide), hcc]
  have l3 : leftF p 3 = -(p 3 * c) := by unfold leftF; rw [if_neg (by decide), hcc]
  have t4 : ∀ i, turnF p 4 i = (dl i + leftF p i + conv (leftF p) (leftF p) i + conv (conv (leftF p) (leftF p)) (leftF p) i) * c := fun i => by
    unfold turnF
    simp only [sumF]
    rw [pw1, pw2, pw3, hcc]
    show (0 + dl i + _ + _ + _) * _ = _
    grind
  have t3 : ∀ i, turnF p 3 i = (dl i + leftF p i + conv (leftF p) (leftF p) i) * c := fun i => by
    unfold turnF
    simp only [sumF]
    rw [pw1, pw2, hcc]
    show (0 + dl i + _ + _) * _ = _
    grind
  constructor
  · apply i4
    · rw [e0, t4]; simp [conv, sumF, dl, l0]; try grind
    · rw [e1, t4]; simp [conv, sumF, dl, l0, l1]; try grind
    · rw [e2, t4]; simp [conv, sumF, dl, l0, l1, l2]; try grind
    · rw [e3, t4]; simp [conv, sumF, dl, l0, l1, l2, l3]; try grind
  · intro i hi
    rcases (by omega : i = 0 ∨ i = 1 ∨ i = 2) with rfl | rfl | rfl
    · rw [e0, t3]; simp [conv, sumF, dl, l0]; try grind
    · rw [e1, t3]; simp [conv, sumF, dl, l0, l1]; try grind
    · rw [e2, t3]; simp [conv, sumF, dl, l0, l1, l2]; try grind
set_option maxHeartbeats 1000000




noncomputable def DR (C : Cx) (s B k : Nat) (t : PyData) (p : Nat → Rat) : Prop := OT C k 0 (s + 3) t (encL 0 p (s + 3)) ∧ ∀ i, i < s + 3 → Sz B (p i)
noncomputable def Drawn (C : Cx) (s B k j deep : Nat) : Prop := ∀ β, BG β → ∃ t p β', BG β' ∧ DR C s B k t p ∧ CallR C j 366 [.box, .d (.int ((s + 1 : Nat) : Int)), .d (.int (deep : Int))] β (.tuple [t, .list (encF p (s + 1))]) β'
noncomputable def bF (p : Nat → Rat) (i : Nat) : Rat := p i + cst (-(p 0)) i
theorem bF0 (p : Nat → Rat) : bF p 0 = 0 := by unfold bF cst; rw [if_pos rfl]; grind
theorem bFs (p : Nat → Rat) {i : Nat} (h : i ≠ 0) : bF p i = p i := by unfold bF cst; rw [if_neg h]; grind
theorem bF_sz {p : Nat → Rat} {B n : Nat} (h : ∀ i, i < n → Sz B (p i)) : ∀ i, i < n → Sz B (bF p i) := fun i hi => by
  by_cases h0 : i = 0
  · subst h0; rw [bF0]; exact Sz.zero
  · rw [bFs p h0]; exact h i hi
theorem tN_neg (q : Rat) : PyData.tuple [.str "num", .int (0 - q.num), .int q.den] = tN (-q) := by
  unfold tN
  rw [Int.zero_sub]
  rfl
theorem encF_tail (q : Rat) (p g : Nat → Rat) (n : Nat) (h0 : g 0 = q) (hs : ∀ i, i < n → g (i + 1) = p (i + 1)) : [encQ q] ++ (encF p (n + 1)).drop (1 : Int).toNat = encF g (n + 1) := by
  rw [show (1 : Int).toNat = 1 from rfl, encF_drop, encF_cons, h0]
  refine congrArg (List.cons (encQ q)) ?_
  rw [Nat.add_sub_cancel]
  exact (encF_congr hs).symm
section
variable {C : Cx} (hC : C.K = KK C.w.params) {s B k : Nat} (hs : s = 2 ∨ s = 3)
include hC hs
theorem drawn0 : Drawn C s 2 20 3 0 := fun β hb => by
  obtain ⟨v, β1, g1, l1, u1, h1⟩ := c_take hC 2 (by decide) β hb
  obtain ⟨a, b, c, β2, g2, ha, hb', hc, h2⟩ := c_poly hC (s + 1) (by omega) β1 g1
  refine ⟨tPoly a b c, polyAt a b c 0, β2, g2, ⟨OT_poly hC s (by omega) a b c ha hb' hc 0 Sz.zero, fun i _ => poly_sz a b c ha hb' hc i⟩, ?_⟩
  refine enter3 (F_law_drawn hC) ?_
  refine s_cons ?_
  walk_at "go"
  · intro h; exact absurd h (by decide)
  · intro _
    walk_at "go"
    refine wv_of h1 (by decide) ?_
    walk_at "go"
    · intro _
      walk_at "go"
      refine wv_of h2 (by decide) ?_
      walk_at "go"
    · intro h; exact absurd u1 h
theorem dr_sum (hk : 8 ≤ k) (hB : B ≤ 5000) {t1 t2 : PyData} {p1 p2 : Nat → Rat} (d1 : DR C s B k t1 p1) (d2 : DR C s B k t2 p2) : DR C s (700 * (B + 5)) (k + 10) (tSum [t1, t2]) (fun i => p1 i + p2 i) :=
  ⟨(OT_sum2 hC hk 0 (s + 2) (by omega) d1.1 d2.1 d1.2 d2.2 (by omega)).le (by omega), fun i hi => ((d1.2 i hi).add (d2.2 i hi)).le (by omega)⟩
theorem dr_prod (hk : 8 ≤ k) (hB : B ≤ 5000) {t1 t2 : PyData} {p1 p2 : Nat → Rat} (d1 : DR C s B k t1 p1) (d2 : DR C s B k t2 p2) : DR C s (700 * (B + 5)) (k + 10) (tProd [t1, t2]) (conv p1 p2) := by
  have := OT_prod2 hC hk 0 (s + 2) (by omega) d1.1 d2.1 (by omega) d1.2 d2.2 (by omega)
  rw [Nat.min_self] at this
  refine ⟨this.le (by omega), fun i hi => (Sz.conv (m := s + 3) d1.2 d2.2 hi).le ?_⟩
  have := Nat.mul_le_mul_right (B + B + 1) (show i + 1 ≤ 6 by omega)
  omega
theorem dr_inv (hk : 8 ≤ k) (hB : B ≤ 4997) {t : PyData} {p : Nat → Rat} (h0 : p 0 ≠ 0) (ot : OT C (k + 1) 0 (s + 3) t (encL 0 p (s + 3))) (hz : ∀ i, i < s + 3 → Sz (B + 3) (p i)) : DR C s (700 * (B + 5)) (k + 10) (.tuple [.str "pow", t, tZ (-1)]) (invF p) := by
  refine ⟨?_, fun i hi => (Sz.invF h0 hz i hi).le (Nat.le_trans (ib6 (B + 3) i (by omega)) (by omega))⟩
  have : tZ (-1) = tN (-1) := by rw [tZ_eq]; rfl
  rw [this]
  exact (OT_pow hC (k := k + 1) (by omega) 0 (s + 3) t (-1) rfl _ _ ot fun β => c_lpowm hC p (s + 2) (by omega) h0 hz (by omega) β).le (by omega)
theorem ot_inner (hk : 8 ≤ k) (hB : B ≤ 5000) {t : PyData} {p : Nat → Rat} (d : DR C s B k t p) (hk10 : 10 ≤ k) : OT C (k + 1) 0 (s + 3) (tSum [t, tN (-(p 0))]) (encL 0 (bF p) (s + 3)) :=
  OT_sum2 hC hk 0 (s + 2) (by omega) d.1 ((OT_num hC 0 (s + 2) (by omega) (-(p 0))).le hk10) d.2 (Y := B) (fun i hi => by
    unfold cst
    split
    · have := d.2 0 (by omega)
      exact ⟨by simpa using this.1, by simpa using this.2⟩
    · exact Sz.zero) (by omega)
theorem dr_exp (hk : 10 ≤ k) (hB : B ≤ 5000) {t : PyData} {p : Nat → Rat} (d : DR C s B k t p) : DR C s (700 * (B + 5)) (k + 10) (tCall "exp" (tSum [t, tN (-(p 0))])) (expF (bF p)) :=
  ⟨(OT_call hC (k := k + 1) (by omega) 0 (s + 3) "exp" _ _ _ (ot_inner hC hs (by omega) hB d hk) fun β => c_exp hC (bF p) (s + 3) (by omega) (bF0 p) (bF_sz d.2) (by omega) β).le (by omega), fun i hi => (Sz.expF (by omega) (bF_sz d.2) i hi).le (Nat.le_trans (eb6 B i (by omega)) (by omega))⟩
theorem dr_sin (hk : 10 ≤ k) (hB : B ≤ 5000) {t : PyData} {p : Nat → Rat} (d : DR C s B k t p) : DR C s (700 * (B + 5)) (k + 10) (tCall "sin" (tSum [t, tN (-(p 0))])) (fun i => (scF (bF p) i).1) :=
  ⟨(OT_call hC (k := k + 1) (by omega) 0 (s + 3) "sin" _ _ _ (ot_inner hC hs (by omega) hB d hk) fun β => c_sin hC (bF p) (s + 3) (by omega) (bF0 p) (bF_sz d.2) (by omega) β).le (by omega), fun i hi => (Sz.scF (by omega) (bF_sz d.2) i hi).1.le (Nat.le_trans (eb6 (B + 1) i (by omega)) (by omega))⟩
theorem dr_cos (hk : 10 ≤ k) (hB : B ≤ 5000) {t : PyData} {p : Nat → Rat} (d : DR C s B k t p) : DR C s (700 * (B + 5)) (k + 10) (tCall "cos" (tSum [t, tN (-(p 0))])) (fun i => (scF (bF p) i).2) :=
  ⟨(OT_call hC (k := k + 1) (by omega) 0 (s + 3) "cos" _ _ _ (ot_inner hC hs (by omega) hB d hk) fun β => c_cos hC (bF p) (s + 3) (by omega) (bF0 p) (bF_sz d.2) (by omega) β).le (by omega), fun i hi => (Sz.scF (by omega) (bF_sz d.2) i hi).2.le (Nat.le_trans (eb6 (B + 1) i (by omega)) (by omega))⟩
noncomputable def gF (p : Nat → Rat) (i : Nat) : Rat := bF p i + cst 1 i
omit hC hs in
theorem gF0 (p : Nat → Rat) : gF p 0 = 1 := by unfold gF; rw [bF0]; unfold cst; rw [if_pos rfl]; grind
omit hC hs in
theorem gFs (p : Nat → Rat) {i : Nat} (h : i ≠ 0) : gF p i = bF p i := by unfold gF cst; rw [if_neg h]; grind
omit hC hs in
theorem gF_sz {p : Nat → Rat} {B n : Nat} (h : ∀ i, i < n → Sz B (p i)) : ∀ i, i < n → Sz B (gF p i) := fun i hi => by
  by_cases h0 : i = 0
  · subst h0; rw [gF0]; exact Sz.one
  · rw [gFs p h0]; exact bF_sz h i hi
theorem dr_log (hk : 10 ≤ k) (hB : B ≤ 5000) {t : PyData} {p : Nat → Rat} (d : DR C s B k t p) : DR C s (700 * (B + 5)) (k + 10) (tCall "log" (tSum [tSum [t, tN (-(p 0))], tZ 1])) (logF (gF p)) := by
  have o1 : OT C (k + 2) 0 (s + 3) (tSum [tSum [t, tN (-(p 0))], tZ 1]) (encL 0 (gF p) (s + 3)) := by
    rw [tZ_eq]
    exact OT_sum2 hC (k := k + 1) (by omega) 0 (s + 2) (by omega) (ot_inner hC hs (by omega) hB d hk) ((OT_num hC 0 (s + 2) (by omega) ((1 : Int) : Rat)).le (by omega)) (bF_sz d.2) (Y := 0) (fun i _ => cst_sz (Sz_int (by decide)) i) (by omega)
  exact ⟨(OT_call hC (k := k + 2) (by omega) 0 (s + 3) "log" _ _ _ o1 fun β => c_log hC (gF p) (s + 2) (by omega) (gF0 p) (gF_sz d.2) (by omega) β).le (by omega), fun i hi => Sz.logF (by omega) (by rw [gF0]; decide) (gF_sz d.2) i hi⟩
end
set_option maxHeartbeats 4000000




theorem turn_eq {s : Nat} (hs : s = 2 ∨ s = 3) (p : Nat → Rat) (h : p 0 ≠ 0) : encF (turnF p (s + 1)) (s + 1) = encF (invF p) (s + 1) := by
  refine encF_congr fun i hi => ?_
  rcases hs with rfl | rfl
  · exact ((turn_row p h).2 i hi).symm
  · exact ((turn_row p h).1 i hi).symm
theorem row_eq {s : Nat} (hs : s = 2 ∨ s = 3) (nm : Str) (b g : Nat → Rat) (h0 : b 0 = 0) (h : ∀ i, i < 4 → g i = rowsF nm b 4 i) : encF (rowsF nm b (s + 1)) (s + 1) = encF g (s + 1) := by
  refine encF_congr fun i hi => ?_
  rcases hs with rfl | rfl
  · rw [rows43 nm b h0 i hi]; exact (h i (by omega)).symm
  · exact (h i hi).symm
theorem begun_eq (p : Nat → Rat) (n : Nat) : [PyData.tuple [.int 0, .int 1]] ++ (encF p (n + 1)).drop (1 : Int).toNat = encF (bF p) (n + 1) :=
  encF_tail 0 p (bF p) n (bF0 p) fun i _ => bFs p (Nat.succ_ne_zero i)
section
variable {C : Cx} (hC : C.K = KK C.w.params) {s B k j deep : Nat} (hs : s = 2 ∨ s = 3)
include hC hs
theorem step_log (hj : 3 ≤ j) (hB : B ≤ 4997) {β β1 β2 β3 : Bx} {t1 : PyData} {p1 : Nat → Rat} (h1 : CallR C 1 320 [.box, .d (.int 8)] β (.int 5) β1) (h2 : CallR C j 366 [.box, .d (.int ((s + 1 : Nat) : Int)), .d (.int (deep : Int))] β1 (.tuple [t1, .list (encF p1 (s + 1))]) β2) (d1 : ∀ i, i < s + 3 → Sz B (p1 i)) :
    CallR C (j + 1) 366 [.box, .d (.int ((s + 1 : Nat) : Int)), .d (.int ((deep + 1 : Nat) : Int))] β (.tuple [tCall "log" (tSum [tSum [t1, tN (-(p1 0))], tZ 1]), .list (encF (logF (gF p1)) (s + 1))]) β2 := by
  have hdm : ((deep + 1 : Nat) : Int) - 1 = (deep : Int) := by omega
  rw [← row_eq hs "log" (bF p1) (logF (gF p1)) (bF0 p1) (log_row (gF p1) (bF p1) (gF0 p1) (bF0 p1) (gFs p1 (by decide)) (gFs p1 (by decide)) (gFs p1 (by decide)))]
  refine enter3 (F_law_drawn hC) ?_
  refine s_cons ?_
  walk_at "go"
  · intro _
    walk_at "go"
    refine wv_of h1 (by omega) ?_
    walk_at "go"
    · intro h; exact absurd h (by decide)
    · intro _
      walk_at "go"
      rw [hdm]
      walk_at "go"
      refine wv_of h2 (Nat.le_refl _) ?_
      walk_at "go"
      · intro h; exact absurd h (by decide)
      · intro _
        walk_at "go"
        · intro h; exact absurd h (by decide)
        · intro _
          walk_at "go"
          refine sub_F 0 ?_ rfl (by omega) (by omega)
          walk_at "go"
          refine sub_F 0 ?_ rfl (by omega) (by omega)
          repeat walk_at "me"
          rw [tN_neg]
          walk_at "go"
          refine ⟨_, 1, rfl, rfl, by omega, by rw [encF_len]; omega, ?_⟩
          refine b_join (by rw [List.length_drop, encF_len]; simp; omega) ?_
          rw [begun_eq]
          walk_at "go"
          · intro _
            walk_at "go"
            refine wv_of (c_rows hC "log" (.inr (.inl rfl)) (bF p1) s (by omega) (fun i hi => bF_sz d1 i (by omega)) (by omega) _) (by omega) ?_
            walk_at "go"
          · intro h; exact absurd rfl h
  · intro h; exfalso; omega
theorem step_exp0 (hj : 3 ≤ j) (hB : B ≤ 4997) {β β1 β2 β3 : Bx} {t1 : PyData} {p1 : Nat → Rat} (h1 : CallR C 1 320 [.box, .d (.int 8)] β (.int 6) β1) (h2 : CallR C j 366 [.box, .d (.int ((s + 1 : Nat) : Int)), .d (.int (deep : Int))] β1 (.tuple [t1, .list (encF p1 (s + 1))]) β2) (d1 : ∀ i, i < s + 3 → Sz B (p1 i)) (h3 : CallR C 1 320 [.box, .d (.int 2)] β2 (.int 0) β3) :
    CallR C (j + 1) 366 [.box, .d (.int ((s + 1 : Nat) : Int)), .d (.int ((deep + 1 : Nat) : Int))] β (.tuple [tCall "exp" (tSum [t1, tN (-(p1 0))]), .list (encF (expF (bF p1)) (s + 1))]) β3 := by
  have hdm : ((deep + 1 : Nat) : Int) - 1 = (deep : Int) := by omega
  rw [← row_eq hs "exp" (bF p1) (expF (bF p1)) (bF0 p1) (exp_row (bF p1) (bF0 p1))]
  refine enter3 (F_law_drawn hC) ?_
  refine s_cons ?_
  walk_at "go"
  · intro _
    walk_at "go"
    refine wv_of h1 (by omega) ?_
    walk_at "go"
    · intro h; exact absurd h (by decide)
    · intro _
      walk_at "go"
      rw [hdm]
      walk_at "go"
      refine wv_of h2 (Nat.le_refl _) ?_
      walk_at "go"
      · intro h; exact absurd h (by decide)
      · intro _
        walk_at "go"
        · intro h; exact absurd h (by decide)
        · intro _
          walk_at "go"
          refine sub_F 0 ?_ rfl (by omega) (by omega)
          walk_at "go"
          refine sub_F 0 ?_ rfl (by omega) (by omega)
          repeat walk_at "me"
          rw [tN_neg]
          walk_at "go"
          refine ⟨_, 1, rfl, rfl, by omega, by rw [encF_len]; omega, ?_⟩
          refine b_join (by rw [List.length_drop, encF_len]; simp; omega) ?_
          rw [begun_eq]
          walk_at "go"
          · intro h
            have : False := by revert h; decide
            exact this.elim
          · intro _
            walk_at "go"
            refine wv_of h3 (by omega) ?_
            walk_at "go"
            refine sub_l01 (.inl ⟨rfl, ?_⟩)
            walk_at "go"
            refine wv_of (c_rows hC "exp" (.inl rfl) (bF p1) s (by omega) (fun i hi => bF_sz d1 i (by omega)) (by omega) _) (by omega) ?_
            walk_at "go"
  · intro h; exfalso; omega
theorem step_exp1 (hj : 3 ≤ j) (hB : B ≤ 4997) {β β1 β2 β3 : Bx} {t1 : PyData} {p1 : Nat → Rat} (h1 : CallR C 1 320 [.box, .d (.int 8)] β (.int 6) β1) (h2 : CallR C j 366 [.box, .d (.int ((s + 1 : Nat) : Int)), .d (.int (deep : Int))] β1 (.tuple [t1, .list (encF p1 (s + 1))]) β2) (d1 : ∀ i, i < s + 3 → Sz B (p1 i)) (h3 : CallR C 1 320 [.box, .d (.int 2)] β2 (.int 1) β3) :
    CallR C (j + 1) 366 [.box, .d (.int ((s + 1 : Nat) : Int)), .d (.int ((deep + 1 : Nat) : Int))] β (.tuple [tCall "exp" (tSum [t1, tN (-(p1 0))]), .list (encF (expF (bF p1)) (s + 1))]) β3 := by
  have hdm : ((deep + 1 : Nat) : Int) - 1 = (deep : Int) := by omega
  rw [← row_eq hs "exp" (bF p1) (expF (bF p1)) (bF0 p1) (exp_row (bF p1) (bF0 p1))]
  refine enter3 (F_law_drawn hC) ?_
  refine s_cons ?_
  walk_at "go"
  · intro _
    walk_at "go"
    refine wv_of h1 (by omega) ?_
    walk_at "go"
    · intro h; exact absurd h (by decide)
    · intro _
      walk_at "go"
      rw [hdm]
      walk_at "go"
      refine wv_of h2 (Nat.le_refl _) ?_
      walk_at "go"
      · intro h; exact absurd h (by decide)
      · intro _
        walk_at "go"
        · intro h; exact absurd h (by decide)
        · intro _
          walk_at "go"
          refine sub_F 0 ?_ rfl (by omega) (by omega)
          walk_at "go"
          refine sub_F 0 ?_ rfl (by omega) (by omega)
          repeat walk_at "me"
          rw [tN_neg]
          walk_at "go"
          refine ⟨_, 1, rfl, rfl, by omega, by rw [encF_len]; omega, ?_⟩
          refine b_join (by rw [List.length_drop, encF_len]; simp; omega) ?_
          rw [begun_eq]
          walk_at "go"
          · intro h
            have : False := by revert h; decide
            exact this.elim
          · intro _
            walk_at "go"
            refine wv_of h3 (by omega) ?_
            walk_at "go"
            refine sub_l01 (.inl ⟨rfl, ?_⟩)
            walk_at "go"
            refine wv_of (c_rows hC "exp" (.inl rfl) (bF p1) s (by omega) (fun i hi => bF_sz d1 i (by omega)) (by omega) _) (by omega) ?_
            walk_at "go"
  · intro h; exfalso; omega
theorem step_sin (hj : 3 ≤ j) (hB : B ≤ 4997) {β β1 β2 β3 : Bx} {t1 : PyData} {p1 : Nat → Rat} (h1 : CallR C 1 320 [.box, .d (.int 8)] β (.int 7) β1) (h2 : CallR C j 366 [.box, .d (.int ((s + 1 : Nat) : Int)), .d (.int (deep : Int))] β1 (.tuple [t1, .list (encF p1 (s + 1))]) β2) (d1 : ∀ i, i < s + 3 → Sz B (p1 i)) (h3 : CallR C 1 320 [.box, .d (.int 2)] β2 (.int 0) β3) :
    CallR C (j + 1) 366 [.box, .d (.int ((s + 1 : Nat) : Int)), .d (.int ((deep + 1 : Nat) : Int))] β (.tuple [tCall "sin" (tSum [t1, tN (-(p1 0))]), .list (encF (fun i => (scF (bF p1) i).1) (s + 1))]) β3 := by
  have hdm : ((deep + 1 : Nat) : Int) - 1 = (deep : Int) := by omega
  rw [← row_eq hs "sin" (bF p1) (fun i => (scF (bF p1) i).1) (bF0 p1) fun i hi => (sc_row (bF p1) (bF0 p1) i hi).1]
  refine enter3 (F_law_drawn hC) ?_
  refine s_cons ?_
  walk_at "go"
  · intro _
    walk_at "go"
    refine wv_of h1 (by omega) ?_
    walk_at "go"
    · intro h; exact absurd h (by decide)
    · intro _
      walk_at "go"
      rw [hdm]
      walk_at "go"
      refine wv_of h2 (Nat.le_refl _) ?_
      walk_at "go"
      · intro h; exact absurd h (by decide)
      · intro _
        walk_at "go"
        · intro h; exact absurd h (by decide)
        · intro _
          walk_at "go"
          refine sub_F 0 ?_ rfl (by omega) (by omega)
          walk_at "go"
          refine sub_F 0 ?_ rfl (by omega) (by omega)
          repeat walk_at "me"
          rw [tN_neg]
          walk_at "go"
          refine ⟨_, 1, rfl, rfl, by omega, by rw [encF_len]; omega, ?_⟩
          refine b_join (by rw [List.length_drop, encF_len]; simp; omega) ?_
          rw [begun_eq]
          walk_at "go"
          · intro h
            have : False := by revert h; decide
            exact this.elim
          · intro _
            walk_at "go"
            refine wv_of h3 (by omega) ?_
            walk_at "go"
            refine sub_l01 (.inr ⟨rfl, ?_⟩)
            walk_at "go"
            refine wv_of (c_rows hC "sin" (.inr (.inr (.inl rfl))) (bF p1) s (by omega) (fun i hi => bF_sz d1 i (by omega)) (by omega) _) (by omega) ?_
            walk_at "go"
  · intro h; exfalso; omega
theorem step_cos (hj : 3 ≤ j) (hB : B ≤ 4997) {β β1 β2 β3 : Bx} {t1 : PyData} {p1 : Nat → Rat} (h1 : CallR C 1 320 [.box, .d (.int 8)] β (.int 7) β1) (h2 : CallR C j 366 [.box, .d (.int ((s + 1 : Nat) : Int)), .d (.int (deep : Int))] β1 (.tuple [t1, .list (encF p1 (s + 1))]) β2) (d1 : ∀ i, i < s + 3 → Sz B (p1 i)) (h3 : CallR C 1 320 [.box, .d (.int 2)] β2 (.int 1) β3) :
    CallR C (j + 1) 366 [.box, .d (.int ((s + 1 : Nat) : Int)), .d (.int ((deep + 1 : Nat) : Int))] β (.tuple [tCall "cos" (tSum [t1, tN (-(p1 0))]), .list (encF (fun i => (scF (bF p1) i).2) (s + 1))]) β3 := by
  have hdm : ((deep + 1 : Nat) : Int) - 1 = (deep : Int) := by omega
  rw [← row_eq hs "cos" (bF p1) (fun i => (scF (bF p1) i).2) (bF0 p1) fun i hi => (sc_row (bF p1) (bF0 p1) i hi).2]
  refine enter3 (F_law_drawn hC) ?_
  refine s_cons ?_
  walk_at "go"
  · intro _
    walk_at "go"
    refine wv_of h1 (by omega) ?_
    walk_at "go"
    · intro h; exact absurd h (by decide)
    · intro _
      walk_at "go"
      rw [hdm]
      walk_at "go"
      refine wv_of h2 (Nat.le_refl _) ?_
      walk_at "go"
      · intro h; exact absurd h (by decide)
      · intro _
        walk_at "go"
        · intro h; exact absurd h (by decide)
        · intro _
          walk_at "go"
          refine sub_F 0 ?_ rfl (by omega) (by omega)
          walk_at "go"
          refine sub_F 0 ?_ rfl (by omega) (by omega)
          repeat walk_at "me"
          rw [tN_neg]
          walk_at "go"
          refine ⟨_, 1, rfl, rfl, by omega, by rw [encF_len]; omega, ?_⟩
          refine b_join (by rw [List.length_drop, encF_len]; simp; omega) ?_
          rw [begun_eq]
          walk_at "go"
          · intro h
            have : False := by revert h; decide
            exact this.elim
          · intro _
            walk_at "go"
            refine wv_of h3 (by omega) ?_
            walk_at "go"
            refine sub_l01 (.inr ⟨rfl, ?_⟩)
            walk_at "go"
            refine wv_of (c_rows hC "cos" (.inr (.inr (.inr rfl))) (bF p1) s (by omega) (fun i hi => bF_sz d1 i (by omega)) (by omega) _) (by omega) ?_
            walk_at "go"
  · intro h; exfalso; omega
theorem drawn_step (hk : 10 ≤ k) (hj : 3 ≤ j) (hB : B ≤ 4997) (IH : Drawn C s B k j deep) : Drawn C s (700 * (B + 5)) (k + 10) (j + 1) (deep + 1) := fun β hb => by
  obtain ⟨v, β1, g1, l1, u1, h1⟩ := c_take hC 8 (by decide) β hb
  have hdm : ((deep + 1 : Nat) : Int) - 1 = (deep : Int) := by omega
  by_cases v2 : v < 2
  · obtain ⟨a, b, c, β2, g2, ha, hb', hc, h2⟩ := c_poly hC (s + 1) (by omega) β1 g1
    refine ⟨tPoly a b c, polyAt a b c 0, β2, g2, ⟨(OT_poly hC s (by omega) a b c ha hb' hc 0 Sz.zero).le (by omega), fun i _ => (poly_sz a b c ha hb' hc i).le (by omega)⟩, ?_⟩
    refine enter3 (F_law_drawn hC) ?_
    refine s_cons ?_
    walk_at "go"
    · intro _
      walk_at "go"
      refine wv_of h1 (by omega) ?_
      walk_at "go"
      · intro _
        walk_at "go"
        refine wv_of h2 (by omega) ?_
        walk_at "go"
      · intro h; exact absurd v2 h
    · intro h; exfalso; omega
  obtain ⟨t1, p1, β2, g2, d1, h2⟩ := IH β1 g1
  by_cases v4 : v < 4
  · obtain ⟨t2, p2, β3, g3, d2, h3⟩ := IH β2 g2
    by_cases ve : v = 2
    · refine ⟨tSum [t1, t2], _, β3, g3, dr_sum hC hs (by omega) (by omega) d1 d2, ?_⟩
      refine enter3 (F_law_drawn hC) ?_
      refine s_cons ?_
      walk_at "go"
      · intro _
        walk_at "go"
        refine wv_of h1 (by omega) ?_
        walk_at "go"
        · intro h; exact absurd h v2
        · intro _
          walk_at "go"
          rw [hdm]
          walk_at "go"
          refine wv_of h2 (Nat.le_refl _) ?_
          walk_at "go"
          · intro _
            walk_at "go"
            rw [hdm]
            walk_at "go"
            refine wv_of h3 (Nat.le_refl _) ?_
            walk_at "go"
            · intro _
              walk_at "go"
              refine wv_of (c_plus hC p1 p2 (s + 1) (s + 1) (by omega) (by omega) (fun i hi => d1.2 i (by omega)) (fun i hi => d2.2 i (by omega)) (by omega) _) (by omega) ?_
              rw [Nat.min_self]
              walk_at "go"
            · intro h; exact absurd ve h
          · intro h; exact absurd v4 h
      · intro h; exfalso; omega
    · refine ⟨tProd [t1, t2], _, β3, g3, dr_prod hC hs (by omega) (by omega) d1 d2, ?_⟩
      refine enter3 (F_law_drawn hC) ?_
      refine s_cons ?_
      walk_at "go"
      · intro _
        walk_at "go"
        refine wv_of h1 (by omega) ?_
        walk_at "go"
        · intro h; exact absurd h v2
        · intro _
          walk_at "go"
          rw [hdm]
          walk_at "go"
          refine wv_of h2 (Nat.le_refl _) ?_
          walk_at "go"
          · intro _
            walk_at "go"
            rw [hdm]
            walk_at "go"
            refine wv_of h3 (Nat.le_refl _) ?_
            walk_at "go"
            · intro h; exact absurd h ve
            · intro _
              walk_at "go"
              refine wv_of (c_times hC p1 p2 (s + 1) (s + 1) (by omega) (by omega) (fun i hi => d1.2 i (by omega)) (fun i hi => d2.2 i (by omega)) ?_ _) (by omega) ?_
              · have := Nat.mul_le_mul_right (B + B + 1) (show s + 1 + 2 ≤ 6 by omega)
                omega
              rw [Nat.min_self]
              walk_at "go"
          · intro h; exact absurd v4 h
      · intro h; exfalso; omega
  by_cases ve4 : v = 4
  · by_cases hp0 : p1 0 = 0
    · let p' : Nat → Rat := fun i => p1 i + cst 3 i
      have hp' : p' 0 = 3 := by show p1 0 + cst 3 0 = 3; rw [hp0]; unfold cst; rw [if_pos rfl]; grind
      have hne : p' 0 ≠ 0 := by rw [hp']; decide
      have z3 : Sz 2 (3 : Rat) := ⟨by decide, by decide⟩
      have hz : ∀ i, i < s + 3 → Sz (B + 3) (p' i) := fun i hi => ((d1.2 i hi).add (cst_sz z3 i)).le (by omega)
      have ot : OT C (k + 1) 0 (s + 3) (tSum [t1, tZ 3]) (encL 0 p' (s + 3)) := by
        rw [tZ_eq]
        exact OT_sum2 hC (by omega) 0 (s + 2) (by omega) d1.1 ((OT_num hC 0 (s + 2) (by omega) ((3 : Int) : Rat)).le (by omega)) d1.2 (fun i _ => cst_sz z3 i) (by omega)
      have hrow : [PyData.tuple [.int 3, .int 1]] ++ (encF p1 (s + 1)).drop (1 : Int).toNat = encF p' (s + 1) := encF_tail 3 p1 p' s hp' fun i _ => by show p1 (i + 1) + cst 3 (i + 1) = _; unfold cst; rw [if_neg (Nat.succ_ne_zero i)]; grind
      refine ⟨.tuple [.str "pow", tSum [t1, tZ 3], tZ (-1)], invF p', β2, g2, dr_inv hC hs (by omega) hB hne ot hz, ?_⟩
      rw [← turn_eq hs p' hne]
      refine enter3 (F_law_drawn hC) ?_
      refine s_cons ?_
      walk_at "go"
      · intro _
        walk_at "go"
        refine wv_of h1 (by omega) ?_
        walk_at "go"
        · intro h; exact absurd h v2
        · intro _
          walk_at "go"
          rw [hdm]
          walk_at "go"
          refine wv_of h2 (Nat.le_refl _) ?_
          walk_at "go"
          · intro h; exact absurd h v4
          · intro _
            walk_at "go"
            · intro _
              walk_at "go"
              refine sub_F 0 ?_ rfl (by omega) (by omega)
              walk_at "go"
              · intro _
                walk_at "go"
                refine ⟨_, 1, rfl, rfl, by omega, by rw [encF_len]; omega, ?_⟩
                refine b_join (by rw [List.length_drop, encF_len]; simp; omega) ?_
                rw [hrow]
                walk_at "go"
                refine wv_of (c_turned hC p' s (by omega) hne (fun i hi => hz i (by omega)) (by omega) _) (by omega) ?_
                walk_at "go"
              · intro h; exfalso; exact h (by rw [hp0]; rfl)
            · intro h; exact absurd ve4 h
      · intro h; exfalso; omega
    · have hz : ∀ i, i < s + 3 → Sz (B + 3) (p1 i) := fun i hi => (d1.2 i hi).le (by omega)
      refine ⟨.tuple [.str "pow", t1, tZ (-1)], invF p1, β2, g2, dr_inv hC hs (by omega) hB hp0 (d1.1.le (by omega)) hz, ?_⟩
      rw [← turn_eq hs p1 hp0]
      refine enter3 (F_law_drawn hC) ?_
      refine s_cons ?_
      walk_at "go"
      · intro _
        walk_at "go"
        refine wv_of h1 (by omega) ?_
        walk_at "go"
        · intro h; exact absurd h v2
        · intro _
          walk_at "go"
          rw [hdm]
          walk_at "go"
          refine wv_of h2 (Nat.le_refl _) ?_
          walk_at "go"
          · intro h; exact absurd h v4
          · intro _
            walk_at "go"
            · intro _
              walk_at "go"
              refine sub_F 0 ?_ rfl (by omega) (by omega)
              walk_at "go"
              · intro h; exact absurd h (num_ne hp0)
              · intro _
                walk_at "go"
                refine wv_of (c_turned hC p1 s (by omega) hp0 (fun i hi => hz i (by omega)) (by omega) _) (by omega) ?_
                walk_at "go"
            · intro h; exact absurd ve4 h
      · intro h; exfalso; omega
  by_cases ve5 : v = 5
  · subst ve5
    exact ⟨_, logF (gF p1), β2, g2, dr_log hC hs hk (by omega) d1, step_log hC hs hj hB (β3 := β2) h1 h2 d1.2⟩
  obtain ⟨x, β3, g3, l3, u3, h3⟩ := c_take hC 2 (by decide) β2 g2
  by_cases ve6 : v = 6
  · subst ve6
    rcases (by omega : x = 0 ∨ x = 1) with rfl | rfl
    · exact ⟨_, expF (bF p1), β3, g3, dr_exp hC hs hk (by omega) d1, step_exp0 hC hs hj hB h1 h2 d1.2 h3⟩
    · exact ⟨_, expF (bF p1), β3, g3, dr_exp hC hs hk (by omega) d1, step_exp1 hC hs hj hB h1 h2 d1.2 h3⟩
  obtain rfl : v = 7 := by omega
  rcases (by omega : x = 0 ∨ x = 1) with rfl | rfl
  · exact ⟨_, fun i => (scF (bF p1) i).1, β3, g3, dr_sin hC hs hk (by omega) d1, step_sin hC hs hj hB h1 h2 d1.2 h3⟩
  · exact ⟨_, fun i => (scF (bF p1) i).2, β3, g3, dr_cos hC hs hk (by omega) d1, step_cos hC hs hj hB h1 h2 d1.2 h3⟩
end
section
variable {C : Cx} (hC : C.K = KK C.w.params) {s : Nat} (hs : s = 2 ∨ s = 3)
include hC hs
theorem drawn2 : ∃ B, B ≤ 5000000 ∧ Drawn C s B 40 5 2 := by
  have h0 := drawn0 hC hs
  have h1 := drawn_step hC hs (by decide) (by decide) (by decide) h0
  have hb : 700 * (2 + 5) ≤ 4997 := by decide
  generalize 700 * (2 + 5) = B1 at h1 hb
  have h2 := drawn_step hC hs (by decide) (by decide) hb h1
  exact ⟨_, by omega, h2⟩
end
set_option maxHeartbeats 1000000



/-! ## the law's box -/
theorem reps_intItems {h : Heap} {X : Addr → Prop} : ∀ {vs : List Value} {ns : List Int}, RepAll h X vs (ns.map .int) → ∃ xs : List (Int × Tok), vs = xs.map (fun x => Value.int x.1 x.2)
  | _, [], r => by
    obtain rfl := RepAll.inv_nil r
    exact ⟨[], rfl⟩
  | _, i :: ns, r => by
    obtain ⟨v, ws, rfl, a, r2⟩ := RepAll.inv_cons r
    obtain ⟨t, rfl⟩ := a.inv_int
    obtain ⟨xs, rfl⟩ := reps_intItems r2
    exact ⟨(i, t) :: xs, rfl⟩
section
variable {C : Cx} {k : Nat} {β : Bx} {Q : PV → Bx → Prop}
theorem n_sum {ns : List Int} (h : ∀ z, Q (.d (.int z)) β) : WV C k (fun vs => call (.builtin "sum") vs) [.d (.list (ns.map .int))] β Q :=
  n1 fun A s X bx va P E R S ra c => by
    cases ra with
    | list hl nx r =>
      obtain ⟨xs, rfl⟩ := reps_intItems r
      have e : (xs.map (fun x => Value.int x.1 x.2)).toArray = intItems xs.toArray := by simp [intItems]
      rw [e] at hl
      refine sum_intListG R.hh hl fun h' tk t' kp => ?_
      exact c _ h' tk _ _ (h _) (Keep.all kp) (S.box.keepAll kp) (.int _ _)
end
section
variable {C : Cx} {k : Nat} {sc : Scope} {ρ : PEnv} {β : Bx}
theorem s_fresh {st : Stmt} {es : List Expr} {lp pos : Pos} {Q : List PyData → Prop} (h : WX C k sc st ρ β (fun ρ' β' => WEs C k sc.names es (freeze ρ') β' fun ps _ => AllD ps Q) fun _ _ => False)
    {A : Around} {s : Shared} {env : Env} {X : Addr → Prop} {P : Flow → Shared → Prop} {E : Value → Shared → Prop} (R : Room A k) (F : FOk C X none β sc ρ env [] s.heap)
    (c : ∀ ws ds h' tk, Q ds → KeepF none env [] s.heap h' → RepAll h' X ws ds → P (.ret (.ref h'.objs.size)) { s with heap := h'.push { cls := .type "list", data := .seq (ws : List Value).toArray }, toks := tk }) :
    wpAny (model C.prog C.w) A (execs [st, .Return (some (.List es lp)) pos] env) P E s := by
  refine wpAny_execs_cons (h A s env X none [] _ E R F (fun h' tk ρ' β' ow' n F' k1 x1 => ?_) fun _ _ _ _ _ f => f.elim)
  refine wpAny_execs_cons (wpAny_Return_some (List_ (n A { s with heap := h', toks := tk } env X none lp _ E R F'.frozen fun vs h2 tk2 ps β2 q k2 B2 r2 => ?_)))
  obtain ⟨ds, rfl, hz, q⟩ := q
  refine wpAny_newObj_type ?_ (by show vs.toArray.size ≤ sizeLine; rw [List.size_toArray, r2.all.length]; exact size_ok hz)
  exact c vs ds h2 tk2 q (fun b o nb np e => k2 b o nb (k1 b o nb np e)) r2.all
end
theorem c_box {C : Cx} (hC : C.K = KK C.w.params) {A : Around} {s : Shared} {X : Addr → Prop} {v : Value} {ns : List Int} {P E : Value → Shared → Prop} (R : Room0 A 3) (S : SOk C X none [] s.heap) (hn : ns.length ≤ 16384) (r : Rep s.heap X v (.list (ns.map .int)))
    (c : ∀ a ws nums z h' tk, s.heap.get? a = none → (∀ b o, s.heap.get? b = some o → h'.get? b = some o) → h'.IsList a (ws : List Value).toArray → RepAll h' (fun b => X b ∨ b = a) ws (bxOf nums 0 z) → nums.length ≤ 24 → P (.ref a) { s with heap := h', toks := tk }) :
    wpAny (model C.prog C.w) A (call (.ref 325) [v]) P E s := by
  refine call_low (k := 2) (F_law_box hC).ok rfl R S (ρ := [("script", .d (.list (ns.map .int)))]) (fun x p hl => ?_) fun env h₁ tk R1 hf hd F _ kp np => ?_
  · rw [List.lookup_cons] at hl
    cases hb : x == "script" with
    | true =>
      rw [hb] at hl; cases hl
      refine ⟨(fun _ e => nomatch e), v, ?_, r⟩
      show List.lookup x [("script", v)] = _
      rw [List.lookup_cons, hb]
    | false => rw [hb] at hl; cases hl
  refine s_fresh (Q := fun ds => ∃ nums z, ds = bxOf nums 0 z ∧ nums.length ≤ 24) ?_ R1 F fun ws ds h' tk' q k1 rr => ?_
  · refine x_assignComp ?_ (by kernel_rfl) (by kernel_rfl) (by kernel_rfl) (by kernel_rfl) (by kernel_rfl) (by intro _ _; kernel_rfl) (by intro e he; cases e; cases he; kernel_rfl)
    refine wi_list ?_ (.inl ⟨_, _, rfl⟩)
    walk_at "go"
    refine ⟨_, _, rfl, rfl, by omega, by simpa using hn, ?_⟩
    have e24 : List.take (24 : Int).toNat (ns.map PyData.int) = (ns.take 24).map .int := by rw [← List.map_take]; rfl
    rw [e24]
    have hl24 : (ns.take 24).length ≤ 24 := by simp; omega
    generalize ns.take 24 = ms at hl24
    refine ⟨_, rfl, fun d hd => .inl ⟨_, _, rfl⟩, by simp; omega, ?_⟩
    refine compR_of (f := fun i => PyData.int ((ms.getD i 0).natAbs : Int)) stepC_mono (fun i d hd => ?_) ?_ _ 0 [] rfl (Nat.zero_le _) rfl
    · have hi : i < ms.length := by
        have := (List.getElem?_eq_some_iff.mp hd).1
        simpa using this
      have e : d = .int (ms.getD i 0) := by
        rw [List.getElem?_map, List.getElem?_eq_getElem hi] at hd
        rw [List.getD_eq_getElem?_getD, List.getElem?_eq_getElem hi]
        exact (Option.some.inj hd).symm
      rw [e]
      refine ⟨trivial, ?_⟩
      show WE C 2 _ _ ((_, .d _) :: freeEnv _ _) _ _
      generalize ms.getD i 0 = z
      walk_at "go"
    · have e : (List.range (ms.map PyData.int).length).map (fun i => PyData.int ((ms.getD i 0).natAbs : Int)) = ((List.range ms.length).map fun i => ((ms.getD i 0).natAbs : Int)).map .int := by simp
      rw [e]
      have hl : ((List.range ms.length).map fun i => ((ms.getD i 0).natAbs : Int)).length ≤ 24 := by simpa using hl24
      generalize ((List.range ms.length).map fun i => ((ms.getD i 0).natAbs : Int)) = nums at hl
      show WEs C 2 _ _ [("numbers", .d (.list (nums.map .int))), ("script", .d (.list (ns.map .int)))] _ _
      walk_at "go"
      refine n_sum fun z => ?_
      walk_at "go"
      · exact ⟨nums, _, rfl, hl⟩
      · decide
  · obtain ⟨nums, z, rfl, hl⟩ := q
    have kk : ∀ b o, s.heap.get? b = some o → h'.get? b = some o := fun b o e => k1 b o (by simp) (np b o e) (kp b o e)
    refine c h'.objs.size ws nums z _ tk' ?_ (fun b o e => Heap.get?_push_of_some _ (kk b o e)) ⟨_, Heap.get?_push_size _ rfl, rfl, 0, rfl⟩ (rr.move fun b o nx e => ⟨Heap.get?_push_of_some _ e, fun q => ?_⟩) hl
    · cases e : s.heap.get? h'.objs.size with
      | none => rfl
      | some o => exact absurd (Heap.lt_size (kk _ o e)) (Nat.lt_irrefl _)
    · rcases q with q | q
      · exact nx q
      · rw [q, size_dead] at e; cases e
set_option maxHeartbeats 1000000
/-! ## a list unpacked -/
section
variable {prog : Program} {w : World} {A : Around} {E : Value → Shared → Prop}
theorem draw_list {it t : Addr} {items : Array Value} (W : Walks prog w A it [it, t] [it] items.size (fun i v => items[i]? = some v) (fun i h => h.IsListIter it t i ∧ h.IsList t items)) : ∀ (n i : Nat) (s : Shared) (Q : List Value → Shared → Prop), (s.heap.IsListIter it t i ∧ s.heap.IsList t items) → i + n ≤ items.size →
    (∀ h' tk, (h'.IsListIter it t (i + n) ∧ h'.IsList t items) → (∀ b o, b ≠ it → s.heap.get? b = some o → h'.get? b = some o) → Q ((items.toList.drop i).take n) { s with heap := h', toks := tk }) → wpAny (model prog w) A (draw (.ref it) n) Q E s
  | 0, i, s, Q, st, _, hQ => by
    show wpAny _ _ (pure []) Q E s
    exact wpAny_pure (by simpa using hQ s.heap s.toks st fun _ _ _ e => e)
  | n + 1, i, s, Q, st, hle, hQ => by
    have hlt : i < items.size := by omega
    show wpAny _ _ (pyNext (.ref it) >>= _) Q E s
    refine wpAny_bind (W.item i s _ _ hlt st fun v h₁ tk₁ hv st₁ k₁ => ?_)
    refine wpAny_bind (wpAny_holding (draw_list W n (i + 1) _ _ st₁ (by omega) fun h₂ tk₂ st₂ k₂ => wpAny_pure ?_))
    have hd : items.toList.drop i = v :: items.toList.drop (i + 1) := by
      have e : items[i] = v := by rw [Array.getElem?_eq_getElem hlt] at hv; exact Option.some.inj hv
      rw [← e]; simp [List.drop_eq_getElem_cons, hlt]
    have := hQ h₂ tk₂ (by rw [show i + (n + 1) = i + 1 + n by omega]; exact st₂) fun b o nb e => k₂ b o nb (k₁ b o (by simpa using nb) e)
    rw [hd, List.take_succ_cons] at this
    exact this
theorem unpackItems_list {s : Shared} {t : Addr} {items : Array Value} {Q : List Value → Shared → Prop} (hh : A.handled = none) (ht : s.heap.IsList t items)
    (hQ : ∀ h' tk, (∀ b o, s.heap.get? b = some o → h'.get? b = some o) → Q items.toList { s with heap := h', toks := tk }) : wpAny (model prog w) A (unpackItems (.ref t) items.size none) Q E s := by
  have hlt : t ≠ s.heap.objs.size := by obtain ⟨o, ho, _⟩ := ht; exact Nat.ne_of_lt (Heap.lt_size ho)
  have W := Walks.list (prog := prog) (w := w) hh s.heap.objs.size t hlt items
  have pp : ∀ b o, s.heap.get? b = some o → (s.heap.push { cls := .type "list_iterator", data := .fields #[.ref t, .int 0 0] }).get? b = some o := fun b o e => Heap.get?_push_of_some _ e
  have nx : ∀ b o, s.heap.get? b = some o → b ≠ s.heap.objs.size := fun b o e => Nat.ne_of_lt (Heap.lt_size e)
  unfold unpackItems
  refine wpAny_bind ?_
  · unfold notIterableAtAll
    refine wpAny_bind (wpAny_specialOf ht.typeIs slot_list_iter.lookup ?_)
    refine wpAny_pure ?_
    simp only [Bool.false_eq_true, if_false]
    refine wpAny_bind (wpAny_holding (wpAny_pyIter_list ht ?_))
    refine wpAny_bind (wpAny_holding (draw_list W items.size 0 _ _ ⟨⟨_, Heap.get?_push_size _ rfl, rfl, rfl⟩, IsList.keepAt ht fun o e => pp _ o e⟩ (by omega) fun h₁ tk₁ st₁ k₁ => ?_))
    have hall : List.take items.size (List.drop 0 items.toList) = items.toList := by
      rw [List.drop_zero]; exact List.take_of_length_le (by simp)
    rw [hall]
    rw [if_neg (by simp)]
    rw [Nat.zero_add] at st₁
    refine wpAny_bind (wpAny_holding (W.done _ _ _ st₁ fun h₂ tk₂ k₂ => ?_))
    simp only [Option.isSome_none, Bool.false_eq_true, if_false]
    exact wpAny_pure (hQ h₂ tk₂ fun b o e => k₂ b o (by simpa using nx b o e) (k₁ b o (nx b o e) (pp b o e)))
theorem unpack_list {s : Shared} {t : Addr} {items : Array Value} {targets : List (Bool × (Value → Sem Unit))} {Q : Unit → Shared → Prop} (hh : A.handled = none) (ht : s.heap.IsList t items)
    (hn : targets.length = items.size) (hstar : targets.findIdx? (·.1) = none)
    (h : ∀ h' tk, (∀ b o, s.heap.get? b = some o → h'.get? b = some o) → wpAny (model prog w) A (assignInOrder (targets.map (·.2)) items.toList) Q E { s with heap := h', toks := tk }) :
    wpAny (model prog w) A (unpack (.ref t) targets) Q E s := by
  unfold unpack
  rw [hn, hstar]
  exact wpAny_bind (wpAny_holding (unpackItems_list hh ht h))
end
section
variable {C : Cx} {k : Nat} {sc : Scope} {ρ : PEnv} {β : Bx} {N : PEnv → Bx → Prop} {T : PyData → Bx → Prop}
theorem x_list3 {kd : Nat} {px py pz tp pos : Pos} {e : Expr} {x y z : Str} (h : WE C k sc.names e ρ β fun p β' => ∃ d1 d2 d3, p = .d (.list [d1, d2, d3]) ∧ N ((z, .d d3) :: (y, .d d2) :: (x, .d d1) :: ρ) β') (hx : ([x, y, z].all fun x => isVar sc x) = true)
    (hs : ∀ env, swapsWithSole [.Tuple [.Name x px, .Name y py, .Name z pz] kd tp] e pos.line env = pure false) (hw : ∀ env, env.scope = sc → swappedStores [.Tuple [.Name x px, .Name y py, .Name z pz] kd tp] e env = pure none) : WX C k sc (.Assign [.Tuple [.Name x px, .Name y py, .Name z pz] kd tp] e pos) ρ β N T :=
  fun A s env X bx ow P E R F c r => by
    refine PyProof.Rows.Assign_Tuple (h A s env _ bx _ E R F.e fun v h' tk p β' q k1 B1 r1 => ?_) (hs env) (hw env F.scope)
    obtain ⟨d1, d2, d3, rfl, q⟩ := q
    have F1 := F.step k1 B1
    cases r1 with
    | list ht nx rr =>
      rename_i a vs
      rw [PyProof.Rows.assign_Tuple]
      have e3 : vs.toArray.size = 3 := by rw [List.size_toArray, rr.length]; rfl
      refine wpAny_bind (wpAny_standAt (unpack_list (s := { s with heap := h', toks := tk }) R.hh ht (by rw [e3]; rfl) rfl fun h2 tk2 k2 => ?_))
      have F2 := F1.step (Keep.all k2) (F1.s.box.keepAll k2)
      refine stores_all (s := { s with heap := h2, toks := tk2 }) (xs := [x, y, z]) (ds := [d1, d2, d3]) ⟨fun v P s h => PyProof.Rows.assign_Name h, ⟨fun v P s h => PyProof.Rows.assign_Name h, ⟨fun v P s h => PyProof.Rows.assign_Name h, trivial⟩⟩⟩ hx F2 (rr.keep F1.s (Keep.all k2)) rfl fun h3 tk3 F3 k3 => ?_
      exact c h3 tk3 _ β' ow q F3 (((KeepF.of k1).trans OwExt.refl (KeepF.of (Keep.all k2))).trans OwExt.refl k3) OwExt.refl
end
section
variable {C : Cx} {k : Nat} {ρ : PEnv} {β : Bx} {Q : PV → Bx → Prop}
theorem b_neL {xs : List PyData} (sh : SeqAt.shaped (.list xs) = true) (h : Q (.d (.bool false)) β) : WV C k (two (compareOp .NotEq)) [.d (.list xs), .d (.list xs)] β Q :=
  b_ne sh sh (by
    rw [SeqAt.eqv_refl _ (SeqAt.canLay_of_shaped sh)]
    exact h)
end
theorem shaped_QL (xs : List Rat) : SeqAt.shaped (.list (xs.map encQ)) = true := by
  have h1 : PyData.canLayAll0 (xs.map encQ) = true := by
    induction xs with
    | nil => rfl
    | cons x r ih => rw [List.map_cons, PyData.canLayAll0, ih]; simp [PyData.canLay0, PyData.canLayAll0]
  have h2 : PyData.depthAll (xs.map encQ) ≤ 2 := by
    induction xs with
    | nil => exact Nat.zero_le _
    | cons x r ih =>
      have := ih (by
        rw [List.map_cons, PyData.canLayAll0] at h1
        exact (Bool.and_eq_true_iff.mp h1).2)
      simp only [List.map_cons, PyData.depthAll, PyData.depth]
      omega
  unfold SeqAt.shaped
  rw [PyData.canLay0, h1, PyData.depth]
  simp
  omega
theorem shaped_F (f : Nat → Rat) (n : Nat) : SeqAt.shaped (.list (encF f n)) = true := by
  have := shaped_QL ((List.range n).map f)
  rw [List.map_map] at this
  exact this
/-! ## the law's frame once its box stands -/
section
variable {C : Cx} {sc : Scope} {ρ : PEnv} {env : Env} {h h' h2 : Heap} {a : Addr} {β : Bx} {x : Str}
theorem FOk.boxed {ws : List Value} (F : FOk C (fun _ => False) none [] sc ρ env [] h) (kp : ∀ b o, h.get? b = some o → h'.get? b = some o) (na : h.get? a = none) (hl : h'.IsList a ws.toArray) (rr : RepAll h' (fun b => False ∨ b = a) ws β) (S : Stored env x (.ref a) h' h2)
    (nob : ∀ y p, ρ.lookup y = some p → ∃ d, p = .d d) : FOk C (fun b => b = a) (some a) β sc ((x, .box) :: ρ) env [] h2 := by
  have il : h2.IsList a ws.toArray := by
    obtain ⟨o, e, cc, n, dt⟩ := hl
    exact ⟨o, S.seq _ o e (seq_noFrame ⟨_, _, dt⟩), cc, n, dt⟩
  have h0a : C.h₀.get? a = none := by
    cases e : C.h₀.get? a with
    | none => rfl
    | some o => have := F.s.base a o e; rw [na] at this; cases this
  have x0 : ∀ b, XO (fun b => b = a) [] b ↔ b = a := fun b => by simp [XO]
  refine { eok := F.eok, scope := F.scope, lnew := F.lnew, cnew := F.cnew, loc := S.loc, cel := S.cel, cla := F.cla, cnd := F.cnd, clk := F.clk, s := ⟨fun b o e => ?_, fun b q => ?_, fun b q => ?_, fun b q => ?_⟩, vars := fun y p hy n => ?_, own := fun y ys hy => ?_, ond := (fun _ _ _ e => nomatch e), onx := (fun _ m => nomatch m), bxx := fun b q => (Option.some.inj q).symm }
  · refine S.keep b o (fun q => ?_) (fun q => ?_) (kp b o (F.s.base b o e))
    · have := F.lnew; rw [← q, e] at this; cases this
    · have := F.cnew b q; rw [e] at this; cases this
  · rw [(x0 b).mp q]; exact h0a
  · rw [(x0 b).mp q]
    obtain ⟨o, e, _⟩ := il
    exact ⟨o, e⟩
  · cases q
    refine ⟨(x0 a).mpr rfl, ws, il, rr.moveS fun b o nx e sq => ⟨S.seq b o e (seq_noFrame sq), fun q => nx (.inr ((x0 b).mp q))⟩⟩
  · rw [List.lookup_cons] at hy
    cases hb : y == x with
    | true =>
      rw [hb] at hy
      cases hy
      have e : y = x := beq_iff_eq.mp hb
      subst e
      exact ⟨_, S.now, a, rfl, rfl⟩
    | false =>
      rw [hb] at hy
      obtain ⟨u, hu, r⟩ := F.vars y p hy n
      obtain ⟨d, rfl⟩ := nob y p hy
      refine ⟨u, S.else' y u (by simpa using hb) (hu.keep F.s (Keep.all kp)), ?_⟩
      refine Rep.moveS (fun b o nx e sq => ⟨S.seq b o (kp b o e) (seq_noFrame sq), fun q => ?_⟩) r
      rw [(x0 b).mp q, na] at e; cases e
  · rw [List.lookup_cons] at hy
    cases hb : y == x with
    | true => rw [hb] at hy; cases hy
    | false =>
      rw [hb] at hy
      obtain ⟨d, e⟩ := nob y _ hy
      cases e
end
/-! ## statements of one frame -/
noncomputable def WSA (C : Cx) (k : Nat) (sc : Scope) (A : Around) (env : Env) (body : List Stmt) (ρ : PEnv) (β : Bx) : Prop :=
  ∀ (s : Shared) (X : Addr → Prop) (bx : Option Addr) (ow : Own) (P : Flow → Shared → Prop) (E : Value → Shared → Prop), Room A k → FOk C X bx β sc ρ env ow s.heap →
    (∀ h' tk, C.h₀.StaysIn h' → P (.ret (.bool true)) { s with heap := h', toks := tk }) → wpAny (model C.prog C.w) A (execs body env) P E s
section
variable {C : Cx} {k : Nat} {sc : Scope} {A : Around} {env : Env} {ρ : PEnv} {β : Bx}
theorem sa_cons {st : Stmt} {rest : List Stmt} (h : WX C k sc st ρ β (fun ρ' β' => WSA C k sc A env rest ρ' β') fun _ _ => False) : WSA C k sc A env (st :: rest) ρ β :=
  fun s X bx ow P E R F r => by
    refine wpAny_execs_cons (h A s env X bx ow _ E R F (fun h' tk ρ' β' ow' n F' k1 x1 => ?_) fun _ _ _ _ _ f => f.elim)
    exact n { s with heap := h', toks := tk } X bx ow' P E R F' fun h2 tk2 b => r h2 tk2 b
end
set_option maxHeartbeats 2000000



noncomputable abbrev b_lawF : List Stmt := fnB (stmtAt pw.main.body 61)
theorem F_law {C : Cx} (hC : C.K = KK C.w.params) : FnAt C "law" 371 fdlaw b_lawF ["script"] :=
  mkF hC ⟨⟨⟨.type "function", none, .func fdlaw, #[]⟩, by kernel_rfl, by kernel_rfl⟩, by kernel_rfl, by kernel_rfl, all1 fun _ => by kernel_rfl, by kernel_rfl, by kernel_rfl, by kernel_rfl, by kernel_rfl, by kernel_rfl, by kernel_rfl, by decide +kernel, by kernel_rfl, by decide +kernel⟩ (by kernel_rfl) (by kernel_rfl)
theorem poly3 (a b c : Int) : encF (polyAt a b c 0) 3 = [.tuple [.int a, .int 1], .tuple [.int b, .int 1], .tuple [.int c, .int 1]] := by
  rw [← poly_row a b c 3 (.inl rfl)]; rfl
theorem at_sz {u v : Int} (h0 : 0 ≤ u) (h1 : u < 9) (h2 : 0 ≤ v) (h3 : v < 3) : Sz 4 (Rat.divInt (u - 4) (1 + v)) := Sz.divInt (by omega) (by omega) (by omega)
theorem divInt_of {X Y : Int} {r : Rat} (hY : Y ≠ 0) (h : (X : Rat) = r * (Y : Rat)) : Rat.divInt X Y = r := by
  have hy : (Y : Rat) ≠ 0 := by
    intro e
    exact hY (by exact_mod_cast e)
  rw [Rat.divInt_eq_div, h, Rat.div_def, Rat.mul_assoc, Rat.mul_inv_cancel _ hy, Rat.mul_one]
theorem num_eq (q : Rat) : (q.num : Rat) = q * ((q.den : Int) : Rat) := by
  have hd : ((q.den : Int) : Rat) ≠ 0 := by
    intro e
    have : (q.den : Int) = 0 := by exact_mod_cast e
    have := q.den_pos
    omega
  have h := Rat.num_divInt_den q
  rw [Rat.divInt_eq_div, Rat.div_def] at h
  have h2 := congrArg (· * ((q.den : Int) : Rat)) h
  rw [Rat.mul_assoc, Rat.inv_mul_cancel _ hd, Rat.mul_one] at h2
  exact h2
theorem due0 (a b c : Int) (q : Rat) : Rat.divInt (a * (q.den : Int) ^ (2 : Int).toNat + b * q.num * q.den + c * q.num ^ (2 : Int).toNat) ((q.den : Int) ^ (2 : Int).toNat) = polyAt a b c q 0 := by
  have hp := q.den_pos
  have hn := num_eq q
  refine divInt_of (by exact Int.ne_of_gt (Int.pow_pos (by omega))) ?_
  unfold polyAt
  rw [if_pos rfl]
  show ((a * (q.den : Int) ^ 2 + b * q.num * q.den + c * q.num ^ 2 : Int) : Rat) = _ * (((q.den : Int) ^ 2 : Int) : Rat)
  rw [Rat.intCast_add, Rat.intCast_add, Rat.intCast_mul, Rat.intCast_mul, Rat.intCast_mul, Rat.intCast_mul, Rat.intCast_pow, Rat.intCast_pow, hn]
  generalize ((q.den : Int) : Rat) = d
  grind
theorem due1 (a b c : Int) (q : Rat) : Rat.divInt (b * q.den + 2 * c * q.num) q.den = polyAt a b c q 1 := by
  have hp := q.den_pos
  have hn := num_eq q
  refine divInt_of (by omega) ?_
  unfold polyAt
  rw [if_neg (by decide), if_pos rfl]
  rw [Rat.intCast_add, Rat.intCast_mul, Rat.intCast_mul, Rat.intCast_mul, hn]
  generalize ((q.den : Int) : Rat) = d
  show (b : Rat) * d + ((2 : Int) : Rat) * c * (q * d) = _
  have : ((2 : Int) : Rat) = 2 := rfl
  rw [this]
  grind
theorem dueF (a b c : Int) (q : Rat) : [encQ (polyAt a b c q 0)] ++ [encQ (polyAt a b c q 1), .tuple [.int c, .int 1]] = encF (polyAt a b c q) 3 := by
  have : polyAt a b c q 2 = (c : Rat) := by unfold polyAt; rw [if_neg (by decide), if_neg (by decide), if_pos rfl]
  show _ = [encQ (polyAt a b c q 0), encQ (polyAt a b c q 1), encQ (polyAt a b c q 2)]
  rw [this, encZ]
  rfl
noncomputable def lawEnd : List Stmt := (b_lawF.drop 10)
section
variable {C : Cx} (hC : C.K = KK C.w.params) {A : Around} {env : Env}
include hC
theorem law_walk {v : PyData} (tail : ∀ s B t p ρ β, (s = 2 ∨ s = 3) → B ≤ 5000000 → DR C s B 40 t p → Sub [(("term_here" : Str), .d t), ("size", .d (.int ((s + 1 : Nat) : Int)))] ρ → WSA C 50 fdlaw.scope A env lawEnd ρ β) (β : Bx) (hb : BG β) :
    WSA C 50 fdlaw.scope A env (b_lawF.drop 1) [("box", .box), ("script", .d v)] β := by
  obtain ⟨v1, β1, g1, l1, u1, h1⟩ := c_take hC 2 (by decide) β hb
  obtain ⟨s, hs, hv⟩ : ∃ s : Nat, (s = 2 ∨ s = 3) ∧ 3 + v1 = ((s + 1 : Nat) : Int) := by
    rcases (by omega : v1 = 0 ∨ v1 = 1) with rfl | rfl
    · exact ⟨2, .inl rfl, rfl⟩
    · exact ⟨3, .inr rfl, rfl⟩
  obtain ⟨B, hB5, hD⟩ := drawn2 hC hs
  obtain ⟨t, p, β2, g2, d2, h2⟩ := hD β1 g1
  have h4 := c_series hC (k := 40) (by decide) 0 s (by omega) t p d2.1 β2
  rw [enc0] at h4
  obtain ⟨a, b, c, β3, g3, ha, hb', hc, h5⟩ := c_poly hC 3 (.inl rfl) β2 g2
  obtain ⟨v6, β6, g6, l6, u6, h6⟩ := c_take hC 9 (by decide) β3 g3
  obtain ⟨v7, β7, g7, l7, u7, h7⟩ := c_take hC 3 (by decide) β6 g6
  have h8 := c_low hC (v6 - 4) (1 + v7) (by omega) β7
  have hq := at_sz l6 u6 l7 u7
  generalize Rat.divInt (v6 - 4) (1 + v7) = q at h8 hq
  rw [poly3] at h5
  refine sa_cons ?_
  walk_at "go"
  refine wv_of h1 (by decide) ?_
  walk_at "go"
  rw [hv]
  refine sa_cons ?_
  walk_at "go"
  refine wv_of h2 (by decide) ?_
  walk_at "go"
  refine sa_cons ?_
  walk_at "go"
  refine wv_of h4 (by decide) ?_
  walk_at "go"
  refine b_neL (shaped_F p (s + 1)) ?_
  walk_at "go"
  refine sa_cons ?_
  walk_at "go"
  refine wv_of h5 (by decide) ?_
  walk_at "go"
  refine sa_cons ?_
  walk_at "go"
  refine wv_of h6 (by decide) ?_
  walk_at "go"
  refine wv_of h7 (by decide) ?_
  walk_at "go"
  refine wv_of h8 (by decide) ?_
  walk_at "go"
  refine sa_cons ?_
  refine x_list3 ?_ (by kernel_rfl) (by intro _; kernel_rfl) (by intro e he; cases e; cases he; kernel_rfl)
  refine e_compN (fun i => match i with | 0 => .int a | 1 => .int b | _ => .int c) ?_ (by kernel_rfl) (by kernel_rfl) (by kernel_rfl) (by kernel_rfl) (by intro _ _; kernel_rfl)
  refine wi_list ?_ (.inl ⟨_, _, rfl⟩)
  walk_at "go"
  refine ⟨_, rfl, fun d hd => .inl ⟨_, _, rfl⟩, rfl, by simp, fun i d hd => ?_, ?_⟩
  · have hi : i < 3 := (List.getElem?_eq_some_iff.mp hd).1
    rcases (by omega : i = 0 ∨ i = 1 ∨ i = 2) with rfl | rfl | rfl
    all_goals
      cases hd
      walk_at "go"
  · have hn : q.num.natAbs ≤ 16 := hq.1
    have hd : q.den ≤ 16 := hq.2
    have hp := q.den_pos
    have h9 := c_low hC (a * (q.den : Int) ^ (2 : Int).toNat + b * q.num * q.den + c * q.num ^ (2 : Int).toNat) ((q.den : Int) ^ (2 : Int).toNat) (Int.pow_pos (by omega)) β7
    rw [due0] at h9
    have h10 := c_low hC (b * q.den + 2 * c * q.num) q.den (by omega) β7
    rw [due1 a b c] at h10
    have h11 := c_series hC (k := 20) (by decide) q 2 (by decide) (tPoly a b c) (polyAt a b c q) (OT_poly hC 2 (by decide) a b c ha hb' hc q hq) β7
    refine ⟨.int a, .int b, .int c, rfl, ?_⟩
    refine sa_cons ?_
    walk_at "go"
    refine b_pow (by decide) (by decide) (by omega) ?_
    walk_at "go"
    refine b_pow (by decide) (by decide) (by omega) ?_
    walk_at "go"
    refine b_pow (by decide) (by decide) (by omega) ?_
    walk_at "go"
    refine wv_of h9 (by decide) ?_
    walk_at "go"
    refine sa_cons ?_
    walk_at "go"
    refine wv_of h10 (by decide) ?_
    walk_at "go"
    refine b_join (by simp) ?_
    walk_at "go"
    · rw [dueF a b c q]
      refine sa_cons ?_
      walk_at "go"
      refine wv_of h11 (by decide) ?_
      walk_at "go"
      refine b_neL (shaped_F _ 3) ?_
      walk_at "go"
      exact tail s B t p _ _ hs hB5 d2 (by walk_at "sub")
    all_goals
      first | exact IntMulOk.of_left (intBits_le_64 (by omega) (by omega)) | exact IntMulOk.of_right (intBits_le_64 (by omega) (by omega))
end
set_option maxHeartbeats 2000000
/-! ## an exception of the program's own class, in flight -/
theorem evalOpt_none (env : Env) : evalOpt none env = none := rfl
theorem dict_mapFields (o : Obj) (f : Array Value → Array Value) : (o.mapFields f).dict = o.dict := by
  obtain ⟨c, d, dt, sl⟩ := o; cases dt <;> rfl
/-- frames below: each with its names, none of them of the ground -/
noncomputable def FrL (C : Cx) (h : Heap) (l : List Env) : Prop := ∀ env ∈ l, env.scope.kind ≠ .module ∧ env.frame = some env.locals ∧ C.h₀.get? env.locals = none ∧ ∃ m, h.Ns env.locals m
/-- where the traceback stands -/
noncomputable def TbK (C : Cx) (e : Addr) (vs : Array Value) (h : Heap) : Option Value → Prop
  | none => vs[1]? = some .none
  | some f => ∃ T oT ts, vs[1]? = some (.ref T) ∧ C.h₀.get? T = none ∧ T ≠ e ∧ h.get? T = some oT ∧ oT.data = .fields ts ∧ ts[3]? = some f
noncomputable def ExK (C : Cx) (l : List Env) (e : Addr) (fl : Option Value) (h : Heap) : Prop :=
  ∃ oe vs D m tk, h.get? e = some oe ∧ oe.cls = .ref 31 ∧ oe.dict = some D ∧ oe.data = .fields vs ∧ C.h₀.get? e = none ∧ (D ≠ e ∧ ∀ x ∈ l, x.locals ≠ D) ∧ h.Ns D m ∧ m "kind" = some (.str "domain" tk) ∧ TbK C e vs h fl
structure XSt (C : Cx) (l : List Env) (e : Addr) (fl : Option Value) (h : Heap) : Prop where
  base : C.h₀.StaysIn h
  fr : FrL C h l
  ex : ExK C l e fl h

section
variable {C : Cx} {h h' : Heap} {l : List Env} {e : Addr} {fl : Option Value}
theorem FrL.funs : ∀ {l : List Env}, FrL C h l → h.FunFrames C.h₀ l
  | [], _ => trivial
  | env :: r, F => by
    obtain ⟨h1, h2, h3, m, o, es, ep, ho, hd, _⟩ := F env (.head _)
    exact ⟨h1, ⟨env.locals, o, h2, h3, ho, fun vs q => by rw [hd] at q; cases q⟩, FrL.funs fun x hx => F x (.tail _ hx)⟩
theorem FrL.slots (F : FrL C h l) (k : h.UpToSlots h') : FrL C h' l := fun env he =>
  let ⟨h1, h2, h3, m, hn⟩ := F env he; ⟨h1, h2, h3, m, k.ns hn⟩
theorem FrL.keep (F : FrL C h l) (k : ∀ b o, h.get? b = some o → h'.get? b = some o) : FrL C h' l := fun env he =>
  let ⟨h1, h2, h3, m, hn⟩ := F env he; ⟨h1, h2, h3, m, hn.keeps k⟩
theorem FrL.keepB {X : Addr → Prop} {bx : Option Addr} {β : Bx} (F : FrL C h l) (B : BoxIs h X bx β) (k : Keep bx h h') : FrL C h' l := fun env he => by
  obtain ⟨h1, h2, h3, m, hn⟩ := F env he
  refine ⟨h1, h2, h3, m, hn.at' fun o eo => k _ o (fun q => ?_) eo⟩
  obtain ⟨_, vs, ⟨o', e', _, n, d'⟩, _⟩ := B _ q
  obtain ⟨o2, es, ep, ho, hd, _⟩ := hn
  rw [ho] at e'; cases e'; rw [hd] at d'; cases d'
theorem ExK.tail {env : Env} (x : ExK C (env :: l) e fl h) : ExK C l e fl h := by
  obtain ⟨oe, vs, D, m, tk, he, hcls, hdict, hd, hen, hDe, r⟩ := x
  exact ⟨oe, vs, D, m, tk, he, hcls, hdict, hd, hen, ⟨hDe.1, fun x hx => hDe.2 x (.tail _ hx)⟩, r⟩
theorem FrL.tail {env : Env} (F : FrL C h (env :: l)) : FrL C h l := fun x hx => F x (.tail _ hx)

/-- a new entry upon the traceback -/
theorem note_entry {M : Model} {A : Around} {E : Value → Shared → Prop} {s : Shared} {env : Env} {outer : List Env} {oe : Obj} {vs : Array Value} {head : Value} {hadNext : Bool} {Q : Unit → Shared → Prop}
    (hfr : A.frames = some (env :: outer)) (F : FrL C s.heap (env :: outer)) (he : s.heap.get? e = some oe) (hkb : C.h₀.StaysIn s.heap) (hen : C.h₀.get? e = none) (hd : oe.data = .fields vs) (hsz : 1 < vs.size)
    (h : ∀ h' T oT ts, C.h₀.StaysIn h' → s.heap.UpToSlots h' → h'.get? e = some (oe.mapFields (·.setIfInBounds 1 (.ref T))) → C.h₀.get? T = none → T ≠ e → h'.get? T = some oT → oT.data = .fields ts → ts[3]? = some (rawInt env.locals) → Q () { s with heap := h' }) :
    wpAny M A (do let a ← frameOf env; let pl ← entryPlaceOf env.locals hadNext; let b ← EntryCells.newEntry head a .none (rawInt env.locals) .none pl; setField (.ref e) 1 b) Q E s := by
  have hl := F.funs
  have hf := (F env (.head _)).2.1
  have hene : e ∉ (env :: outer).filterMap (·.frame) := fun hm => by
    obtain ⟨_, o, ho, hnf⟩ := hl.mem hm
    rw [he] at ho; injection ho with ho; subst ho; exact hnf vs hd
  refine wpAny_bind (wpAny_frameOf_fun hfr hl hf fun h₁ hs₁ => ?_)
  refine wpAny_bind (wpAny_entryPlaceOf fun pl hpl => ?_)
  unfold EntryCells.newEntry newFields
  refine wpAny_bind (wpAny_newObj_type ?_ (hpl.sizeOk5 _ _ _ _ _))
  generalize hob : ({ cls := .type "traceback", dict := none, data := .fields ([head, .ref env.locals, .none, rawInt env.locals, .none] ++ (if pl.isEmpty then List.replicate 6 Value.none else pl)).toArray } : Obj) = ob
  have obd : ob.data = .fields ([head, .ref env.locals, .none, rawInt env.locals, .none] ++ (if pl.isEmpty then List.replicate 6 Value.none else pl)).toArray := by rw [← hob]
  have obf : ob.isFreed = false := Obj.isFreed_of_fields obd
  have he₁ : h₁.get? e = some oe := (hs₁.2.1 e hene).trans he
  have kb₁ : C.h₀.StaysIn h₁ := fun b o hbo => (hs₁.2.1 b fun hm => by rw [(hl.mem hm).1] at hbo; cases hbo).trans (hkb b o hbo)
  have he₂ := Heap.get?_push_of_some (h := h₁) ob he₁
  refine wpAny_setField he₂ hd hsz ?_
  have hTe : h₁.objs.size ≠ e := Nat.ne_of_gt (Heap.lt_size he₁)
  have he₃ := Heap.get?_update_self (Obj.mapFields (·.setIfInBounds 1 (Value.ref h₁.objs.size))) he₂ (Obj.isFreed_of_fields (Obj.data_mapFields hd _))
  have keep : ∀ b o, b ≠ e → h₁.get? b = some o → ((h₁.push ob).update e (Obj.mapFields (·.setIfInBounds 1 (Value.ref h₁.objs.size)))).get? b = some o := fun b o hbe hb => by
    rw [Heap.get?_update_other _ _ (Ne.symm hbe)]
    exact Heap.get?_push_of_some _ hb
  refine h _ h₁.objs.size ob _ (fun b o hbo => keep b o (fun q => by rw [q, hen] at hbo; cases hbo) (kb₁ b o hbo)) (fun b o hb hnf => ?_) he₃ kb₁.fresh hTe ?_ obd (by simp)
  · obtain ⟨sl, hs⟩ := hs₁.2.2 b o hb
    refine ⟨sl, keep b _ (fun q => ?_) hs⟩
    rw [q, he] at hb; injection hb with hb; subst hb; exact hnf vs hd
  · rw [Heap.get?_update_other _ _ (Ne.symm hTe)]
    exact Heap.get?_push_size h₁ obf

section
variable {M : Model} {A : Around} {E : Value → Shared → Prop} {s : Shared} {env : Env} {outer : List Env} {Q : Unit → Shared → Prop}
theorem size_of_at {vs : Array Value} {i : Nat} {x : Value} (q : vs[i]? = some x) : i < vs.size := (Array.getElem?_eq_some_iff.mp q).1

theorem x_noted {oe : Obj} {vs : Array Value} {D : Addr} {m : Str → Option Value} {tk : Tok} {T : Addr} {oT : Obj} {ts : Array Value} (k : h.UpToSlots h') (hcls : oe.cls = .ref 31) (hdict : oe.dict = some D) (hd : oe.data = .fields vs) (hsz : 1 < vs.size) (hen : C.h₀.get? e = none) (hDe : D ≠ e ∧ ∀ x ∈ l, x.locals ≠ D) (hn : h.Ns D m) (hm : m "kind" = some (.str "domain" tk))
    (he : h'.get? e = some (oe.mapFields (·.setIfInBounds 1 (.ref T)))) (hT0 : C.h₀.get? T = none) (hTe : T ≠ e) (hT : h'.get? T = some oT) (hTd : oT.data = .fields ts) (h3 : ts[3]? = some fv) : ExK C l e (some fv) h' :=
  ⟨_, _, D, m, tk, he, (Obj.cls_mapFields _ _).trans hcls, (dict_mapFields _ _).trans hdict, Obj.data_mapFields hd _, hen, hDe, k.ns hn, hm, T, oT, ts, by simp [hsz], hT0, hTe, hT, hTd, h3⟩

/-- the frame's entry is written -/
theorem x_note (hfr : A.frames = some (env :: outer)) (S : XSt C (env :: outer) e fl s.heap) (hfl : fl = none ∨ fl = some .none) (hQ : ∀ h', XSt C (env :: outer) e (some (rawInt env.locals)) h' → Q () { s with heap := h' }) : wpAny M A (noteFrame (.ref e) env) Q E s := by
  obtain ⟨b, F, oe, vs, D, m, tk, he, hcls, hdict, hd, hen, hDe, hn, hm, tb⟩ := S
  have hf := (F env (.head _)).2.1
  unfold noteFrame
  simp only [hf]
  rcases hfl with rfl | rfl
  · have h1 : vs[1]? = some .none := tb
    refine wpAny_bind (wpAny_field he hd h1 ?_)
    rw [if_neg (by decide)]
    exact note_entry hfr F he b hen hd (size_of_at h1) fun h' T oT ts b' k he' hT0 hTe hT hTd h3 => hQ h' ⟨b', F.slots k, x_noted k hcls hdict hd (size_of_at h1) hen hDe hn hm he' hT0 hTe hT hTd h3⟩
  · obtain ⟨T, oT, ts, h1, hT0, hTe, hT, hTd, h3⟩ := tb
    refine wpAny_bind (wpAny_field he hd h1 ?_)
    rw [if_pos (show (Value.ref T != Value.none) = true from by simp)]
    refine wpAny_bind (wpAny_field hT hTd h3 ?_)
    rw [if_neg (show ¬ ((Value.none == rawInt env.locals) = true) from by simp [rawInt])]
    refine wpAny_bind (wpAny_setField hT hTd (size_of_at h3) ?_)
    have other : ∀ c, c ≠ T → (s.heap.update T (Obj.mapFields (·.setIfInBounds 3 Value.none))).get? c = s.heap.get? c := fun c hc => Heap.get?_update_other _ _ (Ne.symm hc)
    have k0 : s.heap.UpToSlots (s.heap.update T (Obj.mapFields (·.setIfInBounds 3 Value.none))) := fun c o hc hnf => ⟨o.slots, (other c fun q => by rw [q, hT] at hc; injection hc with hc; subst hc; exact hnf ts hTd).trans hc⟩
    refine note_entry (s := { s with heap := s.heap.update T (Obj.mapFields (·.setIfInBounds 3 Value.none)) }) hfr (F.slots k0) ((other e (Ne.symm hTe)).trans he) (fun c o hc => (other c fun q => by rw [q, hT0] at hc; cases hc).trans (b c o hc)) hen hd (size_of_at h1) fun h' T2 oT2 ts2 b' k he' hT02 hTe2 hT2 hTd2 h32 => ?_
    exact hQ h' ⟨b', (F.slots k0).slots k, x_noted (k0.trans k) hcls hdict hd (size_of_at h1) hen hDe hn hm he' hT02 hTe2 hT2 hTd2 h32⟩
/-- it stands already -/
theorem x_again {l : List Env} (hf : env.frame = some env.locals) (S : XSt C l e (some (rawInt env.locals)) s.heap) (hQ : Q () s) : wpAny M A (noteFrame (.ref e) env) Q E s := by
  obtain ⟨b, F, oe, vs, D, m, tk, he, hcls, hdict, hd, hen, hDe, hn, hm, T, oT, ts, h1, hT0, hTe, hT, hTd, h3⟩ := S
  unfold noteFrame
  simp only [hf]
  refine wpAny_bind (wpAny_field he hd h1 ?_)
  rw [if_pos (show (Value.ref T != Value.none) = true from by simp)]
  refine wpAny_bind (wpAny_field hT hTd h3 ?_)
  rw [if_pos (show (rawInt env.locals == rawInt env.locals) = true from by simp)]
  exact wpAny_pure hQ
theorem x_flight {l : List Env} {f : Value} {fo : Option Addr} (S : XSt C l e (some f) s.heap) (hQ : ∀ h', XSt C l e (some (fo.elim .none fun a => rawInt a)) h' → Q () { s with heap := h' }) : wpAny M A (setFlight (.ref e) fo) Q E s := by
  obtain ⟨b, F, oe, vs, D, m, tk, he, hcls, hdict, hd, hen, hDe, hn, hm, T, oT, ts, h1, hT0, hTe, hT, hTd, h3⟩ := S
  unfold setFlight
  refine wpAny_bind (wpAny_field he hd h1 ?_)
  rw [if_pos (show (Value.ref T != Value.none) = true from by simp)]
  refine wpAny_setField hT hTd (size_of_at h3) (hQ _ ?_)
  generalize hx : (fo.elim Value.none fun a => rawInt a) = x
  have other : ∀ c, c ≠ T → (s.heap.update T (Obj.mapFields (·.setIfInBounds 3 x))).get? c = s.heap.get? c := fun c hc => Heap.get?_update_other _ _ (Ne.symm hc)
  have k0 : s.heap.UpToSlots (s.heap.update T (Obj.mapFields (·.setIfInBounds 3 x))) := fun c o hc hnf => ⟨o.slots, (other c fun q => by rw [q, hT] at hc; injection hc with hc; subst hc; exact hnf ts hTd).trans hc⟩
  refine ⟨fun c o hc => (other c fun q => by rw [q, hT0] at hc; cases hc).trans (b c o hc), F.slots k0, oe, vs, D, m, tk, (other e (Ne.symm hTe)).trans he, hcls, hdict, hd, hen, hDe, k0.ns hn, hm, T, _, _, h1, hT0, hTe, Heap.get?_update_self _ hT (Obj.isFreed_of_fields (Obj.data_mapFields hTd _)), Obj.data_mapFields hTd _, ?_⟩
  have := size_of_at h3
  simp [this]
/-- out of the frame -/
theorem x_leaving (hfr : A.frames = some (env :: outer)) (S : XSt C (env :: outer) e fl s.heap) (hfl : fl = none ∨ fl = some .none ∨ fl = some (rawInt env.locals)) (hQ : ∀ h', XSt C outer e (some .none) h' → Q () { s with heap := h' }) : wpAny M A (leaving env (.ref e)) Q E s := by
  have go : ∀ s' : Shared, XSt C (env :: outer) e (some (rawInt env.locals)) s'.heap → (∀ h', XSt C outer e (some .none) h' → Q () { s' with heap := h' }) → wpAny M A (setFlight (.ref e) none) Q E s' := fun s' S' hQ' =>
    x_flight (fo := none) S' fun h' S2 => hQ' h' ⟨S2.base, S2.fr.tail, S2.ex.tail⟩
  unfold leaving
  rcases hfl with q | q | q
  · exact wpAny_bind (x_note hfr S (.inl q) fun h' S' => go { s with heap := h' } S' hQ)
  · exact wpAny_bind (x_note hfr S (.inr q) fun h' S' => go { s with heap := h' } S' hQ)
  · subst q
    exact wpAny_bind (x_again (S.fr env (.head _)).2.1 S (go s S hQ))
/-- back from a code of the frame's own -/
theorem x_came {l : List Env} {f : Value} {E' : Value → Shared → Prop} (hf : env.frame = some env.locals) (S : XSt C l e (some f) s.heap) (hQ : ∀ h', XSt C l e (some (rawInt env.locals)) h' → E' (.ref e) { s with heap := h' }) : cameBackBy M A env E' (.ref e) s := by
  have S0 := S
  obtain ⟨b, F, oe, vs, D, m, tk, he, hcls, hdict, hd, hen, hDe, hn, hm, T, oT, ts, h1, hT0, hTe, hT, hTd, h3⟩ := S
  unfold cameBackBy
  refine wpAny_bind (wpAny_field he hd h1 ?_)
  rw [if_neg (show ¬ ((Value.ref T == Value.none) = true) from by simp)]
  rw [hf]
  exact x_flight (fo := some env.locals) S0 hQ
end
end
set_option maxHeartbeats 2000000



/-! ## the program's own exception -/
noncomputable abbrev clsObj : Obj := excClassObj "CasFail" "CasFail" 31 30 [.type "Exception"] [.type "Exception", .type "BaseException", .type "object"] true [] [] false none none (some (.ref 15)) none (some (.str ("CasFail" : Str) 189)) (some (.str ("CasFail" : Str) 197)) (some (.bool true)) "Exception.__new__"
theorem cls_lit (P : Params) : (KK P).lookup 31 = some clsObj := by kernel_rfl
theorem at_of {K : Frag} {h : Heap} {N : Addr} {mg : Str → Option Value} {n : Str} {v : Value} (X : K.In h) (G : h.Ns N mg) (e : nsIn K N n = some (some v)) : mg n = some v := by
  obtain ⟨o, es, ep, ho, hd, _, hf⟩ := G
  unfold nsIn at e
  split at e
  · rename_i c d es' n' sl q
    have := X _ _ q
    rw [ho] at this
    cases this
    cases hd
    split at e
    · rename_i en he
      cases e
      rw [← hf]
      unfold nsFind findBy
      rw [← Array.find?_toList, he]
      rfl
    · split at e <;> cases e
  · cases e
section
variable {C : Cx} (hC : C.K = KK C.w.params) {h : Heap} (b : C.h₀.StaysIn h)
include hC b
theorem cls31 : h.get? 31 = some clsObj := b _ _ (C.okK 31 _ (by rw [hC]; exact cls_lit _))
theorem fn28 : h.get? 28 = some ⟨.type "function", none, .func fdInit, #[]⟩ := b _ _ (C.okK 28 _ (by rw [hC]; kernel_rfl))
theorem in31 : (KK C.w.params).In h := fun a o e => b a o (C.okK a o (by rw [hC]; exact e))
theorem ns30 : h.Ns 30 (h.nsMap 30) := .of_isNs (isNs_of_in (in31 hC b) (by kernel_rfl))
theorem n30 {x : Str} {r : Option Value} (e : nsIn (KK C.w.params) 30 x = some r) : h.nsMap 30 x = r := by
  cases r with
  | none => exact ns_none_of (in31 hC b) (ns30 hC b) e
  | some v => exact at_of (in31 hC b) (ns30 hC b) e
end
theorem F_init {C : Cx} (hC : C.K = KK C.w.params) : fnOk C.K 28 fdInit (fnB initDef) ["self", "kind", "text"] := by
  rw [hC]
  exact ⟨⟨⟨.type "function", none, .func fdInit, #[]⟩, by kernel_rfl, by kernel_rfl⟩, by kernel_rfl, by kernel_rfl, all3 fun _ _ _ => by kernel_rfl, by kernel_rfl, by kernel_rfl, by kernel_rfl, by kernel_rfl, by kernel_rfl, by kernel_rfl, by decide +kernel, by kernel_rfl, by decide +kernel⟩
section
variable {prog : Program} {w : World} {A : Around} {E : Value → Shared → Prop} {s : Shared}
theorem method_init {K : Frag} {pl : Sem Bool} {Q : Value × List Value → Shared → Prop} (X : K.In s.heap) (h : Q (.builtin "Exception.__init__", []) { s with toks := s.toks + 1 }) : wpAny (model prog w) A (getMethod (.type "Exception") "__init__" pl) Q E s := by
  have hstub : opaqueClassAbove (.type "Exception") = pure none := by unfold opaqueClassAbove; dsimp only; rw [show Manifest.isStub "Exception" = false from by decide +kernel]; rfl
  have L0 : Looks (model prog w) s.heap (typeOf (.type "Exception")) (.type "type") := Looks.of_pure (by kernel_rfl)
  have hg : findIn K (.type "type") "__getattribute__" = some (some (.builtin "type.__getattribute__")) := type_tga
  unfold getMethod specialOf
  refine wpAny_bind (wpAny_bind (L0.here ((looks_findIn X hg).here ?_)))
  dsimp only
  rw [if_pos canon_tga]
  refine wpAny_bind (wpAny_mono (Q := fun v => Q (v, [])) (E := E) ?_ (fun _ _ z => wpAny_pure z) fun _ _ z => z)
  have LO : Looks (model prog w) s.heap (opaqueClassAbove (.type "Exception")) none := Looks.of_pure hstub
  refine cls_open (r := .val (.builtin "Exception.__init__")) X LO L0 hg (looks_hook X (r := none) (by rfl)) (by show subIn K _ _ = _; rfl) (by kernel_rfl)
    (wpAny_pure (by show wpAny _ _ (handedOut (.builtin "Exception.__init__")) _ _ _; rw [handedOut_of (by decide +kernel)]; exact wpAny_pure h))
end
section
variable {prog : Program} {w : World} {A : Around} {E : Value → Shared → Prop} {h : Heap} {g : Array GenState} {d : PySem.Drawn} {t : Nat} {os : OsState} {Q : Value → Shared → Prop}
noncomputable abbrev excObj (t : Addr) : Obj := { cls := .ref 31, data := .fields #[.ref t, .none, .none, .none, .bool false, .none] }
theorem base_init {e t0 : Addr} {v : Value} (hC : h.get? 31 = some clsObj) (he : h.get? e = some (excObj t0))
    (hq : Q .none ⟨(h.push { cls := .type "tuple", data := .seq #[v] }).update e (Obj.mapFields (·.setIfInBounds 0 (.ref h.objs.size))), g, d, t, os⟩) :
    wpAny (model prog w) A (call (.builtin "Exception.__init__") [.ref e, v]) Q E ⟨h, g, d, t, os⟩ := by
  have F := PySem.F.excBase_Exception
  refine wpAny_call (codeAny_call_builtin F.init.plain F.initEntry (wpAny_check_init_sub F hC he rfl ?_))
  wp_walk
  exact hq
end
section
variable {M : Model} {A : Around} {E : Value → Shared → Prop} {s : Shared} {env : Env} {Q : Value → Shared → Prop}
theorem Call_methK {o : Expr} {name : Str} {apos pos : Pos} {args : List Expr} (hbase : attributeBase o name env (eval o env) = eval o env)
    (hfew : ((backTo pos (starEach args env)).all (fun x => !x.1) && (backToKw pos (keywordEach [] env)).all (fun x => x.1.isSome) && decide (args.length + ([] : List Keyword).length + (if ([] : List Keyword).isEmpty then 0 else 1) < 30)) = true)
    (hline : (apos.endLine == pos.line) = true)
    (h : wpAny M A (eval o env) (fun ov s₁ => ∀ pl, wpAny M A (getMethod ov name pl) (fun fx s₂ => wpAny M A (callWith pos fx.1 fx.2 (backTo pos (starEach args env)) []) Q E s₂) E s₁) E s) :
    wpAny M A (eval (.Call (.Attribute o name apos) args [] pos) env) Q E s := by
  rw [arm_eval_Call, hbase]
  refine wpAny_bind (wpAny_mono h (fun ov s₁ h₁ => ?_) fun _ _ e => e)
  refine wpAny_bind (wpAny_standAt ?_)
  have hform : methodCallForm (args.length + ([] : List Keyword).length) (backTo pos (starEach args env)) (backToKw pos (keywordEach [] env)) = true := hfew
  have hpos : methodCallPos true o env apos pos = pure pos := by unfold methodCallPos; simp [hline]
  unfold methodCall
  rw [hform]
  refine wpAny_bind (wpAny_holding (wpAny_mono (h₁ _) (fun fx s₂ h₂ => ?_) fun _ _ e => e))
  exact wpAny_bind (wpAny_of_eq hpos h₂)
end
theorem lk_kind : typeLookup (.type "Exception") "kind" = pure none := by rw [typeLookup_type, builtinLookup_eq_fast]; kernel_rfl
theorem lk_text : typeLookup (.type "Exception") "text" = pure none := by rw [typeLookup_type, builtinLookup_eq_fast]; kernel_rfl
theorem boot_exc : bootBuiltins "Exception" = some (.type "Exception") := by decide +kernel
/-- a local name, told plainly -/
theorem loc_of {h : Heap} {env : Env} {x : Str} {v : Value} (r : VarIs h env x v) (k : env.kindOf x = some .local) : ∃ m, h.Ns env.locals m ∧ m x = some v := by
  rcases r with ⟨_, m, hn, hm⟩ | ⟨q | q, _⟩
  · exact ⟨m, hn, hm⟩
  · rw [k] at q; cases q
  · rw [k] at q; cases q
section
open Builtin Builtin.ObjectAttr
variable {prog : Program} {w : World} {A : Around} {E : Value → Shared → Prop} {h : Heap} {g : Array GenState} {d : PySem.Drawn} {t : Nat} {os : OsState}
variable {nm q : Str} {C N x : Addr} {bs bm : List Value} {sn : List Str} {sub : List Value} {ab : Bool} {col : Option Bool} {dd : Option Addr} {k0 k1 k2 k3 k5 : Option Value} {newId B sa owner : String}
/-- the first name of an object: its dict is new -/
theorem store_entry_new {o : Obj} {mN : Str → Option Value} {name : Str} {v : Value} {tk : Tok} {Q : Fin → Shared → Prop} (SF : StoreFacts B bm sa owner) (hC : h.get? C = some (excClassObj nm q C N bs bm true sn sub ab col dd k0 k1 k2 k3 k5 newId)) (hn : h.Ns N mN) (hna : mN name = none) (hB : typeLookup (.type B) name = pure none)
    (hx : h.get? x = some o) (hc : o.cls = .ref C) (hnc : ∀ c, o.data ≠ .cls c) (hdn : o.dict = none)
    (hq : ∀ h' tk', h'.get? x = some { o with dict := some h.objs.size } → h'.Ns1 h.objs.size (fun y => if y = name then some v else none) → (∀ b o, b ≠ x → h.get? b = some o → h'.get? b = some o) → Q (.done (.ret .none)) ⟨h', g, d, tk', os⟩) :
    wpAny (model prog w) A (Builtin.«object.__setattr__» ⟨[.ref x, .str name tk, v], []⟩) Q E ⟨h, g, d, t, os⟩ := by
  have hpass := SF.passes (.ref x)
  unfold Builtin.«object.__setattr__»
  repeat (first | rw [refuse_eq] | (rw [refuseLoop_ref, hpass]) | (with_reducible refine wpAny_loadPart_at hx ?_; rw [hc]) | with_reducible refine wpAny_mroOf_exc hC ?_ | (with_reducible refine wpAny_typeLookup_exc hC hn SF.mro hB ?_; rw [hna]) | wp_step)
  rw [hdn, if_neg (by simp [typeHasDict])]
  split
  · rename_i hcd
    cases hcd
  split
  · rename_i c hcd
    exact absurd hcd (hnc c)
  have hx₁ : (h.push { cls := .type "dict", data := .dict #[] }).get? x = some o := Heap.get?_push_of_some _ hx
  have hxs : x ≠ h.objs.size := Nat.ne_of_lt (Heap.lt_size hx)
  refine wpAny_bind (wpAny_alloc' ?_)
  refine wpAny_bind (wpAny_update' hx₁ ?_)
  refine wpAny_pure ?_
  have hfr : ({ o with dict := some h.objs.size } : Obj).isFreed = false := by
    have hfr := (Heap.get?_some_iff.mp hx).2
    obtain ⟨oc, od, odt, osl⟩ := o
    cases odt <;> first | rfl | exact hfr
  generalize hH : ((h.push { cls := .type "dict", data := .dict #[] }).update x fun o => { cls := o.cls, dict := some h.objs.size, data := o.data, slots := o.slots }) = H
  have gx : H.get? x = some { o with dict := some h.objs.size } := by rw [← hH]; exact Heap.get?_update_self _ hx₁ hfr
  have gd : H.get? h.objs.size = some { cls := .type "dict", data := .dict #[] } := by rw [← hH]; exact (Heap.get?_update_ne _ _ _ _ hxs.symm).trans (Heap.get?_push_at rfl rfl)
  have go : ∀ b ob, b ≠ x → h.get? b = some ob → H.get? b = some ob := fun b ob ne e => by rw [← hH]; exact (Heap.get?_update_ne _ _ _ _ ne).trans (Heap.get?_push_of_some _ e)
  have hnd : H.Ns h.objs.size (fun _ => none) := ⟨_, #[], _, gd, rfl, fun e he => absurd he (by simp), fun _ => rfl⟩
  show wpAny _ _ (storeInDict h.objs.size (.str name tk) name v) _ _ _
  unfold storeInDict newKeyGuard
  refine wpAny_bind (wpAny_pure (wpAny_bind (wpAny_nsSet1 (Heap.Ns1.of_empty hnd) fun h' hn' hs => ?_)))
  obtain ⟨oD, esD, epD, hoD, hdD, hcD⟩ := hn'.count (Within.cons name v Within.nil)
  refine wpAny_bind (wpAny_lookBehind hoD (by rw [hdD]; exact pastItsLine_dict (Nat.le_trans hcD (by rw [List.length_cons, List.length_nil, sizeLine_eq]; omega))) ?_)
  wp_walk
  exact hq h' _ ((hs.2 x hxs).trans gx) hn' fun b ob ne e => (hs.2 b (Nat.ne_of_lt (Heap.lt_size e))).trans (go b ob ne e)
theorem store_new {o : Obj} {mN : Str → Option Value} {name : Str} {v : Value} {Q : Unit → Shared → Prop} (SF : StoreFacts B bm sa owner) (hC : h.get? C = some (excClassObj nm q C N bs bm true sn sub ab col dd k0 k1 k2 k3 k5 newId)) (hn : h.Ns N mN) (hns : mN "__setattr__" = none) (hna : mN name = none) (hB : typeLookup (.type B) name = pure none)
    (hx : h.get? x = some o) (hc : o.cls = .ref C) (hnc : ∀ c, o.data ≠ .cls c) (hdn : o.dict = none)
    (hq : ∀ h' tk', h'.get? x = some { o with dict := some h.objs.size } → h'.Ns1 h.objs.size (fun y => if y = name then some v else none) → (∀ b o, b ≠ x → h.get? b = some o → h'.get? b = some o) → Q () ⟨h', g, d, tk', os⟩) :
    wpAny (model prog w) A (setAttr (.ref x) name v) Q E ⟨h, g, d, t, os⟩ := by
  have f3 := SF.slot.bind (.ref x)
  unfold setAttr callSpecial? specialOf
  repeat (any_goals (first | assumption | (with_reducible refine wpAny_loadPart_at hx ?_; rw [hc]) | (with_reducible refine wpAny_typeLookup_exc hC hn SF.mro SF.slot.lookup ?_; rw [hns]) | wp_step))
  refine codeAny_call_builtin SF.slot.plain SF.entry (wpAny_check_sa SF hC hx hc (store_entry_new SF hC hn hna hB hx hc hnc hdn fun h' tk' a1 a2 a3 => ?_))
  repeat (any_goals (first | assumption | wp_step))
  exact hq h' tk' a1 a2 a3
end
theorem c_init {C : Cx} (hC : C.K = KK C.w.params) {A : Around} {s : Shared} {X : Addr → Prop} {bx : Option Addr} {β : Bx} {e t0 : Addr} {k1 k2 : Tok} {text : Str} {P E : Value → Shared → Prop} (R : Room0 A 3) (S : SOk C X bx β s.heap)
    (he : s.heap.get? e = some (excObj t0)) (h0 : C.h₀.get? e = none) (hbx : bx ≠ some e) (hz : text.length ≤ 1000) {l : List Env} (fr : FrL C s.heap l)
    (c : ∀ h' tk, C.h₀.StaysIn h' → (∀ b o, b ≠ e → bx ≠ some b → s.heap.get? b = some o → h'.get? b = some o) → ExK C l e none h' → P .none { s with heap := h', toks := tk }) :
    wpAny (model C.prog C.w) A (call (.ref 28) [.ref e, .str "domain" k1, .str text k2]) P E s := by
  refine call_low (k := 2) (F_init hC) rfl R S (ρ := [("kind", .d (.str "domain")), ("text", .d (.str text))]) (fun x p hl => ?_) fun env h₁ tk R1 hf hd F vis kp np => ?_
  · rw [List.lookup_cons] at hl
    cases hb : x == "kind" with
    | true =>
      rw [hb] at hl; cases hl
      rw [beq_iff_eq.mp hb]
      exact ⟨(fun _ e => nomatch e), _, rfl, .str _ _⟩
    | false =>
      rw [hb, List.lookup_cons] at hl
      cases hb2 : x == "text" with
      | true =>
        rw [hb2] at hl; cases hl
        rw [beq_iff_eq.mp hb2]
        exact ⟨(fun _ e => nomatch e), _, rfl, .str _ _⟩
      | false => rw [hb2] at hl; cases hl
  have ks : ∀ y, env.kindOf y = fdInit.scope.names.lookup y := fun y => by unfold Env.kindOf; rw [F.scope]
  have vself := vis "self" (.ref e) rfl
  have vkind := vis "kind" (.str "domain" k1) rfl
  have vtext := vis "text" (.str text k2) rfl
  have kself : env.kindOf "self" = some .local := (ks _).trans (by kernel_rfl)
  have kkind : env.kindOf "kind" = some .local := (ks _).trans (by kernel_rfl)
  have ktext : env.kindOf "text" = some .local := (ks _).trans (by kernel_rfl)
  have e31 : e ≠ 31 := fun q => by
    have := C.okK 31 _ (by rw [hC]; exact cls_lit _)
    rw [← q, h0] at this; cases this
  have he1 := kp e _ he
  have st1 : C.h₀.StaysIn h₁ := fun b o q => kp b o (S.base b o q)
  -- the base's own beginning
  refine wpAny_execs_cons ?_
  refine wpAny_Expr_any (Call_methK (by kernel_rfl) (by kernel_rfl) (by kernel_rfl) (load_boot (C := C) st1 F.eok (by kernel_rfl) (no_glob hC (by kernel_rfl)) boot_exc (by decide) (by kernel_rfl) fun pl => method_init (in31 hC st1) ?_)) ?_ ?_
  rotate_left
  · unfold interactive; rw [F.scope]; kernel_rfl
  · kernel_rfl
  dsimp only
  refine PyProof.Rows.callWith_builtin1 ?_ (by kernel_rfl) (by kernel_rfl)
  refine spliced_more ?_ (by kernel_rfl)
  refine load_var (s := { s with heap := h₁, toks := tk + 1 }) F.eok.kind (by kernel_rfl) vself ?_
  refine spliced_more ?_ (by kernel_rfl)
  refine (?hw : WE C 2 fdInit.scope.names _ [("kind", .d (.str "domain")), ("text", .d (.str text))] β fun p β' => p = .d (.str (("domain" : Str) ++ (": " : Str) ++ text))) (A.deeper env) { s with heap := h₁, toks := tk + 1 } env _ bx _ _ R1 F.e fun v h2 tk2 p β2 q2 k2' B2 r2 => spliced_none ?_
  case hw =>
    walk_at "go"
    refine b_cat (by decide +kernel) ?_
    walk_at "go"
    exact b_cat (by rw [show (Str.ofString "domain" ++ Str.ofString ": ").length = 8 from by decide +kernel]; omega) rfl
  subst q2
  cases r2 with
  | str x tx =>
  have st2 : C.h₀.StaysIn h2 := fun b o q => k2' b o (fun q2 => by
    have := S.xnew b (S.box b q2).1
    rw [q] at this; cases this) (st1 b o q)
  have he2 : h2.get? e = some (excObj t0) := k2' e _ hbx he1
  have hlne : env.locals ≠ e := fun q => by rw [q] at hd; rw [hd] at he; cases he
  have ve2 : ∀ {x v}, VarIs h₁ env x v → VarIs h2 env x v := fun r => r.keep F.s k2'
  obtain ⟨m1, hn1, hm1⟩ := loc_of (ve2 vself) kself
  refine base_init (cls31 hC st2) he2 ?_
  generalize hH3 : ((h2.push { cls := .type "tuple", data := .seq #[.str (("domain" : Str) ++ (": " : Str) ++ text) tx] }).update e (Obj.mapFields (·.setIfInBounds 0 (.ref h2.objs.size)))) = h3
  have o3 : ∀ b o, b ≠ e → h2.get? b = some o → h3.get? b = some o := fun b o ne q => by
    rw [← hH3, Heap.get?_update_other _ _ (Ne.symm ne)]
    exact Heap.get?_push_of_some _ q
  have he3 : h3.get? e = some { cls := .ref 31, data := .fields #[.ref h2.objs.size, .none, .none, .none, .bool false, .none] } := by
    rw [← hH3]
    exact Heap.get?_update_self _ (Heap.get?_push_of_some _ he2) rfl
  have st3 : C.h₀.StaysIn h3 := fun b o q => o3 b o (fun q2 => by rw [q2, h0] at q; cases q) (st2 b o q)
  have ve3 : ∀ {x v}, VarIs h₁ env x v → env.kindOf x = some .local → VarIs h3 env x v := fun r k => by
    obtain ⟨m, hn, hm⟩ := loc_of (ve2 r) k
    exact .inl ⟨k, m, hn.at' fun o q => o3 _ o hlne q, hm⟩
  -- self.kind
  refine wpAny_execs_cons ?_
  refine plainObj_wpAny_Assign_Attribute ?_ (by kernel_rfl)
  refine load_var (s := { s with heap := h3, toks := tk2 }) F.eok.kind (by kernel_rfl) (ve3 vkind kkind) ?_
  refine load_var (s := { s with heap := h3, toks := tk2 }) F.eok.kind (by kernel_rfl) (ve3 vself kself) ?_
  refine store_new (mN := h3.nsMap 30) PySem.F.store_Exception (cls31 hC st3) (ns30 hC st3) (n30 hC st3 (by kernel_rfl)) (n30 hC st3 (by kernel_rfl)) lk_kind he3 rfl (fun c q => by cases q) rfl fun h4 tk4 he4 hD4 o4 => ?_
  generalize hDD : h3.objs.size = D at he4 hD4
  have nD : ∀ b o, h3.get? b = some o → b ≠ D := fun b o q => hDD ▸ Nat.ne_of_lt (Heap.lt_size q)
  have De : D ≠ e := fun q => nD e _ he3 q.symm
  have st4 : C.h₀.StaysIn h4 := fun b o q => o4 b o (fun q2 => by rw [q2, h0] at q; cases q) (st3 b o q)
  have ve4 : ∀ {x v}, VarIs h₁ env x v → env.kindOf x = some .local → VarIs h4 env x v := fun r k => by
    obtain ⟨m, hn, hm⟩ := loc_of (ve3 r k) k
    exact .inl ⟨k, m, hn.at' fun o q => o4 _ o hlne q, hm⟩
  -- self.text
  refine wpAny_execs_cons ?_
  refine plainObj_wpAny_Assign_Attribute ?_ (by kernel_rfl)
  refine load_var (s := { s with heap := h4, toks := tk4 }) F.eok.kind (by kernel_rfl) (ve4 vtext ktext) ?_
  refine load_var (s := { s with heap := h4, toks := tk4 }) F.eok.kind (by kernel_rfl) (ve4 vself kself) ?_
  have I4 : h4.Inst e 31 (fun y => if y = "kind" then some (.str "domain" k1) else none) := ⟨_, he4, rfl, (fun c q => by cases q), .inr ⟨D, rfl, De, hD4⟩⟩
  refine store_attr (mN := h4.nsMap 30) (ns := ["kind"]) PySem.F.store_Exception (cls31 hC st4) (ns30 hC st4) (n30 hC st4 (by kernel_rfl)) (n30 hC st4 (by kernel_rfl)) lk_text e31 I4 (fun h5 tk5 I5 o5 d5 => ?_) (Within.cons "kind" _ Within.nil) (by decide)
  have o5' : ∀ b o, b ≠ e → b ≠ D → h4.get? b = some o → h5.get? b = some o := fun b o ne nd q => o5 b o ne (fun o₀ dx q1 q2 => by rw [he4] at q1; cases q1; cases q2; exact nd) q
  refine wpAny_execs_nil ?_
  obtain ⟨oe, he5, hc5, hd5, _, hdx5⟩ := d5 _ he4
  obtain ⟨o, hx5, _, _, dd⟩ := I5
  rw [he5] at hx5; cases hx5
  have hdict := hdx5 D rfl
  have st5 : C.h₀.StaysIn h5 := fun b o q => o5' b o (fun q2 => by rw [q2, h0] at q; cases q) (nD b o (st3 b o q)) (st4 b o q)
  refine c h5 tk5 st5 (fun b o ne nb q => ?_) ?_
  · have q3 := o3 b o ne (k2' b o nb (kp b o q))
    exact o5' b o ne (nD b o q3) (o4 b o ne q3)
  · rcases dd with ⟨q, _⟩ | ⟨d', hd', _, hn'⟩
    · rw [hdict] at q; cases q
    · rw [hdict] at hd'; cases hd'
      refine ⟨oe, _, D, _, k1, he5, hc5, hdict, hd5, h0, ⟨De, fun x hx => ?_⟩, hn'.ns, rfl, rfl⟩
      obtain ⟨_, _, _, m, o, es, ep, ho, hdo, _⟩ := fr x hx
      refine nD _ _ (o3 _ o (fun q => ?_) (k2' _ o (fun q => ?_) (kp _ o ho)))
      · rw [q, he] at ho; cases ho; cases hdo
      · obtain ⟨_, vs, ⟨o', e', _, n, d'⟩, _⟩ := S.box _ q
        rw [ho] at e'; cases e'; rw [hdo] at d'; cases d'
set_option maxHeartbeats 2000000
section
variable {prog : Program} {w : World} {A : Around} {E : Value → Shared → Prop}
variable {nm q : Str} {C N : Addr} {bs bm : List Value} {hdct : Bool} {sn : List Str} {sub : List Value} {ab : Bool} {col : Option Bool} {dd : Option Addr} {k0 k1 k2 k3 k5 : Option Value} {newId : String}
theorem raise_made {s : Shared} {env : Env} {x : Sem Value} {Q : Flow → Shared → Prop} (hbase : bm.contains (.type "BaseException") = true) (hh : A.handled = none)
    (h : wpAny (model prog w) A x (fun v s₁ => ∃ e oe vs, v = .ref e ∧ s₁.heap.get? C = some (excClassObj nm q C N bs bm hdct sn sub ab col dd k0 k1 k2 k3 k5 newId) ∧
      s₁.heap.get? e = some oe ∧ oe.cls = .ref C ∧ oe.data = .fields vs ∧ vs[1]? = some .none ∧ E (.ref e) s₁) E s) :
    wpAny (model prog w) A (raiseStmt env (some x) none) Q E s := by
  have hcB : (Value.ref C :: bm).contains (.type "BaseException") = true := by rw [List.contains_cons, hbase, Bool.or_true]
  unfold raiseStmt
  refine wpAny_bind (wpAny_mono h (fun v s₁ h₁ => ?_) fun _ _ x => x)
  obtain ⟨e, oe, vs, rfl, hC, he, hc, hd, h1, hE⟩ := h₁
  obtain ⟨hp, g, d, tk, os⟩ := s₁
  repeat (first | (with_reducible refine wpAny_loadPart_at he ?_; rw [hc]) | with_reducible refine wpAny_loadPart_at hC ?_ | (with_reducible refine wpAny_isSubtype_exc hC ?_; rw [hcB]) | with_reducible refine wpAny_field he hd h1 ?_ | wp_step)
  exact wpAny_raiseNew_none hh hE
end
theorem under_room {A : Around} {k : Nat} {C : Addr} {rest : List Value} (R : Room0 A (k + 1)) : Room0 (A.under (.builtin "type.__call__" ⟨.ref C :: rest, []⟩)) k := by
  obtain ⟨l, hl⟩ := R.fr
  have hd : (A.under (.builtin "type.__call__" ⟨.ref C :: rest, []⟩)).depth = A.depth + 1 := rfl
  have hu : (A.under (.builtin "type.__call__" ⟨.ref C :: rest, []⟩)).units = A.units + 1 := rfl
  refine ⟨R.hh, ?_, ?_, l, ?_⟩
  · have := R.dp
    omega
  · have := R.un
    omega
  · exact hl
/-! ## a raise of the program's own -/
theorem FrL.keepE {C : Cx} {h h' : Heap} {l : List Env} {X : Addr → Prop} {bx : Option Addr} {β : Bx} {e t : Addr} (F : FrL C h l) (B : BoxIs h X bx β) (he : h.get? e = some (excObj t)) (k : ∀ b o, b ≠ e → bx ≠ some b → h.get? b = some o → h'.get? b = some o) : FrL C h' l := fun env hm => by
  obtain ⟨h1, h2, h3, m, hn⟩ := F env hm
  refine ⟨h1, h2, h3, m, hn.at' fun o eo => k _ o (fun q => ?_) (fun q => ?_) eo⟩
  · obtain ⟨o2, es, ep, ho, hd, _⟩ := hn
    rw [q, he] at ho; cases ho; cases hd
  · obtain ⟨_, vs, ⟨o', e', _, n, d'⟩, _⟩ := B _ q
    obtain ⟨o2, es, ep, ho, hd, _⟩ := hn
    rw [ho] at e'; cases e'; rw [hd] at d'; cases d'
section
variable {C : Cx} (hC : C.K = KK C.w.params) {k : Nat} {ns : Names} {ρ : PEnv} {β : Bx}
include hC
theorem x_raise {np cpos pos : Pos} {e1 : Expr} {rest : List Expr} (hk : 4 ≤ k) (hl : ns.lookup (Str.ofString "CasFail") = some .globalImplicit)
    (h : WEs C k ns (e1 :: rest) ρ β fun ps _ => ∃ text : Str, ps = [.d (.str "domain"), .d (.str text)] ∧ text.length ≤ 1000)
    {A : Around} {s : Shared} {env : Env} {outer : List Env} {X : Addr → Prop} {bx : Option Addr} {P : Flow → Shared → Prop} {E : Value → Shared → Prop} (R : Room A k) (F : EOk C X bx β ns ρ env s.heap) (fr : FrL C s.heap (env :: outer))
    (hE : ∀ e h' tk, XSt C (env :: outer) e none h' → E (.ref e) { s with heap := h', toks := tk })
    (he : starEach (e1 :: rest) env = (false, eval e1 env) :: starEach rest env) (hplain : (backTo cpos (starEach rest env)).any (·.1) = false) :
    wpAny (model C.prog C.w) A (exec (.Raise (some (.Call (.Name "CasFail" np) (e1 :: rest) [] cpos)) none pos) env) P E s := by
  have hpl : (backTo cpos (starEach (e1 :: rest) env)).any (·.1) = false := by
    rw [he]
    show (false || (backTo cpos (starEach rest env)).any (·.1)) = false
    rw [hplain]; rfl
  have W : wpAny (model C.prog C.w) A (spliced (backTo cpos (starEach (e1 :: rest) env))) (fun vs s₂ => ∃ (text : Str) (k1 k2 : Tok) (h' : Heap) (tk : Nat) (β' : Bx), vs = [.str "domain" k1, .str text k2] ∧ text.length ≤ 1000 ∧ s₂ = { s with heap := h', toks := tk } ∧ Keep bx s.heap h' ∧ BoxIs h' X bx β') E s :=
    h A s env X bx cpos _ E R F fun vs h' tk ps β' q k1 B1 r1 => by
      obtain ⟨text, rfl, hz⟩ := q
      cases r1 with
      | cons ra r1 =>
        cases r1 with
        | cons rb r1 =>
          cases r1
          cases ra; cases rb
          exact ⟨text, _, _, h', tk, β', rfl, hz, rfl, k1, B1⟩
  have V : wpAny (model C.prog C.w) A (evalArgs (.ref 31) true (backTo cpos (starEach (e1 :: rest) env)) []) (fun a s₂ => ∃ (text : Str) (k1 k2 : Tok) (h' : Heap) (tk : Nat) (β' : Bx), a = ⟨[.str "domain" k1, .str text k2], []⟩ ∧ text.length ≤ 1000 ∧ s₂ = { s with heap := h', toks := tk } ∧ Keep bx s.heap h' ∧ BoxIs h' X bx β') E s := by
    rw [he] at W ⊢
    refine evalArgs_plain (wpAny_mono W (fun vs s₂ q => ?_) fun _ _ x => x)
    obtain ⟨text, k1, k2, h', tk, β', rfl, q⟩ := q
    exact ⟨text, k1, k2, h', tk, β', rfl, q⟩
  rw [arm_exec_Raise]
  simp only [arm_evalOpt_some, evalOpt_none, Option.map]
  refine wpAny_bind (wpAny_standAt (raise_made (C := 31) (nm := "CasFail") (q := "CasFail") (N := 30) (bs := [.type "Exception"]) (bm := [.type "Exception", .type "BaseException", .type "object"]) (hdct := true) (sn := []) (sub := []) (ab := false) (col := none) (dd := none) (k0 := some (.ref 15)) (k1 := none) (k2 := some (.str ("CasFail" : Str) 189)) (k3 := some (.str ("CasFail" : Str) 197)) (k5 := some (.bool true)) (newId := "Exception.__new__") (by decide +kernel) R.hh
    (wpAny_bind (wpAny_mono (wpAny_Call_ofName ?_) (fun v s₃ h₃ => wpAny_bind (wpAny_standAt (wpAny_pure h₃))) fun _ _ x => x))))
  refine load_glob F.base F.eok hl (by rw [hC]; kernel_rfl) (by kernel_rfl) (v := .ref 31) ?_
  unfold callWith
  refine wpAny_bind (wpAny_holding (wpAny_mono V (fun a s₂ q => wpAny_bind (wpAny_standAt ?_)) fun _ _ x => x))
  obtain ⟨text, k1, k2, h', tk, β', rfl, hz, rfl, kk, B1⟩ := q
  simp only [hpl]
  have S1 := F.toSOk.step kk B1
  refine wpAny_bind (wpAny_keeperOf_exc (cls31 hC S1.base) ?_)
  refine wpAny_bind (wpAny_call_exc_init PySem.F.excBase_Exception (cls31 hC S1.base) (ns30 hC S1.base) (n30 hC S1.base (by kernel_rfl)) (fn28 hC S1.base) rfl (fun h2 e hm => ?_) (size_ok (n := 2) (by decide)))
  obtain ⟨t, ht, _, _⟩ := hm.there
  have S2 := S1.step (Keep.all hm.keeps) (S1.box.keepAll hm.keeps)
  have h0 : C.h₀.get? e = none := by
    cases q : C.h₀.get? e with
    | none => rfl
    | some o => have := S1.base e o q; rw [hm.new] at this; cases this
  have hbx : bx ≠ some e := fun q => by
    obtain ⟨_, _, ⟨o, eo, _⟩, _⟩ := B1 e q
    rw [hm.new] at eo; cases eo
  refine c_init hC (s := { s with heap := h2, toks := tk }) (under_room (R.to0.le hk)) S2 ht h0 hbx hz ((fr.keepB F.toSOk.box kk).keep hm.keeps) fun h3 tk3 st3 o3 ex3 => ⟨rfl, ?_⟩
  have fr3 : FrL C h3 (env :: outer) := ((fr.keepB F.toSOk.box kk).keep hm.keeps).keepE S2.box ht o3
  refine wpAny_bind (wpAny_holding (wpAny_point (wpAny_pure ?_)))
  have X3 : XSt C (env :: outer) e none h3 := ⟨st3, fr3, ex3⟩
  obtain ⟨oe, vs, D, m, tk', he3, hcls, _, hd, _, _, _, _, tb⟩ := ex3
  exact ⟨e, oe, vs, rfl, cls31 hC st3, he3, hcls, hd, tb, hE e h3 tk3 X3⟩
end
set_option maxHeartbeats 2000000
/-! ## a name of an exception, read -/
section
open Builtin
variable {prog : Program} {w : World} {A : Around} {E : Value → Shared → Prop} {h : Heap} {g : Array GenState} {d : PySem.Drawn} {t : Nat} {os : OsState} {a D : Addr} {o : Obj} {v : Value} {name : Str}
  {nm q : Str} {C N : Addr} {bs bm : List Value} {sn : List Str} {sub : List Value} {ab : Bool} {col : Option Bool} {dd : Option Addr} {k0 k1 k2 k3 k5 : Option Value} {B newId : String} {mN mD : Str → Option Value}
theorem read_check {M : Model} {nameV : Value} {Q : Unit → Shared → Prop} (FB : ExcAttrBase B bm) (hC : h.get? C = some (excClassObj nm q C N bs bm true sn sub ab col dd k0 k1 k2 k3 k5 newId))
    (hx : h.get? a = some o) (hc : o.cls = .ref C) (hq : Q () ⟨h, g, d, t, os⟩) : wpAny M A (checkBuiltinCall "BaseException.__getattribute__" ⟨[.ref a, nameV], []⟩) Q E ⟨h, g, d, t, os⟩ := by
  have hk : builtinKind "BaseException.__getattribute__" = some .slot := by decide +kernel
  have hsplit : splitId "BaseException.__getattribute__" = some ("BaseException", "__getattribute__") := by decide +kernel
  have hcB : (Value.ref C :: bm).contains (.type "BaseException") = true := by rw [List.contains_cons, FB.hasBase, Bool.or_true]
  have ha := PySem.F.args_bexc_ga (.ref a) nameV
  simp only [checkBuiltinCall, hk, hsplit]
  refine wpAny_bind ?_
  · unfold isInstance
    repeat (first | (with_reducible refine wpAny_loadPart_at hx ?_; rw [hc]) | (with_reducible refine wpAny_isSubtype_exc hC ?_; rw [hcB]) | wp_step)
    exact hq
theorem read_entry {tk : Tok} {Q : Fin → Shared → Prop} (FB : ExcAttrBase B bm) (hC : h.get? C = some (excClassObj nm q C N bs bm true sn sub ab col dd k0 k1 k2 k3 k5 newId)) (hN : h.Ns N mN) (hna : mN name = none) (hB : typeLookup (.type B) name = pure none)
    (hx : h.get? a = some o) (hc : o.cls = .ref C) {vs : Array Value} (hdd : o.data = .fields vs) (hd : o.dict = some D) (hD : h.Ns D mD) (hv : mD name = some v) (hq : Q (.done (.ret v)) ⟨h, g, d, t, os⟩) :
    wpAny (model prog w) A (Builtin.«object.__getattribute__» ⟨[.ref a, .str name tk], []⟩) Q E ⟨h, g, d, t, os⟩ := by
  unfold Builtin.«object.__getattribute__»
  repeat (any_goals (first | assumption | (with_reducible refine wpAny_loadPart_at hx ?_; rw [hc]) | (with_reducible refine wpAny_typeLookup_exc hC hN FB.mro hB ?_; rw [hna]) | wp_step))
  rw [hdd]
  dsimp only
  unfold instanceDict
  repeat (first | (with_reducible refine wpAny_loadPart_at hx ?_; rw [hc]) | with_reducible refine wpAny_loadPart_at hC ?_ | wp_step)
  rw [hd]
  repeat (first | (with_reducible refine wpAny_nsGet hD ?_; rw [hv]) | wp_step)
  exact hq
theorem read_call {tk : Tok} {R : Result → Shared → Prop} (FB : ExcAttrBase B bm) (hC : h.get? C = some (excClassObj nm q C N bs bm true sn sub ab col dd k0 k1 k2 k3 k5 newId)) (hN : h.Ns N mN) (hna : mN name = none) (hB : typeLookup (.type B) name = pure none)
    (hx : h.get? a = some o) (hc : o.cls = .ref C) {vs : Array Value} (hdd : o.data = .fields vs) (hd : o.dict = some D) (hD : h.Ns D mD) (hv : mD name = some v) (hq : R (.ok (.ret v)) ⟨h, g, d, t, os⟩) :
    codeAny (model prog w) A (.call (.builtin "BaseException.__getattribute__") ⟨[.ref a, .str name tk], []⟩) R ⟨h, g, d, t, os⟩ :=
  codeAny_call_builtin FB.ga.plain PySem.F.entry_bexc_ga (read_check FB hC hx hc (read_entry FB hC hN hna hB hx hc hdd hd hD hv hq))
theorem read_by {tk : Tok} {fill expr : Bool} {Q : Value → Shared → Prop} (FB : ExcAttrBase B bm) (hC : h.get? C = some (excClassObj nm q C N bs bm true sn sub ab col dd k0 k1 k2 k3 k5 newId)) (hN : h.Ns N mN) (hna : mN name = none) (hn1 : mN "__getattribute__" = none) (hn2 : mN "__getattr__" = none) (hB : typeLookup (.type B) name = pure none)
    (hx : h.get? a = some o) (hc : o.cls = .ref C) {vs : Array Value} (hdd : o.data = .fields vs) (hd : o.dict = some D) (hD : h.Ns D mD) (hv : mD name = some v) (hh : handedOut v = pure v) (hq : Q v ⟨h, g, d, t, os⟩) :
    wpAny (model prog w) A (getAttrBy (.ref a) (.str name tk) fill expr) Q E ⟨h, g, d, t, os⟩ := by
  have f3 := FB.ga.bind (.ref a)
  have hx0 : (expr && onTheHeap (Value.builtin "BaseException.__getattribute__")) = false := by cases expr <;> rfl
  have hx2 : (Value.builtin "BaseException.__getattribute__" == Value.builtin "object.__getattribute__") = false := by decide +kernel
  have hx1 : (onTheHeap (Value.ref C) && Value.builtin "BaseException.__getattribute__" == Value.builtin "object.__getattribute__") = false := by rw [hx2]; rfl
  repeat (any_goals (first | assumption | (with_reducible refine wpAny_loadPart_at hx ?_; rw [hc]) | (with_reducible refine wpAny_typeLookup_exc hC hN FB.mro FB.ga.lookup ?_; rw [hn1]) | (with_reducible refine wpAny_typeLookup_exc hC hN FB.mro FB.noGetattr ?_; rw [hn2]) | wp_step))
  refine read_call FB hC hN hna hB hx hc hdd hd hD hv ?_
  repeat (any_goals (first | assumption | (rw [hh]) | wp_step))
theorem read_attr {expr : Bool} {Q : Value → Shared → Prop} (FB : ExcAttrBase B bm) (hC : h.get? C = some (excClassObj nm q C N bs bm true sn sub ab col dd k0 k1 k2 k3 k5 newId)) (hN : h.Ns N mN) (hna : mN name = none) (hn1 : mN "__getattribute__" = none) (hn2 : mN "__getattr__" = none) (hB : typeLookup (.type B) name = pure none)
    (hx : h.get? a = some o) (hc : o.cls = .ref C) {vs : Array Value} (hdd : o.data = .fields vs) (hd : o.dict = some D) (hD : h.Ns D mD) (hv : mD name = some v) (hh : handedOut v = pure v) (hq : Q v ⟨h, g, d, t + 1, os⟩) :
    wpAny (model prog w) A (getAttr (.ref a) name expr) Q E ⟨h, g, d, t, os⟩ := by
  unfold getAttr
  repeat (any_goals (first | assumption | with_reducible apply read_by FB hC hN hna hn1 hn2 hB hx hc hdd hd hD hv hh | wp_step))
end
set_option maxHeartbeats 20000000
/-! ## what raises: judgements -/
noncomputable def Ap (env : Env) (ow : Own) (l : List Env) : Prop := ∀ x ∈ l, ¬ Priv env ow x.locals
noncomputable def XFl (env : Env) (fl : Option Value) : Prop := fl = none ∨ fl = some .none ∨ fl = some (rawInt env.locals)
noncomputable def XOut (C : Cx) (env : Env) (l : List Env) (s : Shared) (E : Value → Shared → Prop) : Prop := ∀ e fl h' tk, XFl env fl → XSt C (env :: l) e fl h' → E (.ref e) { s with heap := h', toks := tk }
noncomputable def CallX (C : Cx) (k : Nat) (f : Addr) (ps : List PV) (β : Bx) : Prop :=
  ∀ (A : Around) (s : Shared) (X : Addr → Prop) (bx : Option Addr) (vs : List Value) (l : List Env) (P E : Value → Shared → Prop), Room A k → A.frames = some l → FrL C s.heap l → SOk C X bx β s.heap → PReps s.heap X bx vs ps →
    (∀ e h' tk, XSt C l e (some .none) h' → E (.ref e) { s with heap := h', toks := tk }) → wpAny (model C.prog C.w) A (call (.ref f) vs) P E s
noncomputable def WSX (C : Cx) (k : Nat) (sc : Scope) (body : List Stmt) (ρ : PEnv) (β : Bx) : Prop :=
  ∀ (A : Around) (s : Shared) (env : Env) (X : Addr → Prop) (bx : Option Addr) (ow : Own) (l : List Env) (P : Flow → Shared → Prop) (E : Value → Shared → Prop), Room A k → A.frames = some (env :: l) → FrL C s.heap (env :: l) → Ap env ow l → FOk C X bx β sc ρ env ow s.heap →
    XOut C env l s E → wpAny (model C.prog C.w) A (execs body env) P E s
noncomputable def WXX (C : Cx) (k : Nat) (sc : Scope) (st : Stmt) (ρ : PEnv) (β : Bx) : Prop :=
  ∀ (A : Around) (s : Shared) (env : Env) (X : Addr → Prop) (bx : Option Addr) (ow : Own) (l : List Env) (P : Flow → Shared → Prop) (E : Value → Shared → Prop), Room A k → A.frames = some (env :: l) → FrL C s.heap (env :: l) → Ap env ow l → FOk C X bx β sc ρ env ow s.heap →
    XOut C env l s E → wpAny (model C.prog C.w) A (exec st env) P E s
noncomputable def WEX (C : Cx) (k : Nat) (ns : Names) (e : Expr) (ρ : PEnv) (β : Bx) : Prop :=
  ∀ (A : Around) (s : Shared) (env : Env) (X : Addr → Prop) (bx : Option Addr) (l : List Env) (P E : Value → Shared → Prop), Room A k → A.frames = some (env :: l) → FrL C s.heap (env :: l) → EOk C X bx β ns ρ env s.heap →
    XOut C env l s E → wpAny (model C.prog C.w) A (eval e env) P E s

theorem FOk.frame {C : Cx} {X : Addr → Prop} {bx : Option Addr} {β : Bx} {sc : Scope} {ρ : PEnv} {env : Env} {ow : Own} {h : Heap} (F : FOk C X bx β sc ρ env ow h) (hf : env.frame = some env.locals) : env.scope.kind ≠ .module ∧ env.frame = some env.locals ∧ C.h₀.get? env.locals = none ∧ ∃ m, h.Ns env.locals m :=
  ⟨(by rw [F.eok.kind]; decide), hf, F.lnew, F.loc⟩
theorem FrL.cons {C : Cx} {h : Heap} {env : Env} {l : List Env} (a : env.scope.kind ≠ .module ∧ env.frame = some env.locals ∧ C.h₀.get? env.locals = none ∧ ∃ m, h.Ns env.locals m) (r : FrL C h l) : FrL C h (env :: l) := fun x hx => by
  rcases List.mem_cons.mp hx with rfl | hx
  · exact a
  · exact r x hx
/-- after a statement that went on -/
theorem FrL.next {C : Cx} {X : Addr → Prop} {bx : Option Addr} {β β' : Bx} {sc : Scope} {ρ ρ' : PEnv} {env : Env} {ow ow' : Own} {h h' : Heap} {l : List Env} (fr : FrL C h (env :: l)) (ap : Ap env ow l) (F : FOk C X bx β sc ρ env ow h) (F' : FOk C X bx β' sc ρ' env ow' h') (k : KeepF bx env ow h h') : FrL C h' (env :: l) :=
  FrL.cons (F'.frame (fr env (.head _)).2.1) fun x hx => by
    obtain ⟨h1, h2, h3, m, hn⟩ := fr x (.tail _ hx)
    refine ⟨h1, h2, h3, m, hn.at' fun o eo => k _ o (fun q => ?_) (ap x hx) eo⟩
    obtain ⟨_, vs, ⟨o', e', _, n, d'⟩, _⟩ := F.s.box _ q
    obtain ⟨o2, es, ep, ho, hd, _⟩ := hn
    rw [ho] at e'; cases e'; rw [hd] at d'; cases d'
theorem Ap.next {C : Cx} {env : Env} {ow ow' : Own} {h : Heap} {l : List Env} (fr : FrL C h (env :: l)) (ap : Ap env ow l) (x : OwExt h ow ow') : Ap env ow' l := fun y hy p => by
  rcases p with p | p | p
  · exact ap y hy (.inl p)
  · exact ap y hy (.inr (.inl p))
  · rcases x _ p with q | q
    · exact ap y hy (.inr (.inr q))
    · obtain ⟨_, _, _, m, o, es, ep, ho, _⟩ := fr y (.tail _ hy)
      rw [q] at ho; cases ho

section
variable {C : Cx} {k : Nat} {sc : Scope} {ρ : PEnv} {β : Bx}
theorem sx_cons {st : Stmt} {rest : List Stmt} (h : WX C k sc st ρ β (fun ρ' β' => WSX C k sc rest ρ' β') fun _ _ => False) : WSX C k sc (st :: rest) ρ β :=
  fun A s env X bx ow l P E R hfr fr ap F o => by
    refine wpAny_execs_cons (h A s env X bx ow _ E R F (fun h' tk ρ' β' ow' n F' k1 x1 => ?_) fun _ _ _ _ _ f => f.elim)
    exact n A { s with heap := h', toks := tk } env X bx ow' l P E R hfr (fr.next ap F F' k1) (ap.next fr x1) F' o
theorem sx_here {st : Stmt} {rest : List Stmt} (h : WXX C k sc st ρ β) : WSX C k sc (st :: rest) ρ β :=
  fun A s env X bx ow l P E R hfr fr ap F o => wpAny_execs_cons (h A s env X bx ow l _ E R hfr fr ap F o)
theorem xx_if {test : Expr} {body orelse : List Stmt} {pos : Pos} (h : WT C k sc.names test ρ β fun b β' => if b = true then WSX C k sc body ρ β' else WSX C k sc orelse ρ β') : WXX C k sc (.If test body orelse pos) ρ β :=
  fun A s env X bx ow l P E R hfr fr ap F o => by
    refine wpAny_If (h A s env _ bx _ _ E R F.e fun b h' tk β' q k1 B1 => ?_)
    have go : ∀ bd, WSX C k sc bd ρ β' → wpAny (model C.prog C.w) A (execs bd env) P E { s with heap := h', toks := tk } := fun bd q =>
      q A { s with heap := h', toks := tk } env X bx ow l P E R hfr (fr.keepB F.s.box k1) ap (F.step k1 B1) o
    cases b with
    | true => exact go body q
    | false => exact go orelse q
theorem xx_assign {x : Str} {px pos : Pos} {e : Expr} (h : WEX C k sc.names e ρ β) (hs : ∀ env, env.scope = sc → swapsWith e (some (.Name x px)) pos.line env = pure false) : WXX C k sc (.Assign [.Name x px] e pos) ρ β :=
  fun A s env X bx ow l P E R hfr fr ap F o => PySem.wpAny_Assign_Name (h A s env _ bx l _ E R hfr fr F.e o) (hs env F.scope)
theorem xx_expr {e : Expr} {pos : Pos} (h : WEX C k sc.names e ρ β) (hi : ∀ env : Env, env.scope = sc → interactive env = false)
    (hs : ∀ env, swapsWith e none pos.line env = pure false) : WXX C k sc (.Expr e pos) ρ β :=
  fun A s env X bx ow l P E R hfr fr ap F o => wpAny_Expr_any (h A s env _ bx l _ E R hfr fr F.e o) (hi env F.scope) (hs env)
theorem xx_raise (hC : C.K = KK C.w.params) {np cpos pos : Pos} {e1 : Expr} {rest : List Expr} (hk : 4 ≤ k) (hl : sc.names.lookup (Str.ofString "CasFail") = some .globalImplicit)
    (h : WEs C k sc.names (e1 :: rest) ρ β fun ps _ => ∃ text : Str, ps = [.d (.str "domain"), .d (.str text)] ∧ text.length ≤ 1000)
    (he : ∀ env, starEach (e1 :: rest) env = (false, eval e1 env) :: starEach rest env) (hplain : ∀ env, (backTo cpos (starEach rest env)).any (·.1) = false) : WXX C k sc (.Raise (some (.Call (.Name "CasFail" np) (e1 :: rest) [] cpos)) none pos) ρ β :=
  fun A s env X bx ow l P E R hfr fr ap F o => x_raise hC hk hl h R F.e fr (fun e h' tk S => o e none h' tk (.inl rfl) S) (he env) (hplain env)
end
section
variable {C : Cx} {k : Nat} {ns : Names} {ρ : PEnv} {β : Bx}
theorem ex_call {x : Str} {np pos : Pos} {e : Expr} {es : List Expr} {f : Addr} (hl : ns.lookup x = some .globalImplicit) (hg : nsIn C.K mainGlobals x = some (some (.ref f))) (hf : isFun C.K f = true)
    (h : WEs C k ns (e :: es) ρ β fun ps β₁ => CallX C k f ps β₁) (ok : okName x = true)
    (he : ∀ env, starEach (e :: es) env = (false, eval e env) :: starEach es env) : WEX C k ns (.Call (.Name x np) (e :: es) [] pos) ρ β :=
  fun A s env X bx l P E R hfr fr S o => by
    refine Call_ (load_glob S.base S.eok hl hg ok ?_)
    have hfo : ∃ o fd, C.K.lookup f = some o ∧ o.data = .func fd := by
      unfold isFun at hf
      split at hf
      · rename_i c d fd sl q; exact ⟨_, fd, q, rfl⟩
      · cases hf
    obtain ⟨ob, fd, ho, hd⟩ := hfo
    refine callWith_def hd (h A s env X bx pos _ E R S fun vs h' tk ps β₁ q k1 B1 r1 => ⟨(S.step k1 B1).base f ob (C.okK f ob ho), ?_⟩) (he env)
    exact q A { s with heap := h', toks := tk } X bx vs (env :: l) P E R hfr (fr.keepB S.toSOk.box k1) (S.toSOk.step k1 B1) r1 fun e h2 tk2 S2 => o e _ h2 tk2 (.inr (.inl rfl)) S2
/-- the first of the arguments raises -/
theorem ex_arg {x : Str} {np pos : Pos} {e : Expr} {es : List Expr} {f : Addr} (hl : ns.lookup x = some .globalImplicit) (hg : nsIn C.K mainGlobals x = some (some (.ref f))) (hf : isFun C.K f = true) (h : WEX C k ns e ρ β) (ok : okName x = true)
    (he : ∀ env, starEach (e :: es) env = (false, eval e env) :: starEach es env) : WEX C k ns (.Call (.Name x np) (e :: es) [] pos) ρ β :=
  fun A s env X bx l P E R hfr fr S o => by
    refine Call_ (load_glob S.base S.eok hl hg ok ?_)
    have hfo : ∃ o fd, C.K.lookup f = some o ∧ o.data = .func fd := by
      unfold isFun at hf
      split at hf
      · rename_i c d fd sl q; exact ⟨_, fd, q, rfl⟩
      · cases hf
    obtain ⟨ob, fd, ho, hd⟩ := hfo
    exact callWith_def hd (spliced_more (h A s env X bx l _ E R hfr fr S o) (he env)) (he env)
theorem enterX {f : Addr} {fd : FuncData} {body : List Stmt} {xs : List Str} {ps : List PV} (ok : fnOk C.K f fd body xs) (hz : xs.length = ps.length) (hno : ps.all notOwn = true) (h : WSX C k fd.scope body (xs.zip ps) β) : CallX C (k + 1) f ps β :=
  fun A s X bx vs l P E R hfr fr S r c => by
    refine call_low ok (hz.trans r.length.symm) R.to0 S (ρ := xs.zip ps) (fun x p hl => ?_) fun env h₁ tk R1 hf hd F vis kp np => ?_
    · obtain ⟨v, hv, rp⟩ := lookup_zip_reps r hz hl
      refine ⟨fun ys q => ?_, v, hv, rp⟩
      have := all_lookup hno hl
      rw [q] at this; cases this
    · have fl : (A.deeper env).frames = some (env :: l) := Around.frames_deeper hfr
      have fr' : FrL C h₁ (env :: l) := FrL.cons (F.frame hf) (fr.keep kp)
      refine h (A.deeper env) { s with heap := h₁, toks := tk } env X bx [] l _ _ R1 fl fr' (fun x hx => ?_) F fun e f h' tk' xf S' => ?_
      · obtain ⟨_, _, _, m, o, _, _, ho, _⟩ := fr x hx
        exact np _ o ho
      · exact x_leaving fl S' xf fun h2 S2 => c e h2 tk' S2
theorem CallX.le {j : Nat} {f : Addr} {ps : List PV} (h : CallX C j f ps β) (m : j ≤ k) : CallX C k f ps β := fun A s X bx vs l P E R => h A s X bx vs l P E (R.le m)
end
/-! ## loops that raise -/
theorem noted_came {C : Cx} {A : Around} {env : Env} {l : List Env} {s : Shared} {E : Value → Shared → Prop} (hf : env.frame = some env.locals) (hfr : A.frames = some (env :: l)) (o : XOut C env l s E) : XOut C env l s (notedBy (model C.prog C.w) A env fun e s' => cameBackBy (model C.prog C.w) A env E e s') := fun e fl h' tk xf S => by
  have go : ∀ h2, XSt C (env :: l) e (some (rawInt env.locals)) h2 → cameBackBy (model C.prog C.w) A env E (.ref e) { s with heap := h2, toks := tk } := fun h2 S2 =>
    x_came (s := { s with heap := h2, toks := tk }) hf S2 fun h3 S3 => o e _ h3 tk (.inr (.inr rfl)) S3
  unfold notedBy
  rcases xf with q | q | q
  · exact x_note (s := { s with heap := h', toks := tk }) hfr S (.inl q) fun h2 S2 => go h2 S2
  · exact x_note (s := { s with heap := h', toks := tk }) hfr S (.inr q) fun h2 S2 => go h2 S2
  · subst q
    exact x_again (s := { s with heap := h', toks := tk }) hf S (go h' S)
theorem XOut.at {C : Cx} {env : Env} {l : List Env} {s : Shared} {E : Value → Shared → Prop} (o : XOut C env l s E) (h : Heap) (tk : Nat) : XOut C env l { s with heap := h, toks := tk } E := o
section
variable {C : Cx} {k : Nat} {sc : Scope} {ρ : PEnv} {β : Bx}
theorem xx_while1 {test : Expr} {body : List Stmt} {pos : Pos} (h : WT C k sc.names test ρ β fun b β' => b = true ∧ WSX C k sc body ρ β') : WXX C k sc (.While test body [] pos) ρ β :=
  fun A s env X bx ow l P E R hfr fr ap F o => by
    refine wpAny_While (codeAny_whileLoop (fun n s' => s' = s) ?_ 0 rfl)
    rintro n s' rfl
    refine h A _ env _ bx _ _ _ R F.e fun b h' tk β' q k1 B1 => ?_
    obtain ⟨rfl, q⟩ := q
    simp only [if_true]
    exact q A { s' with heap := h', toks := tk } env X bx ow l _ _ R hfr (fr.keepB F.s.box k1) ap (F.step k1 B1) (noted_came (fr env (.head _)).2.1 hfr o)
noncomputable def ForX (step : PyData → PEnv → Bx → (PEnv → Bx → Prop) → Prop) (stepX : PyData → PEnv → Bx → Prop) : List PyData → PEnv → Bx → Prop
  | [], _, _ => False
  | d :: ds, ρ, β => stepX d ρ β ∨ step d ρ β fun ρ' β' => ForX step stepX ds ρ' β'
theorem xx_for {x : Str} {px pos : Pos} {iter : Expr} {body : List Stmt} (h : WI C k sc.names (.Name x px) iter ρ β fun ds β₁ => ForX (fun d ρ' β' N' => WS C k sc body ((x, .d d) :: ρ') β' N' fun _ _ => False) (fun d ρ' β' => WSX C k sc body ((x, .d d) :: ρ') β') ds ρ β₁)
    (hx : isVar sc x = true) (hs : ∀ env x, foldedSetIterable iter env x = pure x) : WXX C k sc (.For (.Name x px) iter body [] pos) ρ β :=
  fun A s env X bx ow l P E R hfr fr ap F xo => by
    refine wpAny_For (h A s env (XO X ow) bx _ E R F.e fun it h' tk ds β₁ q k1 B1 I1 => ?_) (hs env)
    refine ex7 I1 fun I fp wr Pr Md St hm I2 => an10 I2 fun eI Tn st0 Sm km kmh wrm fpl fpx itm => ?_
    clear I1 I2
    subst eI
    let XX : Addr → Prop := fun a => X a ∨ a ∈ wr
    have hXX : ∀ a, XX a ↔ X a ∨ a ∈ wr := fun _ => Iff.rfl
    have F1 := F.step k1 B1
    have cellfp : ∀ b ∈ fp, b ≠ env.locals ∧ b ∉ env.cells.map (·.2) := fun b hb => by
      obtain ⟨o, e, nf⟩ := fpl b hb
      exact F1.frameNot e nf
    have owfp : ∀ b ∈ fp, b ∉ ow.map (·.2) := fun b hb q => fpx b hb (.inr q)
    have bxfp : ∀ b ∈ fp, bx ≠ some b := fun b hb q => fpx b hb (.inl (F.bxx b q))
    have wrfp : ∀ b ∈ wr, b ∈ fp := fun b hb => Tn.sub b hb
    have y0 : ∀ a, XX a → C.h₀.get? a = none := fun a q => by
      rcases q with q | q
      · exact F.s.xnew a (.inl q)
      · cases e : C.h₀.get? a with
        | none => rfl
        | some o => have := Sm.base a o e; rw [wrm a q] at this; cases this
    have nwr : ∀ b o, hm.get? b = some o → b ∉ wr := fun b o e q => by rw [wrm b q] at e; cases e
    have nwr0 : ∀ b o, bx ≠ some b → s.heap.get? b = some o → b ∉ wr := fun b o nb e => nwr b o (km b o nb e)
    have xbx : ∀ b, ¬ XO X ow b → bx ≠ some b := fun b n q => n (.inl (F.bxx b q))
    have FX : FOk C XX bx β₁ sc ρ env ow h' := by
      refine F.gen F1.s.base y0 (fun a q => ?_) (fun a q => ?_) (fun b o p e => k1 b o (F.bxNot p) e) (fun b o n e => ⟨k1 b o (xbx b n) e, fun q => ?_⟩) (fun a m q => ?_) (fun a q => .inl (F.bxx a q))
      · rcases q with q | q
        · exact F1.s.xlive a (.inl q)
        · obtain ⟨o, e, _⟩ := fpl a (wrfp a q)
          exact ⟨o, e⟩
      · obtain ⟨_, vs, hl, rr⟩ := Sm.box a q
        refine ⟨.inl (.inl (F.bxx a q)), vs, IsList.keepAt hl fun o e => kmh a o e, rr.move fun b o n e => ⟨kmh b o e, fun q => ?_⟩⟩
        rcases q with (q | q) | q
        · exact n (.inl q)
        · exact nwr b o e q
        · exact n (.inr q)
      · rcases q with (q | q) | q
        · exact n (.inl q)
        · exact nwr0 b o (xbx b n) e q
        · exact n (.inr q)
      · rcases q with q | q
        · exact F.onx a m q
        · exact owfp a (wrfp a q) m
    have fr0 : FrL C h' (env :: l) := fr.keepB F.s.box k1
    have lwr : ∀ y ∈ env :: l, y.locals ∉ wr := fun y hy q => by
      obtain ⟨_, _, _, m, hn⟩ := fr0 y hy
      obtain ⟨o, e, nf⟩ := fpl _ (wrfp _ q)
      rw [notSeq_ns hn e] at nf; cases nf
    refine codeAny_forLoop (fun j s' => ∃ H tk' i ρ' β' ow', s' = { s with heap := H, toks := tk' } ∧ j = ds.length + 1 - i ∧ i ≤ ds.length ∧ St i H ∧ FOk C XX bx β' sc ρ' env ow' H ∧
        (∀ b o, bx ≠ some b → ¬ Priv env ow b → b ∉ wr → h'.get? b = some o → H.get? b = some o) ∧ OwExt h' ow ow' ∧ FrL C H (env :: l) ∧ Ap env ow' l ∧ ForX (fun d ρ' β' N' => WS C k sc body ((x, .d d) :: ρ') β' N' fun _ _ => False) (fun d ρ' β' => WSX C k sc body ((x, .d d) :: ρ') β') (ds.drop i) ρ' β') ?_ (ds.length + 1)
      ⟨h', tk, 0, ρ, β₁, ow, rfl, rfl, Nat.zero_le _, st0, FX, fun _ _ _ _ _ e => e, OwExt.refl, fr0, ap, q⟩
    intro j s' hJ
    refine ex6 hJ fun H tk' i ρ' β' ow' hJ2 => an10 hJ2 fun es ej hi hst FH kH xH frH apH hr => ?_
    clear hJ hJ2
    subst es ej
    have owfp' : ∀ b ∈ fp, b ∉ ow'.map (·.2) := fun b hb q => by
      rcases xH b q with q | q
      · exact owfp b hb q
      · obtain ⟨o, e, _⟩ := fpl b hb
        rw [q] at e; cases e
    have privwr : ∀ b, Priv env ow' b → b ∉ wr := fun b p q => by
      rcases p with p | p | p
      · exact (cellfp b (wrfp b q)).1 p
      · exact (cellfp b (wrfp b q)).2 p
      · exact owfp' b (wrfp b q) p
    have step : ∀ (Y : Addr → Prop) (h₃ : Heap), (∀ a, X a → Y a) → (∀ a, Y a → XX a) → (∀ a ∈ wr, Y a → ∃ o, h₃.get? a = some o) → (∀ b o, b ∉ wr → H.get? b = some o → h₃.get? b = some o) → FOk C Y bx β' sc ρ' env ow' h₃ := fun Y h₃ xy yx live H3 => by
      refine FH.gen (fun b o e => ?_) (fun a q => y0 a (yx a q)) (fun a q => ?_) (fun a q => ?_) (fun b o p e => H3 b o (privwr b p) e) (fun b o n e => ⟨H3 b o (fun q => n (.inl (.inr q))) e, fun q => n (q.imp (yx b) id)⟩) (fun a m q => FH.onx a m (yx a q)) (fun a q => xy a (F.bxx a q))
      · refine H3 b o (fun q => ?_) (FH.s.base b o e)
        rw [y0 b (.inr q)] at e; cases e
      · by_cases w : a ∈ wr
        · exact live a w q
        · obtain ⟨o, e⟩ := FH.s.xlive a (.inl (yx a q))
          exact ⟨o, H3 a o w e⟩
      · obtain ⟨_, vs, hl, rr⟩ := FH.s.box a q
        refine ⟨.inl (xy a (F.bxx a q)), vs, IsList.keepAt hl fun o e => H3 a o (fun w => bxfp a (wrfp a w) q) e, rr.move fun b o n e => ⟨H3 b o (fun q => n (.inl (.inr q))) e, fun q => n (q.imp (yx b) id)⟩⟩
    by_cases hlt : i < ds.length
    · obtain ⟨d, hd⟩ : ∃ d, ds[i]? = some d := ⟨_, List.getElem?_eq_getElem hlt⟩
      have hdrop : ds.drop i = d :: ds.drop (i + 1) := by
        rw [List.drop_eq_getElem_cons hlt]
        congr 1
        rw [List.getElem?_eq_getElem hlt] at hd
        exact Option.some.inj hd
      rw [hdrop] at hr
      refine Tn.item i _ _ _ hlt hst fun v h₂ tk₂ hMd hk₂ => ?_
      show wpAny _ _ (assign (.Name x px) env v) _ _ _
      rw [show assign (.Name x px) env v = (letOwnedTupleGo (.Name x px) (.ref I) v >>= fun _ => assign (.Name x px) env v) from rfl]
      refine wpAny_bind (Tn.go i v _ _ _ hMd fun h₃ hP hst₃ hk₃ => ?_)
      have H3 : ∀ b o, b ∉ wr → H.get? b = some o → h₃.get? b = some o := fun b o nw e => hk₃ b o nw (hk₂ b o nw e)
      have F3 := step XX h₃ (fun a q => .inl q) (fun a q => q) (fun a hw _ => Tn.live _ _ hst₃ a hw) H3
      have hIt : Rep h₃ (fun a => XO XX ow' a ∨ a ∈ ow.map (·.2)) v d := itm _ h₃ (fun a q => by
          rcases q with ((q | q) | q) | q
          · exact .inl (.inl q)
          · exact .inr (wrm a q)
          · rcases xH a q with q | q
            · exact .inl (.inr q)
            · refine .inr ?_
              cases e : hm.get? a with
              | none => rfl
              | some o => rw [kmh a o e] at q; cases q
          · exact .inl (.inr q)) (fun b o n e nf => by
          have e1 := kmh b o e
          have nw : b ∉ wr := nwr b o e
          obtain ⟨n1, n2⟩ := F1.frameNot e1 nf
          refine H3 b o nw (kH b o (fun q => n (.inl (.inl (.inl (F.bxx b q))))) (fun p => ?_) nw e1)
          rcases p with p | p | p
          · exact n1 p
          · exact n2 p
          · exact n (.inr p)) i v d hP hd
      have hIt' : Rep h₃ (XO XX ow') v d := hIt.move fun b o n e => ⟨e, fun q => n (.inl q)⟩
      refine wpAny_assign_Name (store_core F3 hx fun h₄ tk₄ S4 => ?_)
      have F4 := F3.bind S4 (.inl ⟨d, rfl, hIt'⟩)
      have npr : ∀ b o, h'.get? b = some o → ¬ Priv env ow b → ¬ Priv env ow' b := fun b o e n p => by
        rcases p with p | p | p
        · exact n (.inl p)
        · exact n (.inr (.inl p))
        · rcases xH b p with q | q
          · exact n (.inr (.inr q))
          · rw [e] at q; cases q
      have k4 : ∀ b o, bx ≠ some b → ¬ Priv env ow b → b ∉ wr → h'.get? b = some o → h₄.get? b = some o := fun b o nb np nw e =>
        S4.keep b o (fun q => np (.inl q)) (fun q => np (.inr (.inl q))) (H3 b o nw (kH b o nb np nw e))
      have keep5 : ∀ h₅, KeepF bx env ow' h₄ h₅ → ∀ b o, bx ≠ some b → ¬ Priv env ow b → b ∉ wr → h'.get? b = some o → h₅.get? b = some o := fun h₅ k5 b o nb np nw e =>
        k5 b o nb (npr b o e np) (k4 b o nb np nw e)
      have fr3 : FrL C h₃ (env :: l) := fun y hy => let ⟨h1, h2, h3, m, hn⟩ := frH y hy; ⟨h1, h2, h3, m, hn.at' fun o e => H3 _ o (lwr y hy) e⟩
      have fr4 : FrL C h₄ (env :: l) := FrL.cons (F4.frame (fr env (.head _)).2.1) fun y hy => let ⟨h1, h2, h3, m, hn⟩ := fr3 y (.tail _ hy); ⟨h1, h2, h3, m, hn.at' fun o e => S4.keep _ o (fun q => ap y hy (.inl q)) (fun q => ap y hy (.inr (.inl q))) e⟩
      rcases hr with hr | hr
      · exact hr A { s with heap := h₄, toks := tk₄ } env XX bx ow' l _ _ R hfr fr4 apH F4 (noted_came (fr env (.head _)).2.1 hfr xo)
      refine hr A { s with heap := h₄, toks := tk₄ } env XX bx ow' _ _ R F4 (fun h₅ tk₅ ρ₅ β₅ ow₅ n5 F5 k5 x5 => ?_) (fun _ _ _ _ _ f => f.elim)
      · refine ⟨ds.length + 1 - (i + 1), by omega, h₅, tk₅, i + 1, ρ₅, β₅, ow₅, rfl, rfl, hlt, ?_, F5, keep5 h₅ k5, fun a m => ?_, fr4.next apH F4 F5 k5, apH.next fr4 x5, n5⟩
        · refine Tn.frame (i + 1) h₃ h₅ hst₃ fun b hb o e => k5 b o (bxfp b hb) (fun p => ?_) (S4.keep b o (cellfp b hb).1 (cellfp b hb).2 e)
          rcases p with p | p | p
          · exact (cellfp b hb).1 p
          · exact (cellfp b hb).2 p
          · exact owfp' b hb p
        · rcases x5 a m with m | m
          · exact xH a m
          · by_cases w1 : a ∈ ow.map (·.2)
            · exact .inl w1
            · refine .inr ?_
              cases e : h'.get? a with
              | none => rfl
              | some o =>
                exfalso
                have dead : ∀ {P : Prop}, (∃ o, h₄.get? a = some o) → P := fun ⟨o, e⟩ => by rw [m] at e; cases e
                by_cases w2 : a ∈ wr
                · obtain ⟨o, e⟩ := Tn.live _ _ hst₃ a w2
                  exact dead ⟨o, S4.keep a o (cellfp a (wrfp a w2)).1 (cellfp a (wrfp a w2)).2 e⟩
                · by_cases nb : bx = some a
                  · exact dead (F4.privLive (.inl nb))
                  · by_cases p : Priv env ow a
                    · rcases p with p | p | p
                      · exact dead (F4.privLive (.inr (.inl p)))
                      · exact dead (F4.privLive (.inr (.inr (.inl p))))
                      · exact w1 p
                    · exact dead ⟨o, k4 a o nb p w2 e⟩
    · have hin : i = ds.length := Nat.le_antisymm hi (Nat.not_lt.mp hlt)
      subst hin
      rw [List.drop_length] at hr
      exact hr.elim
end
set_option maxHeartbeats 2000000
/-! ## caught -/
theorem XSt.but {C : Cx} {env : Env} {l : List Env} {e : Addr} {fl : Option Value} {h h' : Heap} {m : Str → Option Value} (S : XSt C (env :: l) e fl h) (hs : Heap.SameBut env.locals h h') (hn : h'.Ns env.locals m) (la : ∀ x ∈ l, x.locals ≠ env.locals) : XSt C (env :: l) e fl h' := by
  obtain ⟨b, F, oe, vs, D, m1, tk, he, hcls, hdict, hd, hen, hDe, hnD, hm, tb⟩ := S
  obtain ⟨f1, f2, f3, m0, o0, es0, ep0, ho0, hd0, _⟩ := F env (.head _)
  have g : ∀ c o, c ≠ env.locals → h.get? c = some o → h'.get? c = some o := fun c o ne q => (hs.2 c ne).trans q
  have ene : e ≠ env.locals := fun q => by rw [q, ho0] at he; cases he; rw [hd0] at hd; cases hd
  refine ⟨fun c o q => g c o (fun q2 => by rw [q2, f3] at q; cases q) (b c o q), FrL.cons ⟨f1, f2, f3, m, hn⟩ fun x hx => ?_, oe, vs, D, m1, tk, g e _ ene he, hcls, hdict, hd, hen, hDe, hnD.at' fun o q => g D o (fun q2 => hDe.2 env (.head _) q2.symm) q, hm, ?_⟩
  · obtain ⟨a1, a2, a3, mx, hx'⟩ := F x (.tail _ hx)
    exact ⟨a1, a2, a3, mx, hx'.at' fun o q => g _ o (la x hx) q⟩
  · cases fl with
    | none => exact tb
    | some f =>
      obtain ⟨T, oT, ts, h1, hT0, hTe, hT, hTd, h3⟩ := tb
      exact ⟨T, oT, ts, h1, hT0, hTe, g T _ (fun q => by rw [q, ho0] at hT; cases hT; rw [hd0] at hTd; cases hTd) hT, hTd, h3⟩
section
variable {C : Cx} (hC : C.K = KK C.w.params) {A : Around} {E : Value → Shared → Prop} {s : Shared} {env : Env} {l : List Env} {e : Addr} {fl : Option Value} {ns : Names} {n : Str}
include hC
theorem x_caught {b₀ : Stmt} {suite : List Stmt} {pos np : Pos} {rest : List ExceptHandler} {Q : Flow → Shared → Prop} (hfr : A.frames = some (env :: l)) (en : EnvOk ns env) (hl : ns.lookup (Str.ofString "CasFail") = some .globalImplicit) (kn : env.kindOf n = some .local) (la : ∀ x ∈ l, x.locals ≠ env.locals) (S : XSt C (env :: l) e fl s.heap) (xf : XFl env fl)
    (k : ∀ h' tk, XSt C (env :: l) e (some .none) h' → (∃ m, h'.Ns env.locals m ∧ m n = some (.ref e)) → wpAny (model C.prog C.w) (A.mark (some (.ref e))) (execs (b₀ :: suite) env) (fun f s₄ => wpAny (model C.prog C.w) A (do bindName env n .none; unbindBehindTheSuite env n pos) (fun _ s₅ => Q f s₅) E s₄)
      (AsSuiteRaised (model C.prog C.w) (A.mark (some (.ref e))) env n pos (notedBy (model C.prog C.w) (A.mark (some (.ref e))) env (cameBackBy (model C.prog C.w) A env E))) { s with heap := h', toks := tk }) :
    wpAny (model C.prog C.w) A (noteFrame (.ref e) env) (fun _ s₂ => wpAny (model C.prog C.w) A (setFlight (.ref e) none) (fun _ s₃ => wpAny (model C.prog C.w) A (handleBy (.ref e) env (.ExceptHandler (some (.Name "CasFail" np)) (some n) (b₀ :: suite) pos :: rest)) Q E s₃) E s₂) E s := by
  have hp : (env.scope.kind == .class || (env.scope.kind == .module && env.locals != env.globals)) = false := by rw [en.kind]; rfl
  have hnd : ∀ h', XSt C (env :: l) e (some .none) h' → wpAny (model C.prog C.w) A (handleBy (.ref e) env (.ExceptHandler (some (.Name "CasFail" np)) (some n) (b₀ :: suite) pos :: rest)) Q E { s with heap := h' } := fun h3 S3 => by
    refine wpAny_handleBy_cons (codeAny_handlers_test ?_) (by intro q; cases q)
    refine load_glob (s := { s with heap := h3 }) S3.base en hl (by rw [hC]; kernel_rfl) (by kernel_rfl) (v := .ref 31) ?_
    obtain ⟨oe, vs, D, m1, tk, he, hcls, _⟩ := S3.ex
    refine wpAny_excMatches_sub_self (cls31 hC S3.base) he hcls (by decide +kernel) ?_
    refine codeAny_handlers_suite_as ?_
    refine x_flight (s := { s with heap := h3 }) (fo := none) S3 fun h4 S4 => ?_
    obtain ⟨_, _, _, m, hn⟩ := S4.fr env (.head _)
    refine wpAny_storeName_local kn hn (fun h5 hn5 hs5 => ?_) hp
    exact k h5 _ (S4.but hs5 hn5 la) ⟨_, hn5, by simp⟩
  have go : ∀ h2, XSt C (env :: l) e (some (rawInt env.locals)) h2 → wpAny (model C.prog C.w) A (setFlight (.ref e) none) (fun _ s₃ => wpAny (model C.prog C.w) A (handleBy (.ref e) env (.ExceptHandler (some (.Name "CasFail" np)) (some n) (b₀ :: suite) pos :: rest)) Q E s₃) E { s with heap := h2 } := fun h2 S2 =>
    x_flight (s := { s with heap := h2 }) (fo := none) S2 fun h3 S3 => hnd h3 S3
  rcases xf with q | q | q
  · exact x_note hfr S (.inl q) fun h2 S2 => go h2 S2
  · exact x_note hfr S (.inr q) fun h2 S2 => go h2 S2
  · subst q
    exact x_again (S.fr env (.head _)).2.1 S (go s.heap S)
/-- e.kind -/
theorem x_kind {np apos : Pos} {Q : Value → Shared → Prop} {m : Str → Option Value} (en : EnvOk ns env) (kn : env.kindOf n = some .local) (ok : okName n = true) (S : XSt C (env :: l) e fl s.heap) (hn : s.heap.Ns env.locals m) (hm : m n = some (.ref e))
    (h : ∀ tk, Q (.str "domain" tk) { s with toks := s.toks + 1 }) : wpAny (model C.prog C.w) A (eval (.Attribute (.Name n np) "kind" apos) env) Q E s := by
  refine PyProof.Rows.Attribute_name (load_var en.kind ok (.inl ⟨kn, m, hn, hm⟩) ?_)
  obtain ⟨b, F, oe, vs, D, m1, tk, he, hcls, hdict, hd, hen, hDe, hnD, hmD, tb⟩ := S
  exact read_attr (mN := s.heap.nsMap 30) PySem.F.attrBase_Exception (cls31 hC b) (ns30 hC b) (n30 hC b (by kernel_rfl)) (n30 hC b (by kernel_rfl)) (n30 hC b (by kernel_rfl)) lk_kind he hcls hd hdict hnD hmD rfl (h tk)
end
section
variable {prog : Program} {w : World} {A : Around} {E : Value → Shared → Prop}
variable {nm q : Str} {K0 N : Addr} {bs bm : List Value} {hdct : Bool} {sn : List Str} {sub : List Value} {ab : Bool} {col : Option Bool} {dd : Option Addr} {k0 k1 k2 k3 k5 : Option Value} {newId : String}
/-- the same exception once more, under its own handler -/
theorem raise_again {C : Cx} {l : List Env} {f : Value} {s : Shared} {env : Env} {e : Addr} {x : Sem Value} {Q : Flow → Shared → Prop} (hbase : bm.contains (.type "BaseException") = true) (hh : A.handled = some (.ref e))
    (h : wpAny (model prog w) A x (fun v s₁ => ∃ oe vs, v = .ref e ∧ s₁.heap.get? K0 = some (excClassObj nm q K0 N bs bm hdct sn sub ab col dd k0 k1 k2 k3 k5 newId) ∧
      s₁.heap.get? e = some oe ∧ oe.cls = .ref K0 ∧ oe.data = .fields vs ∧ XSt C l e (some f) s₁.heap ∧ ∀ h', XSt C l e (some .none) h' → E (.ref e) { s₁ with heap := h' }) E s) :
    wpAny (model prog w) A (raiseStmt env (some x) none) Q E s := by
  have hcB : (Value.ref K0 :: bm).contains (.type "BaseException") = true := by rw [List.contains_cons, hbase, Bool.or_true]
  unfold raiseStmt
  refine wpAny_bind (wpAny_mono h (fun v s₁ h₁ => ?_) fun _ _ x => x)
  obtain ⟨oe, vs, rfl, hC, he, hc, hd, S, hE⟩ := h₁
  obtain ⟨hp, g, d, tk, os⟩ := s₁
  have hfl : ∀ (Q' : Unit → Shared → Prop), (∀ h', XSt C l e (some .none) h' → Q' () ⟨h', g, d, tk, os⟩) → wpAny (model prog w) A (setFlight (.ref e) none) Q' E ⟨hp, g, d, tk, os⟩ := fun Q' hq => x_flight (s := ⟨hp, g, d, tk, os⟩) (fo := none) S hq
  repeat (first | with_reducible refine hfl _ ?_ | (with_reducible refine wpAny_loadPart_at he ?_; rw [hc]) | with_reducible refine wpAny_loadPart_at hC ?_ | (with_reducible refine wpAny_isSubtype_exc hC ?_; rw [hcB]) | wp_step)
  intro h' S'
  unfold raiseNew
  refine wpAny_bind (wpAny_handled ?_)
  rw [hh]
  dsimp only
  rw [if_neg (by simp)]
  refine wpAny_bind (wpAny_pure ?_)
  exact wpAny_throw (hE h' S')
end
theorem mark_handled (A : Around) (e : Value) : (A.mark (some e)).handled = some e := by
  show (some e).or A.handled = some e
  rfl
section
variable {C : Cx} {k : Nat} {sc : Scope} {ρ : PEnv} {β : Bx}
/-- try: .. except CasFail as n: if n.kind != 'limit': raise n -/
theorem xx_tryR (hC : C.K = KK C.w.params) {body : List Stmt} {n : Str} {kd : Nat} {np ep ap cp cmp rp rpos ip hpos pos : Pos} (hl : sc.names.lookup (Str.ofString "CasFail") = some .globalImplicit) (kn : sc.names.lookup n = some .local) (ok : okName n = true)
    (h : WSX C k sc body ρ β) : WXX C k sc (.Try body [.ExceptHandler (some (.Name "CasFail" np)) (some n) [.If (.Compare (.Attribute (.Name n ep) "kind" ap) [.NotEq] [.Constant (.str "limit") kd cp] cmp) [.Raise (some (.Name n rp)) none rpos] [] ip] hpos] [] [] pos) ρ β :=
  fun A s env X bx ow l P E R hfr fr ap F o => by
    have ks : env.kindOf n = some .local := by
      unfold Env.kindOf; rw [F.scope]; exact kn
    have la : ∀ x ∈ l, x.locals ≠ env.locals := fun x hx q => ap x hx (.inl q)
    have hf := (fr env (.head _)).2.1
    have hp : (env.scope.kind == .class || (env.scope.kind == .module && env.locals != env.globals)) = false := by rw [F.eok.kind]; rfl
    refine wpAny_Try_except (h A s env X bx ow l _ _ R hfr fr ap F fun e fl h' tk xf S => ?_)
    refine x_caught hC (s := { s with heap := h', toks := tk }) hfr F.eok hl ks la S xf fun h2 tk2 S2 ⟨m, hn, hm⟩ => ?_
    refine wpAny_execs_cons (wpAny_If (wpAny_isTrue_Compare1 (x_kind hC (s := { s with heap := h2, toks := tk2 }) F.eok ks ok S2 hn hm fun tk3 => ?_) rfl))
    refine wpAny_Constant_str ?_
    refine PyProof.Rows.ne_str ?_
    refine wpAny_truthy_bool ?_
    rw [show ((Str.ofString "domain") != (Str.ofString "limit")) = true from by decide +kernel]
    simp only [if_true]
    refine wpAny_execs_cons ?_
    rw [arm_exec_Raise]
    simp only [arm_evalOpt_some, evalOpt_none, Option.map]
    have hE : ∀ h' tk', XSt C (env :: l) e (some .none) h' → AsSuiteRaised (model C.prog C.w) (A.mark (some (.ref e))) env n hpos (notedBy (model C.prog C.w) (A.mark (some (.ref e))) env (cameBackBy (model C.prog C.w) A env E)) (.ref e) { s with heap := h', toks := tk' } := fun h4 tk4 S4 => by
      refine x_note (s := { s with heap := h4, toks := tk4 }) hfr S4 (.inr rfl) fun h5 S5 => ?_
      obtain ⟨_, _, _, m5, hn5⟩ := S5.fr env (.head _)
      refine wpAny_nameGoes (s := { s with heap := h5, toks := tk4 }) ks hn5 hp fun h6 m6 hn6 hs6 => ?_
      have S6 := S5.but hs6 hn6 la
      unfold PySem.passOn
      obtain ⟨b, F6, oe, vs, D, m1, tk6, he, hcls, hdict, hd, hen, hDe, hnD, hmD, T, oT, ts, h1, r⟩ := id S6
      refine wpAny_bind (wpAny_field he hd h1 ?_)
      rw [if_neg (show ¬ ((Value.ref T == Value.none) = true) from by simp)]
      refine wpAny_bind ?_
      rw [hf]
      refine x_flight (s := { s with heap := h6, toks := tk4 + 1 }) (fo := some env.locals) S6 fun h7 S7 => wpAny_throw ?_
      refine x_again (s := { s with heap := h7, toks := tk4 + 1 }) hf S7 ?_
      exact x_came (s := { s with heap := h7, toks := tk4 + 1 }) hf S7 fun h8 S8 => o e _ h8 _ (.inr (.inr rfl)) S8
    refine wpAny_bind (wpAny_standAt (raise_again (K0 := 31) (nm := "CasFail") (q := "CasFail") (N := 30) (bs := [.type "Exception"]) (bm := [.type "Exception", .type "BaseException", .type "object"]) (hdct := true) (sn := []) (sub := []) (ab := false) (col := none) (dd := none) (k0 := some (.ref 15)) (k1 := none) (k2 := some (.str ("CasFail" : Str) 189)) (k3 := some (.str ("CasFail" : Str) 197)) (k5 := some (.bool true)) (newId := "Exception.__new__") (e := e) (C := C) (l := env :: l) (f := .none) (by decide +kernel) (mark_handled A _) ?_))
    refine wpAny_bind (load_var F.eok.kind ok (.inl ⟨ks, m, hn, hm⟩) (wpAny_bind (wpAny_standAt (wpAny_pure ?_))))
    obtain ⟨oe, vs, D, m1, tk6, he, hcls, hdict, hd, _⟩ := S2.ex
    exact ⟨oe, vs, rfl, cls31 hC S2.base, he, hcls, hd, S2, fun h' S' => hE h' _ S'⟩
end
set_option maxHeartbeats 2000000



/-! ## another letter -/
theorem enterX3 {C : Cx} {k : Nat} {β : Bx} {f : Addr} {fd : FuncData} {body : List Stmt} {x y z g : Str} {p q r : PV} (F : FnAt C g f fd body [x, y, z]) (h : WSX C k fd.scope body [(x, p), (y, q), (z, r)] β) (hno : ([p, q, r].all notOwn) = true := by rfl) : CallX C (k + 1) f [p, q, r] β := enterX F.ok rfl hno h
theorem enterX4 {C : Cx} {k : Nat} {β : Bx} {f : Addr} {fd : FuncData} {body : List Stmt} {x y z u g : Str} {p q r t : PV} (F : FnAt C g f fd body [x, y, z, u]) (h : WSX C k fd.scope body [(x, p), (y, q), (z, r), (u, t)] β) (hno : ([p, q, r, t].all notOwn) = true := by rfl) : CallX C (k + 1) f [p, q, r, t] β := enterX F.ok rfl hno h
noncomputable abbrev tY : PyData := .tuple [.str "sym", .str "y"]
theorem cx_sym {C : Cx} (hC : C.K = KK C.w.params) (q : Rat) (many : Int) (β : Bx) : CallX C 6 299 [.d tY, .d (.int many), .d (letX q)] β := by
  unfold letX
  refine enterX3 (k := 5) (F_of_term hC) ?_
  refine sx_cons ?_
  walk_at "go"
  · intro h; exact absurd h (by decide +kernel)
  intro _
  walk_at "go"
  refine sx_here (xx_if ?_)
  walk_at "go"
  · intro _
    refine sx_here (xx_if ?_)
    walk_at "go"
    · intro _
      refine sx_here (xx_raise hC (by decide) (by kernel_rfl) ?_ (by intro _; kernel_rfl) (by intro _; kernel_rfl))
      walk_at "go"
      refine b_cat (by decide +kernel) ?_
      walk_at "go"
      exact ⟨_, rfl, by decide +kernel⟩
    · intro h; exact absurd h (by decide +kernel)
  · intro h; exact absurd rfl h
theorem cx_sum {C : Cx} (hC : C.K = KK C.w.params) {k : Nat} (hk : 8 ≤ k) (q : Rat) (many : Nat) (hm : many + 1 ≤ 100) {t1 : PyData} {p : Nat → Rat} {B : Nat} (h1 : OT C k q (many + 1) t1 (encL 0 p (many + 1))) (hX : ∀ i, i < many + 1 → Sz B (p i)) (hz : B + B ≤ 100000000) (β : Bx) :
    CallX C (k + 1) 299 [.d (tSum [t1, tY]), .d (.int ((many + 1 : Nat) : Int)), .d (letX q)] β := by
  unfold tSum
  refine enterX3 (F_of_term hC) ?_
  refine sx_cons ?_
  walk_at "go"
  · intro h; exact absurd h (by decide +kernel)
  intro _
  walk_at "go"
  refine sx_cons ?_
  walk_at "go"
  · intro h; exact absurd h (by decide +kernel)
  intro _
  walk_at "go"
  refine sx_cons ?_
  walk_at "go"
  · intro h; exact absurd h (by decide +kernel)
  intro _
  walk_at "go"
  refine sx_cons ?_
  walk_at "go"
  · intro h; exact absurd h (by decide +kernel)
  intro _
  walk_at "go"
  refine sx_cons ?_
  walk_at "go"
  refine b_notIn (ys := ["sum", "prod"]) ?_
  rw [show (!([("sum" : Str), "prod"].any (· == ("sum" : Str)))) = false by decide +kernel]
  walk_at "go"
  refine sx_cons ?_
  walk_at "go"
  · intro _
    walk_at "go"
    refine wv_of (c_lplain hC 0 many (by omega) _) (by omega) ?_
    walk_at "go"
    refine sx_here (xx_for ?_ (by kernel_rfl) (by intro _ _; kernel_rfl))
    refine wi_tuple ?_
    walk_at "go"
    refine ⟨_, rfl, ?_⟩
    refine .inr ?_
    walk_at "go"
    refine wv_of (h1 _) (Nat.le_refl _) ?_
    walk_at "go"
    · intro _
      walk_at "go"
      refine wv_of (c_ladd hC (cst 0) (many + 1) 0 p (many + 1) (by omega) (by omega) (x := B) (y := B) (fun j _ => cst_sz Sz.zero j) hX hz _) (by omega) ?_
      walk_at "go"
      refine .inl ?_
      refine sx_here (xx_assign ?_ (by intro e he; cases e; cases he; kernel_rfl))
      refine ex_call (by kernel_rfl) (F_of_term hC).gl (is_fn hC (by kernel_rfl)) ?_ (by kernel_rfl) (by intro _; kernel_rfl)
      walk_at "go"
      exact (cx_sym hC q _ _).le (by omega)
    · intro h; exact absurd rfl h
  · intro h; exact absurd rfl h
theorem cx_laurent {C : Cx} (hC : C.K = KK C.w.params) {k : Nat} (hk : 8 ≤ k) (q : Rat) (m : Nat) (hm : m + 1 ≤ 50) (t : PyData) (h : ∀ β, CallX C k 299 [.d t, .d (.int ((m + 3 : Nat) : Int)), .d (letX q)] β) (β : Bx) : CallX C (k + 1) 306 [.d t, .d (letX q), .d (.int ((m + 1 : Nat) : Int))] β := by
  refine enterX3 (F_laurent_of hC) ?_
  refine sx_cons ?_
  walk_at "go"
  refine sx_here (xx_while1 ?_)
  walk_at "go"
  refine sx_here (xx_tryR hC (by kernel_rfl) (by kernel_rfl) (by kernel_rfl) ?_)
  refine sx_here (xx_assign ?_ (by intro e he; cases e; cases he; kernel_rfl))
  refine ex_call (by kernel_rfl) (F_of_term hC).gl (is_fn hC (by kernel_rfl)) ?_ (by kernel_rfl) (by intro _; kernel_rfl)
  walk_at "go"
  rw [show max ((m + 1 : Nat) : Int) 1 + 2 = ((m + 3 : Nat) : Int) by omega]
  walk_at "go"
  exact h _
theorem cx_series {C : Cx} (hC : C.K = KK C.w.params) {k : Nat} (hk : 8 ≤ k) (q : Rat) (m : Nat) (hm : m + 1 ≤ 50) (t : PyData) (h : ∀ β, CallX C k 299 [.d t, .d (.int ((m + 3 : Nat) : Int)), .d (letX q)] β) (β : Bx) :
    CallX C (k + 2) 313 [.d t, .d (.str "x"), .d (encQ q), .d (.int ((m + 1 : Nat) : Int))] β := by
  refine enterX4 (F_series_of hC) ?_
  refine sx_here (xx_assign ?_ (by intro e he; cases e; cases he; kernel_rfl))
  refine ex_arg (by kernel_rfl) (F_lcut hC).gl (is_fn hC (by kernel_rfl)) ?_ (by kernel_rfl) (by intro _; kernel_rfl)
  refine ex_call (by kernel_rfl) (F_laurent_of hC).gl (is_fn hC (by kernel_rfl)) ?_ (by kernel_rfl) (by intro _; kernel_rfl)
  walk_at "go"
  exact cx_laurent hC hk q m hm t h _
set_option maxHeartbeats 2000000



/-! ## the law's last statements -/
section
variable {C : Cx} (hC : C.K = KK C.w.params) {A : Around} {env : Env}
include hC
theorem law_tail (hfr : A.frames = some [env]) (hf : env.frame = some env.locals) (s : Nat) (B : Nat) (t : PyData) (p : Nat → Rat) (ρ : PEnv) (β : Bx) (hs : s = 2 ∨ s = 3) (hB : B ≤ 5000000) (d : DR C s B 40 t p) (w : Sub [(("term_here" : Str), .d t), ("size", .d (.int ((s + 1 : Nat) : Int)))] ρ) :
    WSA C 50 fdlaw.scope A env lawEnd ρ β := fun s0 X bx ow P E R F0 r => by
  have F := F0.weaken w
  have hb : WSX C 50 fdlaw.scope [stmtAt (match stmtAt lawEnd 0 with | .Try b _ _ _ _ => b | _ => []) 0] [(("term_here" : Str), .d t), ("size", .d (.int ((s + 1 : Nat) : Int)))] β := by
    refine sx_here (xx_expr ?_ (by intro e he; cases e; cases he; kernel_rfl) (by intro _; kernel_rfl))
    refine ex_call (by kernel_rfl) (F_series_of hC).gl (is_fn hC (by kernel_rfl)) ?_ (by kernel_rfl) (by intro _; kernel_rfl)
    walk_at "go"
    refine CallX.le (j := 43) ?_ (by decide)
    exact cx_series hC (k := 41) (by decide) 0 s (by omega) _ (fun β => cx_sum hC (k := 40) (by decide) 0 (s + 2) (by omega) d.1 d.2 (by omega) β) _
  have fr : FrL C s0.heap [env] := FrL.cons (F.frame hf) fun _ h => nomatch h
  have ks : env.kindOf "e" = some .local := by
    unfold Env.kindOf; rw [F.scope]; kernel_rfl
  have hp : (env.scope.kind == .class || (env.scope.kind == .module && env.locals != env.globals)) = false := by rw [F.eok.kind]; rfl
  refine wpAny_execs_cons (PySem.wpAny_Try_except (hb A s0 env X bx ow [] _ _ R hfr fr (fun _ h => nomatch h) F fun e fl h' tk xf S => ?_))
  refine x_caught hC (s := { s0 with heap := h', toks := tk }) hfr F.eok (by kernel_rfl) ks (fun _ h => nomatch h) S xf fun h2 tk2 S2 ⟨m, hn, hm⟩ => ?_
  refine wpAny_execs_cons (wpAny_Return_some (wpAny_Compare1 (x_kind hC (s := { s0 with heap := h2, toks := tk2 }) F.eok ks (by kernel_rfl) S2 hn hm fun tk3 => ?_) rfl))
  refine wpAny_Constant_str ?_
  refine PyProof.Rows.eq_str ?_
  rw [show ((Str.ofString "domain") == (Str.ofString "domain")) = true from by decide +kernel]
  refine wpAny_nameGoes (s := { s0 with heap := h2, toks := _ }) ks hn hp fun h6 m6 hn6 hs6 => ?_
  exact r h6 _ (S2.but hs6 hn6 fun _ h => nomatch h).base
end
set_option maxHeartbeats 2000000
/-! ## the law, called -/
theorem law_call {C : Cx} (hC : C.K = KK C.w.params) {A : Around} {s : Shared} {v : Value} {ns : List Int} {P E : Value → Shared → Prop} (R : Room0 A 55) (hfr : A.frames = some []) (S : SOk C (fun _ => False) none [] s.heap) (hn : ns.length ≤ 16384) (r : Rep s.heap (fun _ => False) v (.list (ns.map .int)))
    (c : ∀ h' tk, C.h₀.StaysIn h' → P (.bool true) { s with heap := h', toks := tk }) : wpAny (model C.prog C.w) A (call (.ref 371) [v]) P E s := by
  refine call_low (k := 54) (F_law hC).ok rfl R S (ρ := [("script", .d (.list (ns.map .int)))]) (fun x p hl => ?_) fun env h₁ tk R1 hf hd F vis kp np => ?_
  · rw [List.lookup_cons] at hl
    cases hb : x == "script" with
    | true =>
      rw [hb] at hl; cases hl
      refine ⟨(fun _ e => nomatch e), v, ?_, r⟩
      show List.lookup x [("script", v)] = _
      rw [List.lookup_cons, hb]
    | false => rw [hb] at hl; cases hl
  have hfr1 : (A.deeper env).frames = some [env] := Around.frames_deeper hfr
  obtain ⟨u, hu, ru⟩ := F.e.vars "script" _ lk_here
  refine wpAny_execs_cons ?_
  refine PySem.wpAny_Assign_Name ?_ (by kernel_rfl)
  refine Call_ (load_glob (s := { s with heap := h₁, toks := tk }) F.s.base F.eok (by kernel_rfl) (F_law_box hC).gl (by kernel_rfl) ?_)
  refine callWith_def (o := ⟨.type "function", none, .func fd_law_box, #[]⟩) rfl (spliced_more (load_var (s := { s with heap := h₁, toks := tk }) F.eok.kind (by kernel_rfl) hu (spliced_none ⟨?_, ?_⟩)) (by kernel_rfl)) (by kernel_rfl)
  · exact F.s.base 325 _ (C.okK 325 _ (by rw [hC]; kernel_rfl))
  refine c_box hC (s := { s with heap := h₁, toks := tk }) (R1.to0.le (by decide)) F.s hn ru fun a ws nums z h2 tk2 na k2 hl rr h24 => ?_
  have F1 := F.step (Keep.all k2) (F.s.box.keepAll k2)
  refine store_core (s := { s with heap := h2, toks := tk2 }) F1 (by kernel_rfl) fun h3 tk3 St => ?_
  have rr' : RepAll h2 (fun b => False ∨ b = a) ws (bxOf nums 0 z) := rr.move fun b o n e => ⟨e, fun q => n (q.elim (fun f => f.elim) .inr)⟩
  have F2 := F.boxed k2 na hl rr' St fun y p hy => by
    rw [List.lookup_cons] at hy
    cases hb : y == "script" with
    | true => rw [hb] at hy; cases hy; exact ⟨_, rfl⟩
    | false => rw [hb] at hy; cases hy
  exact law_walk hC (law_tail hC hfr1 hf) _ ⟨nums, 0, z, rfl, h24, by decide⟩ { s with heap := h3, toks := tk3 } _ _ _ _ _ (R1.le (by decide)) F2 fun h' tk' b => c h' tk' b
set_option maxHeartbeats 2000000
theorem ints_rep {h : Heap} {X : Addr → Prop} : ∀ {vs : List Value} {ns : List Int}, IntsAre vs ns → RepAll h X vs (ns.map .int)
  | _, _, .nil => .nil
  | _, _, .cons _ _ r => .cons (.int _ _) (ints_rep r)
theorem room_caller : Room0 callerA 55 := ⟨rfl, by decide +kernel, by decide +kernel, [], rfl⟩
theorem all_holds : PySem.Challenge.rw_nn0277_01.Holds := by
  refine hd ?_
  intro w s₀ s₁ mg mb G Y fa o pm cd doc dV kV ho hd hcd hD hmg hg args vals as hpre hlay hrd hwl hlo
  have T := G.T
  have e1 : mg dlaw.name = some (.ref 371) := mg_of (K := KK w.params) Y T.g (by kernel_rfl)
  rw [e1] at hmg
  obtain rfl : fa = 371 := by injection hmg with q; injection q with q; exact q.symm
  have hb : T.seer = T.seer := rfl
  wrow_args hpre hlay hrd hwl hlo
  rename IntsAre _ _ => hI
  rename Heap.IsList _ _ _ => hL
  rename ¬ _ < _ => hlen
  let C : Cx := { prog := rowL.prog, w := w, K := KK w.params, h₀ := s₁.heap, okK := Y, mg := mg, mb := mb, ns := T.g, nb := T.b, bi := T.builtins, lim := T.nolimit, seer := T.seer (by kernel_rfl), tree := by kernel_rfl }
  have S : SOk C (fun _ => False) none [] s₁.heap := ⟨fun _ _ e => e, fun _ f => f.elim, fun _ f => f.elim, fun _ q => by cases q⟩
  refine law_call (C := C) rfl (A := callerA) room_caller rfl S (ns := _) ?_ (.list hL (fun f => f) (ints_rep hI)) fun h' tk b => ?_
  · omega
  · refine ⟨.inl ⟨_, .bool true, [], rfl, raisesW_false (by wrow_none_raised), .bool true, ?_, fun _ => ⟨.nil, fun _ h => nomatch h⟩⟩, .of_keep b, rfl, .of_eq hg⟩
    wrow_post
end Mine
theorem PySem.Challenge.cw_nn0277_01_holds : PySem.Challenge.rw_nn0277_01.Holds := by
  exact Mine.all_holds
