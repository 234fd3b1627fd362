import PyProof.Rows.All
import Wide.All
import OpenK.AllK
import Wide.FinOn
import Lean
import PySem.Challenge.RW_pf0220_01
open PySem PySem.W PySem.Calls PySem.Spec PyProof.Rows
set_option Elab.async false
set_option linter.all false
set_option maxRecDepth 100000
set_option maxHeartbeats 8000000

namespace Mine
theorem room0 {d n R : Nat} (h : d + n < R) : d < R := Nat.lt_of_le_of_lt (Nat.le_add_right d n) h
theorem room1 {d k n R : Nat} (h : d + n < R) (hk : k ≤ n) : d + k < R := Nat.lt_of_le_of_lt (Nat.add_le_add_left hk d) h
theorem room2 {d j k n R : Nat} (h : d + n < R) (hk : j + k ≤ n) : d + j + k < R := Nat.add_assoc d j k ▸ room1 h hk
theorem room3 {d i j k n R : Nat} (h : d + n < R) (hk : i + j + k ≤ n) : d + i + j + k < R := by rw [Nat.add_assoc d i j]; exact room2 h hk
theorem room4 {d e i j k n R : Nat} (h : d + n < R) (hk : e + i + j + k ≤ n) : d + e + i + j + k < R := by rw [Nat.add_assoc d e i]; exact room3 h hk
theorem unle1 {d a b : Nat} (h : a ≤ b) : d + a ≤ d + b := Nat.add_le_add_left h d
theorem unle2 {d a b c : Nat} (h : a ≤ b + c) : d + a ≤ d + b + c := Nat.add_assoc d b c ▸ unle1 h
section
variable {A A₀ : Around} {E : Value → Shared → Prop} {s : Shared} {K : Frag} {L : Addr} {h₀ base : Heap} {m mg mb : Str → Option Value} {news : List (Addr × Obj)} {p : Program} {loose : List Str} {mean : ExcName → Option Value} {prog : Program} {w : World}
/-- a continuation behind a name -/
theorem letQ {α : Type} {M : Model} {t : Sem α} (Q : α → Shared → Prop) (h : let q := Q; wpAny M A t q E s) : wpAny M A t Q E s := h
/-- a function's entry: what the walk carries stands behind names -/
theorem code_defL {env : Env} {outer : List Env} {R : Result → Shared → Prop} {name qual : Str} {params : Arguments} {body : List Stmt} {scope : Scope} {dV kV doc pm cdv ct oc : Value} {an od : Option Addr} {osl : Array (Option Value)} {f : Addr} {args : Args} {binds : List (Str × Value)}
    (B : Below A₀ base outer h₀) (F : Fr h₀ L s.heap m) (X₀ : K.In h₀) (N : News h₀ L s.heap news) (T : Top p loose mean mg mb h₀) (hA : A.frames = some (env :: outer)) (hf : env.frame = some L) (hke : env.scope.kind = .function)
    (ho : K.lookup f = some ⟨oc, od, .func (fnOf name qual params body scope dV kV doc pm an cdv ct), osl⟩) (hcd : codeIn K cdv qual = true) (hroom : A.depth < recursionLimit)
    (hbind : BindsTo s (fnOf name qual params body scope dV kV doc pm an cdv ct) args binds) (hloc : ∀ y ∈ binds, scope.names.lookup y.1 = some .local)
    (h : ∀ g L' h₁, let kE := envOf qual scope L' f cdv; let kA := A.deeper kE; let kM : Str → Option Value := fun y => binds.reverse.lookup y;
      let kQ : Flow → Shared → Prop := fun fl s' => LeaveK h₀ L m g R (match fl with | .ret v => v | _ => .none) s';
      let kX : Value → Shared → Prop := fun e s' => wpAny (model prog w) kA (leaving kE e) (fun _ s'' => R (.error e) s'') (fun e' s'' => R (.error e') s'') s';
      Fr h₀ L g m → Fr g L' h₁ kM → News g L' h₁ news → Below A base (env :: outer) g → K.In g → Top p loose mean mg mb g →
      wpAny (model prog w) kA (execs body kE) kQ kX { s with heap := h₁, toks := s.toks + binds.length })
    (hco : scope.isCoroutine = false) (hgen : scope.isGenerator = false) (hk : scope.kind = .function)
    (hcell : ∀ x ∈ scope.names, x.2 ≠ .cell) : codeAny (model prog w) A (.call (.ref f) args) R s :=
  code_def B F X₀ N T hA hf hke ho hcd hroom hbind hloc h hco hgen hk hcell
theorem storeL {cn : Str} {cs : Scope} {a : Addr} {ccd : Value} {cl : List (Str × Addr)} {M : Model} {x : Str} {v : Value} {Q : Unit → Shared → Prop} (F : Fr h₀ L s.heap m) (N : News h₀ L s.heap news)
    (h : ∀ h', let kM : Str → Option Value := fun y => if y = x then some v else m y; Fr h₀ L h' kM → News h₀ L h' news → Q () { s with heap := h', toks := s.toks + 1 })
    (hk : cs.kind = .function) (hx : (envX cn cs L a ccd cl).kindOf x = some .local) : wpAny M A (storeName (envX cn cs L a ccd cl) x v) Q E s := storeX_L F N h hk hx
section
variable {M : Model} {cn : Str} {cs : Scope} {a : Addr} {ccd : Value} {cl : List (Str × Addr)} {x : Str} {xp pos : Pos} {v : Value} {rest : List Expr} {Q : List Value → Shared → Prop}
/-- an argument that is a local name -/
theorem argN (F : Fr h₀ L s.heap m) (hk : cs.kind = .function) (hx : (envX cn cs L a ccd cl).kindOf x = some .local) (hv : m x = some v)
    (h : wpAny M A (spliced (backTo pos (starEach rest (envX cn cs L a ccd cl)))) (fun vs s₂ => Q (v :: vs) s₂) E s) (hd : (x == ("__debug__" : Str)) = false) :
    wpAny M A (spliced (backTo pos (starEach (.Name x xp :: rest) (envX cn cs L a ccd cl)))) Q E s := args_cons (nameX_L F hv h hk hx hd)
theorem argN1 (F : Fr h₀ L s.heap m) (hk : cs.kind = .function) (hx : (envX cn cs L a ccd cl).kindOf x = some .local) (hv : m x = some v) (h : Q [v] s) (hd : (x == ("__debug__" : Str)) = false) :
    wpAny M A (spliced (backTo pos (starEach [.Name x xp] (envX cn cs L a ccd cl)))) Q E s := argN F hk hx hv (args_nil h) hd
end
/-- an object's own attribute, the object standing in a local name -/
theorem selfAttr {cn : Str} {cs : Scope} {a : Addr} {ccd : Value} {cl : List (Str × Addr)} {x name : Str} {xp pos : Pos} {o C : Addr} {es : List DictEntry} {n : Nat} {ox : Obj} {attr : Option Value} {v : Value} {Q : Value → Shared → Prop}
    (F : Fr h₀ L s.heap m) (hk : cs.kind = .function) (hx : (envX cn cs L a ccd cl).kindOf x = some .local) (hv : m x = some (.ref o)) (X₀ : K.In h₀) (I : InstAt s.heap o ox C (some (dictOf es n)))
    (hg : plainGet K C name = true) (hh : hasDictIn K C = true) (ha : findIn K (.ref C) name = some attr) (hn : noGet K attr = true) (hl : getL name es = some (some v)) (hw : handedIn v = true) (h : Q v { s with toks := s.toks + 1 })
    (hd : (x == ("__debug__" : Str)) = false) : wpAny (model prog w) A (eval (.Attribute (.Name x xp) name pos) (envX cn cs L a ccd cl)) Q E s :=
  Attribute_Name_ (nameX_L F hv (get_own F X₀ I hg hh ha hn hl hw h) hk hx hd)
/-- a method of an object that stands in a local name -/
theorem selfCall {cn : Str} {cs : Scope} {a : Addr} {ccd : Value} {cl : List (Str × Addr)} {x name : Str} {xp apos pos : Pos} {args : List Expr} {o C f : Addr} {es : List DictEntry} {n : Nat} {ox : Obj} {Q : Value → Shared → Prop} {pl : Sem Bool}
    (F : Fr h₀ L s.heap m) (hk : cs.kind = .function) (hx : (envX cn cs L a ccd cl).kindOf x = some .local) (hv : m x = some (.ref o)) (X₀ : K.In h₀) (I : InstAt s.heap o ox C (some (dictOf es n)))
    (hg : plainGet K C name = true) (hf : findIn K (.ref C) name = some (some (.ref f))) (ht : isFn K (.ref f) = true) (hl : getL name es = some none)
    (h : wpAny (model prog w) A (callWith pos (.ref f) [.ref o] (backTo pos (starEach args (envX cn cs L a ccd cl))) []) Q E s) (hd : (x == ("__debug__" : Str)) = false)
    (he : eval (.Call (.Attribute (.Name x xp) name apos) args [] pos) (envX cn cs L a ccd cl) = (do
      let ov ← eval (.Name x xp) (envX cn cs L a ccd cl)
      standAt apos.atName
      let (f, first) ← holding [ov] (getMethod ov name pl)
      callWith pos f first (backTo pos (starEach args (envX cn cs L a ccd cl))) [])) : wpAny (model prog w) A (eval (.Call (.Attribute (.Name x xp) name apos) args [] pos) (envX cn cs L a ccd cl)) Q E s :=
  MethodCall_ (nameX_L F hv (method_inst F X₀ I hg hf ht hl h) hk hx hd) he
end
end Mine

local macro_rules | `(tactic| walk_at $s:str) => do if ("|exec Assign|exec If|exec Expr|exec Return some|exec AugAssign|exec Raise some none|eval BinOp|eval Compare|eval BoolOp|eval Call|eval Call Attribute|eval Subscript|eval Tuple|eval List|eval IfExp|isTrue Compare|isTrue BoolOp|".splitOn ("|" ++ s.getString ++ "|")).length > 1 then `(tactic| ((fail_if_success (fail_if_success k_fold)); refine Mine.letQ _ ?_; intro qk)) else Lean.Macro.throwUnsupported
local macro_rules | `(tactic| walk_at $s:str) => `(tactic| k_extra $s)
local macro_rules | `(tactic| k_mem) => `(tactic| k_extra "K_MEM")
local macro_rules | `(tactic| k_updF) => `(tactic| k_extra "K_UPDF")
local macro_rules | `(tactic| k_all) => `(tactic| k_extra "K_ALL")
local macro_rules | `(tactic| k_room) => `(tactic| k_extra "K_ROOM")
local macro_rules | `(tactic| k_in) => `(tactic| k_extra "K_IN")

namespace Mine
noncomputable abbrev pw : Program := PySem.Challenge.pw_pf0220_01
noncomputable def st (i : Nat) : Stmt := (pw.main.body[i]?).getD (.Pass default)
noncomputable def clsB : Stmt → List Stmt
  | .ClassDef _ _ _ b _ _ _ _ _ _ _ => b
  | _ => []
noncomputable def sub (i j : Nat) : Stmt := ((clsB (st i))[j]?).getD (.Pass default)
noncomputable def sv (x : String) (t : Nat) : Value := .str (Str.ofString x) t
noncomputable def kv (P : Params) (x : String) (t : Nat) (v : Value) : DictEntry := ⟨PyData.keyHash P (Str.ofString x), .str (Str.ofString x) t, v⟩
noncomputable def tu (l : List Value) : Obj := ⟨.type "tuple", none, .seq l.toArray 0, #[]⟩
noncomputable def fi (l : List Value) : Obj := ⟨.none, none, .fields l.toArray, #[]⟩
noncomputable def co (l : List Value) : Obj := ⟨.type "code", none, .fields l.toArray, #[]⟩
noncomputable def fnT (x : Stmt) (q : String) : Obj := match x with
  | .FunctionDef n ps b _ _ _ sc _ _ _ => ⟨.none, none, .func { name := n, qualname := Str.ofString q, params := ps, body := .stmts b, scope := sc, globals := 0, closure := [], defaults := .none, kwdefaults := .none }, #[]⟩
  | _ => default
noncomputable def fnO (x : Stmt) (q : String) (df pm cd : Value) : Obj := match x with
  | .FunctionDef n ps b _ _ _ sc _ _ _ => ⟨.type "function", none, .func { name := n, qualname := Str.ofString q, params := ps, body := .stmts b, scope := sc, globals := 3, closure := [], defaults := df, kwdefaults := .none, pyModule := pm, code := cd }, #[]⟩
  | _ => default
noncomputable def o2 : Obj := ⟨.none, none, .dict #[] 0, #[]⟩
noncomputable def o3 (P : Params) : Obj := ⟨(.type "dict"), none, .dict #[kv P "__name__" 165 (sv "law_pf0220_01" 1449), kv P "__doc__" 166 .none, kv P "__package__" 167 .none, kv P "__loader__" 168 (.builtin "__main__.__loader__#opaque"), kv P "__spec__" 169 .none, kv P "__annotations__" 170 (.ref 6), kv P "__builtins__" 171 (.ref 4), kv P "__file__" 173 (sv "/claim/cut.py" 172), kv P "__cached__" 174 .none, kv P "_wall" 193 (.ref 21), kv P "BoardError" 223 (.ref 39), kv P "BadArgument" 239 (.ref 52), kv P "BadAddress" 264 (.ref 71), kv P "NoRoom" 280 (.ref 83), kv P "Trap" 336 (.ref 103), kv P "ENTRY" 340 (.int 4 339), kv P "VALID" 342 (.int 1 341), kv P "READ" 344 (.int 2 343), kv P "WRITE" 346 (.int 4 345), kv P "EXECUTE" 348 (.int 8 347), kv P "USER" 350 (.int 16 349), kv P "ACCESSED" 352 (.int 64 351), kv P "DIRTY" 354 (.int 128 353), kv P "LEAF" 356 (.int 10 355), kv P "FLAG_BITS" 358 (.int 10 357), kv P "FLAGS" 363 (.int 1023 362), kv P "FLAG_NAMES" 365 (sv "vrwxugad" 364), kv P "DIGITS" 367 (sv "0123456789abcdef" 366), kv P "FETCH" 369 (sv "fetch" 368), kv P "LOAD" 371 (sv "load" 370), kv P "STORE" 373 (sv "store" 372), kv P "PAGE_FAULTS" 380 (.ref 106), kv P "ACCESS_FAULTS" 387 (.ref 107), kv P "USER_MODE" 389 (.int 0 388), kv P "Layout" 494 (.ref 182), kv P "eight_digits" 500 (.ref 191), kv P "is_leaf" 507 (.ref 198), kv P "is_sound" 514 (.ref 205), kv P "may" 525 (.ref 212), kv P "Walker" 627 (.ref 266), kv P "Tables" 862 (.ref 418), kv P "WORD" 866 (.int 4 865), kv P "MASK" 872 (.int 4294967295 871), kv P "SPACE" 876 (.int 4294967296 875), kv P "SIZES" 880 (.ref 423), kv P "need_size" 887 (.ref 430), kv P "need_stretch" 895 (.ref 437), kv P "Memory" 1136 (.ref 607), kv P "Rom" 1193 (.ref 649), kv P "Bus" 1289 (.ref 714), kv P "TAKEN" 1293 (.int 5 1292), kv P "FREED" 1295 (.int 1 1294), kv P "Pages" 1448 (.ref 834), kv P "_law_flags" 1457 (.ref 845), kv P "_law_done" 1469 (.ref 852), kv P "_law_due" 1483 (.ref 859), kv P "_law_accessed" 1494 (.ref 866), kv P "_law_access_due" 1506 (.ref 873), kv P "_law_rows" 1519 (.ref 880), kv P "_law_alike" 1536 (.ref 887), kv P "law" 1542 (.ref 892)] 61, #[]⟩
noncomputable def o15 : Obj := tu []
noncomputable def o17 : Obj := tu [(sv "k" 190)]
noncomputable def o18 : Obj := tu []
noncomputable def o20 : Obj := co [(sv "_wall" 187), (sv "_wall" 188), (sv "/claim/cut.py" 189), (.int 1 0), (.int 1 0), (.int 0 0), (.int 0 0), (.int 3 0), (.ref 15), (.bool true), (.int 181 0), (.ref 16), .none, (.ref 17), (.ref 18), (.ref 19), (.int 191 0), (.int 1 0), (sv "/claim/cut.py" 192)]
noncomputable def o21 : Obj := fnO (st 0) "_wall" .none (sv "__main__" 164) (.ref 20)
noncomputable def o22 : Obj := tu [(.type "ValueError")]
noncomputable def o29 : Obj := tu [(sv "" 208)]
noncomputable def o30 : Obj := tu []
noncomputable def o32 : Obj := tu [(sv "self" 212), (sv "reason" 213)]
noncomputable def o33 : Obj := tu []
noncomputable def o35 : Obj := co [(sv "__init__" 209), (sv "BoardError.__init__" 210), (sv "/claim/cut.py" 211), (.int 7 0), (.int 2 0), (.int 0 0), (.int 0 0), (.int 3 0), (.ref 30), (.bool true), (.int 181 0), (.ref 31), .none, (.ref 32), (.ref 33), (.ref 34), (.int 214 0), (.int 7 0), (sv "/claim/cut.py" 215)]
noncomputable def o36 : Obj := fnO (sub 2 0) "BoardError.__init__" (.ref 29) (sv "pipeboard.errors" 194) (.ref 35)
noncomputable def o37 : Obj := tu [(sv "reason" 217)]
noncomputable def o38 (P : Params) : Obj := ⟨(.type "dict"), none, .dict #[kv P "__module__" 203 (sv "pipeboard.errors" 194), kv P "__firstlineno__" 207 (.int 5 206), kv P "__init__" 216 (.ref 36), kv P "__static_attributes__" 218 (.ref 37), kv P "__weakref__" 220 (.ref 40), kv P "__doc__" 221 .none] 3, #[]⟩
noncomputable def o39 : Obj := ⟨(.type "type"), none, .cls { name := Str.ofString "BoardError", bases := [(.type "ValueError")], mro := [(.ref 39), (.type "ValueError"), (.type "Exception"), (.type "BaseException"), (.type "object")], ns := 38, qualname := Str.ofString "BoardError", subclasses := [(.ref 52), (.ref 71), (.ref 83), (.ref 103)] }, #[(some (.ref 22)), none, (some (sv "BoardError" 196)), (some (sv "BoardError" 204)), (some (.builtin "ValueError.__new__")), (some (.bool true))]⟩
noncomputable def o40 : Obj := ⟨(.type "getset_descriptor"), none, .fields #[(sv "__weakref__" 219), (.ref 39), (.builtin "ExceptionGroup.__weakref__"), .none], #[]⟩
noncomputable def o43 : Obj := tu [(.ref 39)]
noncomputable def o50 : Obj := tu []
noncomputable def o51 (P : Params) : Obj := ⟨(.type "dict"), none, .dict #[kv P "__module__" 231 (sv "pipeboard.errors" 194), kv P "__firstlineno__" 235 (.int 10 234), kv P "__static_attributes__" 236 (.ref 50), kv P "__doc__" 237 .none] 2, #[]⟩
noncomputable def o52 : Obj := ⟨(.type "type"), none, .cls { name := Str.ofString "BadArgument", bases := [(.ref 39)], mro := [(.ref 52), (.ref 39), (.type "ValueError"), (.type "Exception"), (.type "BaseException"), (.type "object")], ns := 51, qualname := Str.ofString "BadArgument", subclasses := [] }, #[(some (.ref 43)), none, (some (sv "BadArgument" 224)), (some (sv "BadArgument" 232)), (some (.builtin "ValueError.__new__")), (some (.bool true))]⟩
noncomputable def o55 : Obj := tu [(.ref 39)]
noncomputable def o62 : Obj := tu []
noncomputable def o64 : Obj := tu [(sv "self" 255), (sv "address" 256)]
noncomputable def o65 : Obj := tu []
noncomputable def o67 : Obj := co [(sv "__init__" 252), (sv "BadAddress.__init__" 253), (sv "/claim/cut.py" 254), (.int 14 0), (.int 2 0), (.int 0 0), (.int 0 0), (.int 3 0), (.ref 62), (.bool true), (.int 181 0), (.ref 63), .none, (.ref 64), (.ref 65), (.ref 66), (.int 257 0), (.int 14 0), (sv "/claim/cut.py" 258)]
noncomputable def o68 : Obj := fnO (sub 4 0) "BadAddress.__init__" .none (sv "pipeboard.errors" 194) (.ref 67)
noncomputable def o69 : Obj := tu [(sv "address" 260)]
noncomputable def o70 (P : Params) : Obj := ⟨(.type "dict"), none, .dict #[kv P "__module__" 247 (sv "pipeboard.errors" 194), kv P "__firstlineno__" 251 (.int 12 250), kv P "__init__" 259 (.ref 68), kv P "__static_attributes__" 261 (.ref 69), kv P "__doc__" 262 .none] 2, #[]⟩
noncomputable def o71 : Obj := ⟨(.type "type"), none, .cls { name := Str.ofString "BadAddress", bases := [(.ref 39)], mro := [(.ref 71), (.ref 39), (.type "ValueError"), (.type "Exception"), (.type "BaseException"), (.type "object")], ns := 70, qualname := Str.ofString "BadAddress", subclasses := [] }, #[(some (.ref 55)), none, (some (sv "BadAddress" 240)), (some (sv "BadAddress" 248)), (some (.builtin "ValueError.__new__")), (some (.bool true))]⟩
noncomputable def o74 : Obj := tu [(.ref 39)]
noncomputable def o81 : Obj := tu []
noncomputable def o82 (P : Params) : Obj := ⟨(.type "dict"), none, .dict #[kv P "__module__" 272 (sv "pipeboard.errors" 194), kv P "__firstlineno__" 276 (.int 17 275), kv P "__static_attributes__" 277 (.ref 81), kv P "__doc__" 278 .none] 2, #[]⟩
noncomputable def o83 : Obj := ⟨(.type "type"), none, .cls { name := Str.ofString "NoRoom", bases := [(.ref 39)], mro := [(.ref 83), (.ref 39), (.type "ValueError"), (.type "Exception"), (.type "BaseException"), (.type "object")], ns := 82, qualname := Str.ofString "NoRoom", subclasses := [] }, #[(some (.ref 74)), none, (some (sv "NoRoom" 265)), (some (sv "NoRoom" 273)), (some (.builtin "ValueError.__new__")), (some (.bool true))]⟩
noncomputable def o86 : Obj := tu [(.ref 39)]
noncomputable def o93 : Obj := tu [(.int 0 321)]
noncomputable def o94 : Obj := tu []
noncomputable def o96 : Obj := tu [(sv "self" 325), (sv "cause" 326), (sv "value" 327)]
noncomputable def o97 : Obj := tu []
noncomputable def o99 : Obj := co [(sv "__init__" 322), (sv "Trap.__init__" 323), (sv "/claim/cut.py" 324), (.int 35 0), (.int 3 0), (.int 0 0), (.int 0 0), (.int 3 0), (.ref 94), (.bool true), (.int 181 0), (.ref 95), .none, (.ref 96), (.ref 97), (.ref 98), (.int 328 0), (.int 35 0), (sv "/claim/cut.py" 329)]
noncomputable def o100 : Obj := fnO (sub 6 14) "Trap.__init__" (.ref 93) (sv "pipeboard.errors" 194) (.ref 99)
noncomputable def o101 : Obj := tu [(sv "cause" 331), (sv "value" 332)]
noncomputable def o102 (P : Params) : Obj := ⟨(.type "dict"), none, .dict #[kv P "__module__" 288 (sv "pipeboard.errors" 194), kv P "__firstlineno__" 292 (.int 19 291), kv P "FETCH_MISALIGNED" 294 (.int 0 293), kv P "FETCH_ACCESS" 296 (.int 1 295), kv P "ILLEGAL" 298 (.int 2 297), kv P "BREAKPOINT" 300 (.int 3 299), kv P "LOAD_MISALIGNED" 302 (.int 4 301), kv P "LOAD_ACCESS" 304 (.int 5 303), kv P "STORE_MISALIGNED" 306 (.int 6 305), kv P "STORE_ACCESS" 308 (.int 7 307), kv P "CALL_FROM_USER" 310 (.int 8 309), kv P "CALL_FROM_SUPERVISOR" 312 (.int 9 311), kv P "CALL_FROM_MACHINE" 314 (.int 11 313), kv P "FETCH_PAGE" 316 (.int 12 315), kv P "LOAD_PAGE" 318 (.int 13 317), kv P "STORE_PAGE" 320 (.int 15 319), kv P "__init__" 330 (.ref 100), kv P "__static_attributes__" 333 (.ref 101), kv P "__doc__" 334 .none] 2, #[]⟩
noncomputable def o103 : Obj := ⟨(.type "type"), none, .cls { name := Str.ofString "Trap", bases := [(.ref 39)], mro := [(.ref 103), (.ref 39), (.type "ValueError"), (.type "Exception"), (.type "BaseException"), (.type "object")], ns := 102, qualname := Str.ofString "Trap", subclasses := [] }, #[(some (.ref 86)), none, (some (sv "Trap" 281)), (some (sv "Trap" 289)), (some (.builtin "ValueError.__new__")), (some (.bool true))]⟩
noncomputable def o106 (P : Params) : Obj := ⟨(.type "dict"), none, .dict #[kv P "fetch" 368 (.int 12 315), kv P "load" 370 (.int 13 317), kv P "store" 372 (.int 15 319)] 3, #[]⟩
noncomputable def o107 (P : Params) : Obj := ⟨(.type "dict"), none, .dict #[kv P "fetch" 368 (.int 1 295), kv P "load" 370 (.int 5 303), kv P "store" 372 (.int 7 307)] 3, #[]⟩
noncomputable def o115 : Obj := tu [(.int 12 402)]
noncomputable def o116 : Obj := tu []
noncomputable def o118 : Obj := tu [(sv "self" 406), (sv "page_bits" 407)]
noncomputable def o119 : Obj := tu []
noncomputable def o121 : Obj := co [(sv "__init__" 403), (sv "Layout.__init__" 404), (sv "/claim/cut.py" 405), (.int 61 0), (.int 2 0), (.int 0 0), (.int 0 0), (.int 3 0), (.ref 116), (.bool true), (.int 181 0), (.ref 117), .none, (.ref 118), (.ref 119), (.ref 120), (.int 408 0), (.int 61 0), (sv "/claim/cut.py" 409)]
noncomputable def o122 : Obj := fnO (sub 27 0) "Layout.__init__" (.ref 115) (sv "pipeboard.paging" 337) (.ref 121)
noncomputable def o123 : Obj := tu []
noncomputable def o125 : Obj := tu [(sv "self" 414), (sv "address" 415), (sv "number" 416)]
noncomputable def o126 : Obj := tu []
noncomputable def o128 : Obj := co [(sv "parts" 411), (sv "Layout.parts" 412), (sv "/claim/cut.py" 413), (.int 71 0), (.int 2 0), (.int 0 0), (.int 0 0), (.int 3 0), (.ref 123), (.bool true), (.int 181 0), (.ref 124), .none, (.ref 125), (.ref 126), (.ref 127), (.int 417 0), (.int 71 0), (sv "/claim/cut.py" 418)]
noncomputable def o129 : Obj := fnO (sub 27 1) "Layout.parts" .none (sv "pipeboard.paging" 337) (.ref 128)
noncomputable def o130 : Obj := tu [(.int 0 420)]
noncomputable def o131 : Obj := tu []
noncomputable def o133 : Obj := tu [(sv "self" 424), (sv "first" 425), (sv "second" 426), (sv "offset" 427)]
noncomputable def o134 : Obj := tu []
noncomputable def o136 : Obj := co [(sv "address" 421), (sv "Layout.address" 422), (sv "/claim/cut.py" 423), (.int 77 0), (.int 4 0), (.int 0 0), (.int 0 0), (.int 3 0), (.ref 131), (.bool true), (.int 181 0), (.ref 132), .none, (.ref 133), (.ref 134), (.ref 135), (.int 428 0), (.int 77 0), (sv "/claim/cut.py" 429)]
noncomputable def o137 : Obj := fnO (sub 27 2) "Layout.address" (.ref 130) (sv "pipeboard.paging" 337) (.ref 136)
noncomputable def o138 : Obj := tu []
noncomputable def o140 : Obj := tu [(sv "self" 434), (sv "address" 435)]
noncomputable def o141 : Obj := tu []
noncomputable def o143 : Obj := co [(sv "down" 431), (sv "Layout.down" 432), (sv "/claim/cut.py" 433), (.int 80 0), (.int 2 0), (.int 0 0), (.int 0 0), (.int 3 0), (.ref 138), (.bool true), (.int 181 0), (.ref 139), .none, (.ref 140), (.ref 141), (.ref 142), (.int 436 0), (.int 80 0), (sv "/claim/cut.py" 437)]
noncomputable def o144 : Obj := fnO (sub 27 3) "Layout.down" .none (sv "pipeboard.paging" 337) (.ref 143)
noncomputable def o145 : Obj := tu []
noncomputable def o147 : Obj := tu [(sv "self" 442), (sv "address" 443)]
noncomputable def o148 : Obj := tu []
noncomputable def o150 : Obj := co [(sv "up" 439), (sv "Layout.up" 440), (sv "/claim/cut.py" 441), (.int 83 0), (.int 2 0), (.int 0 0), (.int 0 0), (.int 3 0), (.ref 145), (.bool true), (.int 181 0), (.ref 146), .none, (.ref 147), (.ref 148), (.ref 149), (.int 444 0), (.int 83 0), (sv "/claim/cut.py" 445)]
noncomputable def o151 : Obj := fnO (sub 27 4) "Layout.up" .none (sv "pipeboard.paging" 337) (.ref 150)
noncomputable def o152 : Obj := tu []
noncomputable def o154 : Obj := tu [(sv "self" 450), (sv "address" 451)]
noncomputable def o155 : Obj := tu []
noncomputable def o157 : Obj := co [(sv "is_begin" 447), (sv "Layout.is_begin" 448), (sv "/claim/cut.py" 449), (.int 86 0), (.int 2 0), (.int 0 0), (.int 0 0), (.int 3 0), (.ref 152), (.bool true), (.int 181 0), (.ref 153), .none, (.ref 154), (.ref 155), (.ref 156), (.int 452 0), (.int 86 0), (sv "/claim/cut.py" 453)]
noncomputable def o158 : Obj := fnO (sub 27 5) "Layout.is_begin" .none (sv "pipeboard.paging" 337) (.ref 157)
noncomputable def o159 : Obj := tu []
noncomputable def o161 : Obj := tu [(sv "self" 458), (sv "begin" 459), (sv "end" 460)]
noncomputable def o162 : Obj := tu []
noncomputable def o164 : Obj := co [(sv "pages_in" 455), (sv "Layout.pages_in" 456), (sv "/claim/cut.py" 457), (.int 89 0), (.int 3 0), (.int 0 0), (.int 0 0), (.int 3 0), (.ref 159), (.bool true), (.int 181 0), (.ref 160), .none, (.ref 161), (.ref 162), (.ref 163), (.int 461 0), (.int 89 0), (sv "/claim/cut.py" 462)]
noncomputable def o165 : Obj := fnO (sub 27 6) "Layout.pages_in" .none (sv "pipeboard.paging" 337) (.ref 164)
noncomputable def o166 : Obj := tu []
noncomputable def o168 : Obj := tu [(sv "self" 467), (sv "physical" 468), (sv "flags" 469)]
noncomputable def o169 : Obj := tu []
noncomputable def o171 : Obj := co [(sv "entry" 464), (sv "Layout.entry" 465), (sv "/claim/cut.py" 466), (.int 92 0), (.int 3 0), (.int 0 0), (.int 0 0), (.int 3 0), (.ref 166), (.bool true), (.int 181 0), (.ref 167), .none, (.ref 168), (.ref 169), (.ref 170), (.int 470 0), (.int 92 0), (sv "/claim/cut.py" 471)]
noncomputable def o172 : Obj := fnO (sub 27 7) "Layout.entry" .none (sv "pipeboard.paging" 337) (.ref 171)
noncomputable def o173 : Obj := tu []
noncomputable def o175 : Obj := tu [(sv "self" 476), (sv "entry" 477)]
noncomputable def o176 : Obj := tu []
noncomputable def o178 : Obj := co [(sv "physical" 473), (sv "Layout.physical" 474), (sv "/claim/cut.py" 475), (.int 95 0), (.int 2 0), (.int 0 0), (.int 0 0), (.int 3 0), (.ref 173), (.bool true), (.int 181 0), (.ref 174), .none, (.ref 175), (.ref 176), (.ref 177), (.int 478 0), (.int 95 0), (sv "/claim/cut.py" 479)]
noncomputable def o179 : Obj := fnO (sub 27 8) "Layout.physical" .none (sv "pipeboard.paging" 337) (.ref 178)
noncomputable def o180 : Obj := tu [(sv "end" 481), (sv "entries" 482), (sv "large" 483), (sv "level_bits" 484), (sv "page" 485), (sv "page_bits" 486)]
noncomputable def o181 (P : Params) : Obj := ⟨(.type "dict"), none, .dict #[kv P "__module__" 397 (sv "pipeboard.paging" 337), kv P "__firstlineno__" 401 (.int 59 400), kv P "__init__" 410 (.ref 122), kv P "parts" 419 (.ref 129), kv P "address" 430 (.ref 137), kv P "down" 438 (.ref 144), kv P "up" 446 (.ref 151), kv P "is_begin" 454 (.ref 158), kv P "pages_in" 463 (.ref 165), kv P "entry" 472 (.ref 172), kv P "physical" 480 (.ref 179), kv P "__static_attributes__" 487 (.ref 180), kv P "__dict__" 489 (.ref 183), kv P "__weakref__" 491 (.ref 184), kv P "__doc__" 492 .none] 4, #[]⟩
noncomputable def o182 : Obj := ⟨(.type "type"), none, .cls { name := Str.ofString "Layout", bases := [(.type "object")], mro := [(.ref 182), (.type "object")], ns := 181, qualname := Str.ofString "Layout", subclasses := [] }, #[none, none, (some (sv "Layout" 390)), (some (sv "Layout" 398)), (some (.builtin "object.__new__")), (some (.bool true))]⟩
noncomputable def o183 : Obj := ⟨(.type "getset_descriptor"), none, .fields #[(sv "__dict__" 488), (.ref 182), (.builtin "function.__dict__"), (.builtin "function.__dict__#set")], #[]⟩
noncomputable def o184 : Obj := ⟨(.type "getset_descriptor"), none, .fields #[(sv "__weakref__" 490), (.ref 182), (.builtin "ExceptionGroup.__weakref__"), .none], #[]⟩
noncomputable def o187 : Obj := tu []
noncomputable def o190 : Obj := co [(sv "eight_digits" 495), (sv "eight_digits" 496), (sv "/claim/cut.py" 497), (.int 97 0), (.int 1 0), (.int 0 0), (.int 0 0), (.int 3 0), (.ref 187), (.bool true), (.int 181 0), (.ref 188), .none, .none, .none, (.ref 189), (.int 498 0), (.int 97 0), (sv "/claim/cut.py" 499)]
noncomputable def o191 : Obj := fnO (st 28) "eight_digits" .none (sv "pipeboard.paging" 337) (.ref 190)
noncomputable def o192 : Obj := tu []
noncomputable def o194 : Obj := tu [(sv "entry" 504)]
noncomputable def o195 : Obj := tu []
noncomputable def o197 : Obj := co [(sv "is_leaf" 501), (sv "is_leaf" 502), (sv "/claim/cut.py" 503), (.int 99 0), (.int 1 0), (.int 0 0), (.int 0 0), (.int 3 0), (.ref 192), (.bool true), (.int 181 0), (.ref 193), .none, (.ref 194), (.ref 195), (.ref 196), (.int 505 0), (.int 99 0), (sv "/claim/cut.py" 506)]
noncomputable def o198 : Obj := fnO (st 29) "is_leaf" .none (sv "pipeboard.paging" 337) (.ref 197)
noncomputable def o199 : Obj := tu []
noncomputable def o201 : Obj := tu [(sv "entry" 511)]
noncomputable def o202 : Obj := tu []
noncomputable def o204 : Obj := co [(sv "is_sound" 508), (sv "is_sound" 509), (sv "/claim/cut.py" 510), (.int 101 0), (.int 1 0), (.int 0 0), (.int 0 0), (.int 3 0), (.ref 199), (.bool true), (.int 181 0), (.ref 200), .none, (.ref 201), (.ref 202), (.ref 203), (.int 512 0), (.int 101 0), (sv "/claim/cut.py" 513)]
noncomputable def o205 : Obj := fnO (st 30) "is_sound" .none (sv "pipeboard.paging" 337) (.ref 204)
noncomputable def o206 : Obj := tu []
noncomputable def o208 : Obj := tu [(sv "entry" 518), (sv "kind" 519), (sv "mode" 520), (sv "sum_bit" 521), (sv "mxr" 522)]
noncomputable def o209 : Obj := tu []
noncomputable def o211 : Obj := co [(sv "may" 515), (sv "may" 516), (sv "/claim/cut.py" 517), (.int 103 0), (.int 5 0), (.int 0 0), (.int 0 0), (.int 3 0), (.ref 206), (.bool true), (.int 181 0), (.ref 207), .none, (.ref 208), (.ref 209), (.ref 210), (.int 523 0), (.int 103 0), (sv "/claim/cut.py" 524)]
noncomputable def o212 : Obj := fnO (st 31) "may" .none (sv "pipeboard.paging" 337) (.ref 211)
noncomputable def o220 : Obj := tu []
noncomputable def o222 : Obj := tu [(sv "self" 541), (sv "bus" 542), (sv "layout" 543)]
noncomputable def o223 : Obj := tu []
noncomputable def o225 : Obj := co [(sv "__init__" 538), (sv "Walker.__init__" 539), (sv "/claim/cut.py" 540), (.int 115 0), (.int 3 0), (.int 0 0), (.int 0 0), (.int 3 0), (.ref 220), (.bool true), (.int 181 0), (.ref 221), .none, (.ref 222), (.ref 223), (.ref 224), (.int 544 0), (.int 115 0), (sv "/claim/cut.py" 545)]
noncomputable def o226 : Obj := fnO (sub 32 0) "Walker.__init__" .none (sv "pipeboard.paging" 337) (.ref 225)
noncomputable def o227 : Obj := tu [(.int 0 547), (.int 0 548)]
noncomputable def o228 : Obj := tu []
noncomputable def o230 : Obj := tu [(sv "self" 552), (sv "root" 553), (sv "address" 554), (sv "kind" 555), (sv "mode" 556), (sv "sum_bit" 557), (sv "mxr" 558), (sv "parts" 559), (sv "place" 560), (sv "entry" 561)]
noncomputable def o231 : Obj := tu []
noncomputable def o233 : Obj := co [(sv "translate" 549), (sv "Walker.translate" 550), (sv "/claim/cut.py" 551), (.int 119 0), (.int 7 0), (.int 0 0), (.int 0 0), (.int 3 0), (.ref 228), (.bool true), (.int 181 0), (.ref 229), .none, (.ref 230), (.ref 231), (.ref 232), (.int 562 0), (.int 119 0), (sv "/claim/cut.py" 563)]
noncomputable def o234 : Obj := fnO (sub 32 1) "Walker.translate" (.ref 227) (sv "pipeboard.paging" 337) (.ref 233)
noncomputable def o235 : Obj := tu []
noncomputable def o237 : Obj := tu [(sv "self" 568), (sv "place" 569), (sv "address" 570), (sv "kind" 571), (sv "entry" 572)]
noncomputable def o238 : Obj := tu []
noncomputable def o240 : Obj := co [(sv "entry_at" 565), (sv "Walker.entry_at" 566), (sv "/claim/cut.py" 567), (.int 134 0), (.int 4 0), (.int 0 0), (.int 0 0), (.int 3 0), (.ref 235), (.bool true), (.int 181 0), (.ref 236), .none, (.ref 237), (.ref 238), (.ref 239), (.int 573 0), (.int 134 0), (sv "/claim/cut.py" 574)]
noncomputable def o241 : Obj := fnO (sub 32 2) "Walker.entry_at" .none (sv "pipeboard.paging" 337) (.ref 240)
noncomputable def o242 : Obj := tu []
noncomputable def o244 : Obj := tu [(sv "self" 579), (sv "place" 580), (sv "entry" 581), (sv "address" 582), (sv "kind" 583), (sv "mode" 584), (sv "sum_bit" 585), (sv "mxr" 586), (sv "physical" 587)]
noncomputable def o245 : Obj := tu []
noncomputable def o247 : Obj := co [(sv "large_page" 576), (sv "Walker.large_page" 577), (sv "/claim/cut.py" 578), (.int 143 0), (.int 8 0), (.int 0 0), (.int 0 0), (.int 3 0), (.ref 242), (.bool true), (.int 181 0), (.ref 243), .none, (.ref 244), (.ref 245), (.ref 246), (.int 588 0), (.int 143 0), (sv "/claim/cut.py" 589)]
noncomputable def o248 : Obj := fnO (sub 32 3) "Walker.large_page" .none (sv "pipeboard.paging" 337) (.ref 247)
noncomputable def o249 : Obj := tu []
noncomputable def o251 : Obj := tu [(sv "self" 594), (sv "place" 595), (sv "entry" 596), (sv "address" 597), (sv "kind" 598), (sv "due" 599)]
noncomputable def o252 : Obj := tu []
noncomputable def o254 : Obj := co [(sv "mark" 591), (sv "Walker.mark" 592), (sv "/claim/cut.py" 593), (.int 150 0), (.int 5 0), (.int 0 0), (.int 0 0), (.int 3 0), (.ref 249), (.bool true), (.int 181 0), (.ref 250), .none, (.ref 251), (.ref 252), (.ref 253), (.int 600 0), (.int 150 0), (sv "/claim/cut.py" 601)]
noncomputable def o255 : Obj := fnO (sub 32 4) "Walker.mark" .none (sv "pipeboard.paging" 337) (.ref 254)
noncomputable def o256 : Obj := tu [(.int 0 603), (.int 0 604)]
noncomputable def o257 : Obj := tu []
noncomputable def o259 : Obj := tu [(sv "self" 608), (sv "root" 609), (sv "address" 610), (sv "kind" 611), (sv "mode" 612), (sv "sum_bit" 613), (sv "mxr" 614)]
noncomputable def o260 : Obj := tu []
noncomputable def o262 : Obj := co [(sv "probe" 605), (sv "Walker.probe" 606), (sv "/claim/cut.py" 607), (.int 158 0), (.int 7 0), (.int 0 0), (.int 0 0), (.int 3 0), (.ref 257), (.bool true), (.int 181 0), (.ref 258), .none, (.ref 259), (.ref 260), (.ref 261), (.int 615 0), (.int 158 0), (sv "/claim/cut.py" 616)]
noncomputable def o263 : Obj := fnO (sub 32 5) "Walker.probe" (.ref 256) (sv "pipeboard.paging" 337) (.ref 262)
noncomputable def o264 : Obj := tu [(sv "bus" 618), (sv "layout" 619)]
noncomputable def o265 (P : Params) : Obj := ⟨(.type "dict"), none, .dict #[kv P "__module__" 533 (sv "pipeboard.paging" 337), kv P "__firstlineno__" 537 (.int 113 536), kv P "__init__" 546 (.ref 226), kv P "translate" 564 (.ref 234), kv P "entry_at" 575 (.ref 241), kv P "large_page" 590 (.ref 248), kv P "mark" 602 (.ref 255), kv P "probe" 617 (.ref 263), kv P "__static_attributes__" 620 (.ref 264), kv P "__dict__" 622 (.ref 267), kv P "__weakref__" 624 (.ref 268), kv P "__doc__" 625 .none] 4, #[]⟩
noncomputable def o266 : Obj := ⟨(.type "type"), none, .cls { name := Str.ofString "Walker", bases := [(.type "object")], mro := [(.ref 266), (.type "object")], ns := 265, qualname := Str.ofString "Walker", subclasses := [] }, #[none, none, (some (sv "Walker" 526)), (some (sv "Walker" 534)), (some (.builtin "object.__new__")), (some (.bool true))]⟩
noncomputable def o267 : Obj := ⟨(.type "getset_descriptor"), none, .fields #[(sv "__dict__" 621), (.ref 266), (.builtin "function.__dict__"), (.builtin "function.__dict__#set")], #[]⟩
noncomputable def o268 : Obj := ⟨(.type "getset_descriptor"), none, .fields #[(sv "__weakref__" 623), (.ref 266), (.builtin "ExceptionGroup.__weakref__"), .none], #[]⟩
noncomputable def o278 : Obj := tu []
noncomputable def o280 : Obj := tu [(sv "self" 643), (sv "memory" 644), (sv "layout" 645), (sv "pages" 646)]
noncomputable def o281 : Obj := tu []
noncomputable def o283 : Obj := co [(sv "__init__" 640), (sv "Tables.__init__" 641), (sv "/claim/cut.py" 642), (.int 162 0), (.int 4 0), (.int 0 0), (.int 0 0), (.int 3 0), (.ref 278), (.bool true), (.int 181 0), (.ref 279), .none, (.ref 280), (.ref 281), (.ref 282), (.int 647 0), (.int 162 0), (sv "/claim/cut.py" 648)]
noncomputable def o284 : Obj := fnO (sub 33 0) "Tables.__init__" .none (sv "pipeboard.paging" 337) (.ref 283)
noncomputable def o285 : Obj := tu []
noncomputable def o287 : Obj := tu [(sv "self" 653), (sv "page" 654)]
noncomputable def o288 : Obj := tu []
noncomputable def o290 : Obj := co [(sv "new_table" 650), (sv "Tables.new_table" 651), (sv "/claim/cut.py" 652), (.int 167 0), (.int 1 0), (.int 0 0), (.int 0 0), (.int 3 0), (.ref 285), (.bool true), (.int 181 0), (.ref 286), .none, (.ref 287), (.ref 288), (.ref 289), (.int 655 0), (.int 167 0), (sv "/claim/cut.py" 656)]
noncomputable def o291 : Obj := fnO (sub 33 1) "Tables.new_table" .none (sv "pipeboard.paging" 337) (.ref 290)
noncomputable def o292 : Obj := tu []
noncomputable def o294 : Obj := tu [(sv "self" 661), (sv "address" 662), (sv "parts" 663)]
noncomputable def o295 : Obj := tu []
noncomputable def o297 : Obj := co [(sv "need_parts" 658), (sv "Tables.need_parts" 659), (sv "/claim/cut.py" 660), (.int 172 0), (.int 2 0), (.int 0 0), (.int 0 0), (.int 3 0), (.ref 292), (.bool true), (.int 181 0), (.ref 293), .none, (.ref 294), (.ref 295), (.ref 296), (.int 664 0), (.int 172 0), (sv "/claim/cut.py" 665)]
noncomputable def o298 : Obj := fnO (sub 33 2) "Tables.need_parts" .none (sv "pipeboard.paging" 337) (.ref 297)
noncomputable def o299 : Obj := tu [(.bool false)]
noncomputable def o300 : Obj := tu []
noncomputable def o302 : Obj := tu [(sv "self" 670), (sv "root" 671), (sv "address" 672), (sv "make" 673), (sv "first" 674), (sv "second" 675), (sv "offset" 676), (sv "place" 677), (sv "entry" 678)]
noncomputable def o303 : Obj := tu []
noncomputable def o305 : Obj := co [(sv "walk" 667), (sv "Tables.walk" 668), (sv "/claim/cut.py" 669), (.int 178 0), (.int 4 0), (.int 0 0), (.int 0 0), (.int 3 0), (.ref 300), (.bool true), (.int 181 0), (.ref 301), .none, (.ref 302), (.ref 303), (.ref 304), (.int 679 0), (.int 178 0), (sv "/claim/cut.py" 680)]
noncomputable def o306 : Obj := fnO (sub 33 3) "Tables.walk" (.ref 299) (sv "pipeboard.paging" 337) (.ref 305)
noncomputable def o307 : Obj := tu []
noncomputable def o309 : Obj := tu [(sv "self" 685), (sv "root" 686), (sv "address" 687), (sv "first" 688), (sv "second" 689), (sv "offset" 690), (sv "entry" 691)]
noncomputable def o310 : Obj := tu []
noncomputable def o312 : Obj := co [(sv "entry" 682), (sv "Tables.entry" 683), (sv "/claim/cut.py" 684), (.int 191 0), (.int 3 0), (.int 0 0), (.int 0 0), (.int 3 0), (.ref 307), (.bool true), (.int 181 0), (.ref 308), .none, (.ref 309), (.ref 310), (.ref 311), (.int 692 0), (.int 191 0), (sv "/claim/cut.py" 693)]
noncomputable def o313 : Obj := fnO (sub 33 4) "Tables.entry" .none (sv "pipeboard.paging" 337) (.ref 312)
noncomputable def o314 : Obj := tu []
noncomputable def o316 : Obj := tu [(sv "self" 698), (sv "root" 699), (sv "address" 700), (sv "first" 701), (sv "second" 702), (sv "offset" 703), (sv "entry" 704)]
noncomputable def o317 : Obj := tu []
noncomputable def o319 : Obj := co [(sv "physical" 695), (sv "Tables.physical" 696), (sv "/claim/cut.py" 697), (.int 199 0), (.int 3 0), (.int 0 0), (.int 0 0), (.int 3 0), (.ref 314), (.bool true), (.int 181 0), (.ref 315), .none, (.ref 316), (.ref 317), (.ref 318), (.int 705 0), (.int 199 0), (sv "/claim/cut.py" 706)]
noncomputable def o320 : Obj := fnO (sub 33 5) "Tables.physical" .none (sv "pipeboard.paging" 337) (.ref 319)
noncomputable def o321 : Obj := tu []
noncomputable def o323 : Obj := tu [(sv "self" 711), (sv "flags" 712)]
noncomputable def o324 : Obj := tu []
noncomputable def o326 : Obj := co [(sv "need_flags" 708), (sv "Tables.need_flags" 709), (sv "/claim/cut.py" 710), (.int 208 0), (.int 2 0), (.int 0 0), (.int 0 0), (.int 3 0), (.ref 321), (.bool true), (.int 181 0), (.ref 322), .none, (.ref 323), (.ref 324), (.ref 325), (.int 713 0), (.int 208 0), (sv "/claim/cut.py" 714)]
noncomputable def o327 : Obj := fnO (sub 33 6) "Tables.need_flags" .none (sv "pipeboard.paging" 337) (.ref 326)
noncomputable def o328 : Obj := tu []
noncomputable def o330 : Obj := tu [(sv "self" 719), (sv "root" 720), (sv "address" 721), (sv "physical" 722), (sv "flags" 723)]
noncomputable def o331 : Obj := tu []
noncomputable def o333 : Obj := co [(sv "map" 716), (sv "Tables.map" 717), (sv "/claim/cut.py" 718), (.int 212 0), (.int 5 0), (.int 0 0), (.int 0 0), (.int 3 0), (.ref 328), (.bool true), (.int 181 0), (.ref 329), .none, (.ref 330), (.ref 331), (.ref 332), (.int 724 0), (.int 212 0), (sv "/claim/cut.py" 725)]
noncomputable def o334 : Obj := fnO (sub 33 7) "Tables.map" .none (sv "pipeboard.paging" 337) (.ref 333)
noncomputable def o335 : Obj := tu []
noncomputable def o337 : Obj := tu [(sv "self" 730), (sv "root" 731), (sv "address" 732), (sv "physical" 733), (sv "flags" 734)]
noncomputable def o338 : Obj := tu []
noncomputable def o340 : Obj := co [(sv "map_large" 727), (sv "Tables.map_large" 728), (sv "/claim/cut.py" 729), (.int 220 0), (.int 5 0), (.int 0 0), (.int 0 0), (.int 3 0), (.ref 335), (.bool true), (.int 181 0), (.ref 336), .none, (.ref 337), (.ref 338), (.ref 339), (.int 735 0), (.int 220 0), (sv "/claim/cut.py" 736)]
noncomputable def o341 : Obj := fnO (sub 33 8) "Tables.map_large" .none (sv "pipeboard.paging" 337) (.ref 340)
noncomputable def o342 : Obj := tu []
noncomputable def o344 : Obj := tu [(sv "self" 741), (sv "root" 742), (sv "address" 743), (sv "place" 744)]
noncomputable def o345 : Obj := tu []
noncomputable def o347 : Obj := co [(sv "need_place" 738), (sv "Tables.need_place" 739), (sv "/claim/cut.py" 740), (.int 223 0), (.int 3 0), (.int 0 0), (.int 0 0), (.int 3 0), (.ref 342), (.bool true), (.int 181 0), (.ref 343), .none, (.ref 344), (.ref 345), (.ref 346), (.int 745 0), (.int 223 0), (sv "/claim/cut.py" 746)]
noncomputable def o348 : Obj := fnO (sub 33 9) "Tables.need_place" .none (sv "pipeboard.paging" 337) (.ref 347)
noncomputable def o349 : Obj := tu []
noncomputable def o351 : Obj := tu [(sv "self" 751), (sv "root" 752), (sv "address" 753), (sv "place" 754), (sv "found" 755)]
noncomputable def o352 : Obj := tu []
noncomputable def o354 : Obj := co [(sv "unmap" 748), (sv "Tables.unmap" 749), (sv "/claim/cut.py" 750), (.int 229 0), (.int 3 0), (.int 0 0), (.int 0 0), (.int 3 0), (.ref 349), (.bool true), (.int 181 0), (.ref 350), .none, (.ref 351), (.ref 352), (.ref 353), (.int 756 0), (.int 229 0), (sv "/claim/cut.py" 757)]
noncomputable def o355 : Obj := fnO (sub 33 10) "Tables.unmap" .none (sv "pipeboard.paging" 337) (.ref 354)
noncomputable def o356 : Obj := tu [(.int 0 759)]
noncomputable def o357 : Obj := tu []
noncomputable def o359 : Obj := tu [(sv "self" 763), (sv "root" 764), (sv "address" 765), (sv "add" 766), (sv "take" 767), (sv "place" 768), (sv "entry" 769)]
noncomputable def o360 : Obj := tu []
noncomputable def o362 : Obj := co [(sv "change" 760), (sv "Tables.change" 761), (sv "/claim/cut.py" 762), (.int 235 0), (.int 5 0), (.int 0 0), (.int 0 0), (.int 3 0), (.ref 357), (.bool true), (.int 181 0), (.ref 358), .none, (.ref 359), (.ref 360), (.ref 361), (.int 770 0), (.int 235 0), (sv "/claim/cut.py" 771)]
noncomputable def o363 : Obj := fnO (sub 33 11) "Tables.change" (.ref 356) (sv "pipeboard.paging" 337) (.ref 362)
noncomputable def o364 : Obj := tu []
noncomputable def o366 : Obj := tu [(sv "self" 776), (sv "root" 777), (sv "address" 778), (sv "physical" 779), (sv "flags" 780), (sv "place" 781), (sv "found" 782)]
noncomputable def o367 : Obj := tu []
noncomputable def o369 : Obj := co [(sv "move" 773), (sv "Tables.move" 774), (sv "/claim/cut.py" 775), (.int 242 0), (.int 5 0), (.int 0 0), (.int 0 0), (.int 3 0), (.ref 364), (.bool true), (.int 181 0), (.ref 365), .none, (.ref 366), (.ref 367), (.ref 368), (.int 783 0), (.int 242 0), (sv "/claim/cut.py" 784)]
noncomputable def o370 : Obj := fnO (sub 33 12) "Tables.move" .none (sv "pipeboard.paging" 337) (.ref 369)
noncomputable def o371 : Obj := tu []
noncomputable def o373 : Obj := tu [(sv "self" 789), (sv "root" 790), (sv "found" 791), (sv "first" 792), (sv "entry" 793)]
noncomputable def o374 : Obj := tu []
noncomputable def o376 : Obj := co [(sv "tables_of" 786), (sv "Tables.tables_of" 787), (sv "/claim/cut.py" 788), (.int 251 0), (.int 2 0), (.int 0 0), (.int 0 0), (.int 3 0), (.ref 371), (.bool true), (.int 181 0), (.ref 372), .none, (.ref 373), (.ref 374), (.ref 375), (.int 794 0), (.int 251 0), (sv "/claim/cut.py" 795)]
noncomputable def o377 : Obj := fnO (sub 33 13) "Tables.tables_of" .none (sv "pipeboard.paging" 337) (.ref 376)
noncomputable def o378 : Obj := tu []
noncomputable def o380 : Obj := tu [(sv "self" 800), (sv "root" 801), (sv "found" 802), (sv "first" 803), (sv "entry" 804), (sv "row" 805)]
noncomputable def o381 : Obj := tu []
noncomputable def o383 : Obj := co [(sv "rows" 797), (sv "Tables.rows" 798), (sv "/claim/cut.py" 799), (.int 259 0), (.int 2 0), (.int 0 0), (.int 0 0), (.int 3 0), (.ref 378), (.bool true), (.int 181 0), (.ref 379), .none, (.ref 380), (.ref 381), (.ref 382), (.int 806 0), (.int 259 0), (sv "/claim/cut.py" 807)]
noncomputable def o384 : Obj := fnO (sub 33 14) "Tables.rows" .none (sv "pipeboard.paging" 337) (.ref 383)
noncomputable def o385 : Obj := tu []
noncomputable def o387 : Obj := tu [(sv "self" 812), (sv "table" 813), (sv "first" 814), (sv "found" 815), (sv "second" 816), (sv "entry" 817), (sv "address" 818)]
noncomputable def o388 : Obj := tu []
noncomputable def o390 : Obj := co [(sv "rows_of" 809), (sv "Tables.rows_of" 810), (sv "/claim/cut.py" 811), (.int 272 0), (.int 3 0), (.int 0 0), (.int 0 0), (.int 3 0), (.ref 385), (.bool true), (.int 181 0), (.ref 386), .none, (.ref 387), (.ref 388), (.ref 389), (.int 819 0), (.int 272 0), (sv "/claim/cut.py" 820)]
noncomputable def o391 : Obj := fnO (sub 33 15) "Tables.rows_of" .none (sv "pipeboard.paging" 337) (.ref 390)
noncomputable def o392 : Obj := tu []
noncomputable def o394 : Obj := tu [(sv "self" 825), (sv "root" 826)]
noncomputable def o395 : Obj := tu []
noncomputable def o397 : Obj := co [(sv "prune" 822), (sv "Tables.prune" 823), (sv "/claim/cut.py" 824), (.int 281 0), (.int 2 0), (.int 0 0), (.int 0 0), (.int 3 0), (.ref 392), (.bool true), (.int 181 0), (.ref 393), .none, (.ref 394), (.ref 395), (.ref 396), (.int 827 0), (.int 281 0), (sv "/claim/cut.py" 828)]
noncomputable def o398 : Obj := fnO (sub 33 16) "Tables.prune" .none (sv "pipeboard.paging" 337) (.ref 397)
noncomputable def o399 : Obj := tu []
noncomputable def o402 : Obj := co [(sv "leaves" 830), (sv "Tables.leaves" 831), (sv "/claim/cut.py" 832), (.int 284 0), (.int 2 0), (.int 0 0), (.int 0 0), (.int 3 0), (.ref 399), (.bool true), (.int 181 0), (.ref 400), .none, .none, .none, (.ref 401), (.int 833 0), (.int 284 0), (sv "/claim/cut.py" 834)]
noncomputable def o403 : Obj := fnO (sub 33 17) "Tables.leaves" .none (sv "pipeboard.paging" 337) (.ref 402)
noncomputable def o404 : Obj := tu []
noncomputable def o406 : Obj := tu [(sv "self" 839), (sv "root" 840), (sv "first" 841), (sv "table" 842)]
noncomputable def o407 : Obj := tu []
noncomputable def o409 : Obj := co [(sv "free" 836), (sv "Tables.free" 837), (sv "/claim/cut.py" 838), (.int 298 0), (.int 2 0), (.int 0 0), (.int 0 0), (.int 3 0), (.ref 404), (.bool true), (.int 181 0), (.ref 405), .none, (.ref 406), (.ref 407), (.ref 408), (.int 843 0), (.int 298 0), (sv "/claim/cut.py" 844)]
noncomputable def o410 : Obj := fnO (sub 33 18) "Tables.free" .none (sv "pipeboard.paging" 337) (.ref 409)
noncomputable def o411 : Obj := tu []
noncomputable def o414 : Obj := co [(sv "text" 846), (sv "Tables.text" 847), (sv "/claim/cut.py" 848), (.int 303 0), (.int 2 0), (.int 0 0), (.int 0 0), (.int 3 0), (.ref 411), (.bool true), (.int 181 0), (.ref 412), .none, .none, .none, (.ref 413), (.int 849 0), (.int 303 0), (sv "/claim/cut.py" 850)]
noncomputable def o415 : Obj := fnO (sub 33 19) "Tables.text" .none (sv "pipeboard.paging" 337) (.ref 414)
noncomputable def o416 : Obj := tu [(sv "layout" 852), (sv "memory" 853), (sv "pages" 854)]
noncomputable def o417 (P : Params) : Obj := ⟨(.type "dict"), none, .dict #[kv P "__module__" 635 (sv "pipeboard.paging" 337), kv P "__firstlineno__" 639 (.int 160 638), kv P "__init__" 649 (.ref 284), kv P "new_table" 657 (.ref 291), kv P "need_parts" 666 (.ref 298), kv P "walk" 681 (.ref 306), kv P "entry" 694 (.ref 313), kv P "physical" 707 (.ref 320), kv P "need_flags" 715 (.ref 327), kv P "map" 726 (.ref 334), kv P "map_large" 737 (.ref 341), kv P "need_place" 747 (.ref 348), kv P "unmap" 758 (.ref 355), kv P "change" 772 (.ref 363), kv P "move" 785 (.ref 370), kv P "tables_of" 796 (.ref 377), kv P "rows" 808 (.ref 384), kv P "rows_of" 821 (.ref 391), kv P "prune" 829 (.ref 398), kv P "leaves" 835 (.ref 403), kv P "free" 845 (.ref 410), kv P "text" 851 (.ref 415), kv P "__static_attributes__" 855 (.ref 416), kv P "__dict__" 857 (.ref 419), kv P "__weakref__" 859 (.ref 420), kv P "__doc__" 860 .none] 4, #[]⟩
noncomputable def o418 : Obj := ⟨(.type "type"), none, .cls { name := Str.ofString "Tables", bases := [(.type "object")], mro := [(.ref 418), (.type "object")], ns := 417, qualname := Str.ofString "Tables", subclasses := [] }, #[none, none, (some (sv "Tables" 628)), (some (sv "Tables" 636)), (some (.builtin "object.__new__")), (some (.bool true))]⟩
noncomputable def o419 : Obj := ⟨(.type "getset_descriptor"), none, .fields #[(sv "__dict__" 856), (.ref 418), (.builtin "function.__dict__"), (.builtin "function.__dict__#set")], #[]⟩
noncomputable def o420 : Obj := ⟨(.type "getset_descriptor"), none, .fields #[(sv "__weakref__" 858), (.ref 418), (.builtin "ExceptionGroup.__weakref__"), .none], #[]⟩
noncomputable def o423 : Obj := tu [(.int 1 877), (.int 2 878), (.int 4 879)]
noncomputable def o424 : Obj := tu []
noncomputable def o426 : Obj := tu [(sv "size" 884)]
noncomputable def o427 : Obj := tu []
noncomputable def o429 : Obj := co [(sv "need_size" 881), (sv "need_size" 882), (sv "/claim/cut.py" 883), (.int 315 0), (.int 1 0), (.int 0 0), (.int 0 0), (.int 3 0), (.ref 424), (.bool true), (.int 181 0), (.ref 425), .none, (.ref 426), (.ref 427), (.ref 428), (.int 885 0), (.int 315 0), (sv "/claim/cut.py" 886)]
noncomputable def o430 : Obj := fnO (st 39) "need_size" .none (sv "pipeboard.memory" 863) (.ref 429)
noncomputable def o431 : Obj := tu []
noncomputable def o433 : Obj := tu [(sv "begin" 891), (sv "end" 892)]
noncomputable def o434 : Obj := tu []
noncomputable def o436 : Obj := co [(sv "need_stretch" 888), (sv "need_stretch" 889), (sv "/claim/cut.py" 890), (.int 318 0), (.int 2 0), (.int 0 0), (.int 0 0), (.int 3 0), (.ref 431), (.bool true), (.int 181 0), (.ref 432), .none, (.ref 433), (.ref 434), (.ref 435), (.int 893 0), (.int 318 0), (sv "/claim/cut.py" 894)]
noncomputable def o437 : Obj := fnO (st 40) "need_stretch" .none (sv "pipeboard.memory" 863) (.ref 436)
noncomputable def o445 : Obj := tu [(.int 0 908)]
noncomputable def o446 : Obj := tu []
noncomputable def o448 : Obj := tu [(sv "self" 912), (sv "size" 913), (sv "begin" 914)]
noncomputable def o449 : Obj := tu []
noncomputable def o451 : Obj := co [(sv "__init__" 909), (sv "Memory.__init__" 910), (sv "/claim/cut.py" 911), (.int 323 0), (.int 3 0), (.int 0 0), (.int 0 0), (.int 3 0), (.ref 446), (.bool true), (.int 181 0), (.ref 447), .none, (.ref 448), (.ref 449), (.ref 450), (.int 915 0), (.int 323 0), (sv "/claim/cut.py" 916)]
noncomputable def o452 : Obj := fnO (sub 41 0) "Memory.__init__" (.ref 445) (sv "pipeboard.memory" 863) (.ref 451)
noncomputable def o453 : Obj := tu []
noncomputable def o455 : Obj := tu [(sv "self" 921), (sv "address" 922), (sv "count" 923)]
noncomputable def o456 : Obj := tu []
noncomputable def o458 : Obj := co [(sv "holds" 918), (sv "Memory.holds" 919), (sv "/claim/cut.py" 920), (.int 330 0), (.int 3 0), (.int 0 0), (.int 0 0), (.int 3 0), (.ref 453), (.bool true), (.int 181 0), (.ref 454), .none, (.ref 455), (.ref 456), (.ref 457), (.int 924 0), (.int 330 0), (sv "/claim/cut.py" 925)]
noncomputable def o459 : Obj := fnO (sub 41 1) "Memory.holds" .none (sv "pipeboard.memory" 863) (.ref 458)
noncomputable def o460 : Obj := tu []
noncomputable def o462 : Obj := tu [(sv "self" 930), (sv "address" 931), (sv "count" 932)]
noncomputable def o463 : Obj := tu []
noncomputable def o465 : Obj := co [(sv "need" 927), (sv "Memory.need" 928), (sv "/claim/cut.py" 929), (.int 333 0), (.int 3 0), (.int 0 0), (.int 0 0), (.int 3 0), (.ref 460), (.bool true), (.int 181 0), (.ref 461), .none, (.ref 462), (.ref 463), (.ref 464), (.int 933 0), (.int 333 0), (sv "/claim/cut.py" 934)]
noncomputable def o466 : Obj := fnO (sub 41 2) "Memory.need" .none (sv "pipeboard.memory" 863) (.ref 465)
noncomputable def o467 : Obj := tu []
noncomputable def o469 : Obj := tu [(sv "self" 939), (sv "address" 940), (sv "size" 941)]
noncomputable def o470 : Obj := tu []
noncomputable def o472 : Obj := co [(sv "need_aligned" 936), (sv "Memory.need_aligned" 937), (sv "/claim/cut.py" 938), (.int 337 0), (.int 3 0), (.int 0 0), (.int 0 0), (.int 3 0), (.ref 467), (.bool true), (.int 181 0), (.ref 468), .none, (.ref 469), (.ref 470), (.ref 471), (.int 942 0), (.int 337 0), (sv "/claim/cut.py" 943)]
noncomputable def o473 : Obj := fnO (sub 41 3) "Memory.need_aligned" .none (sv "pipeboard.memory" 863) (.ref 472)
noncomputable def o474 : Obj := tu []
noncomputable def o476 : Obj := tu [(sv "self" 948), (sv "address" 949)]
noncomputable def o477 : Obj := tu []
noncomputable def o479 : Obj := co [(sv "word" 945), (sv "Memory.word" 946), (sv "/claim/cut.py" 947), (.int 341 0), (.int 2 0), (.int 0 0), (.int 0 0), (.int 3 0), (.ref 474), (.bool true), (.int 181 0), (.ref 475), .none, (.ref 476), (.ref 477), (.ref 478), (.int 950 0), (.int 341 0), (sv "/claim/cut.py" 951)]
noncomputable def o480 : Obj := fnO (sub 41 4) "Memory.word" .none (sv "pipeboard.memory" 863) (.ref 479)
noncomputable def o481 : Obj := tu []
noncomputable def o483 : Obj := tu [(sv "self" 956), (sv "address" 957), (sv "value" 958)]
noncomputable def o484 : Obj := tu []
noncomputable def o486 : Obj := co [(sv "put_word" 953), (sv "Memory.put_word" 954), (sv "/claim/cut.py" 955), (.int 345 0), (.int 3 0), (.int 0 0), (.int 0 0), (.int 3 0), (.ref 481), (.bool true), (.int 181 0), (.ref 482), .none, (.ref 483), (.ref 484), (.ref 485), (.int 959 0), (.int 345 0), (sv "/claim/cut.py" 960)]
noncomputable def o487 : Obj := fnO (sub 41 5) "Memory.put_word" .none (sv "pipeboard.memory" 863) (.ref 486)
noncomputable def o488 : Obj := tu []
noncomputable def o490 : Obj := tu [(sv "self" 965), (sv "index" 966), (sv "value" 967)]
noncomputable def o491 : Obj := tu []
noncomputable def o493 : Obj := co [(sv "keep" 962), (sv "Memory.keep" 963), (sv "/claim/cut.py" 964), (.int 349 0), (.int 3 0), (.int 0 0), (.int 0 0), (.int 3 0), (.ref 488), (.bool true), (.int 181 0), (.ref 489), .none, (.ref 490), (.ref 491), (.ref 492), (.int 968 0), (.int 349 0), (sv "/claim/cut.py" 969)]
noncomputable def o494 : Obj := fnO (sub 41 6) "Memory.keep" .none (sv "pipeboard.memory" 863) (.ref 493)
noncomputable def o495 : Obj := tu []
noncomputable def o497 : Obj := tu [(sv "self" 974), (sv "address" 975)]
noncomputable def o498 : Obj := tu []
noncomputable def o500 : Obj := co [(sv "half" 971), (sv "Memory.half" 972), (sv "/claim/cut.py" 973), (.int 355 0), (.int 2 0), (.int 0 0), (.int 0 0), (.int 3 0), (.ref 495), (.bool true), (.int 181 0), (.ref 496), .none, (.ref 497), (.ref 498), (.ref 499), (.int 976 0), (.int 355 0), (sv "/claim/cut.py" 977)]
noncomputable def o501 : Obj := fnO (sub 41 7) "Memory.half" .none (sv "pipeboard.memory" 863) (.ref 500)
noncomputable def o502 : Obj := tu []
noncomputable def o504 : Obj := tu [(sv "self" 982), (sv "address" 983), (sv "value" 984)]
noncomputable def o505 : Obj := tu []
noncomputable def o507 : Obj := co [(sv "put_half" 979), (sv "Memory.put_half" 980), (sv "/claim/cut.py" 981), (.int 359 0), (.int 3 0), (.int 0 0), (.int 0 0), (.int 3 0), (.ref 502), (.bool true), (.int 181 0), (.ref 503), .none, (.ref 504), (.ref 505), (.ref 506), (.int 985 0), (.int 359 0), (sv "/claim/cut.py" 986)]
noncomputable def o508 : Obj := fnO (sub 41 8) "Memory.put_half" .none (sv "pipeboard.memory" 863) (.ref 507)
noncomputable def o509 : Obj := tu []
noncomputable def o511 : Obj := tu [(sv "self" 991), (sv "address" 992)]
noncomputable def o512 : Obj := tu []
noncomputable def o514 : Obj := co [(sv "octet" 988), (sv "Memory.octet" 989), (sv "/claim/cut.py" 990), (.int 363 0), (.int 2 0), (.int 0 0), (.int 0 0), (.int 3 0), (.ref 509), (.bool true), (.int 181 0), (.ref 510), .none, (.ref 511), (.ref 512), (.ref 513), (.int 993 0), (.int 363 0), (sv "/claim/cut.py" 994)]
noncomputable def o515 : Obj := fnO (sub 41 9) "Memory.octet" .none (sv "pipeboard.memory" 863) (.ref 514)
noncomputable def o516 : Obj := tu []
noncomputable def o518 : Obj := tu [(sv "self" 999), (sv "address" 1000), (sv "value" 1001)]
noncomputable def o519 : Obj := tu []
noncomputable def o521 : Obj := co [(sv "put_octet" 996), (sv "Memory.put_octet" 997), (sv "/claim/cut.py" 998), (.int 367 0), (.int 3 0), (.int 0 0), (.int 0 0), (.int 3 0), (.ref 516), (.bool true), (.int 181 0), (.ref 517), .none, (.ref 518), (.ref 519), (.ref 520), (.int 1002 0), (.int 367 0), (sv "/claim/cut.py" 1003)]
noncomputable def o522 : Obj := fnO (sub 41 10) "Memory.put_octet" .none (sv "pipeboard.memory" 863) (.ref 521)
noncomputable def o523 : Obj := tu []
noncomputable def o525 : Obj := tu [(sv "self" 1008), (sv "address" 1009), (sv "ones" 1010), (sv "value" 1011), (sv "shift" 1012), (sv "old" 1013)]
noncomputable def o526 : Obj := tu []
noncomputable def o528 : Obj := co [(sv "put_part" 1005), (sv "Memory.put_part" 1006), (sv "/claim/cut.py" 1007), (.int 371 0), (.int 4 0), (.int 0 0), (.int 0 0), (.int 3 0), (.ref 523), (.bool true), (.int 181 0), (.ref 524), .none, (.ref 525), (.ref 526), (.ref 527), (.int 1014 0), (.int 371 0), (sv "/claim/cut.py" 1015)]
noncomputable def o529 : Obj := fnO (sub 41 11) "Memory.put_part" .none (sv "pipeboard.memory" 863) (.ref 528)
noncomputable def o530 : Obj := tu []
noncomputable def o532 : Obj := tu [(sv "self" 1020), (sv "address" 1021), (sv "size" 1022)]
noncomputable def o533 : Obj := tu []
noncomputable def o535 : Obj := co [(sv "get" 1017), (sv "Memory.get" 1018), (sv "/claim/cut.py" 1019), (.int 376 0), (.int 3 0), (.int 0 0), (.int 0 0), (.int 3 0), (.ref 530), (.bool true), (.int 181 0), (.ref 531), .none, (.ref 532), (.ref 533), (.ref 534), (.int 1023 0), (.int 376 0), (sv "/claim/cut.py" 1024)]
noncomputable def o536 : Obj := fnO (sub 41 12) "Memory.get" .none (sv "pipeboard.memory" 863) (.ref 535)
noncomputable def o537 : Obj := tu []
noncomputable def o539 : Obj := tu [(sv "self" 1029), (sv "address" 1030), (sv "size" 1031), (sv "value" 1032)]
noncomputable def o540 : Obj := tu []
noncomputable def o542 : Obj := co [(sv "put" 1026), (sv "Memory.put" 1027), (sv "/claim/cut.py" 1028), (.int 384 0), (.int 4 0), (.int 0 0), (.int 0 0), (.int 3 0), (.ref 537), (.bool true), (.int 181 0), (.ref 538), .none, (.ref 539), (.ref 540), (.ref 541), (.int 1033 0), (.int 384 0), (sv "/claim/cut.py" 1034)]
noncomputable def o543 : Obj := fnO (sub 41 13) "Memory.put" .none (sv "pipeboard.memory" 863) (.ref 542)
noncomputable def o544 : Obj := tu []
noncomputable def o546 : Obj := tu [(sv "self" 1039), (sv "address" 1040), (sv "count" 1041), (sv "found" 1042), (sv "place" 1043), (sv "end" 1044), (sv "word" 1045), (sv "turn" 1046)]
noncomputable def o547 : Obj := tu []
noncomputable def o549 : Obj := co [(sv "load" 1036), (sv "Memory.load" 1037), (sv "/claim/cut.py" 1038), (.int 393 0), (.int 3 0), (.int 0 0), (.int 0 0), (.int 3 0), (.ref 544), (.bool true), (.int 181 0), (.ref 545), .none, (.ref 546), (.ref 547), (.ref 548), (.int 1047 0), (.int 393 0), (sv "/claim/cut.py" 1048)]
noncomputable def o550 : Obj := fnO (sub 41 14) "Memory.load" .none (sv "pipeboard.memory" 863) (.ref 549)
noncomputable def o551 : Obj := tu []
noncomputable def o553 : Obj := tu [(sv "self" 1053), (sv "address" 1054), (sv "octets" 1055), (sv "place" 1056), (sv "at" 1057), (sv "end" 1058), (sv "size" 1059), (sv "value" 1060), (sv "octet" 1061)]
noncomputable def o554 : Obj := tu []
noncomputable def o556 : Obj := co [(sv "store" 1050), (sv "Memory.store" 1051), (sv "/claim/cut.py" 1052), (.int 404 0), (.int 3 0), (.int 0 0), (.int 0 0), (.int 3 0), (.ref 551), (.bool true), (.int 181 0), (.ref 552), .none, (.ref 553), (.ref 554), (.ref 555), (.int 1062 0), (.int 404 0), (sv "/claim/cut.py" 1063)]
noncomputable def o557 : Obj := fnO (sub 41 15) "Memory.store" .none (sv "pipeboard.memory" 863) (.ref 556)
noncomputable def o558 : Obj := tu []
noncomputable def o560 : Obj := tu [(sv "self" 1068), (sv "address" 1069), (sv "count" 1070), (sv "place" 1071), (sv "end" 1072), (sv "size" 1073)]
noncomputable def o561 : Obj := tu []
noncomputable def o563 : Obj := co [(sv "zero" 1065), (sv "Memory.zero" 1066), (sv "/claim/cut.py" 1067), (.int 419 0), (.int 3 0), (.int 0 0), (.int 0 0), (.int 3 0), (.ref 558), (.bool true), (.int 181 0), (.ref 559), .none, (.ref 560), (.ref 561), (.ref 562), (.int 1074 0), (.int 419 0), (sv "/claim/cut.py" 1075)]
noncomputable def o564 : Obj := fnO (sub 41 16) "Memory.zero" .none (sv "pipeboard.memory" 863) (.ref 563)
noncomputable def o565 : Obj := tu []
noncomputable def o567 : Obj := tu [(sv "self" 1080), (sv "address" 1081), (sv "count" 1082), (sv "octet" 1083)]
noncomputable def o568 : Obj := tu []
noncomputable def o570 : Obj := co [(sv "fill" 1077), (sv "Memory.fill" 1078), (sv "/claim/cut.py" 1079), (.int 430 0), (.int 4 0), (.int 0 0), (.int 0 0), (.int 3 0), (.ref 565), (.bool true), (.int 181 0), (.ref 566), .none, (.ref 567), (.ref 568), (.ref 569), (.int 1084 0), (.int 430 0), (sv "/claim/cut.py" 1085)]
noncomputable def o571 : Obj := fnO (sub 41 17) "Memory.fill" .none (sv "pipeboard.memory" 863) (.ref 570)
noncomputable def o572 : Obj := tu []
noncomputable def o574 : Obj := tu [(sv "self" 1090), (sv "source" 1091), (sv "target" 1092), (sv "count" 1093)]
noncomputable def o575 : Obj := tu []
noncomputable def o577 : Obj := co [(sv "copy" 1087), (sv "Memory.copy" 1088), (sv "/claim/cut.py" 1089), (.int 437 0), (.int 4 0), (.int 0 0), (.int 0 0), (.int 3 0), (.ref 572), (.bool true), (.int 181 0), (.ref 573), .none, (.ref 574), (.ref 575), (.ref 576), (.int 1094 0), (.int 437 0), (sv "/claim/cut.py" 1095)]
noncomputable def o578 : Obj := fnO (sub 41 18) "Memory.copy" .none (sv "pipeboard.memory" 863) (.ref 577)
noncomputable def o579 : Obj := tu []
noncomputable def o581 : Obj := tu [(sv "self" 1100)]
noncomputable def o582 : Obj := tu []
noncomputable def o584 : Obj := co [(sv "used" 1097), (sv "Memory.used" 1098), (sv "/claim/cut.py" 1099), (.int 440 0), (.int 1 0), (.int 0 0), (.int 0 0), (.int 3 0), (.ref 579), (.bool true), (.int 181 0), (.ref 580), .none, (.ref 581), (.ref 582), (.ref 583), (.int 1101 0), (.int 440 0), (sv "/claim/cut.py" 1102)]
noncomputable def o585 : Obj := fnO (sub 41 19) "Memory.used" .none (sv "pipeboard.memory" 863) (.ref 584)
noncomputable def o586 : Obj := tu []
noncomputable def o589 : Obj := co [(sv "rows" 1104), (sv "Memory.rows" 1105), (sv "/claim/cut.py" 1106), (.int 443 0), (.int 1 0), (.int 0 0), (.int 0 0), (.int 3 0), (.ref 586), (.bool true), (.int 181 0), (.ref 587), .none, .none, .none, (.ref 588), (.int 1107 0), (.int 443 0), (sv "/claim/cut.py" 1108)]
noncomputable def o590 : Obj := fnO (sub 41 20) "Memory.rows" .none (sv "pipeboard.memory" 863) (.ref 589)
noncomputable def o591 : Obj := tu []
noncomputable def o593 : Obj := tu [(sv "self" 1113)]
noncomputable def o594 : Obj := tu []
noncomputable def o596 : Obj := co [(sv "twin" 1110), (sv "Memory.twin" 1111), (sv "/claim/cut.py" 1112), (.int 446 0), (.int 1 0), (.int 0 0), (.int 0 0), (.int 3 0), (.ref 591), (.bool true), (.int 181 0), (.ref 592), .none, (.ref 593), (.ref 594), (.ref 595), (.int 1114 0), (.int 446 0), (sv "/claim/cut.py" 1115)]
noncomputable def o597 : Obj := fnO (sub 41 21) "Memory.twin" .none (sv "pipeboard.memory" 863) (.ref 596)
noncomputable def o598 : Obj := tu []
noncomputable def o600 : Obj := tu [(sv "self" 1120), (sv "other" 1121)]
noncomputable def o601 : Obj := tu []
noncomputable def o603 : Obj := co [(sv "alike" 1117), (sv "Memory.alike" 1118), (sv "/claim/cut.py" 1119), (.int 449 0), (.int 2 0), (.int 0 0), (.int 0 0), (.int 3 0), (.ref 598), (.bool true), (.int 181 0), (.ref 599), .none, (.ref 600), (.ref 601), (.ref 602), (.int 1122 0), (.int 449 0), (sv "/claim/cut.py" 1123)]
noncomputable def o604 : Obj := fnO (sub 41 22) "Memory.alike" .none (sv "pipeboard.memory" 863) (.ref 603)
noncomputable def o605 : Obj := tu [(sv "begin" 1125), (sv "end" 1126), (sv "size" 1127), (sv "words" 1128)]
noncomputable def o606 (P : Params) : Obj := ⟨(.type "dict"), none, .dict #[kv P "__module__" 903 (sv "pipeboard.memory" 863), kv P "__firstlineno__" 907 (.int 321 906), kv P "__init__" 917 (.ref 452), kv P "holds" 926 (.ref 459), kv P "need" 935 (.ref 466), kv P "need_aligned" 944 (.ref 473), kv P "word" 952 (.ref 480), kv P "put_word" 961 (.ref 487), kv P "keep" 970 (.ref 494), kv P "half" 978 (.ref 501), kv P "put_half" 987 (.ref 508), kv P "octet" 995 (.ref 515), kv P "put_octet" 1004 (.ref 522), kv P "put_part" 1016 (.ref 529), kv P "get" 1025 (.ref 536), kv P "put" 1035 (.ref 543), kv P "load" 1049 (.ref 550), kv P "store" 1064 (.ref 557), kv P "zero" 1076 (.ref 564), kv P "fill" 1086 (.ref 571), kv P "copy" 1096 (.ref 578), kv P "used" 1103 (.ref 585), kv P "rows" 1109 (.ref 590), kv P "twin" 1116 (.ref 597), kv P "alike" 1124 (.ref 604), kv P "__static_attributes__" 1129 (.ref 605), kv P "__dict__" 1131 (.ref 608), kv P "__weakref__" 1133 (.ref 609), kv P "__doc__" 1134 .none] 4, #[]⟩
noncomputable def o607 : Obj := ⟨(.type "type"), none, .cls { name := Str.ofString "Memory", bases := [(.type "object")], mro := [(.ref 607), (.type "object")], ns := 606, qualname := Str.ofString "Memory", subclasses := [] }, #[none, none, (some (sv "Memory" 896)), (some (sv "Memory" 904)), (some (.builtin "object.__new__")), (some (.bool true))]⟩
noncomputable def o608 : Obj := ⟨(.type "getset_descriptor"), none, .fields #[(sv "__dict__" 1130), (.ref 607), (.builtin "function.__dict__"), (.builtin "function.__dict__#set")], #[]⟩
noncomputable def o609 : Obj := ⟨(.type "getset_descriptor"), none, .fields #[(sv "__weakref__" 1132), (.ref 607), (.builtin "ExceptionGroup.__weakref__"), .none], #[]⟩
noncomputable def o619 : Obj := tu []
noncomputable def o621 : Obj := tu [(sv "self" 1152), (sv "octets" 1153)]
noncomputable def o622 : Obj := tu []
noncomputable def o624 : Obj := co [(sv "__init__" 1149), (sv "Rom.__init__" 1150), (sv "/claim/cut.py" 1151), (.int 453 0), (.int 2 0), (.int 0 0), (.int 0 0), (.int 3 0), (.ref 619), (.bool true), (.int 181 0), (.ref 620), .none, (.ref 621), (.ref 622), (.ref 623), (.int 1154 0), (.int 453 0), (sv "/claim/cut.py" 1155)]
noncomputable def o625 : Obj := fnO (sub 42 0) "Rom.__init__" .none (sv "pipeboard.memory" 863) (.ref 624)
noncomputable def o626 : Obj := tu []
noncomputable def o628 : Obj := tu [(sv "self" 1160)]
noncomputable def o629 : Obj := tu []
noncomputable def o631 : Obj := co [(sv "size" 1157), (sv "Rom.size" 1158), (sv "/claim/cut.py" 1159), (.int 456 0), (.int 1 0), (.int 0 0), (.int 0 0), (.int 3 0), (.ref 626), (.bool true), (.int 181 0), (.ref 627), .none, (.ref 628), (.ref 629), (.ref 630), (.int 1161 0), (.int 456 0), (sv "/claim/cut.py" 1162)]
noncomputable def o632 : Obj := fnO (sub 42 1) "Rom.size" .none (sv "pipeboard.memory" 863) (.ref 631)
noncomputable def o633 : Obj := tu []
noncomputable def o635 : Obj := tu [(sv "self" 1167), (sv "offset" 1168), (sv "size" 1169), (sv "value" 1170), (sv "octet" 1171)]
noncomputable def o636 : Obj := tu []
noncomputable def o638 : Obj := co [(sv "load" 1164), (sv "Rom.load" 1165), (sv "/claim/cut.py" 1166), (.int 459 0), (.int 3 0), (.int 0 0), (.int 0 0), (.int 3 0), (.ref 633), (.bool true), (.int 181 0), (.ref 634), .none, (.ref 635), (.ref 636), (.ref 637), (.int 1172 0), (.int 459 0), (sv "/claim/cut.py" 1173)]
noncomputable def o639 : Obj := fnO (sub 42 2) "Rom.load" .none (sv "pipeboard.memory" 863) (.ref 638)
noncomputable def o640 : Obj := tu []
noncomputable def o642 : Obj := tu [(sv "self" 1178), (sv "offset" 1179), (sv "size" 1180), (sv "value" 1181)]
noncomputable def o643 : Obj := tu []
noncomputable def o645 : Obj := co [(sv "store" 1175), (sv "Rom.store" 1176), (sv "/claim/cut.py" 1177), (.int 465 0), (.int 4 0), (.int 0 0), (.int 0 0), (.int 3 0), (.ref 640), (.bool true), (.int 181 0), (.ref 641), .none, (.ref 642), (.ref 643), (.ref 644), (.int 1182 0), (.int 465 0), (sv "/claim/cut.py" 1183)]
noncomputable def o646 : Obj := fnO (sub 42 3) "Rom.store" .none (sv "pipeboard.memory" 863) (.ref 645)
noncomputable def o647 : Obj := tu [(sv "octets" 1185)]
noncomputable def o648 (P : Params) : Obj := ⟨(.type "dict"), none, .dict #[kv P "__module__" 1144 (sv "pipeboard.memory" 863), kv P "__firstlineno__" 1148 (.int 451 1147), kv P "__init__" 1156 (.ref 625), kv P "size" 1163 (.ref 632), kv P "load" 1174 (.ref 639), kv P "store" 1184 (.ref 646), kv P "__static_attributes__" 1186 (.ref 647), kv P "__dict__" 1188 (.ref 650), kv P "__weakref__" 1190 (.ref 651), kv P "__doc__" 1191 .none] 4, #[]⟩
noncomputable def o649 : Obj := ⟨(.type "type"), none, .cls { name := Str.ofString "Rom", bases := [(.type "object")], mro := [(.ref 649), (.type "object")], ns := 648, qualname := Str.ofString "Rom", subclasses := [] }, #[none, none, (some (sv "Rom" 1137)), (some (sv "Rom" 1145)), (some (.builtin "object.__new__")), (some (.bool true))]⟩
noncomputable def o650 : Obj := ⟨(.type "getset_descriptor"), none, .fields #[(sv "__dict__" 1187), (.ref 649), (.builtin "function.__dict__"), (.builtin "function.__dict__#set")], #[]⟩
noncomputable def o651 : Obj := ⟨(.type "getset_descriptor"), none, .fields #[(sv "__weakref__" 1189), (.ref 649), (.builtin "ExceptionGroup.__weakref__"), .none], #[]⟩
noncomputable def o661 : Obj := tu []
noncomputable def o663 : Obj := tu [(sv "self" 1209), (sv "memory" 1210)]
noncomputable def o664 : Obj := tu []
noncomputable def o666 : Obj := co [(sv "__init__" 1206), (sv "Bus.__init__" 1207), (sv "/claim/cut.py" 1208), (.int 469 0), (.int 2 0), (.int 0 0), (.int 0 0), (.int 3 0), (.ref 661), (.bool true), (.int 181 0), (.ref 662), .none, (.ref 663), (.ref 664), (.ref 665), (.int 1211 0), (.int 469 0), (sv "/claim/cut.py" 1212)]
noncomputable def o667 : Obj := fnO (sub 43 0) "Bus.__init__" .none (sv "pipeboard.memory" 863) (.ref 666)
noncomputable def o668 : Obj := tu []
noncomputable def o670 : Obj := tu [(sv "self" 1217), (sv "begin" 1218), (sv "end" 1219), (sv "device" 1220)]
noncomputable def o671 : Obj := tu []
noncomputable def o673 : Obj := co [(sv "attach" 1214), (sv "Bus.attach" 1215), (sv "/claim/cut.py" 1216), (.int 473 0), (.int 4 0), (.int 0 0), (.int 0 0), (.int 3 0), (.ref 668), (.bool true), (.int 181 0), (.ref 669), .none, (.ref 670), (.ref 671), (.ref 672), (.int 1221 0), (.int 473 0), (sv "/claim/cut.py" 1222)]
noncomputable def o674 : Obj := fnO (sub 43 1) "Bus.attach" .none (sv "pipeboard.memory" 863) (.ref 673)
noncomputable def o675 : Obj := tu []
noncomputable def o677 : Obj := tu [(sv "self" 1227), (sv "address" 1228), (sv "size" 1229), (sv "stretch" 1230)]
noncomputable def o678 : Obj := tu []
noncomputable def o680 : Obj := co [(sv "stretch_at" 1224), (sv "Bus.stretch_at" 1225), (sv "/claim/cut.py" 1226), (.int 476 0), (.int 3 0), (.int 0 0), (.int 0 0), (.int 3 0), (.ref 675), (.bool true), (.int 181 0), (.ref 676), .none, (.ref 677), (.ref 678), (.ref 679), (.int 1231 0), (.int 476 0), (sv "/claim/cut.py" 1232)]
noncomputable def o681 : Obj := fnO (sub 43 2) "Bus.stretch_at" .none (sv "pipeboard.memory" 863) (.ref 680)
noncomputable def o682 : Obj := tu [(.int 5 303)]
noncomputable def o683 : Obj := tu []
noncomputable def o685 : Obj := tu [(sv "self" 1238), (sv "address" 1239), (sv "size" 1240), (sv "cause" 1241), (sv "memory" 1242), (sv "stretch" 1243)]
noncomputable def o686 : Obj := tu []
noncomputable def o688 : Obj := co [(sv "load" 1235), (sv "Bus.load" 1236), (sv "/claim/cut.py" 1237), (.int 482 0), (.int 4 0), (.int 0 0), (.int 0 0), (.int 3 0), (.ref 683), (.bool true), (.int 181 0), (.ref 684), .none, (.ref 685), (.ref 686), (.ref 687), (.int 1244 0), (.int 482 0), (sv "/claim/cut.py" 1245)]
noncomputable def o689 : Obj := fnO (sub 43 3) "Bus.load" (.ref 682) (sv "pipeboard.memory" 863) (.ref 688)
noncomputable def o690 : Obj := tu [(.int 7 307)]
noncomputable def o691 : Obj := tu []
noncomputable def o693 : Obj := tu [(sv "self" 1251), (sv "address" 1252), (sv "size" 1253), (sv "value" 1254), (sv "cause" 1255), (sv "memory" 1256), (sv "stretch" 1257)]
noncomputable def o694 : Obj := tu []
noncomputable def o696 : Obj := co [(sv "store" 1248), (sv "Bus.store" 1249), (sv "/claim/cut.py" 1250), (.int 497 0), (.int 5 0), (.int 0 0), (.int 0 0), (.int 3 0), (.ref 691), (.bool true), (.int 181 0), (.ref 692), .none, (.ref 693), (.ref 694), (.ref 695), (.int 1258 0), (.int 497 0), (sv "/claim/cut.py" 1259)]
noncomputable def o697 : Obj := fnO (sub 43 4) "Bus.store" (.ref 690) (sv "pipeboard.memory" 863) (.ref 696)
noncomputable def o698 : Obj := tu []
noncomputable def o700 : Obj := tu [(sv "self" 1264), (sv "address" 1265), (sv "memory" 1266), (sv "stretch" 1267)]
noncomputable def o701 : Obj := tu []
noncomputable def o703 : Obj := co [(sv "fetch" 1261), (sv "Bus.fetch" 1262), (sv "/claim/cut.py" 1263), (.int 513 0), (.int 2 0), (.int 0 0), (.int 0 0), (.int 3 0), (.ref 698), (.bool true), (.int 181 0), (.ref 699), .none, (.ref 700), (.ref 701), (.ref 702), (.int 1268 0), (.int 513 0), (sv "/claim/cut.py" 1269)]
noncomputable def o704 : Obj := fnO (sub 43 5) "Bus.fetch" .none (sv "pipeboard.memory" 863) (.ref 703)
noncomputable def o705 : Obj := tu []
noncomputable def o707 : Obj := tu [(sv "self" 1274), (sv "address" 1275), (sv "size" 1276)]
noncomputable def o708 : Obj := tu []
noncomputable def o710 : Obj := co [(sv "is_memory" 1271), (sv "Bus.is_memory" 1272), (sv "/claim/cut.py" 1273), (.int 524 0), (.int 3 0), (.int 0 0), (.int 0 0), (.int 3 0), (.ref 705), (.bool true), (.int 181 0), (.ref 706), .none, (.ref 707), (.ref 708), (.ref 709), (.int 1277 0), (.int 524 0), (sv "/claim/cut.py" 1278)]
noncomputable def o711 : Obj := fnO (sub 43 6) "Bus.is_memory" .none (sv "pipeboard.memory" 863) (.ref 710)
noncomputable def o712 : Obj := tu [(sv "memory" 1280), (sv "stretches" 1281)]
noncomputable def o713 (P : Params) : Obj := ⟨(.type "dict"), none, .dict #[kv P "__module__" 1201 (sv "pipeboard.memory" 863), kv P "__firstlineno__" 1205 (.int 467 1204), kv P "__init__" 1213 (.ref 667), kv P "attach" 1223 (.ref 674), kv P "stretch_at" 1233 (.ref 681), kv P "load" 1246 (.ref 689), kv P "store" 1260 (.ref 697), kv P "fetch" 1270 (.ref 704), kv P "is_memory" 1279 (.ref 711), kv P "__static_attributes__" 1282 (.ref 712), kv P "__dict__" 1284 (.ref 715), kv P "__weakref__" 1286 (.ref 716), kv P "__doc__" 1287 .none] 4, #[]⟩
noncomputable def o714 : Obj := ⟨(.type "type"), none, .cls { name := Str.ofString "Bus", bases := [(.type "object")], mro := [(.ref 714), (.type "object")], ns := 713, qualname := Str.ofString "Bus", subclasses := [] }, #[none, none, (some (sv "Bus" 1194)), (some (sv "Bus" 1202)), (some (.builtin "object.__new__")), (some (.bool true))]⟩
noncomputable def o715 : Obj := ⟨(.type "getset_descriptor"), none, .fields #[(sv "__dict__" 1283), (.ref 714), (.builtin "function.__dict__"), (.builtin "function.__dict__#set")], #[]⟩
noncomputable def o716 : Obj := ⟨(.type "getset_descriptor"), none, .fields #[(sv "__weakref__" 1285), (.ref 714), (.builtin "ExceptionGroup.__weakref__"), .none], #[]⟩
noncomputable def o726 : Obj := tu [(.bool true)]
noncomputable def o727 : Obj := tu []
noncomputable def o729 : Obj := tu [(sv "self" 1311), (sv "memory" 1312), (sv "begin" 1313), (sv "count" 1314), (sv "size" 1315), (sv "fill" 1316)]
noncomputable def o730 : Obj := tu []
noncomputable def o732 : Obj := co [(sv "__init__" 1308), (sv "Pages.__init__" 1309), (sv "/claim/cut.py" 1310), (.int 531 0), (.int 6 0), (.int 0 0), (.int 0 0), (.int 3 0), (.ref 727), (.bool true), (.int 181 0), (.ref 728), .none, (.ref 729), (.ref 730), (.ref 731), (.int 1317 0), (.int 531 0), (sv "/claim/cut.py" 1318)]
noncomputable def o733 : Obj := fnO (sub 47 0) "Pages.__init__" (.ref 726) (sv "pipeboard.pages" 1290) (.ref 732)
noncomputable def o734 : Obj := tu []
noncomputable def o736 : Obj := tu [(sv "self" 1323), (sv "index" 1324)]
noncomputable def o737 : Obj := tu []
noncomputable def o739 : Obj := co [(sv "address_of" 1320), (sv "Pages.address_of" 1321), (sv "/claim/cut.py" 1322), (.int 543 0), (.int 2 0), (.int 0 0), (.int 0 0), (.int 3 0), (.ref 734), (.bool true), (.int 181 0), (.ref 735), .none, (.ref 736), (.ref 737), (.ref 738), (.int 1325 0), (.int 543 0), (sv "/claim/cut.py" 1326)]
noncomputable def o740 : Obj := fnO (sub 47 1) "Pages.address_of" .none (sv "pipeboard.pages" 1290) (.ref 739)
noncomputable def o741 : Obj := tu []
noncomputable def o743 : Obj := tu [(sv "self" 1331), (sv "address" 1332), (sv "index" 1333), (sv "inside" 1334)]
noncomputable def o744 : Obj := tu []
noncomputable def o746 : Obj := co [(sv "is_page" 1328), (sv "Pages.is_page" 1329), (sv "/claim/cut.py" 1330), (.int 546 0), (.int 2 0), (.int 0 0), (.int 0 0), (.int 3 0), (.ref 741), (.bool true), (.int 181 0), (.ref 742), .none, (.ref 743), (.ref 744), (.ref 745), (.int 1335 0), (.int 546 0), (sv "/claim/cut.py" 1336)]
noncomputable def o747 : Obj := fnO (sub 47 2) "Pages.is_page" .none (sv "pipeboard.pages" 1290) (.ref 746)
noncomputable def o748 : Obj := tu []
noncomputable def o750 : Obj := tu [(sv "self" 1341), (sv "address" 1342)]
noncomputable def o751 : Obj := tu []
noncomputable def o753 : Obj := co [(sv "holders" 1338), (sv "Pages.holders" 1339), (sv "/claim/cut.py" 1340), (.int 550 0), (.int 2 0), (.int 0 0), (.int 0 0), (.int 3 0), (.ref 748), (.bool true), (.int 181 0), (.ref 749), .none, (.ref 750), (.ref 751), (.ref 752), (.int 1343 0), (.int 550 0), (sv "/claim/cut.py" 1344)]
noncomputable def o754 : Obj := fnO (sub 47 3) "Pages.holders" .none (sv "pipeboard.pages" 1290) (.ref 753)
noncomputable def o755 : Obj := tu []
noncomputable def o757 : Obj := tu [(sv "self" 1349), (sv "address" 1350)]
noncomputable def o758 : Obj := tu []
noncomputable def o760 : Obj := co [(sv "need_held" 1346), (sv "Pages.need_held" 1347), (sv "/claim/cut.py" 1348), (.int 555 0), (.int 2 0), (.int 0 0), (.int 0 0), (.int 3 0), (.ref 755), (.bool true), (.int 181 0), (.ref 756), .none, (.ref 757), (.ref 758), (.ref 759), (.int 1351 0), (.int 555 0), (sv "/claim/cut.py" 1352)]
noncomputable def o761 : Obj := fnO (sub 47 4) "Pages.need_held" .none (sv "pipeboard.pages" 1290) (.ref 760)
noncomputable def o762 : Obj := tu []
noncomputable def o764 : Obj := tu [(sv "self" 1357)]
noncomputable def o765 : Obj := tu []
noncomputable def o767 : Obj := co [(sv "free_count" 1354), (sv "Pages.free_count" 1355), (sv "/claim/cut.py" 1356), (.int 559 0), (.int 1 0), (.int 0 0), (.int 0 0), (.int 3 0), (.ref 762), (.bool true), (.int 181 0), (.ref 763), .none, (.ref 764), (.ref 765), (.ref 766), (.int 1358 0), (.int 559 0), (sv "/claim/cut.py" 1359)]
noncomputable def o768 : Obj := fnO (sub 47 5) "Pages.free_count" .none (sv "pipeboard.pages" 1290) (.ref 767)
noncomputable def o769 : Obj := tu []
noncomputable def o771 : Obj := tu [(sv "self" 1364), (sv "count" 1365)]
noncomputable def o772 : Obj := tu []
noncomputable def o774 : Obj := co [(sv "need_free" 1361), (sv "Pages.need_free" 1362), (sv "/claim/cut.py" 1363), (.int 562 0), (.int 2 0), (.int 0 0), (.int 0 0), (.int 3 0), (.ref 769), (.bool true), (.int 181 0), (.ref 770), .none, (.ref 771), (.ref 772), (.ref 773), (.int 1366 0), (.int 562 0), (sv "/claim/cut.py" 1367)]
noncomputable def o775 : Obj := fnO (sub 47 6) "Pages.need_free" .none (sv "pipeboard.pages" 1290) (.ref 774)
noncomputable def o776 : Obj := tu []
noncomputable def o778 : Obj := tu [(sv "self" 1372), (sv "address" 1373), (sv "octet" 1374)]
noncomputable def o779 : Obj := tu []
noncomputable def o781 : Obj := co [(sv "filled" 1369), (sv "Pages.filled" 1370), (sv "/claim/cut.py" 1371), (.int 566 0), (.int 3 0), (.int 0 0), (.int 0 0), (.int 3 0), (.ref 776), (.bool true), (.int 181 0), (.ref 777), .none, (.ref 778), (.ref 779), (.ref 780), (.int 1375 0), (.int 566 0), (sv "/claim/cut.py" 1376)]
noncomputable def o782 : Obj := fnO (sub 47 7) "Pages.filled" .none (sv "pipeboard.pages" 1290) (.ref 781)
noncomputable def o783 : Obj := tu []
noncomputable def o785 : Obj := tu [(sv "self" 1381), (sv "address" 1382)]
noncomputable def o786 : Obj := tu []
noncomputable def o788 : Obj := co [(sv "take" 1378), (sv "Pages.take" 1379), (sv "/claim/cut.py" 1380), (.int 570 0), (.int 1 0), (.int 0 0), (.int 0 0), (.int 3 0), (.ref 783), (.bool true), (.int 181 0), (.ref 784), .none, (.ref 785), (.ref 786), (.ref 787), (.int 1383 0), (.int 570 0), (sv "/claim/cut.py" 1384)]
noncomputable def o789 : Obj := fnO (sub 47 8) "Pages.take" .none (sv "pipeboard.pages" 1290) (.ref 788)
noncomputable def o790 : Obj := tu []
noncomputable def o792 : Obj := tu [(sv "self" 1389)]
noncomputable def o793 : Obj := tu []
noncomputable def o795 : Obj := co [(sv "take_clear" 1386), (sv "Pages.take_clear" 1387), (sv "/claim/cut.py" 1388), (.int 581 0), (.int 1 0), (.int 0 0), (.int 0 0), (.int 3 0), (.ref 790), (.bool true), (.int 181 0), (.ref 791), .none, (.ref 792), (.ref 793), (.ref 794), (.int 1390 0), (.int 581 0), (sv "/claim/cut.py" 1391)]
noncomputable def o796 : Obj := fnO (sub 47 9) "Pages.take_clear" .none (sv "pipeboard.pages" 1290) (.ref 795)
noncomputable def o797 : Obj := tu []
noncomputable def o799 : Obj := tu [(sv "self" 1396), (sv "count" 1397)]
noncomputable def o800 : Obj := tu []
noncomputable def o802 : Obj := co [(sv "take_many" 1393), (sv "Pages.take_many" 1394), (sv "/claim/cut.py" 1395), (.int 584 0), (.int 2 0), (.int 0 0), (.int 0 0), (.int 3 0), (.ref 797), (.bool true), (.int 181 0), (.ref 798), .none, (.ref 799), (.ref 800), (.ref 801), (.int 1398 0), (.int 584 0), (sv "/claim/cut.py" 1399)]
noncomputable def o803 : Obj := fnO (sub 47 10) "Pages.take_many" .none (sv "pipeboard.pages" 1290) (.ref 802)
noncomputable def o804 : Obj := tu []
noncomputable def o806 : Obj := tu [(sv "self" 1404), (sv "address" 1405)]
noncomputable def o807 : Obj := tu []
noncomputable def o809 : Obj := co [(sv "share" 1401), (sv "Pages.share" 1402), (sv "/claim/cut.py" 1403), (.int 587 0), (.int 2 0), (.int 0 0), (.int 0 0), (.int 3 0), (.ref 804), (.bool true), (.int 181 0), (.ref 805), .none, (.ref 806), (.ref 807), (.ref 808), (.int 1406 0), (.int 587 0), (sv "/claim/cut.py" 1407)]
noncomputable def o810 : Obj := fnO (sub 47 11) "Pages.share" .none (sv "pipeboard.pages" 1290) (.ref 809)
noncomputable def o811 : Obj := tu []
noncomputable def o813 : Obj := tu [(sv "self" 1412), (sv "address" 1413)]
noncomputable def o814 : Obj := tu []
noncomputable def o816 : Obj := co [(sv "give" 1409), (sv "Pages.give" 1410), (sv "/claim/cut.py" 1411), (.int 590 0), (.int 2 0), (.int 0 0), (.int 0 0), (.int 3 0), (.ref 811), (.bool true), (.int 181 0), (.ref 812), .none, (.ref 813), (.ref 814), (.ref 815), (.int 1414 0), (.int 590 0), (sv "/claim/cut.py" 1415)]
noncomputable def o817 : Obj := fnO (sub 47 12) "Pages.give" .none (sv "pipeboard.pages" 1290) (.ref 816)
noncomputable def o818 : Obj := tu []
noncomputable def o820 : Obj := tu [(sv "self" 1420), (sv "address" 1421), (sv "fresh" 1422)]
noncomputable def o821 : Obj := tu []
noncomputable def o823 : Obj := co [(sv "own" 1417), (sv "Pages.own" 1418), (sv "/claim/cut.py" 1419), (.int 600 0), (.int 2 0), (.int 0 0), (.int 0 0), (.int 3 0), (.ref 818), (.bool true), (.int 181 0), (.ref 819), .none, (.ref 820), (.ref 821), (.ref 822), (.int 1423 0), (.int 600 0), (sv "/claim/cut.py" 1424)]
noncomputable def o824 : Obj := fnO (sub 47 13) "Pages.own" .none (sv "pipeboard.pages" 1290) (.ref 823)
noncomputable def o825 : Obj := tu []
noncomputable def o827 : Obj := tu [(sv "self" 1429)]
noncomputable def o828 : Obj := tu []
noncomputable def o830 : Obj := co [(sv "all_held" 1426), (sv "Pages.all_held" 1427), (sv "/claim/cut.py" 1428), (.int 609 0), (.int 1 0), (.int 0 0), (.int 0 0), (.int 3 0), (.ref 825), (.bool true), (.int 181 0), (.ref 826), .none, (.ref 827), (.ref 828), (.ref 829), (.int 1430 0), (.int 609 0), (sv "/claim/cut.py" 1431)]
noncomputable def o831 : Obj := fnO (sub 47 14) "Pages.all_held" .none (sv "pipeboard.pages" 1290) (.ref 830)
noncomputable def o832 : Obj := tu [(sv "begin" 1433), (sv "count" 1434), (sv "fill" 1435), (sv "given" 1436), (sv "held" 1437), (sv "memory" 1438), (sv "size" 1439), (sv "untouched" 1440)]
noncomputable def o833 (P : Params) : Obj := ⟨(.type "dict"), none, .dict #[kv P "__module__" 1303 (sv "pipeboard.pages" 1290), kv P "__firstlineno__" 1307 (.int 529 1306), kv P "__init__" 1319 (.ref 733), kv P "address_of" 1327 (.ref 740), kv P "is_page" 1337 (.ref 747), kv P "holders" 1345 (.ref 754), kv P "need_held" 1353 (.ref 761), kv P "free_count" 1360 (.ref 768), kv P "need_free" 1368 (.ref 775), kv P "filled" 1377 (.ref 782), kv P "take" 1385 (.ref 789), kv P "take_clear" 1392 (.ref 796), kv P "take_many" 1400 (.ref 803), kv P "share" 1408 (.ref 810), kv P "give" 1416 (.ref 817), kv P "own" 1425 (.ref 824), kv P "all_held" 1432 (.ref 831), kv P "__static_attributes__" 1441 (.ref 832), kv P "__dict__" 1443 (.ref 835), kv P "__weakref__" 1445 (.ref 836), kv P "__doc__" 1446 .none] 4, #[]⟩
noncomputable def o834 : Obj := ⟨(.type "type"), none, .cls { name := Str.ofString "Pages", bases := [(.type "object")], mro := [(.ref 834), (.type "object")], ns := 833, qualname := Str.ofString "Pages", subclasses := [] }, #[none, none, (some (sv "Pages" 1296)), (some (sv "Pages" 1304)), (some (.builtin "object.__new__")), (some (.bool true))]⟩
noncomputable def o835 : Obj := ⟨(.type "getset_descriptor"), none, .fields #[(sv "__dict__" 1442), (.ref 834), (.builtin "function.__dict__"), (.builtin "function.__dict__#set")], #[]⟩
noncomputable def o836 : Obj := ⟨(.type "getset_descriptor"), none, .fields #[(sv "__weakref__" 1444), (.ref 834), (.builtin "ExceptionGroup.__weakref__"), .none], #[]⟩
noncomputable def o839 : Obj := tu []
noncomputable def o841 : Obj := tu [(sv "n" 1454)]
noncomputable def o842 : Obj := tu []
noncomputable def o844 : Obj := co [(sv "_law_flags" 1451), (sv "_law_flags" 1452), (sv "/claim/cut.py" 1453), (.int 612 0), (.int 1 0), (.int 0 0), (.int 0 0), (.int 3 0), (.ref 839), (.bool true), (.int 181 0), (.ref 840), .none, (.ref 841), (.ref 842), (.ref 843), (.int 1455 0), (.int 612 0), (sv "/claim/cut.py" 1456)]
noncomputable def o845 : Obj := fnO (st 49) "_law_flags" .none (sv "law_pf0220_01" 1449) (.ref 844)
noncomputable def o846 : Obj := tu []
noncomputable def o848 : Obj := tu [(sv "table" 1461), (sv "root" 1462), (sv "address" 1463), (sv "way" 1464), (sv "frame" 1465), (sv "flags" 1466)]
noncomputable def o849 : Obj := tu []
noncomputable def o851 : Obj := co [(sv "_law_done" 1458), (sv "_law_done" 1459), (sv "/claim/cut.py" 1460), (.int 614 0), (.int 6 0), (.int 0 0), (.int 0 0), (.int 3 0), (.ref 846), (.bool true), (.int 181 0), (.ref 847), .none, (.ref 848), (.ref 849), (.ref 850), (.int 1467 0), (.int 614 0), (sv "/claim/cut.py" 1468)]
noncomputable def o852 : Obj := fnO (st 50) "_law_done" .none (sv "law_pf0220_01" 1449) (.ref 851)
noncomputable def o853 : Obj := tu []
noncomputable def o855 : Obj := tu [(sv "own" 1473), (sv "spot" 1474), (sv "way" 1475), (sv "frame" 1476), (sv "flags" 1477), (sv "page" 1478), (sv "old" 1479), (sv "turned" 1480)]
noncomputable def o856 : Obj := tu []
noncomputable def o858 : Obj := co [(sv "_law_due" 1470), (sv "_law_due" 1471), (sv "/claim/cut.py" 1472), (.int 625 0), (.int 5 0), (.int 0 0), (.int 0 0), (.int 3 0), (.ref 853), (.bool true), (.int 181 0), (.ref 854), .none, (.ref 855), (.ref 856), (.ref 857), (.int 1481 0), (.int 625 0), (sv "/claim/cut.py" 1482)]
noncomputable def o859 : Obj := fnO (st 51) "_law_due" .none (sv "law_pf0220_01" 1449) (.ref 858)
noncomputable def o860 : Obj := tu []
noncomputable def o862 : Obj := tu [(sv "walker" 1487), (sv "root" 1488), (sv "address" 1489), (sv "kind" 1490), (sv "trap" 1491)]
noncomputable def o863 : Obj := tu []
noncomputable def o865 : Obj := co [(sv "_law_accessed" 1484), (sv "_law_accessed" 1485), (sv "/claim/cut.py" 1486), (.int 643 0), (.int 4 0), (.int 0 0), (.int 0 0), (.int 3 0), (.ref 860), (.bool true), (.int 181 0), (.ref 861), .none, (.ref 862), (.ref 863), (.ref 864), (.int 1492 0), (.int 643 0), (sv "/claim/cut.py" 1493)]
noncomputable def o866 : Obj := fnO (st 52) "_law_accessed" .none (sv "law_pf0220_01" 1449) (.ref 865)
noncomputable def o867 : Obj := tu []
noncomputable def o869 : Obj := tu [(sv "own" 1498), (sv "spot" 1499), (sv "address" 1500), (sv "kind" 1501), (sv "page" 1502), (sv "flags" 1503)]
noncomputable def o870 : Obj := tu []
noncomputable def o872 : Obj := co [(sv "_law_access_due" 1495), (sv "_law_access_due" 1496), (sv "/claim/cut.py" 1497), (.int 648 0), (.int 4 0), (.int 0 0), (.int 0 0), (.int 3 0), (.ref 867), (.bool true), (.int 181 0), (.ref 868), .none, (.ref 869), (.ref 870), (.ref 871), (.int 1504 0), (.int 648 0), (sv "/claim/cut.py" 1505)]
noncomputable def o873 : Obj := fnO (st 53) "_law_access_due" .none (sv "law_pf0220_01" 1449) (.ref 872)
noncomputable def o874 : Obj := tu []
noncomputable def o876 : Obj := tu [(sv "own" 1510), (sv "goals" 1511), (sv "found" 1512), (sv "first" 1513), (sv "second" 1514), (sv "page" 1515), (sv "flags" 1516)]
noncomputable def o877 : Obj := tu []
noncomputable def o879 : Obj := co [(sv "_law_rows" 1507), (sv "_law_rows" 1508), (sv "/claim/cut.py" 1509), (.int 654 0), (.int 2 0), (.int 0 0), (.int 0 0), (.int 3 0), (.ref 874), (.bool true), (.int 181 0), (.ref 875), .none, (.ref 876), (.ref 877), (.ref 878), (.int 1517 0), (.int 654 0), (sv "/claim/cut.py" 1518)]
noncomputable def o880 : Obj := fnO (st 54) "_law_rows" .none (sv "law_pf0220_01" 1449) (.ref 879)
noncomputable def o881 : Obj := tu []
noncomputable def o883 : Obj := tu [(sv "table" 1523), (sv "roots" 1524), (sv "goals" 1525), (sv "own" 1526), (sv "spot" 1527), (sv "pool" 1528), (sv "side" 1529), (sv "address" 1530), (sv "page" 1531), (sv "flags" 1532), (sv "entry" 1533)]
noncomputable def o884 : Obj := tu []
noncomputable def o886 : Obj := co [(sv "_law_alike" 1520), (sv "_law_alike" 1521), (sv "/claim/cut.py" 1522), (.int 660 0), (.int 6 0), (.int 0 0), (.int 0 0), (.int 3 0), (.ref 881), (.bool true), (.int 181 0), (.ref 882), .none, (.ref 883), (.ref 884), (.ref 885), (.int 1534 0), (.int 660 0), (sv "/claim/cut.py" 1535)]
noncomputable def o887 : Obj := fnO (st 55) "_law_alike" .none (sv "law_pf0220_01" 1449) (.ref 886)
noncomputable def o888 : Obj := tu []
noncomputable def o891 : Obj := co [(sv "law" 1537), (sv "law" 1538), (sv "/claim/cut.py" 1539), (.int 672 0), (.int 1 0), (.int 0 0), (.int 0 0), (.int 3 0), (.ref 888), (.bool true), (.int 181 0), (.ref 889), .none, .none, .none, (.ref 890), (.int 1540 0), (.int 672 0), (sv "/claim/cut.py" 1541)]
noncomputable def o892 : Obj := fnO (st 56) "law" .none (sv "law_pf0220_01" 1449) (.ref 891)
noncomputable def v0 (P : Params) : Obj := ⟨(.type "dict"), none, .dict #[kv P "__name__" 165 (sv "__main__" 164), kv P "__doc__" 166 .none, kv P "__package__" 167 .none, kv P "__loader__" 168 (.builtin "__main__.__loader__#opaque"), kv P "__spec__" 169 .none, kv P "__annotations__" 170 (.ref 6), kv P "__builtins__" 171 (.ref 4), kv P "__file__" 173 (sv "/claim/cut.py" 172), kv P "__cached__" 174 .none] 9, #[]⟩
noncomputable def v1 : Obj := fi []
noncomputable def v2 (P : Params) : Obj := ⟨(.type "dict"), none, .dict #[kv P "__name__" 165 (sv "pipeboard.errors" 194), kv P "__doc__" 166 .none, kv P "__package__" 167 .none, kv P "__loader__" 168 (.builtin "__main__.__loader__#opaque"), kv P "__spec__" 169 .none, kv P "__annotations__" 170 (.ref 6), kv P "__builtins__" 171 (.ref 4), kv P "__file__" 173 (sv "/claim/cut.py" 172), kv P "__cached__" 174 .none, kv P "_wall" 193 (.ref 21), kv P "BoardError" 223 (.ref 39), kv P "BadArgument" 239 (.ref 52)] 12, #[]⟩
noncomputable def v3 : Obj := fi [(.int 1 0), (.int 0 0), (.ref 20), (.int 5 0), (.int 0 0), (.ref 27), (.int 10 0), (.int 0 0), (.ref 48)]
noncomputable def v4 : Obj := ⟨(.type "type"), none, .cls { name := Str.ofString "BoardError", bases := [(.type "ValueError")], mro := [(.ref 39), (.type "ValueError"), (.type "Exception"), (.type "BaseException"), (.type "object")], ns := 38, qualname := Str.ofString "BoardError", subclasses := [(.ref 52)] }, #[(some (.ref 22)), none, (some (sv "BoardError" 196)), (some (sv "BoardError" 204)), (some (.builtin "ValueError.__new__")), (some (.bool true))]⟩
noncomputable def v5 (P : Params) : Obj := ⟨(.type "dict"), none, .dict #[kv P "__name__" 165 (sv "pipeboard.errors" 194), kv P "__doc__" 166 .none, kv P "__package__" 167 .none, kv P "__loader__" 168 (.builtin "__main__.__loader__#opaque"), kv P "__spec__" 169 .none, kv P "__annotations__" 170 (.ref 6), kv P "__builtins__" 171 (.ref 4), kv P "__file__" 173 (sv "/claim/cut.py" 172), kv P "__cached__" 174 .none, kv P "_wall" 193 (.ref 21), kv P "BoardError" 223 (.ref 39), kv P "BadArgument" 239 (.ref 52), kv P "BadAddress" 264 (.ref 71), kv P "NoRoom" 280 (.ref 83)] 14, #[]⟩
noncomputable def v6 : Obj := fi [(.int 1 0), (.int 0 0), (.ref 20), (.int 5 0), (.int 0 0), (.ref 27), (.int 10 0), (.int 0 0), (.ref 48), (.int 12 0), (.int 0 0), (.ref 60), (.int 17 0), (.int 0 0), (.ref 79)]
noncomputable def v7 : Obj := ⟨(.type "type"), none, .cls { name := Str.ofString "BoardError", bases := [(.type "ValueError")], mro := [(.ref 39), (.type "ValueError"), (.type "Exception"), (.type "BaseException"), (.type "object")], ns := 38, qualname := Str.ofString "BoardError", subclasses := [(.ref 52), (.ref 71), (.ref 83)] }, #[(some (.ref 22)), none, (some (sv "BoardError" 196)), (some (sv "BoardError" 204)), (some (.builtin "ValueError.__new__")), (some (.bool true))]⟩
noncomputable def v8 (P : Params) : Obj := ⟨(.type "dict"), none, .dict #[kv P "__name__" 165 (sv "pipeboard.paging" 337), kv P "__doc__" 166 .none, kv P "__package__" 167 .none, kv P "__loader__" 168 (.builtin "__main__.__loader__#opaque"), kv P "__spec__" 169 .none, kv P "__annotations__" 170 (.ref 6), kv P "__builtins__" 171 (.ref 4), kv P "__file__" 173 (sv "/claim/cut.py" 172), kv P "__cached__" 174 .none, kv P "_wall" 193 (.ref 21), kv P "BoardError" 223 (.ref 39), kv P "BadArgument" 239 (.ref 52), kv P "BadAddress" 264 (.ref 71), kv P "NoRoom" 280 (.ref 83), kv P "Trap" 336 (.ref 103), kv P "ENTRY" 340 (.int 4 339), kv P "VALID" 342 (.int 1 341), kv P "READ" 344 (.int 2 343), kv P "WRITE" 346 (.int 4 345), kv P "EXECUTE" 348 (.int 8 347), kv P "USER" 350 (.int 16 349), kv P "ACCESSED" 352 (.int 64 351), kv P "DIRTY" 354 (.int 128 353), kv P "LEAF" 356 (.int 10 355), kv P "FLAG_BITS" 358 (.int 10 357), kv P "FLAGS" 363 (.int 1023 362), kv P "FLAG_NAMES" 365 (sv "vrwxugad" 364), kv P "DIGITS" 367 (sv "0123456789abcdef" 366), kv P "FETCH" 369 (sv "fetch" 368), kv P "LOAD" 371 (sv "load" 370)] 30, #[]⟩
noncomputable def v9 : Obj := fi [(.int 1 0), (.int 0 0), (.ref 20), (.int 5 0), (.int 0 0), (.ref 27), (.int 10 0), (.int 0 0), (.ref 48), (.int 12 0), (.int 0 0), (.ref 60), (.int 17 0), (.int 0 0), (.ref 79), (.int 19 0), (.int 0 0), (.ref 91)]
noncomputable def v10 (P : Params) : Obj := ⟨(.type "dict"), none, .dict #[kv P "__name__" 165 (sv "pipeboard.paging" 337), kv P "__doc__" 166 .none, kv P "__package__" 167 .none, kv P "__loader__" 168 (.builtin "__main__.__loader__#opaque"), kv P "__spec__" 169 .none, kv P "__annotations__" 170 (.ref 6), kv P "__builtins__" 171 (.ref 4), kv P "__file__" 173 (sv "/claim/cut.py" 172), kv P "__cached__" 174 .none, kv P "_wall" 193 (.ref 21), kv P "BoardError" 223 (.ref 39), kv P "BadArgument" 239 (.ref 52), kv P "BadAddress" 264 (.ref 71), kv P "NoRoom" 280 (.ref 83), kv P "Trap" 336 (.ref 103), kv P "ENTRY" 340 (.int 4 339), kv P "VALID" 342 (.int 1 341), kv P "READ" 344 (.int 2 343), kv P "WRITE" 346 (.int 4 345), kv P "EXECUTE" 348 (.int 8 347), kv P "USER" 350 (.int 16 349), kv P "ACCESSED" 352 (.int 64 351), kv P "DIRTY" 354 (.int 128 353), kv P "LEAF" 356 (.int 10 355), kv P "FLAG_BITS" 358 (.int 10 357), kv P "FLAGS" 363 (.int 1023 362), kv P "FLAG_NAMES" 365 (sv "vrwxugad" 364), kv P "DIGITS" 367 (sv "0123456789abcdef" 366), kv P "FETCH" 369 (sv "fetch" 368), kv P "LOAD" 371 (sv "load" 370), kv P "STORE" 373 (sv "store" 372)] 31, #[]⟩
noncomputable def v11 (P : Params) : Obj := ⟨(.type "dict"), none, .dict #[kv P "__name__" 165 (sv "pipeboard.paging" 337), kv P "__doc__" 166 .none, kv P "__package__" 167 .none, kv P "__loader__" 168 (.builtin "__main__.__loader__#opaque"), kv P "__spec__" 169 .none, kv P "__annotations__" 170 (.ref 6), kv P "__builtins__" 171 (.ref 4), kv P "__file__" 173 (sv "/claim/cut.py" 172), kv P "__cached__" 174 .none, kv P "_wall" 193 (.ref 21), kv P "BoardError" 223 (.ref 39), kv P "BadArgument" 239 (.ref 52), kv P "BadAddress" 264 (.ref 71), kv P "NoRoom" 280 (.ref 83), kv P "Trap" 336 (.ref 103), kv P "ENTRY" 340 (.int 4 339), kv P "VALID" 342 (.int 1 341), kv P "READ" 344 (.int 2 343), kv P "WRITE" 346 (.int 4 345), kv P "EXECUTE" 348 (.int 8 347), kv P "USER" 350 (.int 16 349), kv P "ACCESSED" 352 (.int 64 351), kv P "DIRTY" 354 (.int 128 353), kv P "LEAF" 356 (.int 10 355), kv P "FLAG_BITS" 358 (.int 10 357), kv P "FLAGS" 363 (.int 1023 362), kv P "FLAG_NAMES" 365 (sv "vrwxugad" 364), kv P "DIGITS" 367 (sv "0123456789abcdef" 366), kv P "FETCH" 369 (sv "fetch" 368), kv P "LOAD" 371 (sv "load" 370), kv P "STORE" 373 (sv "store" 372), kv P "PAGE_FAULTS" 380 (.ref 106), kv P "ACCESS_FAULTS" 387 (.ref 107)] 33, #[]⟩
noncomputable def v12 (P : Params) : Obj := ⟨(.type "dict"), none, .dict #[kv P "__name__" 165 (sv "pipeboard.paging" 337), kv P "__doc__" 166 .none, kv P "__package__" 167 .none, kv P "__loader__" 168 (.builtin "__main__.__loader__#opaque"), kv P "__spec__" 169 .none, kv P "__annotations__" 170 (.ref 6), kv P "__builtins__" 171 (.ref 4), kv P "__file__" 173 (sv "/claim/cut.py" 172), kv P "__cached__" 174 .none, kv P "_wall" 193 (.ref 21), kv P "BoardError" 223 (.ref 39), kv P "BadArgument" 239 (.ref 52), kv P "BadAddress" 264 (.ref 71), kv P "NoRoom" 280 (.ref 83), kv P "Trap" 336 (.ref 103), kv P "ENTRY" 340 (.int 4 339), kv P "VALID" 342 (.int 1 341), kv P "READ" 344 (.int 2 343), kv P "WRITE" 346 (.int 4 345), kv P "EXECUTE" 348 (.int 8 347), kv P "USER" 350 (.int 16 349), kv P "ACCESSED" 352 (.int 64 351), kv P "DIRTY" 354 (.int 128 353), kv P "LEAF" 356 (.int 10 355), kv P "FLAG_BITS" 358 (.int 10 357), kv P "FLAGS" 363 (.int 1023 362), kv P "FLAG_NAMES" 365 (sv "vrwxugad" 364), kv P "DIGITS" 367 (sv "0123456789abcdef" 366), kv P "FETCH" 369 (sv "fetch" 368), kv P "LOAD" 371 (sv "load" 370), kv P "STORE" 373 (sv "store" 372), kv P "PAGE_FAULTS" 380 (.ref 106), kv P "ACCESS_FAULTS" 387 (.ref 107), kv P "USER_MODE" 389 (.int 0 388), kv P "Layout" 494 (.ref 182), kv P "eight_digits" 500 (.ref 191), kv P "is_leaf" 507 (.ref 198)] 37, #[]⟩
noncomputable def v13 : Obj := fi [(.int 1 0), (.int 0 0), (.ref 20), (.int 5 0), (.int 0 0), (.ref 27), (.int 10 0), (.int 0 0), (.ref 48), (.int 12 0), (.int 0 0), (.ref 60), (.int 17 0), (.int 0 0), (.ref 79), (.int 19 0), (.int 0 0), (.ref 91), (.int 59 0), (.int 0 0), (.ref 113), (.int 97 0), (.int 0 0), (.ref 190), (.int 99 0), (.int 0 0), (.ref 197)]
noncomputable def v14 (P : Params) : Obj := ⟨(.type "dict"), none, .dict #[kv P "__name__" 165 (sv "pipeboard.paging" 337), kv P "__doc__" 166 .none, kv P "__package__" 167 .none, kv P "__loader__" 168 (.builtin "__main__.__loader__#opaque"), kv P "__spec__" 169 .none, kv P "__annotations__" 170 (.ref 6), kv P "__builtins__" 171 (.ref 4), kv P "__file__" 173 (sv "/claim/cut.py" 172), kv P "__cached__" 174 .none, kv P "_wall" 193 (.ref 21), kv P "BoardError" 223 (.ref 39), kv P "BadArgument" 239 (.ref 52), kv P "BadAddress" 264 (.ref 71), kv P "NoRoom" 280 (.ref 83), kv P "Trap" 336 (.ref 103), kv P "ENTRY" 340 (.int 4 339), kv P "VALID" 342 (.int 1 341), kv P "READ" 344 (.int 2 343), kv P "WRITE" 346 (.int 4 345), kv P "EXECUTE" 348 (.int 8 347), kv P "USER" 350 (.int 16 349), kv P "ACCESSED" 352 (.int 64 351), kv P "DIRTY" 354 (.int 128 353), kv P "LEAF" 356 (.int 10 355), kv P "FLAG_BITS" 358 (.int 10 357), kv P "FLAGS" 363 (.int 1023 362), kv P "FLAG_NAMES" 365 (sv "vrwxugad" 364), kv P "DIGITS" 367 (sv "0123456789abcdef" 366), kv P "FETCH" 369 (sv "fetch" 368), kv P "LOAD" 371 (sv "load" 370), kv P "STORE" 373 (sv "store" 372), kv P "PAGE_FAULTS" 380 (.ref 106), kv P "ACCESS_FAULTS" 387 (.ref 107), kv P "USER_MODE" 389 (.int 0 388), kv P "Layout" 494 (.ref 182), kv P "eight_digits" 500 (.ref 191), kv P "is_leaf" 507 (.ref 198), kv P "is_sound" 514 (.ref 205), kv P "may" 525 (.ref 212), kv P "Walker" 627 (.ref 266)] 40, #[]⟩
noncomputable def v15 : Obj := fi [(.int 1 0), (.int 0 0), (.ref 20), (.int 5 0), (.int 0 0), (.ref 27), (.int 10 0), (.int 0 0), (.ref 48), (.int 12 0), (.int 0 0), (.ref 60), (.int 17 0), (.int 0 0), (.ref 79), (.int 19 0), (.int 0 0), (.ref 91), (.int 59 0), (.int 0 0), (.ref 113), (.int 97 0), (.int 0 0), (.ref 190), (.int 99 0), (.int 0 0), (.ref 197), (.int 101 0), (.int 0 0), (.ref 204), (.int 103 0), (.int 0 0), (.ref 211), (.int 113 0), (.int 0 0), (.ref 218)]
noncomputable def v16 (P : Params) : Obj := ⟨(.type "dict"), none, .dict #[kv P "__name__" 165 (sv "pipeboard.paging" 337), kv P "__doc__" 166 .none, kv P "__package__" 167 .none, kv P "__loader__" 168 (.builtin "__main__.__loader__#opaque"), kv P "__spec__" 169 .none, kv P "__annotations__" 170 (.ref 6), kv P "__builtins__" 171 (.ref 4), kv P "__file__" 173 (sv "/claim/cut.py" 172), kv P "__cached__" 174 .none, kv P "_wall" 193 (.ref 21), kv P "BoardError" 223 (.ref 39), kv P "BadArgument" 239 (.ref 52), kv P "BadAddress" 264 (.ref 71), kv P "NoRoom" 280 (.ref 83), kv P "Trap" 336 (.ref 103), kv P "ENTRY" 340 (.int 4 339), kv P "VALID" 342 (.int 1 341), kv P "READ" 344 (.int 2 343), kv P "WRITE" 346 (.int 4 345), kv P "EXECUTE" 348 (.int 8 347), kv P "USER" 350 (.int 16 349), kv P "ACCESSED" 352 (.int 64 351), kv P "DIRTY" 354 (.int 128 353), kv P "LEAF" 356 (.int 10 355), kv P "FLAG_BITS" 358 (.int 10 357), kv P "FLAGS" 363 (.int 1023 362), kv P "FLAG_NAMES" 365 (sv "vrwxugad" 364), kv P "DIGITS" 367 (sv "0123456789abcdef" 366), kv P "FETCH" 369 (sv "fetch" 368), kv P "LOAD" 371 (sv "load" 370), kv P "STORE" 373 (sv "store" 372), kv P "PAGE_FAULTS" 380 (.ref 106), kv P "ACCESS_FAULTS" 387 (.ref 107), kv P "USER_MODE" 389 (.int 0 388), kv P "Layout" 494 (.ref 182), kv P "eight_digits" 500 (.ref 191), kv P "is_leaf" 507 (.ref 198), kv P "is_sound" 514 (.ref 205), kv P "may" 525 (.ref 212), kv P "Walker" 627 (.ref 266), kv P "Tables" 862 (.ref 418)] 41, #[]⟩
noncomputable def v17 : Obj := fi [(.int 1 0), (.int 0 0), (.ref 20), (.int 5 0), (.int 0 0), (.ref 27), (.int 10 0), (.int 0 0), (.ref 48), (.int 12 0), (.int 0 0), (.ref 60), (.int 17 0), (.int 0 0), (.ref 79), (.int 19 0), (.int 0 0), (.ref 91), (.int 59 0), (.int 0 0), (.ref 113), (.int 97 0), (.int 0 0), (.ref 190), (.int 99 0), (.int 0 0), (.ref 197), (.int 101 0), (.int 0 0), (.ref 204), (.int 103 0), (.int 0 0), (.ref 211), (.int 113 0), (.int 0 0), (.ref 218), (.int 160 0), (.int 0 0), (.ref 276)]
noncomputable def v18 (P : Params) : Obj := ⟨(.type "dict"), none, .dict #[kv P "__name__" 165 (sv "pipeboard.memory" 863), kv P "__doc__" 166 .none, kv P "__package__" 167 .none, kv P "__loader__" 168 (.builtin "__main__.__loader__#opaque"), kv P "__spec__" 169 .none, kv P "__annotations__" 170 (.ref 6), kv P "__builtins__" 171 (.ref 4), kv P "__file__" 173 (sv "/claim/cut.py" 172), kv P "__cached__" 174 .none, kv P "_wall" 193 (.ref 21), kv P "BoardError" 223 (.ref 39), kv P "BadArgument" 239 (.ref 52), kv P "BadAddress" 264 (.ref 71), kv P "NoRoom" 280 (.ref 83), kv P "Trap" 336 (.ref 103), kv P "ENTRY" 340 (.int 4 339), kv P "VALID" 342 (.int 1 341), kv P "READ" 344 (.int 2 343), kv P "WRITE" 346 (.int 4 345), kv P "EXECUTE" 348 (.int 8 347), kv P "USER" 350 (.int 16 349), kv P "ACCESSED" 352 (.int 64 351), kv P "DIRTY" 354 (.int 128 353), kv P "LEAF" 356 (.int 10 355), kv P "FLAG_BITS" 358 (.int 10 357), kv P "FLAGS" 363 (.int 1023 362), kv P "FLAG_NAMES" 365 (sv "vrwxugad" 364), kv P "DIGITS" 367 (sv "0123456789abcdef" 366), kv P "FETCH" 369 (sv "fetch" 368), kv P "LOAD" 371 (sv "load" 370), kv P "STORE" 373 (sv "store" 372), kv P "PAGE_FAULTS" 380 (.ref 106), kv P "ACCESS_FAULTS" 387 (.ref 107), kv P "USER_MODE" 389 (.int 0 388), kv P "Layout" 494 (.ref 182), kv P "eight_digits" 500 (.ref 191), kv P "is_leaf" 507 (.ref 198), kv P "is_sound" 514 (.ref 205), kv P "may" 525 (.ref 212), kv P "Walker" 627 (.ref 266), kv P "Tables" 862 (.ref 418), kv P "WORD" 866 (.int 4 865), kv P "MASK" 872 (.int 4294967295 871), kv P "SPACE" 876 (.int 4294967296 875), kv P "SIZES" 880 (.ref 423), kv P "need_size" 887 (.ref 430), kv P "need_stretch" 895 (.ref 437)] 47, #[]⟩
noncomputable def v19 : Obj := fi [(.int 1 0), (.int 0 0), (.ref 20), (.int 5 0), (.int 0 0), (.ref 27), (.int 10 0), (.int 0 0), (.ref 48), (.int 12 0), (.int 0 0), (.ref 60), (.int 17 0), (.int 0 0), (.ref 79), (.int 19 0), (.int 0 0), (.ref 91), (.int 59 0), (.int 0 0), (.ref 113), (.int 97 0), (.int 0 0), (.ref 190), (.int 99 0), (.int 0 0), (.ref 197), (.int 101 0), (.int 0 0), (.ref 204), (.int 103 0), (.int 0 0), (.ref 211), (.int 113 0), (.int 0 0), (.ref 218), (.int 160 0), (.int 0 0), (.ref 276), (.int 315 0), (.int 0 0), (.ref 429), (.int 318 0), (.int 0 0), (.ref 436)]
noncomputable def v20 (P : Params) : Obj := ⟨(.type "dict"), none, .dict #[kv P "__name__" 165 (sv "pipeboard.memory" 863), kv P "__doc__" 166 .none, kv P "__package__" 167 .none, kv P "__loader__" 168 (.builtin "__main__.__loader__#opaque"), kv P "__spec__" 169 .none, kv P "__annotations__" 170 (.ref 6), kv P "__builtins__" 171 (.ref 4), kv P "__file__" 173 (sv "/claim/cut.py" 172), kv P "__cached__" 174 .none, kv P "_wall" 193 (.ref 21), kv P "BoardError" 223 (.ref 39), kv P "BadArgument" 239 (.ref 52), kv P "BadAddress" 264 (.ref 71), kv P "NoRoom" 280 (.ref 83), kv P "Trap" 336 (.ref 103), kv P "ENTRY" 340 (.int 4 339), kv P "VALID" 342 (.int 1 341), kv P "READ" 344 (.int 2 343), kv P "WRITE" 346 (.int 4 345), kv P "EXECUTE" 348 (.int 8 347), kv P "USER" 350 (.int 16 349), kv P "ACCESSED" 352 (.int 64 351), kv P "DIRTY" 354 (.int 128 353), kv P "LEAF" 356 (.int 10 355), kv P "FLAG_BITS" 358 (.int 10 357), kv P "FLAGS" 363 (.int 1023 362), kv P "FLAG_NAMES" 365 (sv "vrwxugad" 364), kv P "DIGITS" 367 (sv "0123456789abcdef" 366), kv P "FETCH" 369 (sv "fetch" 368), kv P "LOAD" 371 (sv "load" 370), kv P "STORE" 373 (sv "store" 372), kv P "PAGE_FAULTS" 380 (.ref 106), kv P "ACCESS_FAULTS" 387 (.ref 107), kv P "USER_MODE" 389 (.int 0 388), kv P "Layout" 494 (.ref 182), kv P "eight_digits" 500 (.ref 191), kv P "is_leaf" 507 (.ref 198), kv P "is_sound" 514 (.ref 205), kv P "may" 525 (.ref 212), kv P "Walker" 627 (.ref 266), kv P "Tables" 862 (.ref 418), kv P "WORD" 866 (.int 4 865), kv P "MASK" 872 (.int 4294967295 871), kv P "SPACE" 876 (.int 4294967296 875), kv P "SIZES" 880 (.ref 423), kv P "need_size" 887 (.ref 430), kv P "need_stretch" 895 (.ref 437), kv P "Memory" 1136 (.ref 607)] 48, #[]⟩
noncomputable def v21 : Obj := fi [(.int 1 0), (.int 0 0), (.ref 20), (.int 5 0), (.int 0 0), (.ref 27), (.int 10 0), (.int 0 0), (.ref 48), (.int 12 0), (.int 0 0), (.ref 60), (.int 17 0), (.int 0 0), (.ref 79), (.int 19 0), (.int 0 0), (.ref 91), (.int 59 0), (.int 0 0), (.ref 113), (.int 97 0), (.int 0 0), (.ref 190), (.int 99 0), (.int 0 0), (.ref 197), (.int 101 0), (.int 0 0), (.ref 204), (.int 103 0), (.int 0 0), (.ref 211), (.int 113 0), (.int 0 0), (.ref 218), (.int 160 0), (.int 0 0), (.ref 276), (.int 315 0), (.int 0 0), (.ref 429), (.int 318 0), (.int 0 0), (.ref 436), (.int 321 0), (.int 0 0), (.ref 443)]
noncomputable def v22 (P : Params) : Obj := ⟨(.type "dict"), none, .dict #[kv P "__name__" 165 (sv "pipeboard.memory" 863), kv P "__doc__" 166 .none, kv P "__package__" 167 .none, kv P "__loader__" 168 (.builtin "__main__.__loader__#opaque"), kv P "__spec__" 169 .none, kv P "__annotations__" 170 (.ref 6), kv P "__builtins__" 171 (.ref 4), kv P "__file__" 173 (sv "/claim/cut.py" 172), kv P "__cached__" 174 .none, kv P "_wall" 193 (.ref 21), kv P "BoardError" 223 (.ref 39), kv P "BadArgument" 239 (.ref 52), kv P "BadAddress" 264 (.ref 71), kv P "NoRoom" 280 (.ref 83), kv P "Trap" 336 (.ref 103), kv P "ENTRY" 340 (.int 4 339), kv P "VALID" 342 (.int 1 341), kv P "READ" 344 (.int 2 343), kv P "WRITE" 346 (.int 4 345), kv P "EXECUTE" 348 (.int 8 347), kv P "USER" 350 (.int 16 349), kv P "ACCESSED" 352 (.int 64 351), kv P "DIRTY" 354 (.int 128 353), kv P "LEAF" 356 (.int 10 355), kv P "FLAG_BITS" 358 (.int 10 357), kv P "FLAGS" 363 (.int 1023 362), kv P "FLAG_NAMES" 365 (sv "vrwxugad" 364), kv P "DIGITS" 367 (sv "0123456789abcdef" 366), kv P "FETCH" 369 (sv "fetch" 368), kv P "LOAD" 371 (sv "load" 370), kv P "STORE" 373 (sv "store" 372), kv P "PAGE_FAULTS" 380 (.ref 106), kv P "ACCESS_FAULTS" 387 (.ref 107), kv P "USER_MODE" 389 (.int 0 388), kv P "Layout" 494 (.ref 182), kv P "eight_digits" 500 (.ref 191), kv P "is_leaf" 507 (.ref 198), kv P "is_sound" 514 (.ref 205), kv P "may" 525 (.ref 212), kv P "Walker" 627 (.ref 266), kv P "Tables" 862 (.ref 418), kv P "WORD" 866 (.int 4 865), kv P "MASK" 872 (.int 4294967295 871), kv P "SPACE" 876 (.int 4294967296 875), kv P "SIZES" 880 (.ref 423), kv P "need_size" 887 (.ref 430), kv P "need_stretch" 895 (.ref 437), kv P "Memory" 1136 (.ref 607), kv P "Rom" 1193 (.ref 649)] 49, #[]⟩
noncomputable def v23 : Obj := fi [(.int 1 0), (.int 0 0), (.ref 20), (.int 5 0), (.int 0 0), (.ref 27), (.int 10 0), (.int 0 0), (.ref 48), (.int 12 0), (.int 0 0), (.ref 60), (.int 17 0), (.int 0 0), (.ref 79), (.int 19 0), (.int 0 0), (.ref 91), (.int 59 0), (.int 0 0), (.ref 113), (.int 97 0), (.int 0 0), (.ref 190), (.int 99 0), (.int 0 0), (.ref 197), (.int 101 0), (.int 0 0), (.ref 204), (.int 103 0), (.int 0 0), (.ref 211), (.int 113 0), (.int 0 0), (.ref 218), (.int 160 0), (.int 0 0), (.ref 276), (.int 315 0), (.int 0 0), (.ref 429), (.int 318 0), (.int 0 0), (.ref 436), (.int 321 0), (.int 0 0), (.ref 443), (.int 451 0), (.int 0 0), (.ref 617)]
noncomputable def v24 (P : Params) : Obj := ⟨(.type "dict"), none, .dict #[kv P "__name__" 165 (sv "pipeboard.pages" 1290), kv P "__doc__" 166 .none, kv P "__package__" 167 .none, kv P "__loader__" 168 (.builtin "__main__.__loader__#opaque"), kv P "__spec__" 169 .none, kv P "__annotations__" 170 (.ref 6), kv P "__builtins__" 171 (.ref 4), kv P "__file__" 173 (sv "/claim/cut.py" 172), kv P "__cached__" 174 .none, kv P "_wall" 193 (.ref 21), kv P "BoardError" 223 (.ref 39), kv P "BadArgument" 239 (.ref 52), kv P "BadAddress" 264 (.ref 71), kv P "NoRoom" 280 (.ref 83), kv P "Trap" 336 (.ref 103), kv P "ENTRY" 340 (.int 4 339), kv P "VALID" 342 (.int 1 341), kv P "READ" 344 (.int 2 343), kv P "WRITE" 346 (.int 4 345), kv P "EXECUTE" 348 (.int 8 347), kv P "USER" 350 (.int 16 349), kv P "ACCESSED" 352 (.int 64 351), kv P "DIRTY" 354 (.int 128 353), kv P "LEAF" 356 (.int 10 355), kv P "FLAG_BITS" 358 (.int 10 357), kv P "FLAGS" 363 (.int 1023 362), kv P "FLAG_NAMES" 365 (sv "vrwxugad" 364), kv P "DIGITS" 367 (sv "0123456789abcdef" 366), kv P "FETCH" 369 (sv "fetch" 368), kv P "LOAD" 371 (sv "load" 370), kv P "STORE" 373 (sv "store" 372), kv P "PAGE_FAULTS" 380 (.ref 106), kv P "ACCESS_FAULTS" 387 (.ref 107), kv P "USER_MODE" 389 (.int 0 388), kv P "Layout" 494 (.ref 182), kv P "eight_digits" 500 (.ref 191), kv P "is_leaf" 507 (.ref 198), kv P "is_sound" 514 (.ref 205), kv P "may" 525 (.ref 212), kv P "Walker" 627 (.ref 266), kv P "Tables" 862 (.ref 418), kv P "WORD" 866 (.int 4 865), kv P "MASK" 872 (.int 4294967295 871), kv P "SPACE" 876 (.int 4294967296 875), kv P "SIZES" 880 (.ref 423), kv P "need_size" 887 (.ref 430), kv P "need_stretch" 895 (.ref 437), kv P "Memory" 1136 (.ref 607), kv P "Rom" 1193 (.ref 649), kv P "Bus" 1289 (.ref 714), kv P "TAKEN" 1293 (.int 5 1292), kv P "FREED" 1295 (.int 1 1294)] 52, #[]⟩
noncomputable def v25 : Obj := fi [(.int 1 0), (.int 0 0), (.ref 20), (.int 5 0), (.int 0 0), (.ref 27), (.int 10 0), (.int 0 0), (.ref 48), (.int 12 0), (.int 0 0), (.ref 60), (.int 17 0), (.int 0 0), (.ref 79), (.int 19 0), (.int 0 0), (.ref 91), (.int 59 0), (.int 0 0), (.ref 113), (.int 97 0), (.int 0 0), (.ref 190), (.int 99 0), (.int 0 0), (.ref 197), (.int 101 0), (.int 0 0), (.ref 204), (.int 103 0), (.int 0 0), (.ref 211), (.int 113 0), (.int 0 0), (.ref 218), (.int 160 0), (.int 0 0), (.ref 276), (.int 315 0), (.int 0 0), (.ref 429), (.int 318 0), (.int 0 0), (.ref 436), (.int 321 0), (.int 0 0), (.ref 443), (.int 451 0), (.int 0 0), (.ref 617), (.int 467 0), (.int 0 0), (.ref 659)]
noncomputable def v26 (P : Params) : Obj := ⟨(.type "dict"), none, .dict #[kv P "__name__" 165 (sv "pipeboard.pages" 1290), kv P "__doc__" 166 .none, kv P "__package__" 167 .none, kv P "__loader__" 168 (.builtin "__main__.__loader__#opaque"), kv P "__spec__" 169 .none, kv P "__annotations__" 170 (.ref 6), kv P "__builtins__" 171 (.ref 4), kv P "__file__" 173 (sv "/claim/cut.py" 172), kv P "__cached__" 174 .none, kv P "_wall" 193 (.ref 21), kv P "BoardError" 223 (.ref 39), kv P "BadArgument" 239 (.ref 52), kv P "BadAddress" 264 (.ref 71), kv P "NoRoom" 280 (.ref 83), kv P "Trap" 336 (.ref 103), kv P "ENTRY" 340 (.int 4 339), kv P "VALID" 342 (.int 1 341), kv P "READ" 344 (.int 2 343), kv P "WRITE" 346 (.int 4 345), kv P "EXECUTE" 348 (.int 8 347), kv P "USER" 350 (.int 16 349), kv P "ACCESSED" 352 (.int 64 351), kv P "DIRTY" 354 (.int 128 353), kv P "LEAF" 356 (.int 10 355), kv P "FLAG_BITS" 358 (.int 10 357), kv P "FLAGS" 363 (.int 1023 362), kv P "FLAG_NAMES" 365 (sv "vrwxugad" 364), kv P "DIGITS" 367 (sv "0123456789abcdef" 366), kv P "FETCH" 369 (sv "fetch" 368), kv P "LOAD" 371 (sv "load" 370), kv P "STORE" 373 (sv "store" 372), kv P "PAGE_FAULTS" 380 (.ref 106), kv P "ACCESS_FAULTS" 387 (.ref 107), kv P "USER_MODE" 389 (.int 0 388), kv P "Layout" 494 (.ref 182), kv P "eight_digits" 500 (.ref 191), kv P "is_leaf" 507 (.ref 198), kv P "is_sound" 514 (.ref 205), kv P "may" 525 (.ref 212), kv P "Walker" 627 (.ref 266), kv P "Tables" 862 (.ref 418), kv P "WORD" 866 (.int 4 865), kv P "MASK" 872 (.int 4294967295 871), kv P "SPACE" 876 (.int 4294967296 875), kv P "SIZES" 880 (.ref 423), kv P "need_size" 887 (.ref 430), kv P "need_stretch" 895 (.ref 437), kv P "Memory" 1136 (.ref 607), kv P "Rom" 1193 (.ref 649), kv P "Bus" 1289 (.ref 714), kv P "TAKEN" 1293 (.int 5 1292), kv P "FREED" 1295 (.int 1 1294), kv P "Pages" 1448 (.ref 834)] 53, #[]⟩
noncomputable def v27 : Obj := fi [(.int 1 0), (.int 0 0), (.ref 20), (.int 5 0), (.int 0 0), (.ref 27), (.int 10 0), (.int 0 0), (.ref 48), (.int 12 0), (.int 0 0), (.ref 60), (.int 17 0), (.int 0 0), (.ref 79), (.int 19 0), (.int 0 0), (.ref 91), (.int 59 0), (.int 0 0), (.ref 113), (.int 97 0), (.int 0 0), (.ref 190), (.int 99 0), (.int 0 0), (.ref 197), (.int 101 0), (.int 0 0), (.ref 204), (.int 103 0), (.int 0 0), (.ref 211), (.int 113 0), (.int 0 0), (.ref 218), (.int 160 0), (.int 0 0), (.ref 276), (.int 315 0), (.int 0 0), (.ref 429), (.int 318 0), (.int 0 0), (.ref 436), (.int 321 0), (.int 0 0), (.ref 443), (.int 451 0), (.int 0 0), (.ref 617), (.int 467 0), (.int 0 0), (.ref 659), (.int 529 0), (.int 0 0), (.ref 724)]
noncomputable def fl (P : Params) : List Obj := [(⟨(.type "dict"), none, .dict #[kv P "__name__" 1 (sv "builtins" 160), kv P "__doc__" 2 (.builtin "builtins.__doc__:str#opaque"), kv P "__package__" 3 (.builtin "builtins.__package__:str#opaque"), kv P "__loader__" 4 (.builtin "builtins.__loader__:shared#opaque"), kv P "__spec__" 5 (.builtin "builtins.__spec__#opaque"), kv P "__build_class__" 6 (.builtin "__build_class__"), kv P "__import__" 7 (.builtin "__import__"), kv P "abs" 8 (.builtin "abs"), kv P "all" 9 (.builtin "all"), kv P "any" 10 (.builtin "any"), kv P "ascii" 11 (.builtin "ascii"), kv P "bin" 12 (.builtin "bin"), kv P "breakpoint" 13 (.builtin "breakpoint"), kv P "callable" 14 (.builtin "callable"), kv P "chr" 15 (.builtin "chr"), kv P "compile" 16 (.builtin "compile"), kv P "delattr" 17 (.builtin "delattr"), kv P "dir" 18 (.builtin "dir"), kv P "divmod" 19 (.builtin "divmod"), kv P "eval" 20 (.builtin "eval"), kv P "exec" 21 (.builtin "exec"), kv P "format" 22 (.builtin "format"), kv P "getattr" 23 (.builtin "getattr"), kv P "globals" 24 (.builtin "globals"), kv P "hasattr" 25 (.builtin "hasattr"), kv P "hash" 26 (.builtin "hash"), kv P "hex" 27 (.builtin "hex"), kv P "id" 28 (.builtin "id"), kv P "input" 29 (.builtin "input"), kv P "isinstance" 30 (.builtin "isinstance"), kv P "issubclass" 31 (.builtin "issubclass"), kv P "iter" 32 (.builtin "iter"), kv P "aiter" 33 (.builtin "aiter"), kv P "len" 34 (.builtin "len"), kv P "locals" 35 (.builtin "locals"), kv P "max" 36 (.builtin "max"), kv P "min" 37 (.builtin "min"), kv P "next" 38 (.builtin "next"), kv P "anext" 39 (.builtin "anext"), kv P "oct" 40 (.builtin "oct"), kv P "ord" 41 (.builtin "ord"), kv P "pow" 42 (.builtin "pow"), kv P "print" 43 (.builtin "print"), kv P "repr" 44 (.builtin "repr"), kv P "round" 45 (.builtin "round"), kv P "setattr" 46 (.builtin "setattr"), kv P "sorted" 47 (.builtin "sorted"), kv P "sum" 48 (.builtin "sum"), kv P "vars" 49 (.builtin "vars"), kv P "None" 50 .none, kv P "Ellipsis" 51 .ellipsis, kv P "NotImplemented" 52 .notImplemented, kv P "False" 53 (.bool false), kv P "True" 54 (.bool true), kv P "bool" 55 (.type "bool"), kv P "memoryview" 56 (.type "memoryview"), kv P "bytearray" 57 (.type "bytearray"), kv P "bytes" 58 (.type "bytes"), kv P "classmethod" 59 (.type "classmethod"), kv P "complex" 60 (.type "complex"), kv P "dict" 61 (.type "dict"), kv P "enumerate" 62 (.type "enumerate"), kv P "filter" 63 (.type "filter"), kv P "float" 64 (.type "float"), kv P "frozenset" 65 (.type "frozenset"), kv P "property" 66 (.type "property"), kv P "int" 67 (.type "int"), kv P "list" 68 (.type "list"), kv P "map" 69 (.type "map"), kv P "object" 70 (.type "object"), kv P "range" 71 (.type "range"), kv P "reversed" 72 (.type "reversed"), kv P "set" 73 (.type "set"), kv P "slice" 74 (.type "slice"), kv P "staticmethod" 75 (.type "staticmethod"), kv P "str" 76 (.type "str"), kv P "super" 77 (.type "super"), kv P "tuple" 78 (.type "tuple"), kv P "type" 79 (.type "type"), kv P "zip" 80 (.type "zip"), kv P "__debug__" 81 (.bool true), kv P "BaseException" 82 (.type "BaseException"), kv P "BaseExceptionGroup" 83 (.type "BaseExceptionGroup"), kv P "Exception" 84 (.type "Exception"), kv P "GeneratorExit" 85 (.type "GeneratorExit"), kv P "KeyboardInterrupt" 86 (.type "KeyboardInterrupt"), kv P "SystemExit" 87 (.type "SystemExit"), kv P "ArithmeticError" 88 (.type "ArithmeticError"), kv P "AssertionError" 89 (.type "AssertionError"), kv P "AttributeError" 90 (.type "AttributeError"), kv P "BufferError" 91 (.type "BufferError"), kv P "EOFError" 92 (.type "EOFError"), kv P "ImportError" 93 (.type "ImportError"), kv P "LookupError" 94 (.type "LookupError"), kv P "MemoryError" 95 (.type "MemoryError"), kv P "NameError" 96 (.type "NameError"), kv P "OSError" 97 (.type "OSError"), kv P "ReferenceError" 98 (.type "ReferenceError"), kv P "RuntimeError" 99 (.type "RuntimeError"), kv P "StopAsyncIteration" 100 (.type "StopAsyncIteration"), kv P "StopIteration" 101 (.type "StopIteration"), kv P "SyntaxError" 102 (.type "SyntaxError"), kv P "SystemError" 103 (.type "SystemError"), kv P "TypeError" 104 (.type "TypeError"), kv P "ValueError" 105 (.type "ValueError"), kv P "Warning" 106 (.type "Warning"), kv P "FloatingPointError" 107 (.type "FloatingPointError"), kv P "OverflowError" 108 (.type "OverflowError"), kv P "ZeroDivisionError" 109 (.type "ZeroDivisionError"), kv P "BytesWarning" 110 (.type "BytesWarning"), kv P "DeprecationWarning" 111 (.type "DeprecationWarning"), kv P "EncodingWarning" 112 (.type "EncodingWarning"), kv P "FutureWarning" 113 (.type "FutureWarning"), kv P "ImportWarning" 114 (.type "ImportWarning"), kv P "PendingDeprecationWarning" 115 (.type "PendingDeprecationWarning"), kv P "ResourceWarning" 116 (.type "ResourceWarning"), kv P "RuntimeWarning" 117 (.type "RuntimeWarning"), kv P "SyntaxWarning" 118 (.type "SyntaxWarning"), kv P "UnicodeWarning" 119 (.type "UnicodeWarning"), kv P "UserWarning" 120 (.type "UserWarning"), kv P "BlockingIOError" 121 (.type "BlockingIOError"), kv P "ChildProcessError" 122 (.type "ChildProcessError"), kv P "ConnectionError" 123 (.type "ConnectionError"), kv P "FileExistsError" 124 (.type "FileExistsError"), kv P "FileNotFoundError" 125 (.type "FileNotFoundError"), kv P "InterruptedError" 126 (.type "InterruptedError"), kv P "IsADirectoryError" 127 (.type "IsADirectoryError"), kv P "NotADirectoryError" 128 (.type "NotADirectoryError"), kv P "PermissionError" 129 (.type "PermissionError"), kv P "ProcessLookupError" 130 (.type "ProcessLookupError"), kv P "TimeoutError" 131 (.type "TimeoutError"), kv P "IndentationError" 132 (.type "IndentationError"), kv P "_IncompleteInputError" 133 (.type "_IncompleteInputError"), kv P "IndexError" 134 (.type "IndexError"), kv P "KeyError" 135 (.type "KeyError"), kv P "ModuleNotFoundError" 136 (.type "ModuleNotFoundError"), kv P "NotImplementedError" 137 (.type "NotImplementedError"), kv P "PythonFinalizationError" 138 (.type "PythonFinalizationError"), kv P "RecursionError" 139 (.type "RecursionError"), kv P "UnboundLocalError" 140 (.type "UnboundLocalError"), kv P "UnicodeError" 141 (.type "UnicodeError"), kv P "BrokenPipeError" 142 (.type "BrokenPipeError"), kv P "ConnectionAbortedError" 143 (.type "ConnectionAbortedError"), kv P "ConnectionRefusedError" 144 (.type "ConnectionRefusedError"), kv P "ConnectionResetError" 145 (.type "ConnectionResetError"), kv P "TabError" 146 (.type "TabError"), kv P "UnicodeDecodeError" 147 (.type "UnicodeDecodeError"), kv P "UnicodeEncodeError" 148 (.type "UnicodeEncodeError"), kv P "UnicodeTranslateError" 149 (.type "UnicodeTranslateError"), kv P "ExceptionGroup" 150 (.type "ExceptionGroup"), kv P "EnvironmentError" 151 (.type "OSError"), kv P "IOError" 152 (.type "OSError"), kv P "open" 153 (.builtin "open"), kv P "quit" 154 (.builtin "builtins.quit#opaque"), kv P "exit" 155 (.builtin "builtins.exit#opaque"), kv P "copyright" 156 (.builtin "builtins.copyright#opaque"), kv P "credits" 157 (.builtin "builtins.credits#opaque"), kv P "license" 158 (.builtin "builtins.license#opaque"), kv P "help" 159 (.builtin "builtins.help#opaque")] 159, #[]⟩), (⟨(.type "dict"), none, .dict #[kv P "builtins" 162 (.ref 4), kv P "__main__" 163 (.ref 5)] 2, #[]⟩), o2, o3 P, (⟨(.type "module"), (some 0), .plain, #[]⟩), (⟨(.type "module"), (some 3), .plain, #[]⟩), (⟨(.type "dict"), none, .dict #[] 0, #[]⟩), (tu []), (fi []), (co [(sv "<module>" 176), (sv "<module>" 177), (sv "/claim/cut.py" 178), (.int 1 0), (.int 0 0), (.int 0 0), (.int 0 0), (.int 0 0), (.ref 7), (.bool false), (.int 175 0), (.ref 8), .none, .none, .none, .none, (.int 179 0), (.int 1 0), (sv "/claim/cut.py" 180)]), (⟨(.type "frame"), none, .plain, #[(some (.ref 9)), (some (.ref 3)), (some (.ref 3)), none, (some (sv "__main__" 164)), none, (some (.ref 0))]⟩), (tu []), (fi [(.int 1 0), (.int 0 0), (.ref 20), (.int 5 0), (.int 0 0), (.ref 27), (.int 10 0), (.int 0 0), (.ref 48), (.int 12 0), (.int 0 0), (.ref 60), (.int 17 0), (.int 0 0), (.ref 79), (.int 19 0), (.int 0 0), (.ref 91), (.int 59 0), (.int 0 0), (.ref 113), (.int 97 0), (.int 0 0), (.ref 190), (.int 99 0), (.int 0 0), (.ref 197), (.int 101 0), (.int 0 0), (.ref 204), (.int 103 0), (.int 0 0), (.ref 211), (.int 113 0), (.int 0 0), (.ref 218), (.int 160 0), (.int 0 0), (.ref 276), (.int 315 0), (.int 0 0), (.ref 429), (.int 318 0), (.int 0 0), (.ref 436), (.int 321 0), (.int 0 0), (.ref 443), (.int 451 0), (.int 0 0), (.ref 617), (.int 467 0), (.int 0 0), (.ref 659), (.int 529 0), (.int 0 0), (.ref 724), (.int 612 0), (.int 0 0), (.ref 844), (.int 614 0), (.int 0 0), (.ref 851), (.int 625 0), (.int 0 0), (.ref 858), (.int 643 0), (.int 0 0), (.ref 865), (.int 648 0), (.int 0 0), (.ref 872), (.int 654 0), (.int 0 0), (.ref 879), (.int 660 0), (.int 0 0), (.ref 886), (.int 672 0), (.int 0 0), (.ref 891)]), (co [(sv "<module>" 182), (sv "<module>" 183), (sv "/claim/cut.py" 184), (.int 1 0), (.int 0 0), (.int 0 0), (.int 0 0), (.int 0 0), (.ref 11), (.bool false), (.int 181 0), (.ref 12), .none, .none, .none, .none, (.int 185 0), (.int 1 0), (sv "/claim/cut.py" 186)]), (⟨(.type "frame"), none, .plain, #[(some (.ref 13)), (some (.ref 3)), (some (.ref 3)), none, (some (sv "__main__" 164)), none, (some (.ref 0))]⟩), o15, (fi []), o17, o18, (fnT (st 0) "_wall"), o20, o21, o22, (⟨(.type "builtin_function_or_method"), none, .fields #[(.builtin "type.__prepare__"), (.type "type")], #[]⟩), (⟨(.type "dict"), none, .dict #[kv P "__module__" 203 (sv "pipeboard.errors" 194), kv P "__qualname__" 205 (sv "BoardError" 204), kv P "__firstlineno__" 207 (.int 5 206), kv P "__init__" 216 (.ref 36), kv P "__static_attributes__" 218 (.ref 37)] 5, #[]⟩), (tu []), (fi [(.int 7 0), (.int 4 0), (.ref 35)]), (co [(sv "BoardError" 198), (sv "BoardError" 199), (sv "/claim/cut.py" 200), (.int 5 0), (.int 0 0), (.int 0 0), (.int 0 0), (.int 0 0), (.ref 25), (.bool false), (.int 181 0), (.ref 26), .none, .none, .none, .none, (.int 201 0), (.int 5 0), (sv "/claim/cut.py" 202)]), (⟨(.type "frame"), none, .plain, #[(some (.ref 27)), (some (.ref 3)), (some (.ref 24)), none, (some (sv "pipeboard.errors" 194)), none, (some (.ref 0))]⟩), o29, o30, (fi []), o32, o33, (fnT (sub 2 0) "BoardError.__init__"), o35, o36, o37, o38 P, o39, o40, (⟨(.type "super"), none, .fields #[(.ref 39), (.ref 39), (.ref 39)], #[]⟩), (⟨(.type "builtin_function_or_method"), none, .fields #[(.builtin "object.__init_subclass__"), (.ref 39)], #[]⟩), o43, (⟨(.type "builtin_function_or_method"), none, .fields #[(.builtin "type.__prepare__"), (.type "type")], #[]⟩), (⟨(.type "dict"), none, .dict #[kv P "__module__" 231 (sv "pipeboard.errors" 194), kv P "__qualname__" 233 (sv "BadArgument" 232), kv P "__firstlineno__" 235 (.int 10 234), kv P "__static_attributes__" 236 (.ref 50)] 4, #[]⟩), (tu []), (fi []), (co [(sv "BadArgument" 226), (sv "BadArgument" 227), (sv "/claim/cut.py" 228), (.int 10 0), (.int 0 0), (.int 0 0), (.int 0 0), (.int 0 0), (.ref 46), (.bool false), (.int 181 0), (.ref 47), .none, .none, .none, .none, (.int 229 0), (.int 10 0), (sv "/claim/cut.py" 230)]), (⟨(.type "frame"), none, .plain, #[(some (.ref 48)), (some (.ref 3)), (some (.ref 45)), none, (some (sv "pipeboard.errors" 194)), none, (some (.ref 0))]⟩), o50, o51 P, o52, (⟨(.type "super"), none, .fields #[(.ref 52), (.ref 52), (.ref 52)], #[]⟩), (⟨(.type "builtin_function_or_method"), none, .fields #[(.builtin "object.__init_subclass__"), (.ref 52)], #[]⟩), o55, (⟨(.type "builtin_function_or_method"), none, .fields #[(.builtin "type.__prepare__"), (.type "type")], #[]⟩), (⟨(.type "dict"), none, .dict #[kv P "__module__" 247 (sv "pipeboard.errors" 194), kv P "__qualname__" 249 (sv "BadAddress" 248), kv P "__firstlineno__" 251 (.int 12 250), kv P "__init__" 259 (.ref 68), kv P "__static_attributes__" 261 (.ref 69)] 5, #[]⟩), (tu []), (fi [(.int 14 0), (.int 4 0), (.ref 67)]), (co [(sv "BadAddress" 242), (sv "BadAddress" 243), (sv "/claim/cut.py" 244), (.int 12 0), (.int 0 0), (.int 0 0), (.int 0 0), (.int 0 0), (.ref 58), (.bool false), (.int 181 0), (.ref 59), .none, .none, .none, .none, (.int 245 0), (.int 12 0), (sv "/claim/cut.py" 246)]), (⟨(.type "frame"), none, .plain, #[(some (.ref 60)), (some (.ref 3)), (some (.ref 57)), none, (some (sv "pipeboard.errors" 194)), none, (some (.ref 0))]⟩), o62, (fi []), o64, o65, (fnT (sub 4 0) "BadAddress.__init__"), o67, o68, o69, o70 P, o71, (⟨(.type "super"), none, .fields #[(.ref 71), (.ref 71), (.ref 71)], #[]⟩), (⟨(.type "builtin_function_or_method"), none, .fields #[(.builtin "object.__init_subclass__"), (.ref 71)], #[]⟩), o74, (⟨(.type "builtin_function_or_method"), none, .fields #[(.builtin "type.__prepare__"), (.type "type")], #[]⟩), (⟨(.type "dict"), none, .dict #[kv P "__module__" 272 (sv "pipeboard.errors" 194), kv P "__qualname__" 274 (sv "NoRoom" 273), kv P "__firstlineno__" 276 (.int 17 275), kv P "__static_attributes__" 277 (.ref 81)] 4, #[]⟩), (tu []), (fi []), (co [(sv "NoRoom" 267), (sv "NoRoom" 268), (sv "/claim/cut.py" 269), (.int 17 0), (.int 0 0), (.int 0 0), (.int 0 0), (.int 0 0), (.ref 77), (.bool false), (.int 181 0), (.ref 78), .none, .none, .none, .none, (.int 270 0), (.int 17 0), (sv "/claim/cut.py" 271)]), (⟨(.type "frame"), none, .plain, #[(some (.ref 79)), (some (.ref 3)), (some (.ref 76)), none, (some (sv "pipeboard.errors" 194)), none, (some (.ref 0))]⟩), o81, o82 P, o83, (⟨(.type "super"), none, .fields #[(.ref 83), (.ref 83), (.ref 83)], #[]⟩), (⟨(.type "builtin_function_or_method"), none, .fields #[(.builtin "object.__init_subclass__"), (.ref 83)], #[]⟩), o86, (⟨(.type "builtin_function_or_method"), none, .fields #[(.builtin "type.__prepare__"), (.type "type")], #[]⟩), (⟨(.type "dict"), none, .dict #[kv P "__module__" 288 (sv "pipeboard.errors" 194), kv P "__qualname__" 290 (sv "Trap" 289), kv P "__firstlineno__" 292 (.int 19 291), kv P "FETCH_MISALIGNED" 294 (.int 0 293), kv P "FETCH_ACCESS" 296 (.int 1 295), kv P "ILLEGAL" 298 (.int 2 297), kv P "BREAKPOINT" 300 (.int 3 299), kv P "LOAD_MISALIGNED" 302 (.int 4 301), kv P "LOAD_ACCESS" 304 (.int 5 303), kv P "STORE_MISALIGNED" 306 (.int 6 305), kv P "STORE_ACCESS" 308 (.int 7 307), kv P "CALL_FROM_USER" 310 (.int 8 309), kv P "CALL_FROM_SUPERVISOR" 312 (.int 9 311), kv P "CALL_FROM_MACHINE" 314 (.int 11 313), kv P "FETCH_PAGE" 316 (.int 12 315), kv P "LOAD_PAGE" 318 (.int 13 317), kv P "STORE_PAGE" 320 (.int 15 319), kv P "__init__" 330 (.ref 100), kv P "__static_attributes__" 333 (.ref 101)] 19, #[]⟩), (tu []), (fi [(.int 35 0), (.int 4 0), (.ref 99)]), (co [(sv "Trap" 283), (sv "Trap" 284), (sv "/claim/cut.py" 285), (.int 19 0), (.int 0 0), (.int 0 0), (.int 0 0), (.int 0 0), (.ref 89), (.bool false), (.int 181 0), (.ref 90), .none, .none, .none, .none, (.int 286 0), (.int 19 0), (sv "/claim/cut.py" 287)]), (⟨(.type "frame"), none, .plain, #[(some (.ref 91)), (some (.ref 3)), (some (.ref 88)), none, (some (sv "pipeboard.errors" 194)), none, (some (.ref 0))]⟩), o93, o94, (fi []), o96, o97, (fnT (sub 6 14) "Trap.__init__"), o99, o100, o101, o102 P, o103, (⟨(.type "super"), none, .fields #[(.ref 103), (.ref 103), (.ref 103)], #[]⟩), (⟨(.type "builtin_function_or_method"), none, .fields #[(.builtin "object.__init_subclass__"), (.ref 103)], #[]⟩), o106 P, o107 P, (tu []), (⟨(.type "builtin_function_or_method"), none, .fields #[(.builtin "type.__prepare__"), (.type "type")], #[]⟩), (⟨(.type "dict"), none, .dict #[kv P "__module__" 397 (sv "pipeboard.paging" 337), kv P "__qualname__" 399 (sv "Layout" 398), kv P "__firstlineno__" 401 (.int 59 400), kv P "__init__" 410 (.ref 122), kv P "parts" 419 (.ref 129), kv P "address" 430 (.ref 137), kv P "down" 438 (.ref 144), kv P "up" 446 (.ref 151), kv P "is_begin" 454 (.ref 158), kv P "pages_in" 463 (.ref 165), kv P "entry" 472 (.ref 172), kv P "physical" 480 (.ref 179), kv P "__static_attributes__" 487 (.ref 180)] 13, #[]⟩), (tu []), (fi [(.int 61 0), (.int 4 0), (.ref 121), (.int 71 0), (.int 4 0), (.ref 128), (.int 77 0), (.int 4 0), (.ref 136), (.int 80 0), (.int 4 0), (.ref 143), (.int 83 0), (.int 4 0), (.ref 150), (.int 86 0), (.int 4 0), (.ref 157), (.int 89 0), (.int 4 0), (.ref 164), (.int 92 0), (.int 4 0), (.ref 171), (.int 95 0), (.int 4 0), (.ref 178)]), (co [(sv "Layout" 392), (sv "Layout" 393), (sv "/claim/cut.py" 394), (.int 59 0), (.int 0 0), (.int 0 0), (.int 0 0), (.int 0 0), (.ref 111), (.bool false), (.int 181 0), (.ref 112), .none, .none, .none, .none, (.int 395 0), (.int 59 0), (sv "/claim/cut.py" 396)]), (⟨(.type "frame"), none, .plain, #[(some (.ref 113)), (some (.ref 3)), (some (.ref 110)), none, (some (sv "pipeboard.paging" 337)), none, (some (.ref 0))]⟩), o115, o116, (fi []), o118, o119, (fnT (sub 27 0) "Layout.__init__"), o121, o122, o123, (fi []), o125, o126, (fnT (sub 27 1) "Layout.parts"), o128, o129, o130, o131, (fi []), o133, o134, (fnT (sub 27 2) "Layout.address"), o136, o137, o138, (fi []), o140, o141, (fnT (sub 27 3) "Layout.down"), o143, o144, o145, (fi []), o147, o148, (fnT (sub 27 4) "Layout.up"), o150, o151, o152, (fi []), o154, o155, (fnT (sub 27 5) "Layout.is_begin"), o157, o158, o159, (fi []), o161, o162, (fnT (sub 27 6) "Layout.pages_in"), o164, o165, o166, (fi []), o168, o169, (fnT (sub 27 7) "Layout.entry"), o171, o172, o173, (fi []), o175, o176, (fnT (sub 27 8) "Layout.physical"), o178, o179, o180, o181 P, o182, o183, o184, (⟨(.type "super"), none, .fields #[(.ref 182), (.ref 182), (.ref 182)], #[]⟩), (⟨(.type "builtin_function_or_method"), none, .fields #[(.builtin "object.__init_subclass__"), (.ref 182)], #[]⟩), o187, (fi []), (fnT (st 28) "eight_digits"), o190, o191, o192, (fi []), o194, o195, (fnT (st 29) "is_leaf"), o197, o198, o199, (fi []), o201, o202, (fnT (st 30) "is_sound"), o204, o205, o206, (fi []), o208, o209, (fnT (st 31) "may"), o211, o212, (tu []), (⟨(.type "builtin_function_or_method"), none, .fields #[(.builtin "type.__prepare__"), (.type "type")], #[]⟩), (⟨(.type "dict"), none, .dict #[kv P "__module__" 533 (sv "pipeboard.paging" 337), kv P "__qualname__" 535 (sv "Walker" 534), kv P "__firstlineno__" 537 (.int 113 536), kv P "__init__" 546 (.ref 226), kv P "translate" 564 (.ref 234), kv P "entry_at" 575 (.ref 241), kv P "large_page" 590 (.ref 248), kv P "mark" 602 (.ref 255), kv P "probe" 617 (.ref 263), kv P "__static_attributes__" 620 (.ref 264)] 10, #[]⟩), (tu []), (fi [(.int 115 0), (.int 4 0), (.ref 225), (.int 119 0), (.int 4 0), (.ref 233), (.int 134 0), (.int 4 0), (.ref 240), (.int 143 0), (.int 4 0), (.ref 247), (.int 150 0), (.int 4 0), (.ref 254), (.int 158 0), (.int 4 0), (.ref 262)]), (co [(sv "Walker" 528), (sv "Walker" 529), (sv "/claim/cut.py" 530), (.int 113 0), (.int 0 0), (.int 0 0), (.int 0 0), (.int 0 0), (.ref 216), (.bool false), (.int 181 0), (.ref 217), .none, .none, .none, .none, (.int 531 0), (.int 113 0), (sv "/claim/cut.py" 532)]), (⟨(.type "frame"), none, .plain, #[(some (.ref 218)), (some (.ref 3)), (some (.ref 215)), none, (some (sv "pipeboard.paging" 337)), none, (some (.ref 0))]⟩), o220, (fi []), o222, o223, (fnT (sub 32 0) "Walker.__init__"), o225, o226, o227, o228, (fi []), o230, o231, (fnT (sub 32 1) "Walker.translate"), o233, o234, o235, (fi []), o237, o238, (fnT (sub 32 2) "Walker.entry_at"), o240, o241, o242, (fi []), o244, o245, (fnT (sub 32 3) "Walker.large_page"), o247, o248, o249, (fi []), o251, o252, (fnT (sub 32 4) "Walker.mark"), o254, o255, o256, o257, (fi []), o259, o260, (fnT (sub 32 5) "Walker.probe"), o262, o263, o264, o265 P, o266, o267, o268, (⟨(.type "super"), none, .fields #[(.ref 266), (.ref 266), (.ref 266)], #[]⟩), (⟨(.type "builtin_function_or_method"), none, .fields #[(.builtin "object.__init_subclass__"), (.ref 266)], #[]⟩), (tu []), (⟨(.type "builtin_function_or_method"), none, .fields #[(.builtin "type.__prepare__"), (.type "type")], #[]⟩), (⟨(.type "dict"), none, .dict #[kv P "__module__" 635 (sv "pipeboard.paging" 337), kv P "__qualname__" 637 (sv "Tables" 636), kv P "__firstlineno__" 639 (.int 160 638), kv P "__init__" 649 (.ref 284), kv P "new_table" 657 (.ref 291), kv P "need_parts" 666 (.ref 298), kv P "walk" 681 (.ref 306), kv P "entry" 694 (.ref 313), kv P "physical" 707 (.ref 320), kv P "need_flags" 715 (.ref 327), kv P "map" 726 (.ref 334), kv P "map_large" 737 (.ref 341), kv P "need_place" 747 (.ref 348), kv P "unmap" 758 (.ref 355), kv P "change" 772 (.ref 363), kv P "move" 785 (.ref 370), kv P "tables_of" 796 (.ref 377), kv P "rows" 808 (.ref 384), kv P "rows_of" 821 (.ref 391), kv P "prune" 829 (.ref 398), kv P "leaves" 835 (.ref 403), kv P "free" 845 (.ref 410), kv P "text" 851 (.ref 415), kv P "__static_attributes__" 855 (.ref 416)] 24, #[]⟩), (tu []), (fi [(.int 162 0), (.int 4 0), (.ref 283), (.int 167 0), (.int 4 0), (.ref 290), (.int 172 0), (.int 4 0), (.ref 297), (.int 178 0), (.int 4 0), (.ref 305), (.int 191 0), (.int 4 0), (.ref 312), (.int 199 0), (.int 4 0), (.ref 319), (.int 208 0), (.int 4 0), (.ref 326), (.int 212 0), (.int 4 0), (.ref 333), (.int 220 0), (.int 4 0), (.ref 340), (.int 223 0), (.int 4 0), (.ref 347), (.int 229 0), (.int 4 0), (.ref 354), (.int 235 0), (.int 4 0), (.ref 362), (.int 242 0), (.int 4 0), (.ref 369), (.int 251 0), (.int 4 0), (.ref 376), (.int 259 0), (.int 4 0), (.ref 383), (.int 272 0), (.int 4 0), (.ref 390), (.int 281 0), (.int 4 0), (.ref 397), (.int 284 0), (.int 4 0), (.ref 402), (.int 298 0), (.int 4 0), (.ref 409), (.int 303 0), (.int 4 0), (.ref 414)]), (co [(sv "Tables" 630), (sv "Tables" 631), (sv "/claim/cut.py" 632), (.int 160 0), (.int 0 0), (.int 0 0), (.int 0 0), (.int 0 0), (.ref 274), (.bool false), (.int 181 0), (.ref 275), .none, .none, .none, .none, (.int 633 0), (.int 160 0), (sv "/claim/cut.py" 634)]), (⟨(.type "frame"), none, .plain, #[(some (.ref 276)), (some (.ref 3)), (some (.ref 273)), none, (some (sv "pipeboard.paging" 337)), none, (some (.ref 0))]⟩), o278, (fi []), o280, o281, (fnT (sub 33 0) "Tables.__init__"), o283, o284, o285, (fi []), o287, o288, (fnT (sub 33 1) "Tables.new_table"), o290, o291, o292, (fi []), o294, o295, (fnT (sub 33 2) "Tables.need_parts"), o297, o298, o299, o300, (fi []), o302, o303, (fnT (sub 33 3) "Tables.walk"), o305, o306, o307, (fi []), o309, o310, (fnT (sub 33 4) "Tables.entry"), o312, o313, o314, (fi []), o316, o317, (fnT (sub 33 5) "Tables.physical"), o319, o320, o321, (fi []), o323, o324, (fnT (sub 33 6) "Tables.need_flags"), o326, o327, o328, (fi []), o330, o331, (fnT (sub 33 7) "Tables.map"), o333, o334, o335, (fi []), o337, o338, (fnT (sub 33 8) "Tables.map_large"), o340, o341, o342, (fi []), o344, o345, (fnT (sub 33 9) "Tables.need_place"), o347, o348, o349, (fi []), o351, o352, (fnT (sub 33 10) "Tables.unmap"), o354, o355, o356, o357, (fi []), o359, o360, (fnT (sub 33 11) "Tables.change"), o362, o363, o364, (fi []), o366, o367, (fnT (sub 33 12) "Tables.move"), o369, o370, o371, (fi []), o373, o374, (fnT (sub 33 13) "Tables.tables_of"), o376, o377, o378, (fi []), o380, o381, (fnT (sub 33 14) "Tables.rows"), o383, o384, o385, (fi []), o387, o388, (fnT (sub 33 15) "Tables.rows_of"), o390, o391, o392, (fi []), o394, o395, (fnT (sub 33 16) "Tables.prune"), o397, o398, o399, (fi []), (fnT (sub 33 17) "Tables.leaves"), o402, o403, o404, (fi []), o406, o407, (fnT (sub 33 18) "Tables.free"), o409, o410, o411, (fi []), (fnT (sub 33 19) "Tables.text"), o414, o415, o416, o417 P, o418, o419, o420, (⟨(.type "super"), none, .fields #[(.ref 418), (.ref 418), (.ref 418)], #[]⟩), (⟨(.type "builtin_function_or_method"), none, .fields #[(.builtin "object.__init_subclass__"), (.ref 418)], #[]⟩), o423, o424, (fi []), o426, o427, (fnT (st 39) "need_size"), o429, o430, o431, (fi []), o433, o434, (fnT (st 40) "need_stretch"), o436, o437, (tu []), (⟨(.type "builtin_function_or_method"), none, .fields #[(.builtin "type.__prepare__"), (.type "type")], #[]⟩), (⟨(.type "dict"), none, .dict #[kv P "__module__" 903 (sv "pipeboard.memory" 863), kv P "__qualname__" 905 (sv "Memory" 904), kv P "__firstlineno__" 907 (.int 321 906), kv P "__init__" 917 (.ref 452), kv P "holds" 926 (.ref 459), kv P "need" 935 (.ref 466), kv P "need_aligned" 944 (.ref 473), kv P "word" 952 (.ref 480), kv P "put_word" 961 (.ref 487), kv P "keep" 970 (.ref 494), kv P "half" 978 (.ref 501), kv P "put_half" 987 (.ref 508), kv P "octet" 995 (.ref 515), kv P "put_octet" 1004 (.ref 522), kv P "put_part" 1016 (.ref 529), kv P "get" 1025 (.ref 536), kv P "put" 1035 (.ref 543), kv P "load" 1049 (.ref 550), kv P "store" 1064 (.ref 557), kv P "zero" 1076 (.ref 564), kv P "fill" 1086 (.ref 571), kv P "copy" 1096 (.ref 578), kv P "used" 1103 (.ref 585), kv P "rows" 1109 (.ref 590), kv P "twin" 1116 (.ref 597), kv P "alike" 1124 (.ref 604), kv P "__static_attributes__" 1129 (.ref 605)] 27, #[]⟩), (tu []), (fi [(.int 323 0), (.int 4 0), (.ref 451), (.int 330 0), (.int 4 0), (.ref 458), (.int 333 0), (.int 4 0), (.ref 465), (.int 337 0), (.int 4 0), (.ref 472), (.int 341 0), (.int 4 0), (.ref 479), (.int 345 0), (.int 4 0), (.ref 486), (.int 349 0), (.int 4 0), (.ref 493), (.int 355 0), (.int 4 0), (.ref 500), (.int 359 0), (.int 4 0), (.ref 507), (.int 363 0), (.int 4 0), (.ref 514), (.int 367 0), (.int 4 0), (.ref 521), (.int 371 0), (.int 4 0), (.ref 528), (.int 376 0), (.int 4 0), (.ref 535), (.int 384 0), (.int 4 0), (.ref 542), (.int 393 0), (.int 4 0), (.ref 549), (.int 404 0), (.int 4 0), (.ref 556), (.int 419 0), (.int 4 0), (.ref 563), (.int 430 0), (.int 4 0), (.ref 570), (.int 437 0), (.int 4 0), (.ref 577), (.int 440 0), (.int 4 0), (.ref 584), (.int 443 0), (.int 4 0), (.ref 589), (.int 446 0), (.int 4 0), (.ref 596), (.int 449 0), (.int 4 0), (.ref 603)]), (co [(sv "Memory" 898), (sv "Memory" 899), (sv "/claim/cut.py" 900), (.int 321 0), (.int 0 0), (.int 0 0), (.int 0 0), (.int 0 0), (.ref 441), (.bool false), (.int 181 0), (.ref 442), .none, .none, .none, .none, (.int 901 0), (.int 321 0), (sv "/claim/cut.py" 902)]), (⟨(.type "frame"), none, .plain, #[(some (.ref 443)), (some (.ref 3)), (some (.ref 440)), none, (some (sv "pipeboard.memory" 863)), none, (some (.ref 0))]⟩), o445, o446, (fi []), o448, o449, (fnT (sub 41 0) "Memory.__init__"), o451, o452, o453, (fi []), o455, o456, (fnT (sub 41 1) "Memory.holds"), o458, o459, o460, (fi []), o462, o463, (fnT (sub 41 2) "Memory.need"), o465, o466, o467, (fi []), o469, o470, (fnT (sub 41 3) "Memory.need_aligned"), o472, o473, o474, (fi []), o476, o477, (fnT (sub 41 4) "Memory.word"), o479, o480, o481, (fi []), o483, o484, (fnT (sub 41 5) "Memory.put_word"), o486, o487, o488, (fi []), o490, o491, (fnT (sub 41 6) "Memory.keep"), o493, o494, o495, (fi []), o497, o498, (fnT (sub 41 7) "Memory.half"), o500, o501, o502, (fi []), o504, o505, (fnT (sub 41 8) "Memory.put_half"), o507, o508, o509, (fi []), o511, o512, (fnT (sub 41 9) "Memory.octet"), o514, o515, o516, (fi []), o518, o519, (fnT (sub 41 10) "Memory.put_octet"), o521, o522, o523, (fi []), o525, o526, (fnT (sub 41 11) "Memory.put_part"), o528, o529, o530, (fi []), o532, o533, (fnT (sub 41 12) "Memory.get"), o535, o536, o537, (fi []), o539, o540, (fnT (sub 41 13) "Memory.put"), o542, o543, o544, (fi []), o546, o547, (fnT (sub 41 14) "Memory.load"), o549, o550, o551, (fi []), o553, o554, (fnT (sub 41 15) "Memory.store"), o556, o557, o558, (fi []), o560, o561, (fnT (sub 41 16) "Memory.zero"), o563, o564, o565, (fi []), o567, o568, (fnT (sub 41 17) "Memory.fill"), o570, o571, o572, (fi []), o574, o575, (fnT (sub 41 18) "Memory.copy"), o577, o578, o579, (fi []), o581, o582, (fnT (sub 41 19) "Memory.used"), o584, o585, o586, (fi []), (fnT (sub 41 20) "Memory.rows"), o589, o590, o591, (fi []), o593, o594, (fnT (sub 41 21) "Memory.twin"), o596, o597, o598, (fi []), o600, o601, (fnT (sub 41 22) "Memory.alike"), o603, o604, o605, o606 P, o607, o608, o609, (⟨(.type "super"), none, .fields #[(.ref 607), (.ref 607), (.ref 607)], #[]⟩), (⟨(.type "builtin_function_or_method"), none, .fields #[(.builtin "object.__init_subclass__"), (.ref 607)], #[]⟩), (tu []), (⟨(.type "builtin_function_or_method"), none, .fields #[(.builtin "type.__prepare__"), (.type "type")], #[]⟩), (⟨(.type "dict"), none, .dict #[kv P "__module__" 1144 (sv "pipeboard.memory" 863), kv P "__qualname__" 1146 (sv "Rom" 1145), kv P "__firstlineno__" 1148 (.int 451 1147), kv P "__init__" 1156 (.ref 625), kv P "size" 1163 (.ref 632), kv P "load" 1174 (.ref 639), kv P "store" 1184 (.ref 646), kv P "__static_attributes__" 1186 (.ref 647)] 8, #[]⟩), (tu []), (fi [(.int 453 0), (.int 4 0), (.ref 624), (.int 456 0), (.int 4 0), (.ref 631), (.int 459 0), (.int 4 0), (.ref 638), (.int 465 0), (.int 4 0), (.ref 645)]), (co [(sv "Rom" 1139), (sv "Rom" 1140), (sv "/claim/cut.py" 1141), (.int 451 0), (.int 0 0), (.int 0 0), (.int 0 0), (.int 0 0), (.ref 615), (.bool false), (.int 181 0), (.ref 616), .none, .none, .none, .none, (.int 1142 0), (.int 451 0), (sv "/claim/cut.py" 1143)]), (⟨(.type "frame"), none, .plain, #[(some (.ref 617)), (some (.ref 3)), (some (.ref 614)), none, (some (sv "pipeboard.memory" 863)), none, (some (.ref 0))]⟩), o619, (fi []), o621, o622, (fnT (sub 42 0) "Rom.__init__"), o624, o625, o626, (fi []), o628, o629, (fnT (sub 42 1) "Rom.size"), o631, o632, o633, (fi []), o635, o636, (fnT (sub 42 2) "Rom.load"), o638, o639, o640, (fi []), o642, o643, (fnT (sub 42 3) "Rom.store"), o645, o646, o647, o648 P, o649, o650, o651, (⟨(.type "super"), none, .fields #[(.ref 649), (.ref 649), (.ref 649)], #[]⟩), (⟨(.type "builtin_function_or_method"), none, .fields #[(.builtin "object.__init_subclass__"), (.ref 649)], #[]⟩), (tu []), (⟨(.type "builtin_function_or_method"), none, .fields #[(.builtin "type.__prepare__"), (.type "type")], #[]⟩), (⟨(.type "dict"), none, .dict #[kv P "__module__" 1201 (sv "pipeboard.memory" 863), kv P "__qualname__" 1203 (sv "Bus" 1202), kv P "__firstlineno__" 1205 (.int 467 1204), kv P "__init__" 1213 (.ref 667), kv P "attach" 1223 (.ref 674), kv P "stretch_at" 1233 (.ref 681), kv P "load" 1246 (.ref 689), kv P "store" 1260 (.ref 697), kv P "fetch" 1270 (.ref 704), kv P "is_memory" 1279 (.ref 711), kv P "__static_attributes__" 1282 (.ref 712)] 11, #[]⟩), (tu []), (fi [(.int 469 0), (.int 4 0), (.ref 666), (.int 473 0), (.int 4 0), (.ref 673), (.int 476 0), (.int 4 0), (.ref 680), (.int 482 0), (.int 4 0), (.ref 688), (.int 497 0), (.int 4 0), (.ref 696), (.int 513 0), (.int 4 0), (.ref 703), (.int 524 0), (.int 4 0), (.ref 710)]), (co [(sv "Bus" 1196), (sv "Bus" 1197), (sv "/claim/cut.py" 1198), (.int 467 0), (.int 0 0), (.int 0 0), (.int 0 0), (.int 0 0), (.ref 657), (.bool false), (.int 181 0), (.ref 658), .none, .none, .none, .none, (.int 1199 0), (.int 467 0), (sv "/claim/cut.py" 1200)]), (⟨(.type "frame"), none, .plain, #[(some (.ref 659)), (some (.ref 3)), (some (.ref 656)), none, (some (sv "pipeboard.memory" 863)), none, (some (.ref 0))]⟩), o661, (fi []), o663, o664, (fnT (sub 43 0) "Bus.__init__"), o666, o667, o668, (fi []), o670, o671, (fnT (sub 43 1) "Bus.attach"), o673, o674, o675, (fi []), o677, o678, (fnT (sub 43 2) "Bus.stretch_at"), o680, o681, o682, o683, (fi []), o685, o686, (fnT (sub 43 3) "Bus.load"), o688, o689, o690, o691, (fi []), o693, o694, (fnT (sub 43 4) "Bus.store"), o696, o697, o698, (fi []), o700, o701, (fnT (sub 43 5) "Bus.fetch"), o703, o704, o705, (fi []), o707, o708, (fnT (sub 43 6) "Bus.is_memory"), o710, o711, o712, o713 P, o714, o715, o716, (⟨(.type "super"), none, .fields #[(.ref 714), (.ref 714), (.ref 714)], #[]⟩), (⟨(.type "builtin_function_or_method"), none, .fields #[(.builtin "object.__init_subclass__"), (.ref 714)], #[]⟩), (tu []), (⟨(.type "builtin_function_or_method"), none, .fields #[(.builtin "type.__prepare__"), (.type "type")], #[]⟩), (⟨(.type "dict"), none, .dict #[kv P "__module__" 1303 (sv "pipeboard.pages" 1290), kv P "__qualname__" 1305 (sv "Pages" 1304), kv P "__firstlineno__" 1307 (.int 529 1306), kv P "__init__" 1319 (.ref 733), kv P "address_of" 1327 (.ref 740), kv P "is_page" 1337 (.ref 747), kv P "holders" 1345 (.ref 754), kv P "need_held" 1353 (.ref 761), kv P "free_count" 1360 (.ref 768), kv P "need_free" 1368 (.ref 775), kv P "filled" 1377 (.ref 782), kv P "take" 1385 (.ref 789), kv P "take_clear" 1392 (.ref 796), kv P "take_many" 1400 (.ref 803), kv P "share" 1408 (.ref 810), kv P "give" 1416 (.ref 817), kv P "own" 1425 (.ref 824), kv P "all_held" 1432 (.ref 831), kv P "__static_attributes__" 1441 (.ref 832)] 19, #[]⟩), (tu []), (fi [(.int 531 0), (.int 4 0), (.ref 732), (.int 543 0), (.int 4 0), (.ref 739), (.int 546 0), (.int 4 0), (.ref 746), (.int 550 0), (.int 4 0), (.ref 753), (.int 555 0), (.int 4 0), (.ref 760), (.int 559 0), (.int 4 0), (.ref 767), (.int 562 0), (.int 4 0), (.ref 774), (.int 566 0), (.int 4 0), (.ref 781), (.int 570 0), (.int 4 0), (.ref 788), (.int 581 0), (.int 4 0), (.ref 795), (.int 584 0), (.int 4 0), (.ref 802), (.int 587 0), (.int 4 0), (.ref 809), (.int 590 0), (.int 4 0), (.ref 816), (.int 600 0), (.int 4 0), (.ref 823), (.int 609 0), (.int 4 0), (.ref 830)]), (co [(sv "Pages" 1298), (sv "Pages" 1299), (sv "/claim/cut.py" 1300), (.int 529 0), (.int 0 0), (.int 0 0), (.int 0 0), (.int 0 0), (.ref 722), (.bool false), (.int 181 0), (.ref 723), .none, .none, .none, .none, (.int 1301 0), (.int 529 0), (sv "/claim/cut.py" 1302)]), (⟨(.type "frame"), none, .plain, #[(some (.ref 724)), (some (.ref 3)), (some (.ref 721)), none, (some (sv "pipeboard.pages" 1290)), none, (some (.ref 0))]⟩), o726, o727, (fi []), o729, o730, (fnT (sub 47 0) "Pages.__init__"), o732, o733, o734, (fi []), o736, o737, (fnT (sub 47 1) "Pages.address_of"), o739, o740, o741, (fi []), o743, o744, (fnT (sub 47 2) "Pages.is_page"), o746, o747, o748, (fi []), o750, o751, (fnT (sub 47 3) "Pages.holders"), o753, o754, o755, (fi []), o757, o758, (fnT (sub 47 4) "Pages.need_held"), o760, o761, o762, (fi []), o764, o765, (fnT (sub 47 5) "Pages.free_count"), o767, o768, o769, (fi []), o771, o772, (fnT (sub 47 6) "Pages.need_free"), o774, o775, o776, (fi []), o778, o779, (fnT (sub 47 7) "Pages.filled"), o781, o782, o783, (fi []), o785, o786, (fnT (sub 47 8) "Pages.take"), o788, o789, o790, (fi []), o792, o793, (fnT (sub 47 9) "Pages.take_clear"), o795, o796, o797, (fi []), o799, o800, (fnT (sub 47 10) "Pages.take_many"), o802, o803, o804, (fi []), o806, o807, (fnT (sub 47 11) "Pages.share"), o809, o810, o811, (fi []), o813, o814, (fnT (sub 47 12) "Pages.give"), o816, o817, o818, (fi []), o820, o821, (fnT (sub 47 13) "Pages.own"), o823, o824, o825, (fi []), o827, o828, (fnT (sub 47 14) "Pages.all_held"), o830, o831, o832, o833 P, o834, o835, o836, (⟨(.type "super"), none, .fields #[(.ref 834), (.ref 834), (.ref 834)], #[]⟩), (⟨(.type "builtin_function_or_method"), none, .fields #[(.builtin "object.__init_subclass__"), (.ref 834)], #[]⟩), o839, (fi []), o841, o842, (fnT (st 49) "_law_flags"), o844, o845, o846, (fi []), o848, o849, (fnT (st 50) "_law_done"), o851, o852, o853, (fi []), o855, o856, (fnT (st 51) "_law_due"), o858, o859, o860, (fi []), o862, o863, (fnT (st 52) "_law_accessed"), o865, o866, o867, (fi []), o869, o870, (fnT (st 53) "_law_access_due"), o872, o873, o874, (fi []), o876, o877, (fnT (st 54) "_law_rows"), o879, o880, o881, (fi []), o883, o884, (fnT (st 55) "_law_alike"), o886, o887, o888, (fi []), (fnT (st 56) "law"), o891, o892]
noncomputable def sp : List Obj → List Obj × List Obj
  | [] => ([], [])
  | a :: l => (a :: (sp l).2, (sp l).1)
noncomputable def bt : Nat → List Obj → BT
  | 0, _ => .nil
  | _ + 1, [] => .nil
  | n + 1, a :: l => .node a (bt n (sp l).1) (bt n (sp l).2)
noncomputable def envT : Env := { scope := pw.main.scope, locals := mainNs, globals := mainNs, cells := [], code := .ref 13, frame := some 14 }
noncomputable def cE : Code := .body (behindTheImports pw) envT
noncomputable def Ta (P : Params) : BT := bt 11 ((((fl P).take 15).set 3 (v0 P)).set 12 v1)
noncomputable def T0 (P : Params) : BT := bt 11 (((((fl P).take 55).set 3 (v2 P)).set 12 v3).set 39 v4)
noncomputable def T1 (P : Params) : BT := bt 11 (((((fl P).take 86).set 3 (v5 P)).set 12 v6).set 39 v7)
noncomputable def T2 (P : Params) : BT := bt 11 ((((fl P).take 106).set 3 (v8 P)).set 12 v9)
noncomputable def T3 (P : Params) : BT := bt 11 ((((fl P).take 106).set 3 (v10 P)).set 12 v9)
noncomputable def T4 (P : Params) : BT := bt 11 ((((fl P).take 108).set 3 (v11 P)).set 12 v9)
noncomputable def T5 (P : Params) : BT := bt 11 ((((fl P).take 199).set 3 (v12 P)).set 12 v13)
noncomputable def T6 (P : Params) : BT := bt 11 ((((fl P).take 271).set 3 (v14 P)).set 12 v15)
noncomputable def T7 (P : Params) : BT := bt 11 ((((fl P).take 423).set 3 (v16 P)).set 12 v17)
noncomputable def T8 (P : Params) : BT := bt 11 ((((fl P).take 438).set 3 (v18 P)).set 12 v19)
noncomputable def T9 (P : Params) : BT := bt 11 ((((fl P).take 612).set 3 (v20 P)).set 12 v21)
noncomputable def T10 (P : Params) : BT := bt 11 ((((fl P).take 654).set 3 (v22 P)).set 12 v23)
noncomputable def T11 (P : Params) : BT := bt 11 ((((fl P).take 719).set 3 (v24 P)).set 12 v25)
noncomputable def T12 (P : Params) : BT := bt 11 ((((fl P).take 839).set 3 (v26 P)).set 12 v27)
noncomputable def T13 (P : Params) : BT := bt 11 (fl P)
end Mine

namespace Mine
noncomputable abbrev twSeg := @PySem.W.Fast.tw10110043849684766642
noncomputable abbrev twTab := @PySem.W.Fast.tw14364793385576792824
noncomputable abbrev twEx := @PySem.W.Fast.tw12563942051412417395
noncomputable abbrev pos0 : Pos := ⟨0, 0, 0, 0⟩
noncomputable abbrev thr (l : List Stmt) (p : Pos) : Thread := piecesOf l envT cE p [topFrame pos0]
noncomputable def thrT (l : List Stmt) (p : Pos) : Thread := { cur := Sem.wrap doneF deadEnd id id (twEx l envT), code := cE, pos := p, stack := [topFrame pos0] }
theorem thr_eq (l : List Stmt) (p : Pos) : thr l p = thrT l p := by
  unfold thrT thr piecesOf
  rw [show @execs = @twEx from PySem.W.Fast.te12563942051412417395]
theorem seg_eq (w : World) (n : Nat) (S : SharedT) (l : List Stmt) (p : Pos) : segRunT treeTable pw w 11 (some (.ref 6)) 1 n S (thr l p) = twSeg twTab pw w 11 (some (.ref 6)) 1 n S (thrT l p) := by
  rw [thr_eq]
  exact congrFun (congrFun (congrFun (congrFun (congrFun (congrFun (congrFun (congrFun (congr PySem.W.Fast.te10110043849684766642 PySem.W.Fast.te14364793385576792824) _) _) _) _) _) _) _) _
noncomputable def sts (a n : Nat) : List Stmt := (pw.main.body.drop a).take n
noncomputable def S (T : Params → BT) (w : World) (n tk : Nat) (os : OsState) : SharedT := ⟨T w.params, n, {}, #[], {}, tk, os⟩
theorem g0 (w : World) (os : OsState) : segRunT treeTable pw w 11 (some (.ref 6)) 1 472 (S Ta w 15 187 os) (thr (sts 0 4) pos0) = some (.next, S T0 w 55 240 os, cE, (⟨10, 0, 11, 8⟩ : Pos)) := by
  rw [seg_eq]
  kernel_rfl
theorem g1 (w : World) (os : OsState) : segRunT treeTable pw w 11 (some (.ref 6)) 1 459 (S T0 w 55 240 os) (thr (sts 4 2) ⟨10, 0, 11, 8⟩) = some (.next, S T1 w 86 281 os, cE, (⟨17, 0, 18, 8⟩ : Pos)) := by
  rw [seg_eq]
  kernel_rfl
theorem g2 (w : World) (os : OsState) : segRunT treeTable pw w 11 (some (.ref 6)) 1 555 (S T1 w 86 281 os) (thr (sts 6 17) ⟨17, 0, 18, 8⟩) = some (.next, S T2 w 106 372 os, cE, (⟨54, 0, 54, 4⟩ : Pos)) := by
  rw [seg_eq]
  kernel_rfl
theorem g3 (w : World) (os : OsState) : segRunT treeTable pw w 11 (some (.ref 6)) 1 10 (S T2 w 106 372 os) (thr (sts 23 1) ⟨54, 0, 54, 4⟩) = some (.next, S T3 w 106 374 os, cE, (⟨55, 0, 55, 5⟩ : Pos)) := by
  rw [seg_eq]
  kernel_rfl
theorem g4_b (b : Bool) (w : World) : (fun os => segRunT treeTable pw (w.withFollow "special-get-raises" b) 11 (some (.ref 6)) 1 195 (S T3 (w.withFollow "special-get-raises" b) 106 374 os) (thr (sts 24 2) ⟨55, 0, 55, 5⟩)) = fun os => some (.next, S T4 (w.withFollow "special-get-raises" b) 108 388 os, cE, (⟨57, 0, 57, 13⟩ : Pos)) := by
  funext os
  rw [seg_eq]
  cases b <;> kernel_rfl
theorem g4 (w : World) (os : OsState) : segRunT treeTable pw w 11 (some (.ref 6)) 1 195 (S T3 w 106 374 os) (thr (sts 24 2) ⟨55, 0, 55, 5⟩) = some (.next, S T4 w 108 388 os, cE, (⟨57, 0, 57, 13⟩ : Pos)) :=
  congrFun (byRow2 "special-get-raises" (P := fun w => (fun os => segRunT treeTable pw w 11 (some (.ref 6)) 1 195 (S T3 w 106 374 os) (thr (sts 24 2) ⟨55, 0, 55, 5⟩)) = fun os => some (.next, S T4 w 108 388 os, cE, (⟨57, 0, 57, 13⟩ : Pos))) (g4_b false) (g4_b true) w) os
theorem g5 (w : World) (os : OsState) : segRunT treeTable pw w 11 (some (.ref 6)) 1 557 (S T4 w 108 388 os) (thr (sts 26 4) ⟨57, 0, 57, 13⟩) = some (.next, S T5 w 199 508 os, cE, (⟨99, 0, 100, 28⟩ : Pos)) := by
  rw [seg_eq]
  kernel_rfl
theorem g6 (w : World) (os : OsState) : segRunT treeTable pw w 11 (some (.ref 6)) 1 480 (S T5 w 199 508 os) (thr (sts 30 3) ⟨99, 0, 100, 28⟩) = some (.next, S T6 w 271 628 os, cE, (⟨113, 0, 159, 16⟩ : Pos)) := by
  rw [seg_eq]
  kernel_rfl
theorem g7 (w : World) (os : OsState) : segRunT treeTable pw w 11 (some (.ref 6)) 1 883 (S T6 w 271 628 os) (thr (sts 33 1) ⟨113, 0, 159, 16⟩) = some (.next, S T7 w 423 863 os, cE, (⟨160, 0, 309, 31⟩ : Pos)) := by
  rw [seg_eq]
  kernel_rfl
theorem g8 (w : World) (os : OsState) : segRunT treeTable pw w 11 (some (.ref 6)) 1 127 (S T7 w 423 863 os) (thr (sts 34 7) ⟨160, 0, 309, 31⟩) = some (.next, S T8 w 438 896 os, cE, (⟨318, 0, 320, 53⟩ : Pos)) := by
  rw [seg_eq]
  kernel_rfl
theorem g9 (w : World) (os : OsState) : segRunT treeTable pw w 11 (some (.ref 6)) 1 962 (S T8 w 438 896 os) (thr (sts 41 1) ⟨318, 0, 320, 53⟩) = some (.next, S T9 w 612 1137 os, cE, (⟨321, 0, 450, 100⟩ : Pos)) := by
  rw [seg_eq]
  kernel_rfl
theorem g10 (w : World) (os : OsState) : segRunT treeTable pw w 11 (some (.ref 6)) 1 323 (S T9 w 612 1137 os) (thr (sts 42 1) ⟨321, 0, 450, 100⟩) = some (.next, S T10 w 654 1194 os, cE, (⟨451, 0, 466, 32⟩ : Pos)) := by
  rw [seg_eq]
  kernel_rfl
theorem g11 (w : World) (os : OsState) : segRunT treeTable pw w 11 (some (.ref 6)) 1 493 (S T10 w 654 1194 os) (thr (sts 43 4) ⟨451, 0, 466, 32⟩) = some (.next, S T11 w 719 1296 os, cE, (⟨528, 0, 528, 5⟩ : Pos)) := by
  rw [seg_eq]
  kernel_rfl
theorem g12 (w : World) (os : OsState) : segRunT treeTable pw w 11 (some (.ref 6)) 1 684 (S T11 w 719 1296 os) (thr (sts 47 1) ⟨528, 0, 528, 5⟩) = some (.next, S T12 w 839 1449 os, cE, (⟨529, 0, 610, 17⟩ : Pos)) := by
  rw [seg_eq]
  kernel_rfl
theorem g13 (w : World) (os : OsState) : segRunT treeTable pw w 11 (some (.ref 6)) 1 276 (S T12 w 839 1449 os) (thr (sts 48 9) ⟨529, 0, 610, 17⟩) = some (.next, S T13 w 893 1543 os, cE, (⟨672, 0, 698, 101⟩ : Pos)) := by
  rw [seg_eq]
  kernel_rfl
end Mine

namespace Mine
noncomputable def KF (P : Params) : Frag := (nat_lit 2, o2) :: (nat_lit 3, o3 P) :: (nat_lit 15, o15) :: (nat_lit 17, o17) :: (nat_lit 18, o18) :: (nat_lit 20, o20) :: (nat_lit 21, o21) :: (nat_lit 22, o22) :: (nat_lit 29, o29) :: (nat_lit 30, o30) :: (nat_lit 32, o32) :: (nat_lit 33, o33) :: (nat_lit 35, o35) :: (nat_lit 36, o36) :: (nat_lit 37, o37) :: (nat_lit 38, o38 P) :: (nat_lit 39, o39) :: (nat_lit 40, o40) :: (nat_lit 43, o43) :: (nat_lit 50, o50) :: (nat_lit 51, o51 P) :: (nat_lit 52, o52) :: (nat_lit 55, o55) :: (nat_lit 62, o62) :: (nat_lit 64, o64) :: (nat_lit 65, o65) :: (nat_lit 67, o67) :: (nat_lit 68, o68) :: (nat_lit 69, o69) :: (nat_lit 70, o70 P) :: (nat_lit 71, o71) :: (nat_lit 74, o74) :: (nat_lit 81, o81) :: (nat_lit 82, o82 P) :: (nat_lit 83, o83) :: (nat_lit 86, o86) :: (nat_lit 93, o93) :: (nat_lit 94, o94) :: (nat_lit 96, o96) :: (nat_lit 97, o97) :: (nat_lit 99, o99) :: (nat_lit 100, o100) :: (nat_lit 101, o101) :: (nat_lit 102, o102 P) :: (nat_lit 103, o103) :: (nat_lit 106, o106 P) :: (nat_lit 107, o107 P) :: (nat_lit 115, o115) :: (nat_lit 116, o116) :: (nat_lit 118, o118) :: (nat_lit 119, o119) :: (nat_lit 121, o121) :: (nat_lit 122, o122) :: (nat_lit 123, o123) :: (nat_lit 125, o125) :: (nat_lit 126, o126) :: (nat_lit 128, o128) :: (nat_lit 129, o129) :: (nat_lit 130, o130) :: (nat_lit 131, o131) :: (nat_lit 133, o133) :: (nat_lit 134, o134) :: (nat_lit 136, o136) :: (nat_lit 137, o137) :: (nat_lit 138, o138) :: (nat_lit 140, o140) :: (nat_lit 141, o141) :: (nat_lit 143, o143) :: (nat_lit 144, o144) :: (nat_lit 145, o145) :: (nat_lit 147, o147) :: (nat_lit 148, o148) :: (nat_lit 150, o150) :: (nat_lit 151, o151) :: (nat_lit 152, o152) :: (nat_lit 154, o154) :: (nat_lit 155, o155) :: (nat_lit 157, o157) :: (nat_lit 158, o158) :: (nat_lit 159, o159) :: (nat_lit 161, o161) :: (nat_lit 162, o162) :: (nat_lit 164, o164) :: (nat_lit 165, o165) :: (nat_lit 166, o166) :: (nat_lit 168, o168) :: (nat_lit 169, o169) :: (nat_lit 171, o171) :: (nat_lit 172, o172) :: (nat_lit 173, o173) :: (nat_lit 175, o175) :: (nat_lit 176, o176) :: (nat_lit 178, o178) :: (nat_lit 179, o179) :: (nat_lit 180, o180) :: (nat_lit 181, o181 P) :: (nat_lit 182, o182) :: (nat_lit 183, o183) :: (nat_lit 184, o184) :: (nat_lit 187, o187) :: (nat_lit 190, o190) :: (nat_lit 191, o191) :: (nat_lit 192, o192) :: (nat_lit 194, o194) :: (nat_lit 195, o195) :: (nat_lit 197, o197) :: (nat_lit 198, o198) :: (nat_lit 199, o199) :: (nat_lit 201, o201) :: (nat_lit 202, o202) :: (nat_lit 204, o204) :: (nat_lit 205, o205) :: (nat_lit 206, o206) :: (nat_lit 208, o208) :: (nat_lit 209, o209) :: (nat_lit 211, o211) :: (nat_lit 212, o212) :: (nat_lit 220, o220) :: (nat_lit 222, o222) :: (nat_lit 223, o223) :: (nat_lit 225, o225) :: (nat_lit 226, o226) :: (nat_lit 227, o227) :: (nat_lit 228, o228) :: (nat_lit 230, o230) :: (nat_lit 231, o231) :: (nat_lit 233, o233) :: (nat_lit 234, o234) :: (nat_lit 235, o235) :: (nat_lit 237, o237) :: (nat_lit 238, o238) :: (nat_lit 240, o240) :: (nat_lit 241, o241) :: (nat_lit 242, o242) :: (nat_lit 244, o244) :: (nat_lit 245, o245) :: (nat_lit 247, o247) :: (nat_lit 248, o248) :: (nat_lit 249, o249) :: (nat_lit 251, o251) :: (nat_lit 252, o252) :: (nat_lit 254, o254) :: (nat_lit 255, o255) :: (nat_lit 256, o256) :: (nat_lit 257, o257) :: (nat_lit 259, o259) :: (nat_lit 260, o260) :: (nat_lit 262, o262) :: (nat_lit 263, o263) :: (nat_lit 264, o264) :: (nat_lit 265, o265 P) :: (nat_lit 266, o266) :: (nat_lit 267, o267) :: (nat_lit 268, o268) :: (nat_lit 278, o278) :: (nat_lit 280, o280) :: (nat_lit 281, o281) :: (nat_lit 283, o283) :: (nat_lit 284, o284) :: (nat_lit 285, o285) :: (nat_lit 287, o287) :: (nat_lit 288, o288) :: (nat_lit 290, o290) :: (nat_lit 291, o291) :: (nat_lit 292, o292) :: (nat_lit 294, o294) :: (nat_lit 295, o295) :: (nat_lit 297, o297) :: (nat_lit 298, o298) :: (nat_lit 299, o299) :: (nat_lit 300, o300) :: (nat_lit 302, o302) :: (nat_lit 303, o303) :: (nat_lit 305, o305) :: (nat_lit 306, o306) :: (nat_lit 307, o307) :: (nat_lit 309, o309) :: (nat_lit 310, o310) :: (nat_lit 312, o312) :: (nat_lit 313, o313) :: (nat_lit 314, o314) :: (nat_lit 316, o316) :: (nat_lit 317, o317) :: (nat_lit 319, o319) :: (nat_lit 320, o320) :: (nat_lit 321, o321) :: (nat_lit 323, o323) :: (nat_lit 324, o324) :: (nat_lit 326, o326) :: (nat_lit 327, o327) :: (nat_lit 328, o328) :: (nat_lit 330, o330) :: (nat_lit 331, o331) :: (nat_lit 333, o333) :: (nat_lit 334, o334) :: (nat_lit 335, o335) :: (nat_lit 337, o337) :: (nat_lit 338, o338) :: (nat_lit 340, o340) :: (nat_lit 341, o341) :: (nat_lit 342, o342) :: (nat_lit 344, o344) :: (nat_lit 345, o345) :: (nat_lit 347, o347) :: (nat_lit 348, o348) :: (nat_lit 349, o349) :: (nat_lit 351, o351) :: (nat_lit 352, o352) :: (nat_lit 354, o354) :: (nat_lit 355, o355) :: (nat_lit 356, o356) :: (nat_lit 357, o357) :: (nat_lit 359, o359) :: (nat_lit 360, o360) :: (nat_lit 362, o362) :: (nat_lit 363, o363) :: (nat_lit 364, o364) :: (nat_lit 366, o366) :: (nat_lit 367, o367) :: (nat_lit 369, o369) :: (nat_lit 370, o370) :: (nat_lit 371, o371) :: (nat_lit 373, o373) :: (nat_lit 374, o374) :: (nat_lit 376, o376) :: (nat_lit 377, o377) :: (nat_lit 378, o378) :: (nat_lit 380, o380) :: (nat_lit 381, o381) :: (nat_lit 383, o383) :: (nat_lit 384, o384) :: (nat_lit 385, o385) :: (nat_lit 387, o387) :: (nat_lit 388, o388) :: (nat_lit 390, o390) :: (nat_lit 391, o391) :: (nat_lit 392, o392) :: (nat_lit 394, o394) :: (nat_lit 395, o395) :: (nat_lit 397, o397) :: (nat_lit 398, o398) :: (nat_lit 399, o399) :: (nat_lit 402, o402) :: (nat_lit 403, o403) :: (nat_lit 404, o404) :: (nat_lit 406, o406) :: (nat_lit 407, o407) :: (nat_lit 409, o409) :: (nat_lit 410, o410) :: (nat_lit 411, o411) :: (nat_lit 414, o414) :: (nat_lit 415, o415) :: (nat_lit 416, o416) :: (nat_lit 417, o417 P) :: (nat_lit 418, o418) :: (nat_lit 419, o419) :: (nat_lit 420, o420) :: (nat_lit 423, o423) :: (nat_lit 424, o424) :: (nat_lit 426, o426) :: (nat_lit 427, o427) :: (nat_lit 429, o429) :: (nat_lit 430, o430) :: (nat_lit 431, o431) :: (nat_lit 433, o433) :: (nat_lit 434, o434) :: (nat_lit 436, o436) :: (nat_lit 437, o437) :: (nat_lit 445, o445) :: (nat_lit 446, o446) :: (nat_lit 448, o448) :: (nat_lit 449, o449) :: (nat_lit 451, o451) :: (nat_lit 452, o452) :: (nat_lit 453, o453) :: (nat_lit 455, o455) :: (nat_lit 456, o456) :: (nat_lit 458, o458) :: (nat_lit 459, o459) :: (nat_lit 460, o460) :: (nat_lit 462, o462) :: (nat_lit 463, o463) :: (nat_lit 465, o465) :: (nat_lit 466, o466) :: (nat_lit 467, o467) :: (nat_lit 469, o469) :: (nat_lit 470, o470) :: (nat_lit 472, o472) :: (nat_lit 473, o473) :: (nat_lit 474, o474) :: (nat_lit 476, o476) :: (nat_lit 477, o477) :: (nat_lit 479, o479) :: (nat_lit 480, o480) :: (nat_lit 481, o481) :: (nat_lit 483, o483) :: (nat_lit 484, o484) :: (nat_lit 486, o486) :: (nat_lit 487, o487) :: (nat_lit 488, o488) :: (nat_lit 490, o490) :: (nat_lit 491, o491) :: (nat_lit 493, o493) :: (nat_lit 494, o494) :: (nat_lit 495, o495) :: (nat_lit 497, o497) :: (nat_lit 498, o498) :: (nat_lit 500, o500) :: (nat_lit 501, o501) :: (nat_lit 502, o502) :: (nat_lit 504, o504) :: (nat_lit 505, o505) :: (nat_lit 507, o507) :: (nat_lit 508, o508) :: (nat_lit 509, o509) :: (nat_lit 511, o511) :: (nat_lit 512, o512) :: (nat_lit 514, o514) :: (nat_lit 515, o515) :: (nat_lit 516, o516) :: (nat_lit 518, o518) :: (nat_lit 519, o519) :: (nat_lit 521, o521) :: (nat_lit 522, o522) :: (nat_lit 523, o523) :: (nat_lit 525, o525) :: (nat_lit 526, o526) :: (nat_lit 528, o528) :: (nat_lit 529, o529) :: (nat_lit 530, o530) :: (nat_lit 532, o532) :: (nat_lit 533, o533) :: (nat_lit 535, o535) :: (nat_lit 536, o536) :: (nat_lit 537, o537) :: (nat_lit 539, o539) :: (nat_lit 540, o540) :: (nat_lit 542, o542) :: (nat_lit 543, o543) :: (nat_lit 544, o544) :: (nat_lit 546, o546) :: (nat_lit 547, o547) :: (nat_lit 549, o549) :: (nat_lit 550, o550) :: (nat_lit 551, o551) :: (nat_lit 553, o553) :: (nat_lit 554, o554) :: (nat_lit 556, o556) :: (nat_lit 557, o557) :: (nat_lit 558, o558) :: (nat_lit 560, o560) :: (nat_lit 561, o561) :: (nat_lit 563, o563) :: (nat_lit 564, o564) :: (nat_lit 565, o565) :: (nat_lit 567, o567) :: (nat_lit 568, o568) :: (nat_lit 570, o570) :: (nat_lit 571, o571) :: (nat_lit 572, o572) :: (nat_lit 574, o574) :: (nat_lit 575, o575) :: (nat_lit 577, o577) :: (nat_lit 578, o578) :: (nat_lit 579, o579) :: (nat_lit 581, o581) :: (nat_lit 582, o582) :: (nat_lit 584, o584) :: (nat_lit 585, o585) :: (nat_lit 586, o586) :: (nat_lit 589, o589) :: (nat_lit 590, o590) :: (nat_lit 591, o591) :: (nat_lit 593, o593) :: (nat_lit 594, o594) :: (nat_lit 596, o596) :: (nat_lit 597, o597) :: (nat_lit 598, o598) :: (nat_lit 600, o600) :: (nat_lit 601, o601) :: (nat_lit 603, o603) :: (nat_lit 604, o604) :: (nat_lit 605, o605) :: (nat_lit 606, o606 P) :: (nat_lit 607, o607) :: (nat_lit 608, o608) :: (nat_lit 609, o609) :: (nat_lit 619, o619) :: (nat_lit 621, o621) :: (nat_lit 622, o622) :: (nat_lit 624, o624) :: (nat_lit 625, o625) :: (nat_lit 626, o626) :: (nat_lit 628, o628) :: (nat_lit 629, o629) :: (nat_lit 631, o631) :: (nat_lit 632, o632) :: (nat_lit 633, o633) :: (nat_lit 635, o635) :: (nat_lit 636, o636) :: (nat_lit 638, o638) :: (nat_lit 639, o639) :: (nat_lit 640, o640) :: (nat_lit 642, o642) :: (nat_lit 643, o643) :: (nat_lit 645, o645) :: (nat_lit 646, o646) :: (nat_lit 647, o647) :: (nat_lit 648, o648 P) :: (nat_lit 649, o649) :: (nat_lit 650, o650) :: (nat_lit 651, o651) :: (nat_lit 661, o661) :: (nat_lit 663, o663) :: (nat_lit 664, o664) :: (nat_lit 666, o666) :: (nat_lit 667, o667) :: (nat_lit 668, o668) :: (nat_lit 670, o670) :: (nat_lit 671, o671) :: (nat_lit 673, o673) :: (nat_lit 674, o674) :: (nat_lit 675, o675) :: (nat_lit 677, o677) :: (nat_lit 678, o678) :: (nat_lit 680, o680) :: (nat_lit 681, o681) :: (nat_lit 682, o682) :: (nat_lit 683, o683) :: (nat_lit 685, o685) :: (nat_lit 686, o686) :: (nat_lit 688, o688) :: (nat_lit 689, o689) :: (nat_lit 690, o690) :: (nat_lit 691, o691) :: (nat_lit 693, o693) :: (nat_lit 694, o694) :: (nat_lit 696, o696) :: (nat_lit 697, o697) :: (nat_lit 698, o698) :: (nat_lit 700, o700) :: (nat_lit 701, o701) :: (nat_lit 703, o703) :: (nat_lit 704, o704) :: (nat_lit 705, o705) :: (nat_lit 707, o707) :: (nat_lit 708, o708) :: (nat_lit 710, o710) :: (nat_lit 711, o711) :: (nat_lit 712, o712) :: (nat_lit 713, o713 P) :: (nat_lit 714, o714) :: (nat_lit 715, o715) :: (nat_lit 716, o716) :: (nat_lit 726, o726) :: (nat_lit 727, o727) :: (nat_lit 729, o729) :: (nat_lit 730, o730) :: (nat_lit 732, o732) :: (nat_lit 733, o733) :: (nat_lit 734, o734) :: (nat_lit 736, o736) :: (nat_lit 737, o737) :: (nat_lit 739, o739) :: (nat_lit 740, o740) :: (nat_lit 741, o741) :: (nat_lit 743, o743) :: (nat_lit 744, o744) :: (nat_lit 746, o746) :: (nat_lit 747, o747) :: (nat_lit 748, o748) :: (nat_lit 750, o750) :: (nat_lit 751, o751) :: (nat_lit 753, o753) :: (nat_lit 754, o754) :: (nat_lit 755, o755) :: (nat_lit 757, o757) :: (nat_lit 758, o758) :: (nat_lit 760, o760) :: (nat_lit 761, o761) :: (nat_lit 762, o762) :: (nat_lit 764, o764) :: (nat_lit 765, o765) :: (nat_lit 767, o767) :: (nat_lit 768, o768) :: (nat_lit 769, o769) :: (nat_lit 771, o771) :: (nat_lit 772, o772) :: (nat_lit 774, o774) :: (nat_lit 775, o775) :: (nat_lit 776, o776) :: (nat_lit 778, o778) :: (nat_lit 779, o779) :: (nat_lit 781, o781) :: (nat_lit 782, o782) :: (nat_lit 783, o783) :: (nat_lit 785, o785) :: (nat_lit 786, o786) :: (nat_lit 788, o788) :: (nat_lit 789, o789) :: (nat_lit 790, o790) :: (nat_lit 792, o792) :: (nat_lit 793, o793) :: (nat_lit 795, o795) :: (nat_lit 796, o796) :: (nat_lit 797, o797) :: (nat_lit 799, o799) :: (nat_lit 800, o800) :: (nat_lit 802, o802) :: (nat_lit 803, o803) :: (nat_lit 804, o804) :: (nat_lit 806, o806) :: (nat_lit 807, o807) :: (nat_lit 809, o809) :: (nat_lit 810, o810) :: (nat_lit 811, o811) :: (nat_lit 813, o813) :: (nat_lit 814, o814) :: (nat_lit 816, o816) :: (nat_lit 817, o817) :: (nat_lit 818, o818) :: (nat_lit 820, o820) :: (nat_lit 821, o821) :: (nat_lit 823, o823) :: (nat_lit 824, o824) :: (nat_lit 825, o825) :: (nat_lit 827, o827) :: (nat_lit 828, o828) :: (nat_lit 830, o830) :: (nat_lit 831, o831) :: (nat_lit 832, o832) :: (nat_lit 833, o833 P) :: (nat_lit 834, o834) :: (nat_lit 835, o835) :: (nat_lit 836, o836) :: (nat_lit 839, o839) :: (nat_lit 841, o841) :: (nat_lit 842, o842) :: (nat_lit 844, o844) :: (nat_lit 845, o845) :: (nat_lit 846, o846) :: (nat_lit 848, o848) :: (nat_lit 849, o849) :: (nat_lit 851, o851) :: (nat_lit 852, o852) :: (nat_lit 853, o853) :: (nat_lit 855, o855) :: (nat_lit 856, o856) :: (nat_lit 858, o858) :: (nat_lit 859, o859) :: (nat_lit 860, o860) :: (nat_lit 862, o862) :: (nat_lit 863, o863) :: (nat_lit 865, o865) :: (nat_lit 866, o866) :: (nat_lit 867, o867) :: (nat_lit 869, o869) :: (nat_lit 870, o870) :: (nat_lit 872, o872) :: (nat_lit 873, o873) :: (nat_lit 874, o874) :: (nat_lit 876, o876) :: (nat_lit 877, o877) :: (nat_lit 879, o879) :: (nat_lit 880, o880) :: (nat_lit 881, o881) :: (nat_lit 883, o883) :: (nat_lit 884, o884) :: (nat_lit 886, o886) :: (nat_lit 887, o887) :: (nat_lit 888, o888) :: (nat_lit 891, o891) :: (nat_lit 892, o892) :: []
noncomputable def asF : List Addr := [2, 3, 15, 17, 18, 20, 21, 22, 29, 30, 32, 33, 35, 36, 37, 38, 39, 40, 43, 50, 51, 52, 55, 62, 64, 65, 67, 68, 69, 70, 71, 74, 81, 82, 83, 86, 93, 94, 96, 97, 99, 100, 101, 102, 103, 106, 107, 115, 116, 118, 119, 121, 122, 123, 125, 126, 128, 129, 130, 131, 133, 134, 136, 137, 138, 140, 141, 143, 144, 145, 147, 148, 150, 151, 152, 154, 155, 157, 158, 159, 161, 162, 164, 165, 166, 168, 169, 171, 172, 173, 175, 176, 178, 179, 180, 181, 182, 183, 184, 187, 190, 191, 192, 194, 195, 197, 198, 199, 201, 202, 204, 205, 206, 208, 209, 211, 212, 220, 222, 223, 225, 226, 227, 228, 230, 231, 233, 234, 235, 237, 238, 240, 241, 242, 244, 245, 247, 248, 249, 251, 252, 254, 255, 256, 257, 259, 260, 262, 263, 264, 265, 266, 267, 268, 278, 280, 281, 283, 284, 285, 287, 288, 290, 291, 292, 294, 295, 297, 298, 299, 300, 302, 303, 305, 306, 307, 309, 310, 312, 313, 314, 316, 317, 319, 320, 321, 323, 324, 326, 327, 328, 330, 331, 333, 334, 335, 337, 338, 340, 341, 342, 344, 345, 347, 348, 349, 351, 352, 354, 355, 356, 357, 359, 360, 362, 363, 364, 366, 367, 369, 370, 371, 373, 374, 376, 377, 378, 380, 381, 383, 384, 385, 387, 388, 390, 391, 392, 394, 395, 397, 398, 399, 402, 403, 404, 406, 407, 409, 410, 411, 414, 415, 416, 417, 418, 419, 420, 423, 424, 426, 427, 429, 430, 431, 433, 434, 436, 437, 445, 446, 448, 449, 451, 452, 453, 455, 456, 458, 459, 460, 462, 463, 465, 466, 467, 469, 470, 472, 473, 474, 476, 477, 479, 480, 481, 483, 484, 486, 487, 488, 490, 491, 493, 494, 495, 497, 498, 500, 501, 502, 504, 505, 507, 508, 509, 511, 512, 514, 515, 516, 518, 519, 521, 522, 523, 525, 526, 528, 529, 530, 532, 533, 535, 536, 537, 539, 540, 542, 543, 544, 546, 547, 549, 550, 551, 553, 554, 556, 557, 558, 560, 561, 563, 564, 565, 567, 568, 570, 571, 572, 574, 575, 577, 578, 579, 581, 582, 584, 585, 586, 589, 590, 591, 593, 594, 596, 597, 598, 600, 601, 603, 604, 605, 606, 607, 608, 609, 619, 621, 622, 624, 625, 626, 628, 629, 631, 632, 633, 635, 636, 638, 639, 640, 642, 643, 645, 646, 647, 648, 649, 650, 651, 661, 663, 664, 666, 667, 668, 670, 671, 673, 674, 675, 677, 678, 680, 681, 682, 683, 685, 686, 688, 689, 690, 691, 693, 694, 696, 697, 698, 700, 701, 703, 704, 705, 707, 708, 710, 711, 712, 713, 714, 715, 716, 726, 727, 729, 730, 732, 733, 734, 736, 737, 739, 740, 741, 743, 744, 746, 747, 748, 750, 751, 753, 754, 755, 757, 758, 760, 761, 762, 764, 765, 767, 768, 769, 771, 772, 774, 775, 776, 778, 779, 781, 782, 783, 785, 786, 788, 789, 790, 792, 793, 795, 796, 797, 799, 800, 802, 803, 804, 806, 807, 809, 810, 811, 813, 814, 816, 817, 818, 820, 821, 823, 824, 825, 827, 828, 830, 831, 832, 833, 834, 835, 836, 839, 841, 842, 844, 845, 846, 848, 849, 851, 852, 853, 855, 856, 858, 859, 860, 862, 863, 865, 866, 867, 869, 870, 872, 873, 874, 876, 877, 879, 880, 881, 883, 884, 886, 887, 888, 891, 892]
theorem asF_eq (P : Params) : asF = (KF P).map (·.1) := by kernel_rfl
noncomputable def HA (P : Params) : Heap := absHeap (Ta P) 15 {}
noncomputable def HF (P : Params) : Heap := ⟨(fl P).toArray, {}⟩
noncomputable abbrev twTop := @PySem.W.Fast.tw15667345088766844465
noncomputable abbrev twDen := @PySem.W.Fast.tw11892475500146522536
noncomputable abbrev twRun := @PySem.W.Fast.tw14082659384304107361
theorem pre_tw (w : World) (os : OsState) : twTop twTab pw w 11 (some (.ref 6)) 12 ⟨boot_heap w.params, #[], boot_drawn, boot_toks, os⟩ (topStub pw) = some (⟨HA w.params, #[], {}, 187, os⟩, ⟨twDen twTab cE, cE, pos0, [topFrame pos0]⟩) := by kernel_rfl
theorem pre (w : World) (os : OsState) : topGo treeTable pw w 11 (some (.ref 6)) 12 ⟨boot_heap w.params, #[], boot_drawn, boot_toks, os⟩ (topStub pw) = some (⟨HA w.params, #[], {}, 187, os⟩, ⟨denote treeTable cE, cE, pos0, [topFrame pos0]⟩) := by
  rw [show @topGo = @twTop from PySem.W.Fast.te15667345088766844465, show @denote = @twDen from PySem.W.Fast.te11892475500146522536, show treeTable = twTab from PySem.W.Fast.te14364793385576792824]
  exact pre_tw w os
theorem block (w : World) (os : OsState) : segRun treeTable pw w 11 (some (.ref 6)) 1 1 ⟨HA w.params, #[], {}, 187, os⟩ (blockOf (behindTheImports pw) envT cE pos0 [topFrame pos0]) = some (.next, (S Ta w 15 187 os).abs, cE, pos0) := by kernel_rfl
theorem body_is : behindTheImports pw = sts 0 4 ++ (sts 4 2 ++ (sts 6 17 ++ (sts 23 1 ++ (sts 24 2 ++ (sts 26 4 ++ (sts 30 3 ++ (sts 33 1 ++ (sts 34 7 ++ (sts 41 1 ++ (sts 42 1 ++ (sts 43 4 ++ (sts 47 1 ++ (sts 48 9 ++ ([])))))))))))))) := by kernel_rfl
theorem fin_tw (w : World) (os : OsState) : twRun twTab pw w 11 (some (.ref 6)) 2 (S T13 w 893 1543 os).abs ⟨doneF .next, cE, (⟨672, 0, 698, 101⟩ : Pos), [topFrame pos0]⟩ = some ⟨HF w.params, #[], {}, 1543, os⟩ := by kernel_rfl
theorem fin (w : World) (os : OsState) : topRun treeTable pw w 11 (some (.ref 6)) 2 (S T13 w 893 1543 os).abs (restOf [] envT cE (⟨672, 0, 698, 101⟩ : Pos) [topFrame pos0]) = some ⟨HF w.params, #[], {}, 1543, os⟩ := by
  refine piece_nil ?_
  rw [show @topRun = @twRun from PySem.W.Fast.te14082659384304107361, show treeTable = twTab from PySem.W.Fast.te14364793385576792824]
  exact fin_tw w os
theorem run (w : World) (os : OsState) : topRun treeTable pw w 11 (some (.ref 6)) (12 + (1 + (472 + (459 + (555 + (10 + (195 + (557 + (480 + (883 + (127 + (962 + (323 + (493 + (684 + (276 + (2))))))))))))))))) ⟨boot_heap w.params, #[], boot_drawn, boot_toks, os⟩ (topStub pw) = some ⟨HF w.params, #[], {}, 1543, os⟩ := by
  refine go_top (pre w os) (piece_block (block w os) ?_)
  rw [body_is]
  exact piece_app (segRun_of (g0 w os)) (piece_app (segRun_of (g1 w os)) (piece_app (segRun_of (g2 w os)) (piece_app (segRun_of (g3 w os)) (piece_app (segRun_of (g4 w os)) (piece_app (segRun_of (g5 w os)) (piece_app (segRun_of (g6 w os)) (piece_app (segRun_of (g7 w os)) (piece_app (segRun_of (g8 w os)) (piece_app (segRun_of (g9 w os)) (piece_app (segRun_of (g10 w os)) (piece_app (segRun_of (g11 w os)) (piece_app (segRun_of (g12 w os)) (piece_app (segRun_of (g13 w os)) (fin w os))))))))))))))
noncomputable def qv : Program := { pw with main := { pw.main with body := pw.main.body.drop 56 } }
noncomputable def looseN : List Str := [Str.ofString "_wall", Str.ofString "BoardError", Str.ofString "BadArgument", Str.ofString "BadAddress", Str.ofString "NoRoom", Str.ofString "Trap", Str.ofString "ENTRY", Str.ofString "VALID", Str.ofString "READ", Str.ofString "WRITE", Str.ofString "EXECUTE", Str.ofString "USER", Str.ofString "ACCESSED", Str.ofString "DIRTY", Str.ofString "LEAF", Str.ofString "FLAG_BITS", Str.ofString "FLAGS", Str.ofString "FLAG_NAMES", Str.ofString "DIGITS", Str.ofString "FETCH", Str.ofString "LOAD", Str.ofString "STORE", Str.ofString "PAGE_FAULTS", Str.ofString "ACCESS_FAULTS", Str.ofString "USER_MODE", Str.ofString "Layout", Str.ofString "eight_digits", Str.ofString "is_leaf", Str.ofString "is_sound", Str.ofString "may", Str.ofString "Walker", Str.ofString "Tables", Str.ofString "WORD", Str.ofString "MASK", Str.ofString "SPACE", Str.ofString "SIZES", Str.ofString "need_size", Str.ofString "need_stretch", Str.ofString "Memory", Str.ofString "Rom", Str.ofString "Bus", Str.ofString "TAKEN", Str.ofString "FREED", Str.ofString "Pages", Str.ofString "_law_flags", Str.ofString "_law_done", Str.ofString "_law_due", Str.ofString "_law_accessed", Str.ofString "_law_access_due", Str.ofString "_law_rows", Str.ofString "_law_alike"]
noncomputable def hk : Hook := kHook KF asF asF_eq
noncomputable def XtN : Shared → Bool := fun s => xlAt qv [] s && recOk (RowW.records PySem.Challenge.rw_pf0220_01.row.toRowW) s
noncomputable abbrev twSeen := @PySem.W.Fast.tw4187177175401517315
theorem lookA (w : World) (os : OsState) : (staticsOk (importedModules pw.main.body) (boot_heap w.params) (HF w.params) && namesBound pw (HF w.params) && gensDone ⟨HF w.params, #[], {}, 1543, os⟩ && laidKept (boot_heap w.params) (HF w.params)) = true := by kernel_rfl
theorem lookB_tw (w : World) (os : OsState) : twSeen qv looseN (importedModules pw.main.body) XtN true ⟨HF w.params, #[], {}, 1543, os⟩ = openGood qv looseN := by kernel_rfl
theorem lookB (w : World) (os : OsState) : openSeen qv looseN (importedModules pw.main.body) XtN true ⟨HF w.params, #[], {}, 1543, os⟩ = openGood qv looseN := by
  rw [show @openSeen = @twSeen from PySem.W.Fast.te4187177175401517315]
  exact lookB_tw w os
/-- the objects at the rising places as, read in one turn through the list -/
noncomputable def selG : List Addr → Nat → List Obj → Frag
  | [], _, _ => []
  | a :: as, n, l => match l.drop (a - n) with
    | [] => []
    | o :: os => (a, o) :: selG as (a + 1) os
noncomputable def posOk : List Addr → Nat → Bool
  | [], _ => true
  | a :: as, n => Nat.ble n a && posOk as (a + 1)
theorem selG_get {full : List Obj} {p : Addr × Obj} (as : List Addr) : ∀ (n : Nat) (l : List Obj), full.drop n = l → posOk as n = true → p ∈ selG as n l → full[p.1]? = some p.2 := by
  induction as with
  | nil => exact fun _ _ _ _ hp => nomatch hp
  | cons a as ih =>
    intro n l hl hq hp
    have hp : p ∈ (match l.drop (a - n) with | [] => [] | o :: os => (a, o) :: selG as (a + 1) os) := hp
    rw [← hl, List.drop_drop, Nat.add_sub_cancel' (Nat.le_of_ble_eq_true (Bool.and_eq_true_iff.mp hq).1)] at hp
    generalize hd : full.drop a = z at hp
    cases z with
    | nil => cases hp
    | cons o os =>
      cases hp with
      | head => exact List.head?_drop.symm.trans (congrArg List.head? hd)
      | tail _ hp => exact ih (a + 1) os (List.tail_drop.symm.trans (congrArg List.tail hd)) (Bool.and_eq_true_iff.mp hq).2 hp
theorem as_ok : posOk asF 0 = true := by kernel_rfl
theorem KF_sel (P : Params) : KF P = selG asF 0 (fl P) := by kernel_rfl
theorem KF_whole (P : Params) : ((KF P).all fun p => Bool.not p.2.isFreed) = true := by kernel_rfl
theorem lookC (w : World) (os : OsState) : Hook.obs hk ⟨HF w.params, #[], {}, 1543, os⟩ = Hook.val hk w := by
  show List.map (HF w.params).get? asF = List.map (fun p => some p.2) (KF w.params)
  rw [asF_eq w.params, List.map_map]
  refine List.map_congr_left fun p hp => Heap.get?_some_iff.mpr ⟨?_, (Bool.not_eq_true' _).mp (List.all_eq_true.mp (KF_whole w.params) p hp)⟩
  show (fl w.params).toArray[p.1]? = some p.2
  rw [List.getElem?_toArray]
  exact selG_get asF 0 _ rfl as_ok (KF_sel w.params ▸ hp)
theorem left : LeftO pw qv looseN XtN (Hook.obs hk) (Hook.val hk) 13050 true := by
  refine LeftO.of_pieces (H₀ := boot_heap) (H₁ := HF) (gs₀ := #[]) (gs₁ := #[]) (d₀ := boot_drawn) (d₁ := {}) (k₀ := boot_toks) (k₁ := 1543) (m₀ := 11) (ann := some (.ref 6)) (M := 12 + (1 + (472 + (459 + (555 + (10 + (195 + (557 + (480 + (883 + (127 + (962 + (323 + (493 + (684 + (276 + (2))))))))))))))))) ?_ ?_ (fun w os => run w os) (by decide) ?_
  · exact boot_open (by kernel_rfl) (by decide) (fun s => by kernel_rfl)
  · intro w; kernel_rfl
  · intro w; funext os
    exact looks_pair (lookA w os) (looks_pair (lookB w os) (lookC w os))
end Mine

namespace Mine
theorem fillAll : PySem.Challenge.rw_pf0220_01 = PySem.Challenge.rw_pf0220_01 ∧ KF = KF := by
  k_fill
  exact ⟨rfl, rfl⟩
end Mine
namespace Mine
theorem lkMeetT : @namesMeet = @PySem.W.Fast.tw17119622794617984870 := PySem.W.Fast.te17119622794617984870
theorem lkRoadT : @noRoadLSs = @PySem.W.Fast.tw8326940854005059898 := PySem.W.Fast.te8326940854005059898
theorem lkOut1 : readsOut pw pw.main.body (Str.ofString "vars") = false := by
  unfold readsOut
  rw [lkMeetT]
  kernel_rfl
theorem lkOut2 : readsOut pw pw.main.body (Str.ofString "dir") = false := by
  unfold readsOut
  rw [lkMeetT]
  kernel_rfl
theorem lkOut3 : readsOut pw pw.main.body (Str.ofString "locals") = false := by
  unfold readsOut
  rw [lkMeetT]
  kernel_rfl
theorem lkBare : List.filter (readsOut pw pw.main.body) [Str.ofString "vars", Str.ofString "dir", Str.ofString "locals"] = [] := by
  rw [List.filter_cons_of_neg (by rw [lkOut1]; exact Bool.false_ne_true), List.filter_cons_of_neg (by rw [lkOut2]; exact Bool.false_ne_true), List.filter_cons_of_neg (by rw [lkOut3]; exact Bool.false_ne_true)]
  rfl
theorem lkRoad : noRoadLSs { strict := !(importedModules pw.main.body).all cThrough.contains, foot := none, bare := List.filter (readsOut pw pw.main.body) [Str.ofString "vars", Str.ofString "dir", Str.ofString "locals"] } pw.main.body = true := by
  rw [lkBare, lkRoadT]
  kernel_rfl
theorem lkMeets : (namesMeet pw pw.main.body fun _ n => attrL n) = true := by
  rw [lkMeetT]
  kernel_rfl
theorem lkResolves : namesResolve pw = true := by
  rw [show @namesResolve = @PySem.W.Fast.tw8377067652309620493 from PySem.W.Fast.te8377067652309620493]
  kernel_rfl
theorem lkLooks : looksOpen PySem.Challenge.rw_pf0220_01.row.prog = true :=
  look_both (look_both (look_both (look_both (show _ = true by kernel_rfl) lkResolves) (show _ = true by kernel_rfl)) lkRoad) lkMeets
theorem lkRow : PySem.Challenge.rw_pf0220_01.row.wellSaid = true := by
  unfold OpenRow.wellSaid OpenRow.partSaid
  rw [lkLooks]
  kernel_rfl
theorem lkBound : (PySem.Challenge.rw_pf0220_01.bound'.all fun n => !builtinNamed n || PySem.Challenge.rw_pf0220_01.about == [n] || !PySem.Challenge.rw_pf0220_01.reads n) = true := by kernel_rfl
theorem lkOwn : (namesMeet PySem.Challenge.rw_pf0220_01.prog PySem.Challenge.rw_pf0220_01.above fun _ n => !PySem.Challenge.rw_pf0220_01.own.contains n) = true := by
  rw [lkMeetT]
  kernel_rfl
theorem said : PySem.Challenge.rw_pf0220_01.wellSaid = true := by
  unfold OpenLaw.wellSaid
  rw [lkRow, lkBound, lkOwn, lkMeetT, lkRoadT]
  kernel_rfl
noncomputable abbrev whS (l : List Stmt) : Bool := TablesWhole.wSs TablesWhole.holds pw.main.scope ⟨pw.main.scope, [], [], [], none⟩ pw.main.scope l
theorem whTold : TablesWhole.wSs TablesWhole.gather pw.main.scope ⟨pw.main.scope, [], [], [], none⟩ pw.main.scope pw.main.body = [] := by kernel_rfl
theorem whS_app (l₁ l₂ : List Stmt) : whS (l₁ ++ l₂) = (whS l₁ && whS l₂) := by
  induction l₁ with
  | nil => rfl
  | cons s l ih => exact (congrArg (fun b => TablesWhole.wS TablesWhole.holds pw.main.scope ⟨pw.main.scope, [], [], [], none⟩ pw.main.scope s && b) ih).trans (Bool.and_assoc ..).symm
theorem whA : whS (sts 0 34) = true := by kernel_rfl
theorem whB : whS (sts 34 8) = true := by kernel_rfl
theorem whC : whS (sts 42 6) = true := by kernel_rfl
theorem whD : whS (sts 48 9) = true := by kernel_rfl
theorem whFour : pw.main.body = sts 0 34 ++ (sts 34 8 ++ (sts 42 6 ++ sts 48 9)) := by kernel_rfl
theorem whBody : whS pw.main.body = true := (congrArg whS whFour).trans ((whS_app _ _).trans (look_both whA ((whS_app _ _).trans (look_both whB ((whS_app _ _).trans (look_both whC whD))))))
theorem whMod {m : Module} (e : TablesWhole.wSs TablesWhole.gather m.scope ⟨m.scope, [], [], [], none⟩ m.scope m.body = []) (n : TablesWhole.noTwice m.scope = true)
    (h : TablesWhole.wSs TablesWhole.holds m.scope ⟨m.scope, [], [], [], none⟩ m.scope m.body = true) : TablesWhole.wModule TablesWhole.holds m = true := by
  unfold TablesWhole.wModule
  dsimp only
  rw [e]
  show (true && (TablesWhole.noTwice m.scope && (TablesWhole.wSs TablesWhole.holds m.scope ⟨m.scope, [], [], [], none⟩ m.scope m.body && true))) = true
  rw [n, h]
  rfl
theorem whProg {p : Program} (h : TablesWhole.wModule TablesWhole.holds p.main = true) (a : p.modules = []) (b : p.parses = []) (c : p.harvested = []) : p.tablesWhole = true := by
  unfold PySem.Program.tablesWhole TablesWhole.wProgram
  rw [h, a, b, c]
  rfl
theorem whTwice : TablesWhole.noTwice pw.main.scope = true := by kernel_rfl
theorem whWhole : pw.tablesWhole = true := whProg (whMod whTold whTwice whBody) rfl rfl rfl
theorem opens (walk : ∀ d kwd, defOf qv (Str.ofString "law") = some (d, kwd) → WalkO qv looseN (XL qv []) (Hook.says hk) PySem.Challenge.rw_pf0220_01.row.toRowW d kwd fun f vs => call f vs) : PySem.Challenge.rw_pf0220_01.Holds := by
  refine holds_law said fun said2 => ?_
  refine PySem.W.holds_open (r := PySem.Challenge.rw_pf0220_01.row) (q := qv) (loose := looseN) (Xt := XtN) (XP := XL qv []) (Yf := Hook.obs hk) (Ya := Hook.val hk) (YP := Hook.says hk) (N := 13050) left (Hook.of hk) (Hook.keeps hk) (fun s e => xl_of s (Bool.and_eq_true_iff.mp e).1) XL.keeps (by rfl) (by rfl) (by rfl) (fun s e => recFacts_of (Bool.and_eq_true_iff.mp e).2) (by rfl) said2 (by decide +kernel) ⟨rfl, rfl, rfl, rfl, rfl, whWhole⟩ ?hw ?hc
  · exact ⟨[WData.list []], by decide +kernel, by decide +kernel⟩
  · exact walk _ _ rfl
end Mine

namespace Mine
theorem or_pp {x y : Int} (hx : 0 ≤ x) (hy : 0 ≤ y) : Builtin.bitOr x y = ((x.toNat ||| y.toNat : Nat) : Int) := by
  have h1 : ¬ 0 ≤ Builtin.bitNot x := by unfold Builtin.bitNot; lia
  have h2 : ¬ 0 ≤ Builtin.bitNot y := by unfold Builtin.bitNot; lia
  have e : ∀ z : Int, Builtin.bitNot (Builtin.bitNot z) = z := fun z => by unfold Builtin.bitNot; lia
  show Builtin.bitNot (Builtin.bitAnd (Builtin.bitNot x) (Builtin.bitNot y)) = _
  rw [bitAnd_nn h1 h2, e, e, e]
theorem or_low {k : Nat} {q b : Int} (hq : 0 ≤ q) (hb : 0 ≤ b) (h : b < 2 ^ k) : Builtin.bitOr (q * 2 ^ k) b = q * 2 ^ k + b := by
  obtain ⟨q, rfl⟩ := Int.eq_ofNat_of_zero_le hq
  obtain ⟨b, rfl⟩ := Int.eq_ofNat_of_zero_le hb
  have hb' : b < 2 ^ k := by exact_mod_cast h
  have e : ((q : Int) * 2 ^ k) = ((2 ^ k * q : Nat) : Int) := by push_cast; rw [Int.mul_comm]
  rw [e, or_pp (by omega) (by omega), Int.toNat_natCast, Int.toNat_natCast, ← Nat.two_pow_add_eq_or_of_lt hb']
  push_cast
  rfl
theorem sh2 (x : Int) : x.fdiv (2 ^ Int.toNat 2) = x / 4 := by
  rw [show ((2 : Int) ^ Int.toNat 2) = 4 from rfl]
  exact Int.fdiv_eq_ediv_of_nonneg _ (by decide)
theorem sh4 (x : Int) : x.fdiv (2 ^ Int.toNat 4) = x / 16 := by
  rw [show ((2 : Int) ^ Int.toNat 4) = 16 from rfl]
  exact Int.fdiv_eq_ediv_of_nonneg _ (by decide)
theorem sh10 (x : Int) : x.fdiv (2 ^ Int.toNat 10) = x / 1024 := by
  rw [show ((2 : Int) ^ Int.toNat 10) = 1024 from rfl]
  exact Int.fdiv_eq_ediv_of_nonneg _ (by decide)
theorem or_4 {x y : Int} (h0 : 0 ≤ x ∧ x < 4) (hh : 0 ≤ y ∧ y < 4) : Builtin.bitOr (x * 2 ^ Int.toNat 2) y = 4 * x + y := by
  have := or_low (k := 2) h0.1 hh.1 (by lia)
  rw [show ((2 : Int) ^ Int.toNat 2) = 4 from rfl]
  have e : (2 : Int) ^ 2 = 4 := rfl
  rw [e] at this
  lia
theorem raw_address {x y : Int} (h0 : 0 ≤ x ∧ x < 4) (hh : 0 ≤ y ∧ y < 4) : Builtin.bitOr (Builtin.bitOr (x * 2 ^ Int.toNat 2) y * 2 ^ Int.toNat 4) 0 = 64 * x + 16 * y := by
  rw [or_4 h0 hh]
  have := or_low (k := 4) (q := 4 * x + y) (b := 0) (by lia) (by lia) (by lia)
  rw [show ((2 : Int) ^ Int.toNat 4) = 16 from rfl]
  have e : (2 : Int) ^ 4 = 16 := rfl
  rw [e] at this
  lia
theorem raw_entry {x y : Int} (h0 : 0 ≤ x) (hz : x % 16 = 0) (hh : 0 ≤ y ∧ y < 1024) : Builtin.bitOr (x.fdiv (2 ^ Int.toNat 4) * 2 ^ Int.toNat 10) y = 64 * x + y := by
  rw [sh4]
  have := or_low (k := 10) (q := x / 16) (b := y) (by lia) hh.1 (by lia)
  rw [show ((2 : Int) ^ Int.toNat 10) = 1024 from rfl]
  have e : (2 : Int) ^ 10 = 1024 := rfl
  rw [e] at this
  lia
theorem raw_physical (x : Int) : x.fdiv (2 ^ Int.toNat 10) * 2 ^ Int.toNat 4 = 16 * (x / 1024) := by
  rw [sh10, show ((2 : Int) ^ Int.toNat 4) = 16 from rfl]; lia
theorem raw_down (x : Int) : Builtin.bitAnd x (Builtin.bitNot (16 - 1)) = x - x % 16 := by
  rw [bitAnd_not, show (16 - 1 : Int) = 15 from rfl, bitAnd_m4]
theorem raw_begin {x : Int} (h : x % 16 = 0) : (Builtin.bitAnd x (16 - 1) == 0) = true := by
  rw [show (16 - 1 : Int) = 15 from rfl, bitAnd_m4, h]; rfl
theorem raw_p1 (x : Int) : (x.fdiv (2 ^ Int.toNat 4)).fdiv (2 ^ Int.toNat 2) = x / 64 := by rw [sh4, sh2]; lia
theorem raw_p2 (x : Int) : Builtin.bitAnd (x.fdiv (2 ^ Int.toNat 4)) (4 - 1) = x / 16 % 4 := by rw [sh4, show (4 - 1 : Int) = 3 from rfl, bitAnd_m2]
theorem raw_p3 (x : Int) : Builtin.bitAnd x (16 - 1) = x % 16 := by rw [show (16 - 1 : Int) = 15 from rfl, bitAnd_m4]
theorem root_facts {q : Int} (hq : q = 58 ∨ q = 59) : (Builtin.bitAnd (1024 * q + 1) 1 == 0) = false ∧ (Builtin.bitAnd (1024 * q + 1) 1 != 0) = true ∧ (Builtin.bitAnd (1024 * q + 1) 10 != 0) = false ∧ 16 * ((1024 * q + 1) / 1024) = 16 * q := by
  rcases hq with rfl | rfl <;> decide
theorem ad1e {root x : Int} (hr : root = 896 ∨ root = 912) : (root + 4 * x) / 4 = root / 4 + x := by rcases hr with rfl | rfl <;> lia
theorem ad2e {q y : Int} : (16 * q + 4 * y) / 4 = 4 * q + y := by lia
theorem ad1 {root ad : Int} (hr : root = 896 ∨ root = 912) (h0 : 0 ≤ ad) (hh : ad < 256) : 0 ≤ root + 4 * (ad / 64) ∧ (root + 4 * (ad / 64)) % 4 = 0 ∧ root + 4 * (ad / 64) + 4 ≤ 1024 := by rcases hr with rfl | rfl <;> lia
theorem q_bd {q : Int} (hq : q = 58 ∨ q = 59) : 58 ≤ q ∧ q ≤ 59 := by lia
theorem ad2 {q ad : Int} (hq : 58 ≤ q ∧ q ≤ 59) : 0 ≤ 16 * q + 4 * (ad / 16 % 4) ∧ (16 * q + 4 * (ad / 16 % 4)) % 4 = 0 ∧ 16 * q + 4 * (ad / 16 % 4) + 4 ≤ 1024 := by lia
theorem na1 {f ad : Int} (had : ad = 64 * f) (hf : 0 ≤ f ∧ f < 4) : 0 ≤ ad ∧ ad < 256 := by omega
theorem na2 {f ad : Int} (had : ad = 64 * f) : (896 + 4 * (ad / 64)) / 4 = 224 + f := by lia
theorem na3 {f ad x : Int} (had : ad = 64 * f) : x + 4 * (ad / 16 % 4) = x := by lia
theorem na4 {u : Int} (hu : 0 ≤ u ∧ u < 4) : 0 ≤ 896 + u * 16 ∧ (896 + u * 16) % 16 = 0 ∧ 896 + u * 16 < 1099511627776 := by lia
theorem na5 {u : Int} (hu : 0 ≤ u ∧ u < 4) : 0 ≤ 64 * (896 + u * 16) + 1 ∧ 64 * (896 + u * 16) + 1 < 4294967296 := by lia
theorem na6 {u : Int} : 16 * ((64 * (896 + u * 16) + 1) / 1024) = 896 + u * 16 := by lia
theorem adr64 {x u : Int} (hu : 0 ≤ u ∧ u < 4) : (64 * x + 16 * u + 5) / 64 = x := by lia
theorem adr16 {x u : Int} (hu : 0 ≤ u ∧ u < 4) : (64 * x + 16 * u + 5) / 16 % 4 = u := by lia
theorem adr5 {x u : Int} : (64 * x + 16 * u + 5) % 16 = 5 := by lia
theorem adr_ {x u : Int} (hx : 0 ≤ x ∧ x < 4) (hu : 0 ≤ u ∧ u < 4) : 0 ≤ 64 * x + 16 * u + 5 ∧ 64 * x + 16 * u + 5 < 256 := by lia
theorem pg64 {pg v : Int} (h : 16 * (v / 1024) = pg) (hv : 0 ≤ v ∧ v < 1099511627776) : -(2 ^ 64) < pg ∧ pg < 2 ^ 64 := by omega
end Mine

namespace Mine
section
variable {w : World} {A : Around} {E : Value → Shared → Prop} {s : Shared} {h₀ : Heap} {L d : Addr} {m : Str → Option Value} {news : List (Addr × Obj)} {g : Obj → List (Addr × Obj)} {o : Obj} {M : Int → Int} {k v : Int} {t u : Tok}

/-- the words of the memory: an own dict of ints; an absent word is nought -/
noncomputable def Wd (w : World) (o : Obj) (M : Int → Int) : Prop :=
  ∃ kvs : List (Int × Value), o.IsDictOf (intKind pw w) kvs ∧ (∀ x ∈ kvs.map (·.1), 0 ≤ x ∧ x < 256) ∧
    ∀ k, (valueAt kvs k = none ∧ M k = 0) ∨ ∃ t, valueAt kvs k = some (.int (M k) t)
noncomputable def upM (M : Int → Int) (k v : Int) : Int → Int := fun j => if j = k then v else M j

theorem nodup_bound : ∀ (n : Nat) (l : List Int), l.Nodup → (∀ x ∈ l, 0 ≤ x ∧ x < n) → l.length ≤ n := by
  intro n
  induction n with
  | zero =>
    intro l _ h
    cases l with
    | nil => simp
    | cons a l => have := h a (.head _); omega
  | succ n ih =>
    intro l hn h
    have h1 := ih (l.filter fun x => decide (x ≠ (n : Int))) (hn.filter _) (fun x hx => by
      have hx' := List.mem_filter.mp hx
      have h2 := h x hx'.1
      have h3 : x ≠ (n : Int) := of_decide_eq_true hx'.2
      omega)
    have h4 : l.length ≤ (l.filter fun x => decide (x ≠ (n : Int))).length + 1 := by
      clear h1 ih h
      induction l with
      | nil => simp
      | cons a l il =>
        rw [List.nodup_cons] at hn
        by_cases e : a = (n : Int)
        · have : (l.filter fun x => decide (x ≠ (n : Int))) = l := by
            rw [List.filter_eq_self]
            intro x hx
            exact decide_eq_true fun q => hn.1 (by rw [e, ← q]; exact hx)
          rw [List.filter_cons, if_neg (by simp [e]), this]
          simp
        · have := il hn.2
          rw [List.filter_cons, if_pos (by simp [e])]
          simp only [List.length_cons]
          omega
    omega
theorem wd_len {kvs : List (Int × Value)} (hd : o.IsDictOf (intKind pw w) kvs) (h : ∀ x ∈ kvs.map (·.1), 0 ≤ x ∧ x < 256) : kvs.length ≤ 256 := by
  obtain ⟨_, _, _, _, _, _, hn⟩ := hd
  have := nodup_bound 256 _ hn (fun x hx => by have := h x hx; exact ⟨this.1, by omega⟩)
  simpa using this
theorem wd_nil : Wd w (dictOf [] 0) fun _ => 0 :=
  ⟨[], ⟨#[], 0, ⟨rfl, rfl, rfl⟩, rfl, fun _ h => by simp at h, Pairs.nil, List.nodup_nil⟩, fun _ h => by simp at h, fun _ => .inl ⟨rfl, rfl⟩⟩
theorem valueAt_map (kvs : List (Int × Value)) (k j : Int) (x : Value) : valueAt (kvs.map fun kv => if kv.1 = k then (kv.1, x) else kv) j = if j = k then (valueAt kvs j).map (fun _ => x) else valueAt kvs j := by
  induction kvs with
  | nil => simp [valueAt]
  | cons p r ih =>
    unfold valueAt at *
    rw [List.map_cons, List.find?_cons, List.find?_cons]
    by_cases h3 : p.1 = j
    · by_cases h1 : p.1 = k
      · have : j = k := h3.symm.trans h1
        simp [h1, h3, this]
      · have : ¬ j = k := fun q => h1 (h3.trans q)
        simp [h3, this]
    · by_cases h1 : p.1 = k
      · have h3' : ¬ k = j := fun q => h3 (h1.trans q)
        simpa [h1, h3'] using ih
      · simpa [h1, h3] using ih
theorem valueAt_any (kvs : List (Int × Value)) (k : Int) : (kvs.any fun kv => decide (kv.1 = k)) = (valueAt kvs k).isSome := by
  induction kvs with
  | nil => simp [valueAt]
  | cons p r ih =>
    unfold valueAt at *
    by_cases h : p.1 = k
    · simp [h]
    · simpa [h] using ih
theorem valueAt_push (kvs : List (Int × Value)) (k j : Int) (x : Value) (h : valueAt kvs k = none) : valueAt (kvs ++ [(k, x)]) j = if j = k then some x else valueAt kvs j := by
  induction kvs with
  | nil =>
    by_cases e : j = k
    · subst e; simp [valueAt]
    · have : ¬ k = j := fun q => e q.symm
      simp [valueAt, e, this]
  | cons p r ih =>
    unfold valueAt at *
    by_cases h1 : p.1 = k
    · simp [h1] at h
    · have h' : Option.map (fun x => x.2) (List.find? (fun kv => decide (kv.1 = k)) r) = none := by simpa [h1] using h
      by_cases h3 : p.1 = j
      · have : ¬ j = k := fun q => h1 (h3.trans q)
        simp [h3, this]
      · simpa [h3] using ih h'
theorem valueAt_stored (kvs : List (Int × Value)) (k j : Int) (x : Value) : valueAt (stored kvs k x) j = if j = k then some x else valueAt kvs j := by
  unfold stored
  rw [valueAt_any]
  cases h : valueAt kvs k with
  | none => simpa using valueAt_push kvs k j x h
  | some y =>
    simp only [Option.isSome_some, if_true]
    rw [valueAt_map]
    by_cases e : j = k
    · rw [if_pos e, if_pos e, e, h]; rfl
    · rw [if_neg e, if_neg e]
theorem keys_stored (kvs : List (Int × Value)) (k : Int) (x : Value) : ∀ j ∈ (stored kvs k x).map (·.1), j ∈ kvs.map (·.1) ∨ j = k := by
  intro j hj
  unfold stored at hj
  split at hj
  · left
    rw [List.map_map] at hj
    obtain ⟨p, hp, e⟩ := List.mem_map.mp hj
    have : j = p.1 := by
      rw [← e]
      show (if p.1 = k then (p.1, x) else p).1 = p.1
      split <;> rfl
    rw [this]
    exact List.mem_map_of_mem hp
  · rw [List.map_append] at hj
    rcases List.mem_append.mp hj with hj | hj
    · exact .inl hj
    · right; simpa using hj
theorem valueAt_without (kvs : List (Int × Value)) (k j : Int) : valueAt (without kvs k) j = if j = k then none else valueAt kvs j := by
  induction kvs with
  | nil => simp [without, valueAt]
  | cons p r ih =>
    unfold without valueAt at *
    by_cases h1 : p.1 = k
    · simp only [List.filter_cons, h1, ne_eq, not_true_eq_false, decide_false, Bool.false_eq_true, if_false]
      rw [ih]
      by_cases e : j = k
      · simp [e]
      · have : ¬ k = j := fun q => e q.symm
        simp [e, h1, this]
    · simp only [List.filter_cons, ne_eq, h1, not_false_eq_true, decide_true, if_true, List.find?_cons]
      by_cases h3 : p.1 = j
      · have : ¬ j = k := fun q => h1 (h3.trans q)
        simp [h3, this]
      · simpa [h3] using ih

theorem wd_get {Q : Value → Shared → Prop} (N : News h₀ L s.heap news) (hp : (d, o) ∈ news) (hw : Wd w o M) (lo : (d == sysModules) = false)
    (h : ∀ t', Q (.int (M k) t') { s with toks := s.toks + 1 }) :
    wpAny (model pw w) A (call (.builtin "dict.get") [.ref d, .int k t, .int 0 u]) Q E s := by
  obtain ⟨kvs, hd, _, hv⟩ := hw
  rcases hv k with ⟨h1, h2⟩ | ⟨t', h1⟩
  · refine kdg_get2 N hp hd lo (intKind_is pw w k t) none h1 ?_
    rw [← h2]; exact h u
  · exact kdg_get2 N hp hd lo (intKind_is pw w k t) _ h1 (h t')
theorem wd_method {pl : Sem Bool} {Q : Value × List Value → Shared → Prop} (N : News h₀ L s.heap news) (hp : (d, o) ∈ news) (hw : Wd w o M) (h : Q (.builtin "dict.get", [.ref d]) s) : wpAny (model pw w) A (getMethod (.ref d) "get" pl) Q E s :=
  let ⟨_, hd, _, _⟩ := hw
  kdg_method N hp hd h
theorem wd_methodP {pl : Sem Bool} {Q : Value × List Value → Shared → Prop} (N : News h₀ L s.heap news) (hp : (d, o) ∈ news) (hw : Wd w o M) (h : Q (.builtin "dict.pop", [.ref d]) s) : wpAny (model pw w) A (getMethod (.ref d) "pop" pl) Q E s :=
  let ⟨_, hd, _, _⟩ := hw
  have hD := kda_dict N hp hd
  getMethod_builtin hD.typeIs PySem.F.plainAttrs_dict PySem.F.slot_dict_pop PySem.F.type_dict_pop hD.mapOf.noDict h
theorem wd_set {Q : Unit → Shared → Prop} (F : Fr h₀ L s.heap m) (N : News h₀ L s.heap news) (U : UpdF d o news g) (hw : Wd w o M) (hk : 0 ≤ k ∧ k < 256)
    (h : ∀ h' o', Fr h₀ L h' m → News h₀ L h' (g o') → Wd w o' (upM M k v) → Q () { s with heap := h', toks := s.toks + 1 }) : wpAny (model pw w) A (setItem (.ref d) (.int k t) (.int v u)) Q E s := by
  obtain ⟨kvs, hd, hb, hv⟩ := hw
  refine kda_set F N U hd (intKind_is pw w k t) (by have := wd_len hd hb; rw [sizeLine_eq]; lia) fun h' o' F' N' hd' => h h' o' F' N' ⟨_, hd', fun x hx => ?_, fun j => ?_⟩
  · rcases keys_stored kvs k _ x hx with q | q
    · exact hb x q
    · rw [q]; exact hk
  · rw [valueAt_stored]
    unfold upM
    by_cases e : j = k
    · rw [if_pos e, if_pos e]; exact .inr ⟨u, rfl⟩
    · rw [if_neg e, if_neg e]; exact hv j
theorem wd_pop {Q : Value → Shared → Prop} (F : Fr h₀ L s.heap m) (N : News h₀ L s.heap news) (U : UpdF d o news g) (hw : Wd w o M) (lo : (d == sysModules) = false)
    (h : ∀ h' o' x, Fr h₀ L h' m → News h₀ L h' (g o') → Wd w o' (upM M k 0) → Q x { s with heap := h', toks := s.toks + 1 }) : wpAny (model pw w) A (call (.builtin "dict.pop") [.ref d, .int k t, .none]) Q E s := by
  obtain ⟨kvs, hd, hb, hv⟩ := hw
  obtain ⟨pre, post, e0, hg, a, b⟩ := U.split
  have hm : (d, o) ∈ news := by rw [e0]; exact List.mem_append_right _ (.head _)
  have hD := kda_dict N hm hd
  cases hx : valueAt kvs k with
  | none =>
    refine call_meetsIn PySem.F.slot_dict_pop hD.typeIs PySem.F.entry_dict_pop (PySem.F.args_dict_pop_3 _ _ _) (meets_dict_pop_default (intKind pw w) d (intKind_is pw w k t) lo rfl .none) ⟨kvs, hD, hx, ?_⟩
    refine h s.heap o .none F (by rw [hg o, ← e0]; exact N) ⟨kvs, hd, hb, fun j => ?_⟩
    unfold upM
    by_cases e : j = k
    · rw [if_pos e, e]; exact .inl ⟨hx, rfl⟩
    · rw [if_neg e]; exact hv j
  | some x =>
    refine call_meetsIn PySem.F.slot_dict_pop hD.typeIs PySem.F.entry_dict_pop (PySem.F.args_dict_pop_3 _ _ _) (meets_dict_pop_there (intKind pw w) d (intKind_is pw w k t) [.none] (.inr ⟨_, rfl⟩) rfl) ⟨kvs, x, hD, (by have := wd_len hd hb; rw [sizeLine_eq]; lia), hx, fun h' hmm hs => ?_⟩
    obtain ⟨o', ho', hd'⟩ := Heap.dictOf_iff.mp hmm
    have hN := N (d, o) hm
    refine h h' o' x (F.change hs hN.2.1 hN.2.2) (hg o' ▸ News.setIn (e0 ▸ N) a b hs ho') ⟨_, hd', fun j hj => ?_, fun j => ?_⟩
    · obtain ⟨p, hp, rfl⟩ := List.mem_map.mp hj
      exact hb _ (List.mem_map_of_mem (List.mem_filter.mp hp).1)
    · rw [valueAt_without]
      unfold upM
      by_cases e : j = k
      · rw [if_pos e, if_pos e]; exact .inl ⟨rfl, rfl⟩
      · rw [if_neg e, if_neg e]; exact hv j
end
end Mine

namespace Mine
open Sem (wp)
section
variable {prog : Program} {w : World} {A : Around} {E : Value → Shared → Prop} {h : Heap} {g : Array GenState} {d : Drawn} {t : Nat} {os : OsState}
variable {nm q : Str} {C D N : Addr} {bs bm : List Value} {hdct : Bool} {sn : List Str} {sub : List Value} {ab : Bool} {col : Option Bool} {dd : Option Addr} {k0 k1 k2 k3 k5 : Option Value} {B newId initId : String}

theorem two_has (h : bm.contains (.type B) = true) : (Value.ref C :: .ref D :: bm).contains (.type B) = true := by
  rw [List.contains_cons, List.contains_cons, h, Bool.or_true, Bool.or_true]
theorem two_not {X : String} (h : bm.contains (.type X) = false) : (Value.ref C :: .ref D :: bm).contains (.type X) = false := by
  rw [List.contains_cons, List.contains_cons, h]; rfl

theorem two_check_new {M : Model} (F : ExcBaseFacts B newId initId bm) {rest : List Value} {Q : Unit → Shared → Prop} (hC : h.get? C = some (excClassObj nm q C N bs (.ref D :: bm) hdct sn sub ab col dd k0 k1 k2 k3 k5 newId))
    (hq : Q () ⟨h, g, d, t, os⟩) : wpAny M A (checkBuiltinCall newId ⟨.ref C :: rest, []⟩) Q E ⟨h, g, d, t, os⟩ := by
  have hb : (Value.ref C :: .ref D :: bm).contains (.type B) = true := two_has F.hasB
  have hstar := F.noStar
  simp only [checkBuiltinCall, F.newKind, F.newSplit, F.newRow]
  repeat (first | refine wpAny_loadPart_at hC ?_ | (refine wpAny_isSubtype_exc hC ?_; rw [hb]) | refine wpAny_staticBase_exc hC ?_ | refine wpAny_madeBy_exc hC ?_ | simp only [bne_self_eq_false, Bool.false_eq_true, if_false] | wp_step)
  exact hq

theorem two_new {R : Result → Shared → Prop} (F : ExcBaseFacts B newId initId bm) {rest : List Value} (hC : h.get? C = some (excClassObj nm q C N bs (.ref D :: bm) hdct sn sub ab col dd k0 k1 k2 k3 k5 newId))
    (hq : R (.ok (.ret (.ref (h.objs.size + 1)))) ⟨(h.push { cls := .type "tuple", data := .seq rest.toArray }).push
      { cls := .ref C, data := .fields #[.ref h.objs.size, .none, .none, .none, .bool false, .none] }, g, d, t, os⟩) (hrest : rest.length ≤ sizeLine := by size_fits) :
    codeAny (model prog w) A (.builtin newId ⟨.ref C :: rest, []⟩) R ⟨h, g, d, t, os⟩ := by
  have hends := F.ends
  have b1 : (Value.ref C :: .ref D :: bm).contains (.type B) = true := two_has F.hasB
  have b2 : (Value.ref C :: .ref D :: bm).contains (.type "AttributeError") = false := two_not F.noAttr
  have b3 : (Value.ref C :: .ref D :: bm).contains (.type "NameError") = false := two_not F.noName
  refine codeAny_builtinAt F.entry ?_
  unfold Builtin.«BaseException.__new__»
  refine PySem.wpAt_bind ?_
  show PySem.wpAt _ _ _ (stack >>= _) _ _ _
  refine PySem.wpAt_bind (PySem.wpAt_stack fun p below => PySem.wpAt_of_wpAny ?_)
  wp_walk
  refine PySem.wpAt_of_wpAny ?_
  rw [F.owner]
  repeat (first | with_reducible refine wpAny_madeHere_exc F.canon hC ?_ | with_reducible refine wpAny_loadPart_at hC ?_ | (with_reducible refine wpAny_isSubtype_exc hC ?_; first | rw [b1] | rw [b2] | rw [b3]) | wp_step)
  show R _ _
  rw [Heap.size_push]
  exact hq

theorem two_type_call (F : ExcBaseFacts B newId initId bm) {rest : List Value} {fI : Addr} {oI : Obj} {Q : Fin → Shared → Prop}
    (hC : h.get? C = some (excClassObj nm q C N bs (.ref D :: bm) hdct sn sub ab col dd k0 k1 k2 k3 k5 newId)) (hi : Looks (model prog w) h (typeLookup (.ref C) "__init__") (some (.ref fI)))
    (hfI : h.get? fI = some oI) (hfc : oI.cls = .type "function")
    (hq : ∀ h' e, Heap.MadeExcOf h h' e (.ref C) rest → h.objs.size ≤ e →
      wpAny (model prog w) A (call (.ref fI) (.ref e :: rest)) (fun r s' => r = .none ∧ Q (.done (.ret (.ref e))) s') E ⟨h', g, d, t, os⟩) (hrest : rest.length ≤ sizeLine := by size_fits) :
    wpAny (model prog w) A (Builtin.«type.__call__» ⟨.ref C :: rest, []⟩) Q E ⟨h, g, d, t, os⟩ := by
  repeat (first | with_reducible refine wpAny_loadPart_at hC ?_ | with_reducible refine wpAny_madeBy_exc hC ?_ | wp_step)
  refine codeAny_call_builtin_code (Code.quiet_builtin _ F.quiet) (two_check_new F hC ?_)
  refine two_new F hC ?_ hrest
  show wpAny _ _ _ _ _ _
  have kp : ∀ b o, h.get? b = some o → ((h.push { cls := .type "tuple", data := .seq rest.toArray }).push { cls := .ref C, data := .fields #[.ref h.objs.size, .none, .none, .none, .bool false, .none] }).get? b = some o :=
    fun b o hb => Heap.get?_push_of_some _ (Heap.get?_push_of_some _ hb)
  have hC₁ := kp _ _ hC
  have hget : ((h.push { cls := .type "tuple", data := .seq rest.toArray }).push
      { cls := .ref C, data := .fields #[.ref h.objs.size, .none, .none, .none, .bool false, .none] }).get? (h.objs.size + 1) = some
      { cls := .ref C, data := .fields #[.ref h.objs.size, .none, .none, .none, .bool false, .none] } := by heap_get
  have own : (Value.ref C :: .ref D :: bm).contains (.ref C) = true := by simp
  unfold isInstance
  repeat (first | with_reducible refine wpAny_loadPart_at hget ?_ | (with_reducible refine wpAny_isSubtype_exc hC₁ ?_; rw [own]) | wp_step)
  show wpAny _ _ (typeLookup (.ref C) _) _ _ _
  refine hi _ _ _ _ kp ?_
  refine wpAny_holding (wpAny_bind ?_)
  unfold bindSpecial
  refine wpAny_bind (wpAny_typeOf (T := "function") ⟨_, kp _ _ hfI, hfc⟩ ?_)
  rw [if_pos (by decide)]
  refine wpAny_pure (wpAny_bind (wpAny_mono (hq _ (h.objs.size + 1) ⟨kp, Heap.get?_none_of_le (Nat.le_succ _), h.objs.size, hget, Heap.get?_none_of_le (Nat.le_refl _), ?_⟩ (Nat.le_succ _)) (fun r s' hr => ?_) fun _ _ x => x))
  · exact Heap.get?_push_of_some _ (Heap.get?_push_at rfl rfl)
  · obtain ⟨rfl, hQ⟩ := hr
    wp_walk
    exact hQ

theorem two_call (F : ExcBaseFacts B newId initId bm) {rest : List Value} {fI : Addr} {oI : Obj} {Q : Value → Shared → Prop}
    (hC : h.get? C = some (excClassObj nm q C N bs (.ref D :: bm) hdct sn sub ab col dd k0 k1 k2 k3 k5 newId)) (hi : Looks (model prog w) h (typeLookup (.ref C) "__init__") (some (.ref fI)))
    (hfI : h.get? fI = some oI) (hfc : oI.cls = .type "function")
    (hq : ∀ h' e, Heap.MadeExcOf h h' e (.ref C) rest → h.objs.size ≤ e →
      wpAny (model prog w) (A.under (Code.builtin "type.__call__" ⟨.ref C :: rest, []⟩)) (call (.ref fI) (.ref e :: rest)) (fun r s' => r = .none ∧ Q (.ref e) s') E ⟨h', g, d, t, os⟩) (hrest : rest.length ≤ sizeLine := by size_fits) :
    wpAny (model prog w) A (call (.ref C) rest) Q E ⟨h, g, d, t, os⟩ := by
  have f1 := tc_lookup
  have f2 := tc_bind (.ref C)
  have hT : (⟨h, g, d, t, os⟩ : Shared).TypeIs (.ref C) "type" := ⟨_, hC, rfl⟩
  refine wpAny_call (codeAny_of_tree ?_)
  show wpAny _ _ (callAny (.ref C) _) _ _ _
  repeat (any_goals (first | assumption | with_reducible refine wpAny_loadPart_at hC ?_ | wp_step))
  refine ⟨rfl, ?_⟩
  refine codeAny_call_builtin_at (Code.quiet_builtin _ (by decide +kernel)) entry_typeCall (wpAny_check_type_call_sub hC ?_)
  show wpAny _ (A.under (Code.builtin "type.__call__" ⟨.ref C :: rest, []⟩)) _ _ _ _
  exact two_type_call (hrest := hrest) F hC hi hfI hfc fun h' e hm hl => hq h' e hm hl
end
end Mine

namespace Mine
open PySem.Builtin PySem.Builtin.ObjectAttr
noncomputable abbrev vErr : List Value := [.type "ValueError", .type "Exception", .type "BaseException", .type "object"]
section
variable {prog : Program} {w : World} {A : Around} {E : Value → Shared → Prop} {s : Shared} {K : Frag} {x C D L : Addr} {h₀ : Heap} {m : Str → Option Value} {news rest : List (Addr × Obj)} {ox : Obj} {od : Option Obj} {name : Str} {v : Value} {tk : Tok} {cd : ClassData} {R : Result → Shared → Prop}

theorem xc_ne (hm : cd.mro = .ref C :: .ref D :: vErr) : cd.mro.isEmpty = false := by rw [hm]; rfl
theorem xc_open (X : K.In s.heap) (I : InstAt s.heap x ox C od) (hc : clsIn K C = some cd) (hm : cd.mro = .ref C :: .ref D :: vErr) (ht : takerIn K C name = some none)
    (h : ∀ b, wpAny (model prog w) A.in1 (storeInOwnDict (.ref x) (.ref C) (.str name tk) name v b)
      (fun fin s' => match fin with | .done f => R (.ok f) s' | .again c' => c'.quiet = true ∧ codeAny (model prog w) A c' R s') (fun e s' => R (.error e) s') s) :
    codeAny (model prog w) A (.call (.builtin "object.__setattr__") ⟨[.ref x, .str name tk, v], []⟩) R s := by
  have SF := PySem.F.store_ValueError
  have sub : Looks (model prog w) s.heap (isInstance (.ref x) (.type "object")) true := I.type.andThen (looks_mroIn X (by
    unfold mroIn
    rw [hc, Option.bind_some, if_neg (by rw [xc_ne hm]; decide), hm]
    rfl))
  refine codeAny_call_builtin SF.slot.plain SF.entry (@check_slot (model prog w) _ _ s "object.__setattr__" "object" "__setattr__" (.ref x) [.str name tk, v] [] _ SF.kind SF.split sub (SF.args (.ref x) (.str name tk) v) ?_)
  obtain ⟨attr, ha, hr⟩ := Option.bind_eq_some_iff.mp ht
  have lm : Looks (model prog w) s.heap (mroOf (.ref C)) cd.mro := (looks_clsIn X hc).andThen .now
  have lt : Looks (model prog w) s.heap (storeTaker? attr) none := by
    cases attr with
    | none => cases hr; exact .now
    | some a =>
      obtain ⟨b, hb, e⟩ := Option.map_eq_some_iff.mp hr
      refine (looks_takesIn X hb).andThen ?_
      cases b
      · exact .now
      · cases e
  rw [osa_eq, refuse_eq]
  refine wpAny_bind (wpAny_bind (I.type.here (wpAny_bind (lm.here ?_))))
  rw [hm, refuseLoop_ref, refuseLoop_ref, SF.passes]
  refine wpAny_pure (wpAny_bind (I.type.here (wpAny_bind ((looks_findIn X ha).here (wpAny_bind (lt.here ?_))))))
  exact h _

/-- an exception's first own name: its dict is made -/
theorem xc_set_new {fs : Array Value} {Q : Unit → Shared → Prop} (F : Fr h₀ L s.heap m) (X₀ : K.In h₀) (N : News h₀ L s.heap ((x, (⟨.ref C, none, .fields fs, #[]⟩ : Obj)) :: rest)) (hx : ∀ p ∈ rest, p.1 ≠ x)
    (hs : findIn K (.ref C) "__setattr__" = some (some (.builtin "object.__setattr__"))) (hc : clsIn K C = some cd) (hm : cd.mro = .ref C :: .ref D :: vErr) (hd : cd.hasDict = true) (ht : takerIn K C name = some none)
    (h : ∀ h' d, Fr h₀ L h' m → (∀ p ∈ rest, p.1 < d) → @LT.lt Nat _ x d → News h₀ L h' ((d, dictOf [⟨PyData.keyHash w.params name, .str name (s.toks + 1), v⟩] 1) :: (x, (⟨.ref C, some d, .fields fs, #[]⟩ : Obj)) :: rest) → Q () { s with heap := h', toks := s.toks + 2 }) :
    wpAny (model prog w) A (setAttr (.ref x) name v) Q E s := by
  have I : InstAt s.heap x (⟨.ref C, none, .fields fs, #[]⟩ : Obj) C none := ⟨(N _ (.head _)).1, rfl, rfl, trivial⟩
  refine set_plain (X₀.keeps F.keep) I hs ?_
  refine xc_open (s := { s with toks := s.toks + 1 }) (X₀.keeps F.keep) I hc hm ht fun b => ?_
  have hX : (x, (⟨.ref C, none, .fields fs, #[]⟩ : Obj)) ∈ (x, (⟨.ref C, none, .fields fs, #[]⟩ : Obj)) :: rest := .head _
  have XC : K.In s.heap := X₀.keeps F.keep
  have hat := (N _ hX).1
  have lts : ∀ p ∈ (x, (⟨.ref C, none, .fields fs, #[]⟩ : Obj)) :: rest, p.1 < s.heap.objs.size := fun p hp => Heap.lt_size (N p hp).1
  have hxl : x < s.heap.objs.size := lts _ hX
  have F1 := F.push ({ cls := .type "dict", data := .dict #[] } : Obj)
  have N1 := News.push F N ({ cls := .type "dict", data := .dict #[] } : Obj)
  obtain ⟨F2, N2⟩ := news_upd (pre := [(s.heap.objs.size, ({ cls := .type "dict", data := .dict #[] } : Obj))]) (post := rest) (f := fun o => { o with dict := some s.heap.objs.size }) (o := ⟨.ref C, none, .fields fs, #[]⟩) (d := x)
    (o' := ⟨.ref C, some s.heap.objs.size, .fields fs, #[]⟩) F1 N1 (fun p hp => by
      obtain rfl := List.mem_singleton.mp hp
      exact (Nat.ne_of_lt (lts _ hX)).symm) hx rfl rfl
  obtain ⟨F3, N3⟩ := news_upd (pre := []) (post := (x, (⟨.ref C, some s.heap.objs.size, .fields fs, #[]⟩ : Obj)) :: rest) (f := Obj.putName name (PyData.keyHash w.params name) (.str name (s.toks + 1)) v) (d := s.heap.objs.size) (o := dictOf [] 0)
    (o' := dictOf [⟨PyData.keyHash w.params name, .str name (s.toks + 1), v⟩] 1) F2 N2 (fun p hp => nomatch hp) (fun p hp => by
      rcases List.mem_cons.mp hp with rfl | hp
      · exact Nat.ne_of_lt hxl
      · exact Nat.ne_of_lt (lts _ (.tail _ hp))) (by rw [putName_dict]; rfl) rfl
  unfold storeInOwnDict ownDictForStores instanceDict
  refine wpAny_bind (wpAny_pure (wpAny_bind (wpAny_bind (wpAny_loadPart hat (wpAny_bind (looks_clsIn XC hc _ _ _ _ (fun _ _ e => e) ?_))))))
  rw [hd]
  have hat' : s.heap.get? x = some ⟨.ref C, none, .fields fs, #[]⟩ := hat
  refine wpAny_bind (wpAny_alloc' ?_)
  refine wpAny_bind (wpAny_update' (Heap.get?_push_of_some _ hat) ?_)
  refine wpAny_pure ?_
  dsimp only
  unfold storeInDict newKeyGuard nsSet
  refine wpAny_bind (wpAny_pure (wpAny_bind (wpAny_bind (wpAny_bind (wpAny_askSetting (wpAny_pure (wpAny_bind (wpAny_mkText (wpAny_bind (wpAny_loadPart (N2 _ (.head _)).1 ?_))))))))))
  dsimp only
  rw [aRefKeyMayBeTheName_at, show (!(#[] : Array DictEntry).any (·.key.isStr name) && (#[] : Array DictEntry).any (·.refKey)) = false by simp]
  refine wpAny_updatePart (N2 _ (.head _)).1 ?_
  refine wpAny_bind (wpAny_lookBehind (N3 _ (.head _)).1 (pastItsLine_dict (by rw [sizeLine_eq]; exact Nat.le_of_ble_eq_true rfl)) ?_)
  exact wpAny_pure (h _ _ F3 (fun p hp => lts _ (.tail _ hp)) hxl N3)

/-- a further name of an exception -/
theorem xc_set_more {fs : Array Value} {d : Addr} {es es' : List DictEntry} {n n' : Nat} {news' : List (Addr × Obj)} {Q : Unit → Shared → Prop} (F : Fr h₀ L s.heap m) (X₀ : K.In h₀) (N : News h₀ L s.heap news) (hx : (x, (⟨.ref C, some d, .fields fs, #[]⟩ : Obj)) ∈ news) (hdm : (d, dictOf es n) ∈ news)
    (hs : findIn K (.ref C) "__setattr__" = some (some (.builtin "object.__setattr__"))) (hc : clsIn K C = some cd) (hm : cd.mro = .ref C :: .ref D :: vErr) (hd : cd.hasDict = true) (ht : takerIn K C name = some none)
    (hr : es.any (·.refKey) = false) (e : (putL name (PyData.keyHash w.params name) (.str name (s.toks + 1)) v es, putN name es n) = (es', n')) (U : Upd d (dictOf es n) (dictOf es' n') news news') (hz : es'.length ≤ 1000)
    (h : ∀ h', Fr h₀ L h' m → News h₀ L h' news' → Q () { s with heap := h', toks := s.toks + 2 }) :
    wpAny (model prog w) A (setAttr (.ref x) name v) Q E s := by
  obtain ⟨pre, post, rfl, rfl, u1, u2⟩ := U.split
  obtain ⟨e1, e2⟩ := Prod.mk.inj e
  have hat : s.heap.get? x = some ⟨.ref C, some d, .fields fs, #[]⟩ := (N _ hx).1
  have hdt := (N (d, dictOf es n) (by simp)).1
  have I : InstAt s.heap x (⟨.ref C, some d, .fields fs, #[]⟩ : Obj) C (some (dictOf es n)) := ⟨hat, rfl, rfl, hdt⟩
  refine set_plain (X₀.keeps F.keep) I hs ?_
  refine xc_open (s := { s with toks := s.toks + 1 }) (X₀.keeps F.keep) I hc hm ht fun b => ?_
  have XC : K.In s.heap := X₀.keeps F.keep
  obtain ⟨F2, N2⟩ := news_upd (pre := pre) (post := post) (f := Obj.putName name (PyData.keyHash w.params name) (.str name (s.toks + 1)) v) (d := d) (o := dictOf es n) (o' := dictOf es' n') F N u1 u2 (by rw [putName_dict, e1, e2]) rfl
  have hdt' := (N2 (d, dictOf es' n') (by simp)).1
  unfold storeInOwnDict ownDictForStores instanceDict
  refine wpAny_bind (wpAny_pure (wpAny_bind (wpAny_bind (wpAny_loadPart hat (wpAny_bind (looks_clsIn XC hc _ _ _ _ (fun _ _ e => e) ?_))))))
  rw [hd]
  refine wpAny_pure ?_
  dsimp only
  unfold storeInDict newKeyGuard nsSet
  refine wpAny_bind (wpAny_pure (wpAny_bind (wpAny_bind (wpAny_bind (wpAny_askSetting (wpAny_pure (wpAny_bind (wpAny_mkText (wpAny_bind (wpAny_loadPart hdt ?_))))))))))
  dsimp only
  rw [aRefKeyMayBeTheName_at, show (!es.toArray.any (·.key.isStr name) && es.toArray.any (·.refKey)) = false by rw [← Array.any_toList, ← Array.any_toList]; simp only [hr, Bool.and_false]]
  refine wpAny_updatePart hdt ?_
  refine wpAny_bind (wpAny_lookBehind hdt' (pastItsLine_dict (by rw [List.size_toArray, sizeLine_eq]; lia)) ?_)
  exact wpAny_pure (h _ F2 N2)

/-- ValueError.__init__ on an own exception -/
theorem xc_init {fs : Array Value} {t0 : Addr} {od : Option Addr} {args : List Value} {Q : Value → Shared → Prop} (F : Fr h₀ L s.heap m) (X₀ : K.In h₀) (N : News h₀ L s.heap ((x, (⟨.ref C, od, .fields fs, #[]⟩ : Obj)) :: rest)) (hx : ∀ p ∈ rest, p.1 ≠ x)
    (hc : clsIn K C = some cd) (hm : cd.mro = .ref C :: .ref D :: vErr) (h0 : fs[0]? = some (.ref t0)) (hz : args.length ≤ sizeLine)
    (h : ∀ h' t, Fr h₀ L h' m → News h₀ L h' ((x, (⟨.ref C, od, .fields (fs.setIfInBounds 0 (.ref t)), #[]⟩ : Obj)) :: rest) → Q .none { s with heap := h' }) :
    wpAny (model prog w) A (call (.builtin "ValueError.__init__") (.ref x :: args)) Q E s := by
  have XC : K.In s.heap := X₀.keeps F.keep
  have FB := PySem.F.excBase_ValueError
  have hat : s.heap.get? x = some ⟨.ref C, od, .fields fs, #[]⟩ := (N _ (.head _)).1
  have sub : Looks (model prog w) s.heap (isInstance (.ref x) (.type "ValueError")) true := by
    have lt : Looks (model prog w) s.heap (typeOf (.ref x)) (.ref C) := (Looks.ld hat).andThen .now
    exact lt.andThen (looks_mroIn XC (by
      unfold mroIn
      rw [hc, Option.bind_some, if_neg (by rw [xc_ne hm]; decide), hm]
      rfl))
  have lts : ∀ p ∈ (x, (⟨.ref C, od, .fields fs, #[]⟩ : Obj)) :: rest, p.1 < s.heap.objs.size := fun p hp => Heap.lt_size (N p hp).1
  have hxl : x < s.heap.objs.size := lts _ (.head _)
  have F1 := F.push ({ cls := .type "tuple", data := .seq args.toArray } : Obj)
  have N1 := News.push F N ({ cls := .type "tuple", data := .seq args.toArray } : Obj)
  obtain ⟨F2, N2⟩ := news_upd (pre := [(s.heap.objs.size, ({ cls := .type "tuple", data := .seq args.toArray } : Obj))]) (post := rest) (f := Obj.mapFields (·.setIfInBounds 0 (.ref s.heap.objs.size))) (o := ⟨.ref C, od, .fields fs, #[]⟩) (d := x)
    (o' := ⟨.ref C, od, .fields (fs.setIfInBounds 0 (.ref s.heap.objs.size)), #[]⟩) F1 N1 (fun p hp => by
      obtain rfl := List.mem_singleton.mp hp
      exact (Nat.ne_of_lt hxl).symm) hx rfl rfl
  have hk : ∀ (E : Value → Shared → Prop), wpAny (model prog w) A.in1 (checkBuiltinCall "ValueError.__init__" ⟨.ref x :: args, []⟩) (fun _ s' => s' = s) E s := by
    intro E
    have hshort := FB.noStar
    simp only [checkBuiltinCall, FB.initKind, FB.initSplit, FB.initRow]
    refine wpAny_bind (sub _ _ _ _ (fun _ _ e => e) ?_)
    simp only [Bool.not_true, Bool.false_eq_true, if_false]
    obtain ⟨hp, g, dr, t, os⟩ := s
    obtain ⟨c1, c2, c3, hC⟩ : ∃ c1 c2 c3, hp.get? C = some ⟨c1, c2, .cls cd, c3⟩ := by
      cases q : List.lookup C K with
      | none => unfold clsIn at hc; rw [q] at hc; cases hc
      | some o =>
        obtain ⟨c1, c2, d, c3⟩ := o
        unfold clsIn at hc
        rw [q] at hc
        cases d <;> first | (cases hc; exact ⟨_, _, _, XC _ _ q⟩) | cases hc
    dsimp only at hat
    repeat (first | (with_reducible refine wpAny_loadPart_at hat ?_) | (with_reducible refine wpAny_loadPart_at hC ?_) | wp_step)
    refine wpAny_onRaise ?_
    rw [show ∀ (a b : String) (n : Nat), Bind.check ⟨.positional, "*", "ValueError", .self, [⟨"args", .varPos, false⟩]⟩ a b n (List.map (fun x => x.fst) ({ pos := Value.ref x :: args } : Args).kw) = pure () from
      fun a b n => check_star_args _ _ _ _ _ _]
    exact wpAny_pure rfl
  refine wpAny_call (codeAny_call_builtin FB.init.plain FB.initEntry (wpAny_mono (hk _) (fun _ s' e => ?_) fun _ _ x => x))
  subst e
  unfold Builtin.«BaseException.__init__»
  dsimp only
  rw [if_neg (by simp)]
  unfold newTuple Builtin.BaseException.bexcPut
  have hsz : 0 < fs.size := (Array.getElem?_eq_some_iff.mp h0).1
  have hat1 := Heap.get?_push_of_some { cls := .type "tuple", data := .seq args.toArray } hat
  refine wpAny_bind (wpAny_newObj_type (wpAny_bind (wpAny_bind (wpAny_field hat1 rfl h0 (wpAny_bind (wpAny_setField hat1 rfl hsz ?_))))) (by show args.toArray.size ≤ sizeLine; rw [List.size_toArray]; exact hz))
  exact wpAny_letGo (wpAny_pure (h _ _ F2 fun q hq => N2 q (.tail _ hq)))

theorem news_swap {h : Heap} {x y : Addr × Obj} (N : News h₀ L h (x :: y :: news)) : News h₀ L h (y :: x :: news) := fun q hq => N q (by
  rcases List.mem_cons.mp hq with z | hq
  · rw [z]; exact .tail _ (.head _)
  · rcases List.mem_cons.mp hq with z | hq
    · rw [z]; exact .head _
    · exact .tail _ (.tail _ hq))
theorem news_drop {h : Heap} {x : Addr × Obj} (N : News h₀ L h (x :: news)) : News h₀ L h news := fun q hq => N q (.tail _ hq)
theorem lt_ne {l : List (Addr × Obj)} {d : Addr} (h : ∀ p ∈ l, p.1 < d) : ∀ p ∈ l, p.1 ≠ d := fun q hq => Nat.ne_of_lt (h q hq)
theorem made_news {h h1 : Heap} {e : Addr} {o : Obj} (F : Fr h₀ L h m) (N : News h₀ L h news) (hk : ∀ b o, h.get? b = some o → h1.get? b = some o) (hn : h.get? e = none) (he : h1.get? e = some o) (hl : h.objs.size ≤ e) :
    Fr h₀ L h1 m ∧ News h₀ L h1 ((e, o) :: news) ∧ (∀ p ∈ news, p.1 < e) := by
  obtain ⟨oL, a1, a2, hL, a3⟩ := F.ns
  refine ⟨⟨⟨oL, a1, a2, hk _ _ hL, a3⟩, fun b o q => hk b o (F.keep b o q), F.above⟩, fun q hq => ?_, fun q hq => Nat.lt_of_lt_of_le (Heap.lt_size (N q hq).1) hl⟩
  rcases List.mem_cons.mp hq with rfl | hq
  · refine ⟨he, fun z => ?_, ?_⟩
    · rw [show L = e from z.symm] at hL
      rw [hn] at hL
      cases hL
    · cases z : h₀.get? e with
      | none => rfl
      | some o' =>
        have := F.keep _ _ z
        rw [hn] at this
        cases this
  · exact ⟨hk _ _ (N q hq).1, (N q hq).2.1, (N q hq).2.2⟩
end
end Mine

namespace Mine
theorem meta_vErr : typeOf (.type "ValueError") = pure (.type "type") := by kernel_rfl
section
variable {w : World} {p : Program} {loose : List Str} {mean : ExcName → Option Value} {mg mb : Str → Option Value}
  {dp un : Nat} {gd : Option (List Code)} {cn : Str} {cs : Scope} {a : Addr} {ccd : Value} {cl : List (Str × Addr)} {outer : List Env} {A₀ : Around} {base h₀ : Heap} {L : Addr} {m : Str → Option Value} {s : Shared} {Q E : Value → Shared → Prop} {news : List (Addr × Obj)}
theorem rulesE20 : True := by
  k_with_none
  k_with "H14" => first | exact .tail _ (.head _) | k_mem
  k_with "H8" => first | exact binds_K (by k_in) rfl (by k_is) rfl rfl rfl | exact BindsTo.of_eq rfl
  k_with "HB" => (case k1 => k_asm); (case k2 => k_asm); (case k3 => k_asm); (case k4 => k_asm); (case k5 => k_asm)
  k_with "K_MEM" => first | with_reducible assumption | ktr_member | exact List.Mem.head _ | (refine List.mem_cons_of_mem _ ?_; k_mem) | (refine List.mem_append_right _ ?_; k_mem) | (refine List.mem_append_left _ ?_; with_reducible assumption)
  k_with "K_IN" => first | k_in_fast | with_reducible assumption | exact Frag.In.keeps (by with_reducible assumption) (Fr.keep (by with_reducible assumption))
  k_with "K_ROOM" => ((try simp (config := {zetaDelta := true}) only [depth_under_make, depth_under_kw, depth_in1, depth_deeper, depth_caller]); (try dsimp only [ktrTop]); (first | (refine' room0 ?rh; (case rh => assumption)) | (refine' room1 ?rh ?rk; (case rh => assumption); (case rk => exact Nat.le_of_ble_eq_true rfl)) | (refine' room2 ?rh ?rk; (case rh => assumption); (case rk => exact Nat.le_of_ble_eq_true rfl)) | (refine' room3 ?rh ?rk; (case rh => assumption); (case rk => exact Nat.le_of_ble_eq_true rfl)) | (refine' room4 ?rh ?rk; (case rh => assumption); (case rk => exact Nat.le_of_ble_eq_true rfl)) | omega))
  k_with "testChain" => first | refine test_link ?_ | refine test_last ?_
  k_with "K_ALL" => first | with_reducible assumption | (refine lt_ne ?_; with_reducible assumption)
  k_with "call ref" => (k_here; refine wpAny_call ?_; k_dflt (refine' code_defL ?k1 ?k2 ?k3 ?k4 ?k5 ?kA ?kF ?kK ?k6 ?k7 ?k8 ?k9 ?kB ?_ ?c2 ?c3 ?c4 ?c5; (case kA => exact rfl); (case kF => exact rfl); (case kK => first | assumption | exact rfl); k_extra "HB"; (case k6 => k_is); (case k7 => k_is); (case k8 => k_room); (case k9 => k_extra "H8"); (case c5 => decide); (case kB => exact locs rfl); (case c2 => exact rfl); (case c3 => exact rfl); (case c4 => exact rfl); k_whole; intro g'Z L'Z h'Z kEZ kAZ kMZ kQZ kXZ FG'Z F'Z N'Z B'Z X'Z T'Z; (try dsimp only); (try k_lift B'Z)))
  k_with "LeaveK" => (k_dflt (refine' leaveK_ ?k1 ?k2 ?_; (case k1 => k_asm); (case k2 => k_asm); k_whole); intro kFZ kNZ; (try (have kXZ := kFor kFZ (by k_asm))); (try dsimp only [PySem.W.InitBack, PySem.W.CmpBack, PySem.W.LenBack, PySem.W.StrBack, PySem.W.BoolBack]); (try refine ⟨rfl, ?_⟩); (try dsimp only [PySem.W.CmpBack, PySem.W.LenBack, PySem.W.StrBack, PySem.W.BoolBack]); (try (refine ⟨⟨by omega, by omega⟩, ?_⟩)); (try (refine handed_on rfl ?_; try dsimp only)))
  k_with "storeName" => (k_here; k_dflt ((refine' storeL ?F ?N ?_ ?a ?b; (case F => k_asm); (case N => k_asm); (case a => rfl); (case b => rfl); k_whole; intro h'Z kMZ F'Z N'Z; (try k_sweep))))
  k_with "eval Attribute Name" => (k_here; k_dflt (refine' selfAttr ?kF ?ka ?kb ?kv ?k2 ?k3 ?k4 ?k5 ?k6 ?k7 ?k8 ?k9 ?_ ?kd; (case kF => k_asm); (case ka => rfl); (case kb => rfl); (case kv => rfl); (case k2 => k_asm); (case k3 => k_inst); (case k4 => k_is); (case k5 => k_is); (case k6 => k_is); (case k7 => k_is); (case k8 => k_get); (case k9 => k_handed); (case kd => decide); k_whole))
  k_with "spliced" => (k_here; (with_reducible show wpAny _ _ (spliced (backTo _ (starEach [Expr.Name _ _] _))) _ _ _); k_dflt (refine' argN1 ?kF ?ka ?kb ?kv ?_ ?kd; (case kF => k_asm); (case ka => rfl); (case kb => rfl); (case kv => rfl); (case kd => decide); k_whole))
  k_with "spliced" => (k_here; (with_reducible show wpAny _ _ (spliced (backTo _ (starEach (Expr.Name _ _ :: _ :: _) _))) _ _ _); k_dflt (refine' argN ?kF ?ka ?kb ?kv ?_ ?kd; (case kF => k_asm); (case ka => rfl); (case kb => rfl); (case kv => rfl); (case kd => decide); k_whole))
  k_with "getMethod type:ValueError" => (k_here; refine' method_type ?F ?X ?m (by decide +kernel) ?e ?h ?_; (case F => k_asm); (case X => k_asm); (case m => exact meta_vErr); (case e => k_dflt k_is); (case h => k_handed))
  k_with "call builtin:ValueError.__init__" => (k_here; k_dflt (refine' xc_init (D := 39) ?k1 ?k2 ?k3 ?k4 ?k5 ?k6 ?k7 ?k8 ?_; (case k1 => k_asm); (case k2 => k_asm); (case k3 => k_asm); (case k4 => k_all); (case k5 => k_is); (case k6 => exact rfl); (case k7 => exact rfl); (case k8 => exact Nat.le_of_ble_eq_true rfl)); intro h'Z t'Z F'Z N'Z; (try k_sweep))
  k_with "setAttr ref" => (k_here; k_dflt (refine' xc_set_new (D := 39) ?k1 ?k2 ?k3 ?k4 ?k5 ?k6 ?k7 ?k8 ?k9 ?_; (case k1 => k_asm); (case k2 => k_asm); (case k3 => k_asm); (case k4 => k_all); (case k5 => k_is); (case k6 => k_is); (case k7 => exact rfl); (case k8 => exact rfl); (case k9 => k_is)); intro h'Z d'Z F'Z l1Z l2Z N'Z; (try k_sweep))
  k_with "setAttr ref" => (k_here; k_dflt (refine' xc_set_more (D := 39) ?k1 ?k2 ?k3 ?k4 ?k5 ?k6 ?k7 ?k8 ?k9 ?k10 ?k11 ?k12 ?k13 ?k14 ?_; (case k1 => k_asm); (case k2 => k_asm); (case k3 => k_asm); (case k4 => k_extra "H14"); (case k5 => first | exact .head _ | k_mem); (case k6 => k_is); (case k7 => k_is); (case k8 => exact rfl); (case k9 => exact rfl); (case k10 => k_is); (case k11 => exact rfl); (case k12 => k_put); (case k13 => k_upd); (case k14 => exact Nat.le_of_ble_eq_true rfl)); intro h'Z F'Z N'Z; (try k_sweep))
  trivial
theorem bad_spec {txt : Str} {tt : Tok}
  (B : Below A₀ base outer h₀) (F : Fr h₀ L s.heap m) (X : (KF w.params).In h₀) (N : News h₀ L s.heap news) (T : Top p loose mean mg mb h₀) (hk : cs.kind = .function) (hd : dp + 4 < recursionLimit)
  (hret : ∀ e d t u h' tk', Fr h₀ L h' m → (∀ p ∈ news, p.1 < e) → (∀ p ∈ news, p.1 < d) → @LT.lt Nat _ e d → News h₀ L h' ((e, (⟨.ref 52, some d, .fields #[.ref t, .none, .none, .none, .bool false, .none], #[]⟩ : Obj)) :: (d, dictOf [⟨PyData.keyHash w.params "reason", .str "reason" u, .str txt tt⟩] 1) :: news) →
    Q (.ref e) { s with heap := h', toks := tk' }) :
  wpAny (model pw w) (ktrTop dp un gd cn cs L a ccd cl outer) (call (.ref 52) [.str txt tt]) Q E s := by
  have XS : (KF w.params).In s.heap := X.keeps F.keep
  obtain ⟨hp, g, dr, t, os⟩ := s
  refine two_call (D := 39) (B := "ValueError") (newId := "ValueError.__new__") (initId := "ValueError.__init__") PySem.F.excBase_ValueError (XS 52 _ (by k_is)) (looks_findIn XS (t := .ref 52) (name := "__init__") (by k_is)) (XS _ _ (by k_is)) rfl ?_
  intro h1 e M hle
  obtain ⟨t0, hE, ht0, hT0⟩ := M.there
  obtain ⟨F1, N1, lt1⟩ := made_news F N M.keeps M.new hE hle
  clear XS M hE ht0 hT0 N F
  k_steps
  all_goals exact hret _ _ _ _ _ _ (by assumption) (by assumption) (by assumption) (by assumption) (news_swap (by assumption))
end
end Mine

namespace Mine
open PySem.Builtin PySem.Builtin.ObjectAttr
theorem hex_digits : ∀ n, n < 256 → (Nat.toDigits 16 n).length ≤ 2 := by decide +kernel
section
variable {w : World} {A : Around} {E : Value → Shared → Prop} {s : Shared}
theorem hexKey {a : Int} {t : Tok} (h0 : 0 ≤ a) (h1 : a < 256) : ∃ y : Str, y.length ≤ 16 ∧ ∀ u, Meets (Builtin.«int.__format__» ⟨[.int a t, .str (Str.ofString "x") u], []⟩) (fun _ R s => ∀ t' k, R (.ok (.ret (.str y t'))) { s with toks := k }) := by
  have hd : (Nat.toDigits 16 a.natAbs).length ≤ 2 := hex_digits _ (by lia)
  have hs : decide (a < 0) = false := by simp only [decide_eq_false_iff_not]; lia
  generalize hX : Str.ofString "x" = X
  have n0 : ¬ ((X.length == 0) = true) := by rw [← hX]; decide +kernel
  have hF : Float.parseFormatSpec X.cps.toList "int" 62 = .ok ⟨32, 62, none, false, false, none, none, none, some 120⟩ := by rw [← hX]; kernel_rfl
  apply Exists.intro
  apply And.intro
  rotate_left
  · intro u
    apply KPc.meets_of
    intro _ _ _ _ _ _ hQ
    unfold Builtin.«int.__format__»
    refine wpAny_bind (wpAny_of_eq (a := (_, _)) rfl (wpAny_bind (wpAny_of_eq (a := _) rfl ?_)))
    dsimp only
    refine wpAny_ite (KPc.ite_no Bool.false_ne_true ?_)
    refine wpAny_bind (wpAny_typeNameOf (T := "str") (typeIs_str _ _ _) (by decide) fun _ => wpAny_bind (wpAny_of_eq (a := some _) rfl ?_))
    dsimp only
    refine wpAny_ite (KPc.ite_no n0 ?_)
    refine wpAny_ite (KPc.ite_no (by rw [← hX]; decide +kernel) (wpAny_bind (wpAny_typeNameOfCut_int ?_)))
    rw [hF]
    dsimp only [Option.getD]
    refine wpAny_ite (KPc.ite_yes (by decide +kernel) ?_)
    refine KXf.ret_text rfl ?_ hQ
    clear hQ
    rw [hs]
    generalize Nat.toDigits 16 a.natAbs = D at hd ⊢
    rcases D with _ | ⟨c, _ | ⟨c', _ | ⟨c'', D⟩⟩⟩
    · exact Nat.le_of_ble_eq_true (by kernel_rfl)
    · exact Nat.le_of_ble_eq_true (by kernel_rfl)
    · exact Nat.le_of_ble_eq_true (by kernel_rfl)
    · simp only [List.length_cons] at hd; lia
  · rw [hs]
    generalize Nat.toDigits 16 a.natAbs = D at hd ⊢
    rcases D with _ | ⟨c, _ | ⟨c', _ | ⟨c'', D⟩⟩⟩
    · exact Nat.le_of_ble_eq_true (by kernel_rfl)
    · exact Nat.le_of_ble_eq_true (by kernel_rfl)
    · exact Nat.le_of_ble_eq_true (by kernel_rfl)
    · simp only [List.length_cons] at hd; lia
theorem hexF {v : Int} {t : Tok} {Q : Value → Shared → Prop} (h0 : 0 ≤ v) (h1 : v < 256) (h : ∀ y t' k, y.length ≤ 16 → Q (.str y t') { s with toks := k }) :
    wpAny (model pw w) A (formatField (.int v t) (Str.ofString "x")) Q E s := by
  obtain ⟨y, hy, g⟩ := hexKey (t := t) h0 h1
  exact KXf.field_int rfl (by decide +kernel) (by decide +kernel) g fun t' k => h _ _ _ hy
end
end Mine

namespace Mine
section
variable {w : World} {p : Program} {loose : List Str} {mean : ExcName → Option Value} {mg mb : Str → Option Value}
  {dp un : Nat} {gd : Option (List Code)} {cn : Str} {cs : Scope} {a : Addr} {ccd : Value} {cl : List (Str × Addr)} {outer : List Env} {A₀ : Around} {base h₀ : Heap} {L : Addr} {m : Str → Option Value} {s : Shared} {Q E : Value → Shared → Prop} {news : List (Addr × Obj)}
theorem rulesE50 : True := by
  k_with "formatField int" => (k_here; (refine' hexF ?k1 ?k2 ?_; (case k1 => assumption); (case k2 => assumption)); intro y'Z t'Z k'Z hy'Z)
  trivial
theorem trap_spec {c v : Int} {tc tv : Tok}
  (B : Below A₀ base outer h₀) (F : Fr h₀ L s.heap m) (X : (KF w.params).In h₀) (N : News h₀ L s.heap news) (T : Top p loose mean mg mb h₀) (hk : cs.kind = .function) (hd : dp + 6 < recursionLimit)
  (c0 : 0 ≤ c) (c1 : c < 100) (v0 : 0 ≤ v) (v1 : v < 256)
  (hret : ∀ e d t es h' tk', Fr h₀ L h' m → (∀ p ∈ news, p.1 < e) → (∀ p ∈ news, p.1 < d) → @LT.lt Nat _ e d → News h₀ L h' ((e, (⟨.ref 103, some d, .fields #[.ref t, .none, .none, .none, .bool false, .none], #[]⟩ : Obj)) :: (d, dictOf es 3) :: news) →
    getL "cause" es = some (some (.int c tc)) → getL "value" es = some (some (.int v tv)) → Q (.ref e) { s with heap := h', toks := tk' }) :
  wpAny (model pw w) (ktrTop dp un gd cn cs L a ccd cl outer) (call (.ref 103) [.int c tc, .int v tv]) Q E s := by
  have XS : (KF w.params).In s.heap := X.keeps F.keep
  obtain ⟨hp, g, dr, t, os⟩ := s
  refine two_call (D := 39) (B := "ValueError") (newId := "ValueError.__new__") (initId := "ValueError.__init__") PySem.F.excBase_ValueError (XS 103 _ (by k_is)) (looks_findIn XS (t := .ref 103) (name := "__init__") (by k_is)) (XS _ _ (by k_is)) rfl ?_
  intro h1 e M hle
  obtain ⟨t0, hE, ht0, hT0⟩ := M.there
  obtain ⟨F1, N1, lt1⟩ := made_news F N M.keeps M.new hE hle
  clear XS M hE ht0 hT0 N F
  k_steps
  all_goals exact hret _ _ _ _ _ _ (by assumption) (by assumption) (by assumption) (by assumption) (news_swap (by assumption)) rfl rfl
end
end Mine

namespace Mine
section
variable {M : Model} {A : Around} {E : Value → Shared → Prop} {s : Shared} {base : Heap} {l outer : List Env} {env : Env} {L e C d : Addr} {fl : Value} {Q : Unit → Shared → Prop}

/-- an own exception under way: its class, its dict, its first traceback -/
noncomputable def Trk (base h : Heap) (e C d : Addr) (fl : Value) : Prop :=
  ∃ oe vs T oT ts, h.get? e = some oe ∧ (oe.cls = .ref C ∧ oe.dict = some d) ∧ oe.data = .fields vs ∧ vs[1]? = some (.ref T) ∧ base.get? T = none ∧ T ≠ e ∧ h.get? T = some oT ∧ oT.data = .fields ts ∧ ts[3]? = some fl
noncomputable def Fly (base : Heap) (l : List Env) (e C d : Addr) (fl : Value) (h : Heap) : Prop := base.StaysIn h ∧ base.get? e = none ∧ h.FunFrames base l ∧ Trk base h e C d fl
theorem dict_mapF (o : Obj) (f : Array Value → Array Value) : (o.mapFields f).dict = o.dict := by
  obtain ⟨_, _, dt, _⟩ := o
  cases dt <;> rfl
theorem Fly.there {h : Heap} (x : Fly base l e C d fl h) : ∃ oe vs, h.get? e = some oe ∧ oe.cls = .ref C ∧ oe.dict = some d ∧ oe.data = .fields vs :=
  let ⟨_, _, _, oe, vs, _, _, _, he, hc, hd, _⟩ := x; ⟨oe, vs, he, hc.1, hc.2, hd⟩

/-- the entry of a frame is set ahead of the traceback -/
theorem trk_entry {oe : Obj} {vs : Array Value} {head : Value} {next : Bool} (hfr : A.frames = some (env :: outer)) (hf : env.frame = some L) (hk : base.StaysIn s.heap) (hen : base.get? e = none) (hl : s.heap.FunFrames base (env :: outer))
    (he : s.heap.get? e = some oe) (hc : oe.cls = .ref C ∧ oe.dict = some d) (hd : oe.data = .fields vs) (hz : 1 < vs.size)
    (h : ∀ h', Fly base (env :: outer) e C d (rawInt L) h' → s.heap.UpToSlots h' → Q () { s with heap := h' }) :
    wpAny M A (do let a ← frameOf env; let pl ← entryPlaceOf L next; let b ← EntryCells.newEntry head a .none (rawInt L) .none pl; setField (.ref e) 1 b) Q E s := by
  have off : e ∉ (env :: outer).filterMap (·.frame) := fun q => by
    obtain ⟨_, o, ho, hn⟩ := hl.mem q
    rw [he] at ho
    cases ho
    exact hn vs hd
  refine wpAny_bind (wpAny_frameOf_fun hfr hl hf fun h₁ S₁ => wpAny_bind (wpAny_entryPlaceOf fun pl hpl => ?_))
  unfold EntryCells.newEntry newFields
  refine wpAny_bind (wpAny_newObj_type ?_ (hpl.sizeOk5 _ _ _ _ _))
  have he₁ : h₁.get? e = some oe := (S₁.2.1 e off).trans he
  have st₁ : base.StaysIn h₁ := fun b o q => (S₁.2.1 b fun z => by rw [(hl.mem z).1] at q; cases q).trans (hk b o q)
  generalize hob : ({ cls := .type "traceback", dict := none, data := .fields ([head, .ref L, .none, rawInt L, .none] ++ (if pl.isEmpty then List.replicate 6 Value.none else pl)).toArray } : Obj) = ob
  have hobd : ob.data = .fields ([head, .ref L, .none, rawInt L, .none] ++ (if pl.isEmpty then List.replicate 6 Value.none else pl)).toArray := by rw [← hob]
  have hobf : ob.isFreed = false := Obj.isFreed_of_fields hobd
  have he₂ := Heap.get?_push_of_some (h := h₁) ob he₁
  have ne : h₁.objs.size ≠ e := Nat.ne_of_gt (Heap.lt_size he₁)
  have hd₃ := Obj.data_mapFields hd (·.setIfInBounds 1 (Value.ref h₁.objs.size))
  have far : ∀ b o, b ≠ e → h₁.get? b = some o → ((h₁.push ob).update e (Obj.mapFields (·.setIfInBounds 1 (Value.ref h₁.objs.size)))).get? b = some o := fun b o hb q => by
    rw [Heap.get?_update_other _ _ (Ne.symm hb)]
    exact Heap.get?_push_of_some _ q
  have notE : ∀ b o, s.heap.get? b = some o → (∀ vs, o.data ≠ .fields vs) → b ≠ e := fun b o q hn z => by
    rw [z, he] at q
    cases q
    exact hn vs hd
  refine wpAny_setField he₂ hd hz (h _ ⟨fun b o q => far b o (fun z => by rw [z, hen] at q; cases q) (st₁ b o q), hen, hl.of_keeps fun b o q hn => ?_, ?_⟩ fun b o q hn => ?_)
  · obtain ⟨sl, z⟩ := S₁.2.2 b o q
    exact ⟨_, far b _ (notE b o q hn) z, rfl⟩
  · refine ⟨_, _, h₁.objs.size, ob, _, Heap.get?_update_self _ he₂ (Obj.isFreed_of_fields hd₃), ⟨(Obj.cls_mapFields _ _).trans hc.1, (dict_mapF _ _).trans hc.2⟩, hd₃, by simp [hz], st₁.fresh, ne, ?_, hobd, ?_⟩
    · exact (Heap.get?_update_other _ _ (Ne.symm ne)).trans (Heap.get?_push_size h₁ hobf)
    · first | (simp; done) | (rcases hpl with rfl | ⟨_, _, _, _, _, _, _, rfl⟩ <;> simp)
  · obtain ⟨sl, z⟩ := S₁.2.2 b o q
    exact ⟨sl, far b _ (notE b o q hn) z⟩

theorem trk_unset (hh : Fly base l e C d fl s.heap) (h : ∀ h', Fly base l e C d .none h' → s.heap.UpToSlots h' → Q () { s with heap := h' }) : wpAny M A (setFlight (.ref e) none) Q E s := by
  obtain ⟨hk, hen, hl, oe, vs, T, oT, ts, he, hc, hd, h1, hnT, ne, hT, hdT, h3⟩ := hh
  have hz : 3 < ts.size := (Array.getElem?_eq_some_iff.mp h3).1
  have far : ∀ b, b ≠ T → (s.heap.update T (Obj.mapFields (·.setIfInBounds 3 ((none : Option Addr).elim Value.none fun f => rawInt f)))).get? b = s.heap.get? b := fun b hb => Heap.get?_update_other _ _ (Ne.symm hb)
  have notT : ∀ b o, s.heap.get? b = some o → (∀ vs, o.data ≠ .fields vs) → b ≠ T := fun b o q hn z => by
    rw [z, hT] at q
    cases q
    exact hn ts hdT
  unfold setFlight
  refine wpAny_bind (wpAny_field he hd h1 ?_)
  rw [if_pos (show (Value.ref T != Value.none) = true from by simp)]
  refine wpAny_setField hT hdT hz (h _ ⟨fun b o q => (far b fun z => by rw [z, hnT] at q; cases q).trans (hk b o q), hen, hl.of_keeps fun b o q hn => ⟨o, (far b (notT b o q hn)).trans q, rfl⟩, ?_⟩ fun b o q hn => ⟨o.slots, (far b (notT b o q hn)).trans q⟩)
  exact ⟨oe, vs, T, _, _, (far e (Ne.symm ne)).trans he, hc, hd, h1, hnT, ne, Heap.get?_update_self _ hT (Obj.isFreed_of_fields (Obj.data_mapFields hdT _)), Obj.data_mapFields hdT _, by simp [hz]⟩

/-- noteFrame: on a fresh exception, on one that comes from a callee, on one that stands at this frame -/
theorem trk_note0 {oe : Obj} {vs : Array Value} (hfr : A.frames = some (env :: outer)) (hf : env.frame = some L) (hk : base.StaysIn s.heap) (hen : base.get? e = none) (hl : s.heap.FunFrames base (env :: outer))
    (he : s.heap.get? e = some oe) (hc : oe.cls = .ref C ∧ oe.dict = some d) (hd : oe.data = .fields vs) (h1 : vs[1]? = some .none)
    (h : ∀ h', Fly base (env :: outer) e C d (rawInt L) h' → s.heap.UpToSlots h' → Q () { s with heap := h' }) : wpAny M A (noteFrame (.ref e) env) Q E s := by
  unfold noteFrame
  simp only [hf]
  refine wpAny_bind (wpAny_field he hd h1 ?_)
  rw [if_neg (by decide)]
  exact trk_entry hfr hf hk hen hl he hc hd (Array.getElem?_eq_some_iff.mp h1).1 h
theorem trk_note1 (hfr : A.frames = some (env :: outer)) (hf : env.frame = some L) (hh : Fly base (env :: outer) e C d .none s.heap)
    (h : ∀ h', Fly base (env :: outer) e C d (rawInt L) h' → s.heap.UpToSlots h' → Q () { s with heap := h' }) : wpAny M A (noteFrame (.ref e) env) Q E s := by
  obtain ⟨hk, hen, hl, oe, vs, T, oT, ts, he, hc, hd, h1, hnT, ne, hT, hdT, h3⟩ := hh
  unfold noteFrame
  simp only [hf]
  refine wpAny_bind (wpAny_field he hd h1 ?_)
  rw [if_pos (show (Value.ref T != Value.none) = true from by simp)]
  refine wpAny_bind (wpAny_field hT hdT h3 ?_)
  rw [if_neg (show ¬ ((Value.none == rawInt L) = true) from by simp [rawInt])]
  refine wpAny_bind (wpAny_setField hT hdT (Array.getElem?_eq_some_iff.mp h3).1 ?_)
  have far : ∀ b, b ≠ T → (s.heap.update T (Obj.mapFields (·.setIfInBounds 3 Value.none))).get? b = s.heap.get? b := fun b hb => Heap.get?_update_other _ _ (Ne.symm hb)
  have notT : ∀ b o, s.heap.get? b = some o → (∀ vs, o.data ≠ .fields vs) → b ≠ T := fun b o q hn z => by
    rw [z, hT] at q
    cases q
    exact hn ts hdT
  refine trk_entry hfr hf (fun b o q => (far b fun z => by rw [z, hnT] at q; cases q).trans (hk b o q)) hen (hl.of_keeps fun b o q hn => ⟨o, (far b (notT b o q hn)).trans q, rfl⟩) ((far e (Ne.symm ne)).trans he) hc hd (Array.getElem?_eq_some_iff.mp h1).1
    fun h' x1 x2 => h h' x1 fun b o q hn => x2 b o ((far b (notT b o q hn)).trans q) hn
theorem trk_leave0 {oe : Obj} {vs : Array Value} (hfr : A.frames = some (env :: outer)) (hf : env.frame = some L) (hk : base.StaysIn s.heap) (hen : base.get? e = none) (hl : s.heap.FunFrames base (env :: outer))
    (he : s.heap.get? e = some oe) (hc : oe.cls = .ref C ∧ oe.dict = some d) (hd : oe.data = .fields vs) (h1 : vs[1]? = some .none)
    (h : ∀ h', Fly base outer e C d .none h' → s.heap.UpToSlots h' → Q () { s with heap := h' }) : wpAny M A (leaving env (.ref e)) Q E s := by
  unfold leaving
  refine wpAny_bind (trk_note0 hfr hf hk hen hl he hc hd h1 fun h₁ x₁ y₁ => trk_unset x₁ fun h₂ x₂ y₂ => ?_)
  obtain ⟨k1, k2, ⟨_, _, k3⟩, k4⟩ := x₂
  exact h h₂ ⟨k1, k2, k3, k4⟩ (y₁.trans y₂)
theorem trk_leave1 (hfr : A.frames = some (env :: outer)) (hf : env.frame = some L) (hh : Fly base (env :: outer) e C d .none s.heap)
    (h : ∀ h', Fly base outer e C d .none h' → s.heap.UpToSlots h' → Q () { s with heap := h' }) : wpAny M A (leaving env (.ref e)) Q E s := by
  unfold leaving
  refine wpAny_bind (trk_note1 hfr hf hh fun h₁ x₁ y₁ => trk_unset x₁ fun h₂ x₂ y₂ => ?_)
  obtain ⟨k1, k2, ⟨_, _, k3⟩, k4⟩ := x₂
  exact h h₂ ⟨k1, k2, k3, k4⟩ (y₁.trans y₂)
end
end Mine

namespace Mine
noncomputable def RaisedD (base G : Heap) (l : List Env) (e C d : Addr) (news : List (Addr × Obj)) (h : Heap) : Prop :=
  ∃ B, base.StaysIn B ∧ (∀ b o, G.get? b = some o → b ∉ l.filterMap (·.frame) → B.get? b = some o) ∧ (∀ q ∈ news, B.get? q.1 = some q.2 ∧ G.get? q.1 = none ∧ base.get? q.1 = none) ∧ Fly B l e C d .none h
theorem RaisedD.sub {base G h : Heap} {l : List Env} {e C d : Addr} {news news' : List (Addr × Obj)} (R : RaisedD base G l e C d news h) (hs : ∀ q ∈ news', q ∈ news) : RaisedD base G l e C d news' h :=
  let ⟨B, a, b, c, f⟩ := R; ⟨B, a, b, fun q hq => c q (hs q hq), f⟩
section
variable {M : Model} {A : Around} {E : Value → Shared → Prop} {s' : Shared} {base g g₂ : Heap} {outer : List Env} {L a e C d : Addr} {m : Str → Option Value} {name : Str} {scope : Scope} {cd : Value} {Q : Unit → Shared → Prop} {news : List (Addr × Obj)}
theorem leave_raiseD {fs : Array Value} {sl : Array (Option Value)} (K : Below A base outer g) (F : Fr g L s'.heap m) (N : News g L s'.heap ((e, (⟨.ref C, some d, .fields fs, sl⟩ : Obj)) :: news)) (hne : ∀ q ∈ news, q.1 ≠ e) (h1 : fs[1]? = some .none)
    (hQ : ∀ h', RaisedD base g outer e C d news h' → g.UpToSlots h' → Q () { s' with heap := h' }) (hk : scope.kind = .function := by rfl) :
    wpAny M (A.deeper (envOf name scope L a cd)) (leaving (envOf name scope L a cd) (.ref e)) Q E s' := by
  have K' := K.push (name := name) (a := a) (cd := cd) F hk
  have hin : ∀ env ∈ (envOf name scope L a cd :: outer), ∀ b, env.frame = some b → b ∈ e :: (envOf name scope L a cd :: outer).filterMap (·.frame) := fun env he b hb => .tail _ (List.mem_filterMap.mpr ⟨env, he, hb⟩)
  have ge : g.get? e = none := (N _ (.head _)).2.2
  have be : base.get? e = none := fresh_of_stays K.stays ge
  have st : base.StaysIn (hideAll s'.heap (e :: (envOf name scope L a cd :: outer).filterMap (·.frame))) := fun b o q => hideAll_get _ (K'.stays b o q) fun hm => by
    rcases List.mem_cons.mp hm with z | hm
    · rw [z, be] at q; cases q
    · rw [(K'.frames.mem hm).1] at q; cases q
  have sg : ∀ b o, g.get? b = some o → b ∉ outer.filterMap (·.frame) → (hideAll s'.heap (e :: (envOf name scope L a cd :: outer).filterMap (·.frame))).get? b = some o := fun b o q nm => hideAll_get _ (F.keep b o q) fun hm => by
    rcases List.mem_cons.mp hm with z | hm
    · rw [z, ge] at q; cases q
    · rcases kts_mem hm with z | z
      · rw [z, kts_self F] at q; cases q
      · exact nm z
  have hl : ∀ q ∈ news, (hideAll s'.heap (e :: (envOf name scope L a cd :: outer).filterMap (·.frame))).get? q.1 = some q.2 ∧ g.get? q.1 = none ∧ base.get? q.1 = none := fun q hq => by
    have nq := N q (.tail _ hq)
    refine ⟨hideAll_get _ nq.1 fun hm => ?_, nq.2.2, fresh_of_stays K.stays nq.2.2⟩
    rcases List.mem_cons.mp hm with z | hm
    · exact hne q hq z
    · obtain ⟨env, he, hf⟩ := List.mem_filterMap.mp hm
      rcases List.mem_cons.mp he with rfl | he
      · exact nq.2.1 (Option.some.inj hf).symm
      · obtain ⟨o, ho, _⟩ := (K.frames.mem (List.mem_filterMap.mpr ⟨env, he, hf⟩)).2
        rw [nq.2.2] at ho; cases ho
  refine trk_leave0 (base := hideAll s'.heap (e :: (envOf name scope L a cd :: outer).filterMap (·.frame))) K'.stack rfl (fun b o q => of_hideAll _ q) (hideAll_none _ (.head _)) (funFrames_hide K'.frames hin) (N _ (.head _)).1 ⟨rfl, rfl⟩ rfl h1 fun h' x1 x2 => ?_
  exact hQ h' ⟨_, st, sg, hl, x1⟩ ((Heap.UpToSlots.of_keeps F.keep).trans x2)

theorem leave_onD (K : Below A base outer g) (F : Fr g L g₂ m) (R : RaisedD base g₂ (envOf name scope L a cd :: outer) e C d news s'.heap) (hsm : g₂.UpToSlots s'.heap)
    (hQ : ∀ h', RaisedD base g outer e C d news h' → g.UpToSlots h' → Q () { s' with heap := h' }) :
    wpAny M (A.deeper (envOf name scope L a cd)) (leaving (envOf name scope L a cd) (.ref e)) Q E s' := by
  obtain ⟨B, hB, hBG, hl, hfl⟩ := R
  refine trk_leave1 (Around.frames_deeper K.stack) rfl hfl fun h' x1 x2 => hQ h' ⟨B, hB, fun b o q nm => hBG b o (F.keep b o q) (fun hm => ?_), fun q hq => ⟨(hl q hq).1, kts_none F.keep (hl q hq).2.1, (hl q hq).2.2⟩, x1⟩ ((Heap.UpToSlots.of_keeps F.keep).trans (hsm.trans x2))
  rcases kts_mem hm with z | z
  · rw [z, kts_self F] at q; cases q
  · exact nm z
end

section
variable {prog : Program} {w : World} {A₀ : Around} {E : Value → Shared → Prop} {s' : Shared} {base g G : Heap} {outer : List Env} {L a e C d : Addr} {m : Str → Option Value} {name : Str} {scope : Scope} {cd : Value}
  {n : Str} {b₀ : Stmt} {suite : List Stmt} {pos np : Pos} {rest : List ExceptHandler} {Q : Flow → Shared → Prop} {news : List (Addr × Obj)} {KF : Frag}
  {p : Program} {loose : List Str} {mean : ExcName → Option Value} {mg mb : Str → Option Value} {x : Str}
/-- an own exception lands at a handler of its class -/
theorem landD (F : Fr g L G m) (K : Below A₀ base outer g) (hsm : G.UpToSlots s'.heap) (XB : KF.In base) (TB : Top p loose mean mg mb base)
    (D : KtsDicts (outer.filterMap (·.frame)) g)
    {h₆ : Heap} (hB6 : ∃ B, base.StaysIn B ∧ (∀ b o, G.get? b = some o → b ∉ (envOf name scope L a cd :: outer).filterMap (·.frame) → B.get? b = some o) ∧ (∀ q ∈ news, B.get? q.1 = some q.2 ∧ G.get? q.1 = none ∧ base.get? q.1 = none) ∧ Fly B (envOf name scope L a cd :: outer) e C d .none h₆)
    (hsm₆ : s'.heap.UpToSlots h₆) :
    ∃ g' fs sl, KtsTurn (outer.filterMap (·.frame)) g g' ∧ Fr g' L h₆ m ∧ Below A₀ base outer g' ∧ KF.In g' ∧ Top p loose mean mg mb g' ∧ KtsDicts (outer.filterMap (·.frame)) g' ∧ News g' L h₆ ((e, (⟨.ref C, some d, .fields fs, sl⟩ : Obj)) :: news) := by
  obtain ⟨B, hB, hBG, hl, hfl⟩ := hB6
  have hL : B.get? L = none := by
    obtain ⟨_, ⟨L', _, hf, hn', _⟩, _⟩ := hfl.2.2.1
    obtain rfl : L = L' := Option.some.inj hf
    exact hn'
  obtain ⟨g', T', F', K'⟩ := kts_ground K F hBG hfl.1 (hsm.trans hsm₆)
  obtain ⟨oe, vs, hoe, hoec, hoed, hoev⟩ := hfl.there
  have ne : g'.get? e = none := T'.none_ _ (kts_fresh F hBG hfl.2.1 fun o ho hm => by
    obtain ⟨_, o', ho', hn⟩ := K.frames.mem hm
    rw [ho] at ho'
    cases ho'
    obtain ⟨sl, hs⟩ := (hsm.trans hsm₆) _ _ (F.keep _ _ ho) hn
    rw [hoe] at hs
    cases hs
    exact hn _ hoev)
  obtain ⟨oc, od, ov, sl⟩ := oe
  dsimp only at hoec hoed hoev
  subst hoec hoed hoev
  refine ⟨g', vs, sl, T', F', K', XB.keeps K'.stays, TB.keeps K'.stays, D.turn T', News.more F' (fun q hq => ⟨hfl.1 _ _ (hl q hq).1, (fun z => by have := (hl q hq).1; rw [z, hL] at this; cases this), T'.none_ _ (kts_none F.keep (hl q hq).2.1)⟩) hoe (fun es n q => by cases q) ne⟩
theorem caught_D0 (R : RaisedD base G (envOf name scope L a cd :: outer) e C d news s'.heap) (F : Fr g L G m) (K : Below A₀ base outer g) (hsm : G.UpToSlots s'.heap) (XB : KF.In base) (TB : Top p loose mean mg mb base)
    (D : KtsDicts (outer.filterMap (·.frame)) g) (ex : nsIn KF mainGlobals x = some (some (.ref C))) (q : ktsIn KF C "BaseException" = true)
    (k : ∀ h' g' fs sl, KtsTurn (outer.filterMap (·.frame)) g g' → Fr g' L h' m → Below A₀ base outer g' → KF.In g' → Top p loose mean mg mb g' → KtsDicts (outer.filterMap (·.frame)) g' → News g' L h' ((e, (⟨.ref C, some d, .fields fs, sl⟩ : Obj)) :: news) →
      wpAny (model prog w) ((A₀.deeper (envOf name scope L a cd)).mark (some (.ref e))) (execs (b₀ :: suite) (envOf name scope L a cd)) Q E { s' with heap := h' })
    (hk : scope.kind = .function := by rfl) (hx : (envOf name scope L a cd).kindOf x = some .globalImplicit := by rfl) (hd : (x == ("__debug__" : Str)) = false := by decide)
    (hE : PassesOwnAt (model prog w) ((A₀.deeper (envOf name scope L a cd)).mark (some (.ref e))) (A₀.deeper (envOf name scope L a cd)) (envOf name scope L a cd) E := by passes_own) :
    wpAny (model prog w) (A₀.deeper (envOf name scope L a cd)) (noteFrame (.ref e) (envOf name scope L a cd))
      (fun _ s₂ => wpAny (model prog w) (A₀.deeper (envOf name scope L a cd)) (setFlight (.ref e) none) (fun _ s₃ =>
        wpAny (model prog w) (A₀.deeper (envOf name scope L a cd)) (handleBy (.ref e) (envOf name scope L a cd) (.ExceptHandler (some (.Name x np)) none (b₀ :: suite) pos :: rest)) Q E s₃) E s₂) E s' := by
  obtain ⟨B, hB, hBG, hl, hfl⟩ := R
  refine trk_note1 (Around.frames_deeper K.stack) rfl hfl fun h₄ x₄ y₄ => trk_unset x₄ fun h₅ x₅ y₅ => ?_
  obtain ⟨g₅, T₅, F₅, K₅⟩ := kts_ground K F hBG x₅.1 (hsm.trans (y₄.trans y₅))
  have X₅ : KF.In g₅ := XB.keeps K₅.stays
  have P₅ : TopRead p loose mg mb g₅ := topRead_of (TB.keeps K₅.stays)
  obtain ⟨oe, _, hoe, hoec, _, _⟩ := x₅.there
  obtain ⟨nm, q', N, bs, bm, hdct, sn, sub, ab, col, dd, k0, k1, k2, k3, k5, newId, hC, hbase, _⟩ := kts_cls X₅ q
  refine wpAny_handleBy_cons (codeAny_handlers_test (name_K F₅ X₅ P₅ ex ?_ hk hx hd)) (by intro q; cases q)
  refine wpAny_excMatches_sub_self (F₅.keep _ _ hC) hoe hoec hbase (codeAny_handlers_suite ?_)
  refine trk_unset x₅ fun h₆ x₆ y₆ => ?_
  obtain ⟨g', fs, sl, a1, a2, a3, a4, a5, a6, a7⟩ := landD F K hsm XB TB D ⟨B, hB, hBG, hl, x₆⟩ (y₄.trans (y₅.trans y₆))
  exact wpAny_passesOwnAt hE (k h₆ g' fs sl a1 a2 a3 a4 a5 a6 a7)
theorem caught_DB (R : RaisedD base G (envOf name scope L a cd :: outer) e C d news s'.heap) (F : Fr g L G m) (K : Below A₀ base outer g) (hsm : G.UpToSlots s'.heap) (XB : KF.In base) (TB : Top p loose mean mg mb base)
    (D : KtsDicts (outer.filterMap (·.frame)) g) (ex : nsIn KF mainGlobals x = some (some (.ref C))) (q : ktsIn KF C "BaseException" = true)
    (k : ∀ h' g' fs sl tk, KtsTurn (outer.filterMap (·.frame)) g g' → Fr g' L h' (fun y => if y = n then some (.ref e) else m y) → Below A₀ base outer g' → KF.In g' → Top p loose mean mg mb g' → KtsDicts (outer.filterMap (·.frame)) g' → News g' L h' ((e, (⟨.ref C, some d, .fields fs, sl⟩ : Obj)) :: news) →
      wpAny (model prog w) ((A₀.deeper (envOf name scope L a cd)).mark (some (.ref e))) (execs (b₀ :: suite) (envOf name scope L a cd))
        (fun f s₄ => wpAny (model prog w) (A₀.deeper (envOf name scope L a cd)) (do bindName (envOf name scope L a cd) n .none; unbindBehindTheSuite (envOf name scope L a cd) n pos) (fun _ s₅ => Q f s₅) E s₄)
        (AsSuiteRaised (model prog w) ((A₀.deeper (envOf name scope L a cd)).mark (some (.ref e))) (envOf name scope L a cd) n pos (notedBy (model prog w) ((A₀.deeper (envOf name scope L a cd)).mark (some (.ref e))) (envOf name scope L a cd) (cameBackBy (model prog w) (A₀.deeper (envOf name scope L a cd)) (envOf name scope L a cd) E)))
        { s' with heap := h', toks := tk })
    (hk : scope.kind = .function := by rfl) (hlo : (envOf name scope L a cd).kindOf n = some .local := by rfl) (hx : (envOf name scope L a cd).kindOf x = some .globalImplicit := by rfl) (hd : (x == ("__debug__" : Str)) = false := by decide) :
    wpAny (model prog w) (A₀.deeper (envOf name scope L a cd)) (noteFrame (.ref e) (envOf name scope L a cd))
      (fun _ s₂ => wpAny (model prog w) (A₀.deeper (envOf name scope L a cd)) (setFlight (.ref e) none) (fun _ s₃ =>
        wpAny (model prog w) (A₀.deeper (envOf name scope L a cd)) (handleBy (.ref e) (envOf name scope L a cd) (.ExceptHandler (some (.Name x np)) (some n) (b₀ :: suite) pos :: rest)) Q E s₃) E s₂) E s' := by
  obtain ⟨B, hB, hBG, hl, hfl⟩ := R
  refine trk_note1 (Around.frames_deeper K.stack) rfl hfl fun h₄ x₄ y₄ => trk_unset x₄ fun h₅ x₅ y₅ => ?_
  obtain ⟨g₅, T₅, F₅, K₅⟩ := kts_ground K F hBG x₅.1 (hsm.trans (y₄.trans y₅))
  have X₅ : KF.In g₅ := XB.keeps K₅.stays
  have P₅ : TopRead p loose mg mb g₅ := topRead_of (TB.keeps K₅.stays)
  obtain ⟨oe, _, hoe, hoec, _, _⟩ := x₅.there
  obtain ⟨nm, q', N, bs, bm, hdct, sn, sub, ab, col, dd, k0, k1, k2, k3, k5, newId, hC, hbase, _⟩ := kts_cls X₅ q
  refine wpAny_handleBy_cons (codeAny_handlers_test (name_K F₅ X₅ P₅ ex ?_ hk hx hd)) (by intro q; cases q)
  refine wpAny_excMatches_sub_self (F₅.keep _ _ hC) hoe hoec hbase (codeAny_handlers_suite_as ?_)
  refine trk_unset x₅ fun h₆ x₆ y₆ => ?_
  obtain ⟨g', fs, sl, a1, a2, a3, a4, a5, a6, a7⟩ := landD F K hsm XB TB D ⟨B, hB, hBG, hl, x₆⟩ (y₄.trans (y₅.trans y₆))
  exact stN a2 a7 (fun h₇ F₇ N₇ => k h₇ g' fs sl _ a1 F₇ a3 a4 a5 a6 N₇) hk hlo

/-- raise of an own exception -/
theorem raise_own {A : Around} {s : Shared} {env : Env} {ex : Expr} {rp : Pos} (hh : A.handled = none)
    (h : wpAny (model prog w) A (eval ex env) (fun v s₁ => ∃ e d t, v = .ref e ∧ KF.In s₁.heap ∧ ktsIn KF C "BaseException" = true ∧ s₁.heap.get? e = some (⟨.ref C, some d, .fields #[.ref t, .none, .none, .none, .bool false, .none], #[]⟩ : Obj) ∧ E (.ref e) s₁) E s) :
    wpAny (model prog w) A (exec (.Raise (some ex) none rp) env) Q E s := by
  show wpAny _ A (do standAt rp; raiseStmt env (some (do let v ← eval ex env; standAt rp; pure v)) none) Q E s
  refine wpAny_bind (wpAny_standAt ?_)
  unfold raiseStmt
  dsimp only
  refine wpAny_bind (wpAny_bind (wpAny_mono h (fun v s₁ h₁ => wpAny_bind (wpAny_standAt (wpAny_pure ?_))) fun _ _ x => x))
  obtain ⟨e, d, t, rfl, X, q, he, hE⟩ := h₁
  obtain ⟨nm, q', N, bs, bm, hdct, sn, sub, ab, col, dd, k0, k1, k2, k3, k5, newId, hC, hbase, _⟩ := kts_cls X q
  have hb : (Value.ref C :: bm).contains (.type "BaseException") = true := by rw [List.contains_cons, hbase, Bool.or_true]
  obtain ⟨hp, g, dr, tk, os⟩ := s₁
  dsimp only at he hC
  repeat (first | with_reducible refine wpAny_loadPart_at he ?_ | with_reducible refine wpAny_loadPart_at hC ?_ | (with_reducible refine wpAny_isSubtype_exc hC ?_; rw [hb]) | wp_step)
  exact wpAny_raiseNew_none hh hE
end
end Mine

namespace Mine
theorem kts52 (P : Params) : ktsIn (KF P) 52 "BaseException" = true := by kernel_rfl
theorem kts103 (P : Params) : ktsIn (KF P) 103 "BaseException" = true := by kernel_rfl
noncomputable def Thr (K : Frag) (C : Addr) (E : Value → Shared → Prop) (v : Value) (s₁ : Shared) : Prop :=
  ∃ e d t, v = .ref e ∧ K.In s₁.heap ∧ ktsIn K C "BaseException" = true ∧ s₁.heap.get? e = some (⟨.ref C, some d, .fields #[.ref t, .none, .none, .none, .bool false, .none], #[]⟩ : Obj) ∧ E (.ref e) s₁
theorem raise_thr {w : World} {A : Around} {E : Value → Shared → Prop} {s : Shared} {env : Env} {ex : Expr} {rp : Pos} {Q : Flow → Shared → Prop} (C : Addr) (hh : A.handled = none)
    (h : wpAny (model pw w) A (eval ex env) (Thr (KF w.params) C E) E s) : wpAny (model pw w) A (exec (.Raise (some ex) none rp) env) Q E s := raise_own hh h
theorem thr_in {K : Frag} {C e d t : Addr} {E : Value → Shared → Prop} {s₁ : Shared} {h₀ : Heap} {L : Addr} {m : Str → Option Value} {news : List (Addr × Obj)} (F : Fr h₀ L s₁.heap m) (X : K.In h₀) (N : News h₀ L s₁.heap news)
    (hm : (e, (⟨.ref C, some d, .fields #[.ref t, .none, .none, .none, .bool false, .none], #[]⟩ : Obj)) ∈ news) (q : ktsIn K C "BaseException" = true) (h : E (.ref e) s₁) : Thr K C E (.ref e) s₁ :=
  ⟨e, d, t, rfl, X.keeps F.keep, q, (N _ hm).1, h⟩
section
variable {w : World} {p : Program} {loose : List Str} {mean : ExcName → Option Value} {mg mb : Str → Option Value}
  {dp un : Nat} {gd : Option (List Code)} {cn : Str} {cs : Scope} {a : Addr} {ccd : Value} {cl : List (Str × Addr)} {outer : List Env} {A₀ : Around} {base h₀ : Heap} {L : Addr} {m : Str → Option Value} {s : Shared} {Q E : Value → Shared → Prop} {news : List (Addr × Obj)}
noncomputable def soundB (e : Int) : Bool := if ¬ Builtin.bitAnd e 1 = 0 then Builtin.bitAnd e (Builtin.bitOr 2 4) != 4 else Builtin.bitAnd e 1 != 0
noncomputable def flOk (fl : Int) : Prop := Builtin.bitAnd fl (Builtin.bitNot 1023) = 0 ∧ Builtin.bitAnd fl 10 ≠ 0 ∧ soundB (Builtin.bitOr fl 1) = true
theorem rulesE80 : True := by
  k_with "H15" => first | exact kts52 _ | exact kts103 _
  k_with "exec Raise some none" => (k_here; (with_reducible show wpAny _ _ (exec (Stmt.Raise (some (Expr.Call (Expr.Name ("BadArgument" : Str) _) _ _ _)) none _) _) _ _ _); refine raise_thr 52 rfl ?_)
  k_with "exec Raise some none" => (k_here; (with_reducible show wpAny _ _ (exec (Stmt.Raise (some (Expr.Call (Expr.Name ("Trap" : Str) _) _ _ _)) none _) _) _ _ _); refine raise_thr 103 rfl ?_)
  k_with "call ref" => (k_here; (with_reducible show wpAny _ _ (call (Value.ref 52) _) _ _ _); k_dflt (refine' bad_spec ?k1 ?k2 ?k3 ?k4 ?k5 ?k6 ?k7 ?_; k_extra "HB"; (case k6 => first | assumption | exact rfl); (case k7 => k_room)); intro e'Z d'Z t'Z u'Z h'Z tk'Z F'Z l1Z l2Z l3Z N'Z; (try k_sweep))
  k_with "call ref" => (k_here; (with_reducible show wpAny _ _ (call (Value.ref 103) _) _ _ _); k_dflt (refine' trap_spec ?k1 ?k2 ?k3 ?k4 ?k5 ?k6 ?k7 ?k8 ?k9 ?k10 ?k11 ?_; k_extra "HB"; (case k6 => first | assumption | exact rfl); (case k7 => k_room); (case k8 => first | assumption | decide); (case k9 => first | assumption | decide); (case k10 => assumption); (case k11 => assumption)); intro e'Z d'Z t'Z es'Z h'Z tk'Z F'Z l1Z l2Z l3Z N'Z g1Z g2Z; (try k_sweep))
  k_with "Thr ref" => (k_here; k_dflt (refine' thr_in ?k1 ?k2 ?k3 ?k4 ?k5 ?_; (case k1 => k_asm); (case k2 => k_asm); (case k3 => k_asm); (case k4 => exact .head _); (case k5 => k_extra "H15")))
  k_with "leaving ref" => (k_here; k_dflt (refine' leave_raiseD ?k1 ?k2 ?k3 ?k4 ?k5 ?_; (case k1 => k_asm); (case k2 => k_asm); (case k3 => k_asm); (case k4 => k_all); (case k5 => exact rfl)); intro h'Z rDZ smZ)
  k_with "leaving ref" => (k_here; k_dflt (refine' leave_onD ?k1 ?k2 ?k3 ?k4 ?_; (case k1 => k_asm); (case k3 => assumption); (case k2 => assumption); (case k4 => assumption)); intro h'Z rDZ smZ)
  trivial
theorem need_flags_spec {tA : Addr} {fl : Int} {tt : Tok}
  (B : Below A₀ base outer h₀) (F : Fr h₀ L s.heap m) (X : (KF w.params).In h₀) (N : News h₀ L s.heap news) (T : Top p loose mean mg mb h₀) (hk : cs.kind = .function) (hd : dp + 8 < recursionLimit)
  (hret : ∀ h' tk', flOk fl → Fr h₀ L h' m → News h₀ L h' news → Q .none { s with heap := h', toks := tk' })
  (hexc : ∀ G e d es h' tk', ¬ flOk fl → Fr h₀ L G m → G.UpToSlots h' → RaisedD base G (envX cn cs L a ccd cl :: outer) e 52 d ((d, dictOf es 1) :: news) h' → E (.ref e) { s with heap := h', toks := tk' }) :
  wpAny (model pw w) (ktrTop dp un gd cn cs L a ccd cl outer) (call (.ref 327) [.ref tA, .int fl tt]) Q E s := by
  k_steps
  all_goals first
    | exact hret _ _ ⟨by assumption, by assumption, by assumption⟩ (by assumption) (by assumption)
    | (refine hexc _ _ _ _ _ _ (fun hx => ?_) (by assumption) (by assumption) (by assumption)
       obtain ⟨x1, x2, x3⟩ := hx
       unfold soundB at x3
       simp_all; done)
end
end Mine

namespace Mine
/-- the addresses of the law's standing objects -/
structure Ads where
  (w m mD l lD t tD p pD g hd k kD b bD sl : Addr)
  (hh : Nat → Int) (tk : Nat → Nat)
noncomputable abbrev Ledger := List (Addr × Obj)
noncomputable def memE (c : Ads) : List DictEntry := [⟨c.hh 0, .str (Str.ofString "size") (c.tk 0), .int 1024 (c.tk 1)⟩, ⟨c.hh 1, .str (Str.ofString "begin") (c.tk 2), .int 0 (c.tk 3)⟩, ⟨c.hh 2, .str (Str.ofString "end") (c.tk 4), .int 1024 (c.tk 5)⟩, ⟨c.hh 3, .str (Str.ofString "words") (c.tk 6), .ref c.w⟩]
noncomputable def layE (c : Ads) : List DictEntry := [⟨c.hh 4, .str (Str.ofString "page_bits") (c.tk 7), .int 4 (c.tk 8)⟩, ⟨c.hh 5, .str (Str.ofString "level_bits") (c.tk 9), .int 2 (c.tk 10)⟩, ⟨c.hh 6, .str (Str.ofString "page") (c.tk 11), .int 16 (c.tk 12)⟩, ⟨c.hh 7, .str (Str.ofString "entries") (c.tk 13), .int 4 (c.tk 14)⟩, ⟨c.hh 8, .str (Str.ofString "large") (c.tk 15), .int 64 (c.tk 16)⟩, ⟨c.hh 9, .str (Str.ofString "end") (c.tk 17), .int 256 (c.tk 18)⟩]
noncomputable def tabE (c : Ads) : List DictEntry := [⟨c.hh 10, .str (Str.ofString "memory") (c.tk 19), .ref c.m⟩, ⟨c.hh 11, .str (Str.ofString "layout") (c.tk 20), .ref c.l⟩, ⟨c.hh 12, .str (Str.ofString "pages") (c.tk 21), .ref c.p⟩]
noncomputable def busE (c : Ads) : List DictEntry := [⟨c.hh 13, .str (Str.ofString "memory") (c.tk 22), .ref c.m⟩, ⟨c.hh 14, .str (Str.ofString "stretches") (c.tk 23), .ref c.sl⟩]
noncomputable def walE (c : Ads) : List DictEntry := [⟨c.hh 15, .str (Str.ofString "bus") (c.tk 24), .ref c.b⟩, ⟨c.hh 16, .str (Str.ofString "layout") (c.tk 25), .ref c.l⟩]
/-- the pool's dict, its count of touched pages at hand -/
noncomputable abbrev poolE (c : Ads) (x : Nat) (u : Int) : List DictEntry := [⟨c.hh 17, .str (Str.ofString "memory") (c.tk 26), .ref c.m⟩, ⟨c.hh 18, .str (Str.ofString "begin") (c.tk 27), .int 896 (c.tk 34)⟩, ⟨c.hh 19, .str (Str.ofString "count") (c.tk 28), .int 8 (c.tk 35)⟩, ⟨c.hh 20, .str (Str.ofString "size") (c.tk 29), .int 16 (c.tk 36)⟩,
  ⟨c.hh 21, .str (Str.ofString "fill") (c.tk 30), .bool true⟩, ⟨c.hh 22, .str (Str.ofString "untouched") (c.tk 31), .int u x⟩, ⟨c.hh 23, .str (Str.ofString "given") (c.tk 32), .ref c.g⟩, ⟨c.hh 24, .str (Str.ofString "held") (c.tk 33), .ref c.hd⟩]
noncomputable def MemIn (c : Ads) (news : Ledger) : Prop := (c.m, instObj 607 c.mD) ∈ news ∧ (c.mD, dictOf (memE c) 4) ∈ news
noncomputable def LayIn (c : Ads) (news : Ledger) : Prop := (c.l, instObj 182 c.lD) ∈ news ∧ (c.lD, dictOf (layE c) 6) ∈ news
noncomputable def TabIn (c : Ads) (news : Ledger) : Prop := (c.t, instObj 418 c.tD) ∈ news ∧ (c.tD, dictOf (tabE c) 3) ∈ news
noncomputable def BusIn (c : Ads) (news : Ledger) : Prop := (c.b, instObj 714 c.bD) ∈ news ∧ (c.bD, dictOf (busE c) 2) ∈ news
noncomputable def WalkIn (c : Ads) (news : Ledger) : Prop := (c.k, instObj 266 c.kD) ∈ news ∧ (c.kD, dictOf (walE c) 2) ∈ news
noncomputable def Off (c : Ads) (news : Ledger) : Prop := ∀ p ∈ news, p.1 ≠ c.w
section
variable {c : Ads} {l l' : Ledger}
theorem MemIn.mono (S : MemIn c l) (h : ∀ x ∈ l, x ∈ l') : MemIn c l' := ⟨h _ S.1, h _ S.2⟩
theorem MemIn.a (S : MemIn c l) (h : ∀ x ∈ l, x ∈ l') : (c.m, instObj 607 c.mD) ∈ l' := h _ S.1
theorem MemIn.b (S : MemIn c l) (h : ∀ x ∈ l, x ∈ l') : (c.mD, dictOf (memE c) 4) ∈ l' := h _ S.2
theorem LayIn.mono (S : LayIn c l) (h : ∀ x ∈ l, x ∈ l') : LayIn c l' := ⟨h _ S.1, h _ S.2⟩
theorem LayIn.a (S : LayIn c l) (h : ∀ x ∈ l, x ∈ l') : (c.l, instObj 182 c.lD) ∈ l' := h _ S.1
theorem LayIn.b (S : LayIn c l) (h : ∀ x ∈ l, x ∈ l') : (c.lD, dictOf (layE c) 6) ∈ l' := h _ S.2
theorem TabIn.mono (S : TabIn c l) (h : ∀ x ∈ l, x ∈ l') : TabIn c l' := ⟨h _ S.1, h _ S.2⟩
theorem TabIn.a (S : TabIn c l) (h : ∀ x ∈ l, x ∈ l') : (c.t, instObj 418 c.tD) ∈ l' := h _ S.1
theorem TabIn.b (S : TabIn c l) (h : ∀ x ∈ l, x ∈ l') : (c.tD, dictOf (tabE c) 3) ∈ l' := h _ S.2
theorem BusIn.mono (S : BusIn c l) (h : ∀ x ∈ l, x ∈ l') : BusIn c l' := ⟨h _ S.1, h _ S.2⟩
theorem BusIn.a (S : BusIn c l) (h : ∀ x ∈ l, x ∈ l') : (c.b, instObj 714 c.bD) ∈ l' := h _ S.1
theorem BusIn.b (S : BusIn c l) (h : ∀ x ∈ l, x ∈ l') : (c.bD, dictOf (busE c) 2) ∈ l' := h _ S.2
theorem WalkIn.mono (S : WalkIn c l) (h : ∀ x ∈ l, x ∈ l') : WalkIn c l' := ⟨h _ S.1, h _ S.2⟩
theorem WalkIn.a (S : WalkIn c l) (h : ∀ x ∈ l, x ∈ l') : (c.k, instObj 266 c.kD) ∈ l' := h _ S.1
theorem WalkIn.b (S : WalkIn c l) (h : ∀ x ∈ l, x ∈ l') : (c.kD, dictOf (walE c) 2) ∈ l' := h _ S.2
/-- what the functions of the law find standing -/
structure Std (c : Ads) (l : Ledger) : Prop where
  mem : MemIn c l
  lay : LayIn c l
  tab : TabIn c l
  bus : BusIn c l
  walk : WalkIn c l
  low : (c.w == sysModules) = false
theorem Std.mono (S : Std c l) (h : ∀ x ∈ l, x ∈ l') : Std c l' := ⟨S.mem.mono h, S.lay.mono h, S.tab.mono h, S.bus.mono h, S.walk.mono h, S.low⟩
end
end Mine

namespace Mine
section
variable {w : World} {p : Program} {loose : List Str} {mean : ExcName → Option Value} {mg mb : Str → Option Value}
  {dp un : Nat} {gd : Option (List Code)} {cn : Str} {cs : Scope} {a : Addr} {ccd : Value} {cl : List (Str × Addr)} {outer : List Env} {A₀ : Around} {base h₀ : Heap} {L : Addr} {m : Str → Option Value} {s : Shared} {Q E : Value → Shared → Prop} {news : List (Addr × Obj)}
variable {c : Ads} {oW : Obj} {M : Int → Int} {rest : Ledger} {g : Obj → Ledger}
theorem rulesC10 : True := by
  k_with "H7" => first | omega | (rw [sh4]; omega) | (rw [sh10]; omega) | (rw [or_4 (by omega) (by omega)]; omega)
  k_with "K_UPDF" => first | with_reducible assumption | (refine' updF_cons ?kua ?kub; (case kua => assumption); (case kub => k_updF)) | (refine' updF_allLt ?kua ?kub; (case kua => assumption); (case kub => k_updF)) | (refine' updF_ne ?kua ?kub; (case kua => assumption); (case kub => k_updF)) | (refine' updF_app ?kua ?kub; (case kua => assumption); (case kub => k_updF)) | (refine' updF_old ?kua ?kuc ?kub; (case kua => assumption); (case kuc => k_mem); (case kub => k_updF)) | (refine' updF_im ?kua ?kuc ?kub; (case kuc => assumption); (case kua => assumption); (case kub => k_updF))
  k_with "getMethod ref" => (k_here; (with_reducible show wpAny _ _ (getMethod (Value.ref _) (Str.ofString "get") _) _ _ _); k_dflt (refine' wd_method ?k1 ?k2 ?k3 ?_; (case k1 => k_asm); (case k2 => k_mem); (case k3 => assumption)))
  k_with "getMethod ref" => (k_here; (with_reducible show wpAny _ _ (getMethod (Value.ref _) (Str.ofString "pop") _) _ _ _); k_dflt (refine' wd_methodP ?k1 ?k2 ?k3 ?_; (case k1 => k_asm); (case k2 => k_mem); (case k3 => assumption)))
  k_with "call builtin:dict.get" => (k_here; k_dflt (refine' wd_get ?k1 ?k2 ?k3 ?k4 ?_; (case k1 => k_asm); (case k2 => k_mem); (case k3 => assumption); (case k4 => assumption)); intro t'Z)
  k_with "call builtin:dict.pop" => (k_here; k_dflt (refine' wd_pop ?k1 ?k2 ?k3 ?k4 ?k5 ?_; (case k1 => k_asm); (case k2 => k_asm); (case k3 => assumption); (case k4 => assumption); (case k5 => assumption)); intro h'Z o'Z x'Z F'Z N'Z hw'Z)
  k_with "setItem ref int" => (k_here; k_dflt (refine' wd_set ?k1 ?k2 ?k3 ?k4 ?k5 ?_; (case k1 => k_asm); (case k2 => k_asm); (case k3 => assumption); (case k4 => assumption); (case k5 => assumption)); intro h'Z o'Z F'Z N'Z hw'Z)
  k_with "binaryOp LShift int int" => (k_here; (refine' lshift_int_small ?k1 ?k2 ?k3 ?_; (case k1 => decide); (case k2 => decide); (case k3 => k_extra "H7")))
  trivial
theorem word_spec {ad v : Int} {tt : Tok}
  (B : Below A₀ base outer h₀) (F : Fr h₀ L s.heap m) (X : (KF w.params).In h₀) (N : News h₀ L s.heap news) (T : Top p loose mean mg mb h₀) (hk : cs.kind = .function) (hd : dp + 4 < recursionLimit)
  (S : Std c rest) (hs : ∀ x ∈ rest, x ∈ news) (hwm : (c.w, oW) ∈ news) (hw : Wd w oW M) (h0 : 0 ≤ ad) (h4 : ad % 4 = 0) (hh : ad + 4 ≤ 1024) (hv : M (ad / 4) = v)
  (hret : ∀ t h' tk', Fr h₀ L h' m → News h₀ L h' news → Q (.int v t) { s with heap := h', toks := tk' }) :
  wpAny (model pw w) (ktrTop dp un gd cn cs L a ccd cl outer) (call (.ref 480) [.ref c.m, .int ad tt]) Q E s := by
  have lo := S.low
  have hm1 := MemIn.a (S.mem) hs
  have hm2 := MemIn.b (S.mem) hs
  clear hs
  have hf : (ad.fmod 4 != 0) = false := by rw [Int.fmod_eq_emod_of_nonneg _ (by decide), h4]; rfl
  rw [← hv, ← sh2] at hret
  k_steps
  all_goals exact hret _ _ _ (by assumption) (by assumption)
theorem put_spec {ad v : Int} {tt tv : Tok}
  (B : Below A₀ base outer h₀) (F : Fr h₀ L s.heap m) (X : (KF w.params).In h₀) (N : News h₀ L s.heap news) (T : Top p loose mean mg mb h₀) (hk : cs.kind = .function) (hd : dp + 4 < recursionLimit)
  (S : Std c rest) (hs : ∀ x ∈ rest, x ∈ news) (U : UpdF c.w oW news g) (hw : Wd w oW M) (h0 : 0 ≤ ad) (h4 : ad % 4 = 0) (hh : ad + 4 ≤ 1024) (hv : 0 ≤ v ∧ v < 4294967296)
  (hret : ∀ o' h' tk', Fr h₀ L h' m → News h₀ L h' (g o') → Wd w o' (upM M (ad / 4) v) → Q .none { s with heap := h', toks := tk' }) :
  wpAny (model pw w) (ktrTop dp un gd cn cs L a ccd cl outer) (call (.ref 487) [.ref c.m, .int ad tt, .int v tv]) Q E s := by
  have lo := S.low
  have hwm : (c.w, oW) ∈ news := by
    obtain ⟨pre, post, rfl, _⟩ := U.split
    exact List.mem_append_right _ (.head _)
  have hm1 := MemIn.a (S.mem) hs
  have hm2 := MemIn.b (S.mem) hs
  clear hs
  have hf : (ad.fmod 4 != 0) = false := by rw [Int.fmod_eq_emod_of_nonneg _ (by decide), h4]; rfl
  have hb : 0 ≤ ad.fdiv (2 ^ Int.toNat 2) ∧ ad.fdiv (2 ^ Int.toNat 2) < 256 := by rw [sh2]; lia
  have hvm : Builtin.bitAnd v 4294967295 = v := by rw [bitAnd_m32]; lia
  have hret0 : Builtin.bitAnd v 4294967295 = 0 → ∀ o' h' tk', Fr h₀ L h' m → News h₀ L h' (g o') → Wd w o' (upM M (ad.fdiv (2 ^ Int.toNat 2)) 0) → Q .none { s with heap := h', toks := tk' } := by
    intro e
    rw [hvm] at e
    rw [sh2, ← e]
    exact hret
  have hret1 : ∀ o' h' tk', Fr h₀ L h' m → News h₀ L h' (g o') → Wd w o' (upM M (ad.fdiv (2 ^ Int.toNat 2)) (Builtin.bitAnd v 4294967295)) → Q .none { s with heap := h', toks := tk' } := by
    rw [sh2, hvm]
    exact hret
  clear hret hvm
  k_steps
  all_goals first
    | exact hret1 _ _ _ (by assumption) (by assumption) (by assumption)
    | exact hret0 (by assumption) _ _ _ (by assumption) (by assumption) (by assumption)
end
end Mine

namespace Mine
section
variable {w : World} {p : Program} {loose : List Str} {mean : ExcName → Option Value} {mg mb : Str → Option Value}
  {dp un : Nat} {gd : Option (List Code)} {cn : Str} {cs : Scope} {a : Addr} {ccd : Value} {cl : List (Str × Addr)} {outer : List Env} {A₀ : Around} {base h₀ : Heap} {L : Addr} {m : Str → Option Value} {s : Shared} {Q E : Value → Shared → Prop} {news : List (Addr × Obj)}
variable {c : Ads} {oW : Obj} {M : Int → Int} {rest : Ledger} {g : Obj → Ledger}
theorem parts_spec {ad : Int} {tt : Tok}
  (B : Below A₀ base outer h₀) (F : Fr h₀ L s.heap m) (X : (KF w.params).In h₀) (N : News h₀ L s.heap news) (T : Top p loose mean mg mb h₀) (hk : cs.kind = .function) (hd : dp + 4 < recursionLimit)
  (S : Std c rest) (hs : ∀ x ∈ rest, x ∈ news) (h0 : 0 ≤ ad) (hh : ad < 256)
  (hret : ∀ D t1 t2 t3 h' tk', Fr h₀ L h' m → (∀ q ∈ news, q.1 < D) → News h₀ L h' ((D, ({ cls := .type "tuple", data := .seq #[.int (ad / 64) t1, .int (ad / 16 % 4) t2, .int (ad % 16) t3] } : Obj)) :: news) → Q (.ref D) { s with heap := h', toks := tk' }) :
  wpAny (model pw w) (ktrTop dp un gd cn cs L a ccd cl outer) (call (.ref 129) [.ref c.l, .int ad tt]) Q E s := by
  have hl1 := LayIn.a (S.lay) hs
  have hl2 := LayIn.b (S.lay) hs
  clear hs
  rw [← raw_p1, ← raw_p2, ← raw_p3] at hret
  k_steps
  all_goals exact hret _ _ _ _ _ _ (by assumption) (by assumption) (by assumption)
theorem address_spec {x y : Int} {tx ty : Tok}
  (B : Below A₀ base outer h₀) (F : Fr h₀ L s.heap m) (X : (KF w.params).In h₀) (N : News h₀ L s.heap news) (T : Top p loose mean mg mb h₀) (hk : cs.kind = .function) (hd : dp + 4 < recursionLimit)
  (S : Std c rest) (hs : ∀ x ∈ rest, x ∈ news) (h0 : 0 ≤ x ∧ x < 4) (hh : 0 ≤ y ∧ y < 4)
  (hret : ∀ t h' tk', Fr h₀ L h' m → News h₀ L h' news → Q (.int (64 * x + 16 * y) t) { s with heap := h', toks := tk' }) :
  wpAny (model pw w) (ktrTop dp un gd cn cs L a ccd cl outer) (call (.ref 137) [.ref c.l, .int x tx, .int y ty]) Q E s := by
  have hl1 := LayIn.a (S.lay) hs
  have hl2 := LayIn.b (S.lay) hs
  clear hs
  rw [← raw_address h0 hh] at hret
  k_steps
  all_goals exact hret _ _ _ (by assumption) (by assumption)
theorem down_spec {ad : Int} {tt : Tok}
  (B : Below A₀ base outer h₀) (F : Fr h₀ L s.heap m) (X : (KF w.params).In h₀) (N : News h₀ L s.heap news) (T : Top p loose mean mg mb h₀) (hk : cs.kind = .function) (hd : dp + 4 < recursionLimit)
  (S : Std c rest) (hs : ∀ x ∈ rest, x ∈ news) (hz : ad % 16 = 0)
  (hret : ∀ t h' tk', Fr h₀ L h' m → News h₀ L h' news → Q (.int ad t) { s with heap := h', toks := tk' }) :
  wpAny (model pw w) (ktrTop dp un gd cn cs L a ccd cl outer) (call (.ref 144) [.ref c.l, .int ad tt]) Q E s := by
  have hl1 := LayIn.a (S.lay) hs
  have hl2 := LayIn.b (S.lay) hs
  clear hs
  have hz' : Builtin.bitAnd ad (Builtin.bitNot (16 - 1)) = ad := by rw [raw_down]; lia
  k_steps
  all_goals rw [hz']
  all_goals exact hret _ _ _ (by assumption) (by assumption)
theorem begin_spec {ad : Int} {tt : Tok}
  (B : Below A₀ base outer h₀) (F : Fr h₀ L s.heap m) (X : (KF w.params).In h₀) (N : News h₀ L s.heap news) (T : Top p loose mean mg mb h₀) (hk : cs.kind = .function) (hd : dp + 4 < recursionLimit)
  (S : Std c rest) (hs : ∀ x ∈ rest, x ∈ news) (hz : ad % 16 = 0)
  (hret : ∀ h' tk', Fr h₀ L h' m → News h₀ L h' news → Q (.bool true) { s with heap := h', toks := tk' }) :
  wpAny (model pw w) (ktrTop dp un gd cn cs L a ccd cl outer) (call (.ref 158) [.ref c.l, .int ad tt]) Q E s := by
  have hl1 := LayIn.a (S.lay) hs
  have hl2 := LayIn.b (S.lay) hs
  clear hs
  rw [← raw_begin hz] at hret
  k_steps
  all_goals exact hret _ _ (by assumption) (by assumption)
theorem entry_spec {x y : Int} {tx ty : Tok}
  (B : Below A₀ base outer h₀) (F : Fr h₀ L s.heap m) (X : (KF w.params).In h₀) (N : News h₀ L s.heap news) (T : Top p loose mean mg mb h₀) (hk : cs.kind = .function) (hd : dp + 4 < recursionLimit)
  (S : Std c rest) (hs : ∀ x ∈ rest, x ∈ news) (h0 : 0 ≤ x) (h1 : x < 1099511627776) (hz : x % 16 = 0) (hh : 0 ≤ y ∧ y < 1024)
  (hret : ∀ t h' tk', Fr h₀ L h' m → News h₀ L h' news → Q (.int (64 * x + y) t) { s with heap := h', toks := tk' }) :
  wpAny (model pw w) (ktrTop dp un gd cn cs L a ccd cl outer) (call (.ref 172) [.ref c.l, .int x tx, .int y ty]) Q E s := by
  have hl1 := LayIn.a (S.lay) hs
  have hl2 := LayIn.b (S.lay) hs
  clear hs
  rw [← raw_entry h0 hz hh] at hret
  k_steps
  all_goals exact hret _ _ _ (by assumption) (by assumption)
theorem physical_spec {x v : Int} {tx : Tok}
  (B : Below A₀ base outer h₀) (F : Fr h₀ L s.heap m) (X : (KF w.params).In h₀) (N : News h₀ L s.heap news) (T : Top p loose mean mg mb h₀) (hk : cs.kind = .function) (hd : dp + 4 < recursionLimit)
  (S : Std c rest) (hs : ∀ x ∈ rest, x ∈ news)
  (h0 : 0 ≤ x ∧ x < 1099511627776) (hv : 16 * (x / 1024) = v)
  (hret : ∀ t h' tk', Fr h₀ L h' m → News h₀ L h' news → Q (.int v t) { s with heap := h', toks := tk' }) :
  wpAny (model pw w) (ktrTop dp un gd cn cs L a ccd cl outer) (call (.ref 179) [.ref c.l, .int x tx]) Q E s := by
  have hl1 := LayIn.a (S.lay) hs
  have hl2 := LayIn.b (S.lay) hs
  clear hs
  rw [← hv, ← raw_physical] at hret
  k_steps
  all_goals exact hret _ _ _ (by assumption) (by assumption)
end
end Mine

namespace Mine
section
variable {w : World} {p : Program} {loose : List Str} {mean : ExcName → Option Value} {mg mb : Str → Option Value}
  {dp un : Nat} {gd : Option (List Code)} {cn : Str} {cs : Scope} {a : Addr} {ccd : Value} {cl : List (Str × Addr)} {outer : List Env} {A₀ : Around} {base h₀ : Heap} {L : Addr} {m : Str → Option Value} {s : Shared} {Q E : Value → Shared → Prop} {news : List (Addr × Obj)}
variable {c : Ads} {oW : Obj} {M : Int → Int} {rest : Ledger} {g : Obj → Ledger}
/-- the first table of a space names a second one at this place -/
theorem rulesT10 : True := by
  k_with "H1" => (intro xZ hxZ; repeat (first | with_reducible assumption | (with_reducible apply_assumption; with_reducible assumption) | (with_reducible refine List.mem_append_right _ ?_) | (with_reducible refine List.mem_cons_of_mem _ ?_)))
  k_with "H10" => first | with_reducible assumption | assumption | omega
  k_with "H13" => first | with_reducible assumption | exact rfl
  k_with "HA" => (case k1 => k_asm); (case k2 => k_asm); (case k3 => k_asm); (case k4 => k_asm); (case k5 => k_asm); (case k6 => first | with_reducible assumption | exact rfl); (case k7 => k_room)
  k_with "HE" => (try dsimp only at N'Z); (try k_lt ltsZ); (try k_sweep)
  k_with "call ref" => (k_here; (with_reducible show wpAny _ _ (call (Value.ref 480) _) _ _ _); k_dflt (refine' word_spec ?k1 ?k2 ?k3 ?k4 ?k5 ?k6 ?k7 ?k8 ?k9 ?k10 ?k11 ?k12 ?k13 ?k14 ?k15 ?_; k_extra "HA"; (case k8 => assumption); (case k9 => k_extra "H1"); (case k10 => k_mem); (case k11 => assumption); (case k12 => k_extra "H10"); (case k13 => k_extra "H10"); (case k14 => k_extra "H10"); (case k15 => k_extra "H13")); intro t'Z h'Z tk'Z F'Z N'Z; (try dsimp only at N'Z); (try k_lt lts); (try k_sweep))
  k_with "call ref" => (k_here; (with_reducible show wpAny _ _ (call (Value.ref 487) _) _ _ _); k_dflt (refine' put_spec ?k1 ?k2 ?k3 ?k4 ?k5 ?k6 ?k7 ?k8 ?k9 ?k10 ?k11 ?k12 ?k13 ?k14 ?k15 ?_; k_extra "HA"; (case k8 => assumption); (case k9 => k_extra "H1"); (case k10 => k_updF); (case k11 => assumption); (case k12 => k_extra "H10"); (case k13 => k_extra "H10"); (case k14 => k_extra "H10"); (case k15 => k_extra "H10")); intro o'Z h'Z tk'Z F'Z N'Z hw'Z; (try dsimp only at N'Z); (try k_lt lts); (try k_sweep))
  k_with "call ref" => (k_here; (with_reducible show wpAny _ _ (call (Value.ref 129) _) _ _ _); k_dflt (refine' parts_spec ?k1 ?k2 ?k3 ?k4 ?k5 ?k6 ?k7 ?k8 ?k9 ?k10 ?k11 ?_; k_extra "HA"; (case k8 => assumption); (case k9 => k_extra "H1"); (case k10 => k_extra "H10"); (case k11 => k_extra "H10")); intro D'Z t1Z t2Z t3Z h'Z tk'Z F'Z ltsZ N'Z; k_extra "HE")
  k_with "call ref" => (k_here; (with_reducible show wpAny _ _ (call (Value.ref 137) _) _ _ _); k_dflt (refine' address_spec ?k1 ?k2 ?k3 ?k4 ?k5 ?k6 ?k7 ?k8 ?k9 ?k10 ?k11 ?_; k_extra "HA"; (case k8 => assumption); (case k9 => k_extra "H1"); (case k10 => k_extra "H10"); (case k11 => k_extra "H10")); intro t'Z h'Z tk'Z F'Z N'Z; (try dsimp only at N'Z); (try k_lt lts); (try k_sweep))
  k_with "call ref" => (k_here; (with_reducible show wpAny _ _ (call (Value.ref 144) _) _ _ _); k_dflt (refine' down_spec ?k1 ?k2 ?k3 ?k4 ?k5 ?k6 ?k7 ?k8 ?k9 ?k10 ?_; k_extra "HA"; (case k8 => assumption); (case k9 => k_extra "H1"); (case k10 => k_extra "H10")); intro t'Z h'Z tk'Z F'Z N'Z; (try dsimp only at N'Z); (try k_lt lts); (try k_sweep))
  k_with "call ref" => (k_here; (with_reducible show wpAny _ _ (call (Value.ref 158) _) _ _ _); k_dflt (refine' begin_spec ?k1 ?k2 ?k3 ?k4 ?k5 ?k6 ?k7 ?k8 ?k9 ?k10 ?_; k_extra "HA"; (case k8 => assumption); (case k9 => k_extra "H1"); (case k10 => k_extra "H10")); intro h'Z tk'Z F'Z N'Z; (try dsimp only at N'Z); (try k_lt lts); (try k_sweep))
  k_with "call ref" => (k_here; (with_reducible show wpAny _ _ (call (Value.ref 172) _) _ _ _); k_dflt (refine' entry_spec ?k1 ?k2 ?k3 ?k4 ?k5 ?k6 ?k7 ?k8 ?k9 ?k10 ?k11 ?k12 ?k13 ?_; k_extra "HA"; (case k8 => assumption); (case k9 => k_extra "H1"); (case k10 => k_extra "H10"); (case k11 => k_extra "H10"); (case k12 => k_extra "H10"); (case k13 => k_extra "H10")); intro t'Z h'Z tk'Z F'Z N'Z; (try dsimp only at N'Z); (try k_lt lts); (try k_sweep))
  k_with "call ref" => (k_here; (with_reducible show wpAny _ _ (call (Value.ref 179) _) _ _ _); k_dflt (refine' physical_spec ?k1 ?k2 ?k3 ?k4 ?k5 ?k6 ?k7 ?k8 ?k9 ?k10 ?k11 ?_; k_extra "HA"; (case k8 => assumption); (case k9 => k_extra "H1"); (case k10 => k_extra "H10"); (case k11 => k_extra "H13")); intro t'Z h'Z tk'Z F'Z N'Z; (try dsimp only at N'Z); (try k_lt lts); (try k_sweep))
  trivial
theorem tentry_spec {root ad q v : Int} {tr ta : Tok}
  (B : Below A₀ base outer h₀) (F : Fr h₀ L s.heap m) (X : (KF w.params).In h₀) (N : News h₀ L s.heap news) (T : Top p loose mean mg mb h₀) (hk : cs.kind = .function) (hd : dp + 8 < recursionLimit)
  (S : Std c rest) (hs : ∀ x ∈ rest, x ∈ news) (hwm : (c.w, oW) ∈ news) (hw : Wd w oW M) (hr : root = 896 ∨ root = 912) (h0 : 0 ≤ ad) (hh : ad < 256) (hq : q = 58 ∨ q = 59)
  (he : M (root / 4 + ad / 64) = 1024 * q + 1) (hv : M (4 * q + ad / 16 % 4) = v) (hv' : v = 0 ∨ Builtin.bitAnd v 1 = 1)
  (hret : ∀ t h' tk', Fr h₀ L h' m → News h₀ L h' news → Q (.int v t) { s with heap := h', toks := tk' }) :
  wpAny (model pw w) (ktrTop dp un gd cn cs L a ccd cl outer) (call (.ref 313) [.ref c.t, .int root tr, .int ad ta]) Q E s := by
  have lo := S.low
  have hm1 := MemIn.a (S.mem) hs
  have hm2 := MemIn.b (S.mem) hs
  have hl1 := LayIn.a (S.lay) hs
  have hl2 := LayIn.b (S.lay) hs
  have ht1 := TabIn.a (S.tab) hs
  have ht2 := TabIn.b (S.tab) hs
  obtain ⟨f1, f2, f3, f4⟩ := root_facts hq
  have e1 : M ((root + 4 * (ad / 64)) / 4) = 1024 * q + 1 := by rw [ad1e hr]; exact he
  have e2 : M ((16 * q + 4 * (ad / 16 % 4)) / 4) = v := by rw [ad2e]; exact hv
  have r1 : 896 ≤ root ∧ root ≤ 912 ∧ root % 16 = 0 := by rcases hr with rfl | rfl <;> decide
  have w0 := ad1 hr h0 hh
  have w1 := w0.1
  have w2 := w0.2.1
  have w3 := w0.2.2
  have q1 := q_bd hq
  have z0 := ad2 (ad := ad) q1
  have z1 := z0.1
  have z2 := z0.2.1
  have z3 := z0.2.2
  k_steps
  all_goals first
    | exact hret _ _ _ (by assumption) (news_drop (by assumption))
    | (obtain rfl : v = 0 := by
        rcases hv' with z | z
        · exact z
        · exfalso; simp_all
       exact hret _ _ _ (by assumption) (news_drop (by assumption)))
end
end Mine

namespace Mine
section
variable {w : World} {p : Program} {loose : List Str} {mean : ExcName → Option Value} {mg mb : Str → Option Value}
  {dp un : Nat} {gd : Option (List Code)} {cn : Str} {cs : Scope} {a : Addr} {ccd : Value} {cl : List (Str × Addr)} {outer : List Env} {A₀ : Around} {base h₀ : Heap} {L : Addr} {m : Str → Option Value} {s : Shared} {Q E : Value → Shared → Prop} {news : List (Addr × Obj)}
variable {c : Ads} {oW : Obj} {M : Int → Int} {rest : Ledger} {g : Obj → Ledger}
theorem rulesT20 : True := by
  k_with "call ref" => (k_here; (with_reducible show wpAny _ _ (call (Value.ref 313) _) _ _ _); k_dflt (refine' tentry_spec ?k1 ?k2 ?k3 ?k4 ?k5 ?k6 ?k7 ?k8 ?k9 ?k10 ?k11 ?k12 ?k13 ?k14 ?k15 ?k16 ?k17 ?k18 ?_; k_extra "HA"; (case k8 => assumption); (case k9 => k_extra "H1"); (case k10 => k_mem); (case k11 => assumption); (case k12 => assumption); (case k13 => assumption); (case k14 => assumption); (case k15 => assumption); (case k16 => assumption); (case k17 => assumption); (case k18 => assumption)); intro t'Z h'Z tk'Z F'Z N'Z; (try k_sweep))
  trivial
theorem tphys_spec {root ad q v : Int} {tr ta : Tok}
  (B : Below A₀ base outer h₀) (F : Fr h₀ L s.heap m) (X : (KF w.params).In h₀) (N : News h₀ L s.heap news) (T : Top p loose mean mg mb h₀) (hk : cs.kind = .function) (hd : dp + 10 < recursionLimit)
  (S : Std c rest) (hs : ∀ x ∈ rest, x ∈ news) (hwm : (c.w, oW) ∈ news) (hw : Wd w oW M) (hr : root = 896 ∨ root = 912) (h0 : 0 ≤ ad) (hh : ad < 256) (hq : q = 58 ∨ q = 59)
  (he : M (root / 4 + ad / 64) = 1024 * q + 1) (hv : M (4 * q + ad / 16 % 4) = v) (hv' : v = 0 ∨ Builtin.bitAnd v 1 = 1) (hb : 0 ≤ v ∧ v < 1099511627776)
  (hret0 : ∀ h' tk', v = 0 → Fr h₀ L h' m → News h₀ L h' news → Q .none { s with heap := h', toks := tk' })
  (hret : ∀ t h' tk', v ≠ 0 → Fr h₀ L h' m → News h₀ L h' news → Q (.int (16 * (v / 1024) + ad % 16) t) { s with heap := h', toks := tk' }) :
  wpAny (model pw w) (ktrTop dp un gd cn cs L a ccd cl outer) (call (.ref 320) [.ref c.t, .int root tr, .int ad ta]) Q E s := by
  have lo := S.low
  have hm1 := MemIn.a (S.mem) hs
  have hm2 := MemIn.b (S.mem) hs
  have hl1 := LayIn.a (S.lay) hs
  have hl2 := LayIn.b (S.lay) hs
  have ht1 := TabIn.a (S.tab) hs
  have ht2 := TabIn.b (S.tab) hs
  obtain ⟨f1, f2, f3, f4⟩ := root_facts hq
  have e1 : M ((root + 4 * (ad / 64)) / 4) = 1024 * q + 1 := by rw [ad1e hr]; exact he
  have r1 : 896 ≤ root ∧ root ≤ 912 ∧ root % 16 = 0 := by rcases hr with rfl | rfl <;> decide
  have w0 := ad1 hr h0 hh
  have w1 := w0.1
  have w2 := w0.2.1
  have w3 := w0.2.2
  have q1 := q_bd hq
  have z0 := ad2 (ad := ad) q1
  have z1 := z0.1
  have z2 := z0.2.1
  have z3 := z0.2.2
  have o1 : Builtin.bitOr (16 * (v / 1024)) (ad % 16) = 16 * (v / 1024) + ad % 16 := by
    have := or_low (k := 4) (q := v / 1024) (b := ad % 16) (by omega) (by omega) (by omega)
    have e : (2 : Int) ^ 4 = 16 := rfl
    rw [e] at this
    rw [Int.mul_comm, this]
  rw [← o1] at hret
  k_steps
  all_goals first
    | exact hret0 _ _ (by assumption) (by assumption) (news_drop (by assumption))
    | exact hret _ _ _ (by assumption) (by assumption) (news_drop (by assumption))
theorem twalk_spec {root ad q : Int} {tr ta : Tok}
  (B : Below A₀ base outer h₀) (F : Fr h₀ L s.heap m) (X : (KF w.params).In h₀) (N : News h₀ L s.heap news) (T : Top p loose mean mg mb h₀) (hk : cs.kind = .function) (hd : dp + 8 < recursionLimit)
  (S : Std c rest) (hs : ∀ x ∈ rest, x ∈ news) (hwm : (c.w, oW) ∈ news) (hw : Wd w oW M) (hr : root = 896 ∨ root = 912) (h0 : 0 ≤ ad) (hh : ad < 256) (hq : q = 58 ∨ q = 59)
  (he : M (root / 4 + ad / 64) = 1024 * q + 1)
  (hret : ∀ t h' tk', Fr h₀ L h' m → News h₀ L h' news → Q (.int (16 * q + 4 * (ad / 16 % 4)) t) { s with heap := h', toks := tk' }) :
  wpAny (model pw w) (ktrTop dp un gd cn cs L a ccd cl outer) (call (.ref 306) [.ref c.t, .int root tr, .int ad ta]) Q E s := by
  have lo := S.low
  have hm1 := MemIn.a (S.mem) hs
  have hm2 := MemIn.b (S.mem) hs
  have hl1 := LayIn.a (S.lay) hs
  have hl2 := LayIn.b (S.lay) hs
  have ht1 := TabIn.a (S.tab) hs
  have ht2 := TabIn.b (S.tab) hs
  obtain ⟨f1, f2, f3, f4⟩ := root_facts hq
  have e1 : M ((root + 4 * (ad / 64)) / 4) = 1024 * q + 1 := by rw [ad1e hr]; exact he
  have r1 : 896 ≤ root ∧ root ≤ 912 ∧ root % 16 = 0 := by rcases hr with rfl | rfl <;> decide
  have w0 := ad1 hr h0 hh
  have w1 := w0.1
  have w2 := w0.2.1
  have w3 := w0.2.2
  have q1 := q_bd hq
  have z0 := ad2 (ad := ad) q1
  have z1 := z0.1
  have z2 := z0.2.1
  have z3 := z0.2.2
  k_steps
  all_goals exact hret _ _ _ (by assumption) (news_drop (by assumption))
theorem twalkm_spec {root ad q : Int} {tr ta : Tok}
  (B : Below A₀ base outer h₀) (F : Fr h₀ L s.heap m) (X : (KF w.params).In h₀) (N : News h₀ L s.heap news) (T : Top p loose mean mg mb h₀) (hk : cs.kind = .function) (hd : dp + 8 < recursionLimit)
  (S : Std c rest) (hs : ∀ x ∈ rest, x ∈ news) (hwm : (c.w, oW) ∈ news) (hw : Wd w oW M) (hr : root = 896 ∨ root = 912) (h0 : 0 ≤ ad) (hh : ad < 256) (hq : q = 58 ∨ q = 59)
  (he : M (root / 4 + ad / 64) = 1024 * q + 1)
  (hret : ∀ t h' tk', Fr h₀ L h' m → News h₀ L h' news → Q (.int (16 * q + 4 * (ad / 16 % 4)) t) { s with heap := h', toks := tk' }) :
  wpAny (model pw w) (ktrTop dp un gd cn cs L a ccd cl outer) (call (.ref 306) [.ref c.t, .int root tr, .int ad ta, .bool true]) Q E s := by
  have lo := S.low
  have hm1 := MemIn.a (S.mem) hs
  have hm2 := MemIn.b (S.mem) hs
  have hl1 := LayIn.a (S.lay) hs
  have hl2 := LayIn.b (S.lay) hs
  have ht1 := TabIn.a (S.tab) hs
  have ht2 := TabIn.b (S.tab) hs
  obtain ⟨f1, f2, f3, f4⟩ := root_facts hq
  have e1 : M ((root + 4 * (ad / 64)) / 4) = 1024 * q + 1 := by rw [ad1e hr]; exact he
  have r1 : 896 ≤ root ∧ root ≤ 912 ∧ root % 16 = 0 := by rcases hr with rfl | rfl <;> decide
  have w0 := ad1 hr h0 hh
  have w1 := w0.1
  have w2 := w0.2.1
  have w3 := w0.2.2
  have q1 := q_bd hq
  have z0 := ad2 (ad := ad) q1
  have z1 := z0.1
  have z2 := z0.2.1
  have z3 := z0.2.2
  k_steps
  all_goals exact hret _ _ _ (by assumption) (news_drop (by assumption))
end
end Mine

namespace Mine
section
variable {w : World} {p : Program} {loose : List Str} {mean : ExcName → Option Value} {mg mb : Str → Option Value}
  {dp un : Nat} {gd : Option (List Code)} {cn : Str} {cs : Scope} {a : Addr} {ccd : Value} {cl : List (Str × Addr)} {outer : List Env} {A₀ : Around} {base h₀ : Heap} {L : Addr} {m : Str → Option Value} {s : Shared} {Q E : Value → Shared → Prop} {news : List (Addr × Obj)}
variable {c : Ads} {oW : Obj} {M : Int → Int} {rest : Ledger} {g : Obj → Ledger}
theorem rulesT30 : True := by
  k_with "call ref" => (k_here; (with_reducible show wpAny _ _ (call (Value.ref 313) _) _ _ _); k_dflt (refine' tentry_spec ?k1 ?k2 ?k3 ?k4 ?k5 ?k6 ?k7 ?k8 ?k9 ?k10 ?k11 ?k12 ?k13 ?k14 ?k15 ?k16 ?k17 ?k18 ?_; k_extra "HA"; (case k8 => assumption); (case k9 => k_extra "H1"); (case k10 => k_mem); (case k11 => assumption); (case k12 => assumption); (case k13 => k_extra "H10"); (case k14 => k_extra "H10"); (case k15 => assumption); (case k16 => assumption); (case k17 => assumption); (case k18 => assumption)); intro t'Z h'Z tk'Z F'Z N'Z; (try dsimp only at N'Z); (try k_lt lts); (try k_sweep))
  k_with "call ref" => (k_here; (with_reducible show wpAny _ _ (call (Value.ref 306) [_, _, _]) _ _ _); k_dflt (refine' twalk_spec ?k1 ?k2 ?k3 ?k4 ?k5 ?k6 ?k7 ?k8 ?k9 ?k10 ?k11 ?k12 ?k13 ?k14 ?k15 ?k16 ?_; k_extra "HA"; (case k8 => assumption); (case k9 => k_extra "H1"); (case k10 => k_mem); (case k11 => assumption); (case k12 => assumption); (case k13 => k_extra "H10"); (case k14 => k_extra "H10"); (case k15 => assumption); (case k16 => assumption)); intro t'Z h'Z tk'Z F'Z N'Z; (try dsimp only at N'Z); (try k_lt lts); (try k_sweep))
  k_with "call ref" => (k_here; (with_reducible show wpAny _ _ (call (Value.ref 306) [_, _, _, _]) _ _ _); k_dflt (refine' twalkm_spec ?k1 ?k2 ?k3 ?k4 ?k5 ?k6 ?k7 ?k8 ?k9 ?k10 ?k11 ?k12 ?k13 ?k14 ?k15 ?k16 ?_; k_extra "HA"; (case k8 => assumption); (case k9 => k_extra "H1"); (case k10 => k_mem); (case k11 => assumption); (case k12 => assumption); (case k13 => k_extra "H10"); (case k14 => k_extra "H10"); (case k15 => assumption); (case k16 => assumption)); intro t'Z h'Z tk'Z F'Z N'Z; (try dsimp only at N'Z); (try k_lt lts); (try k_sweep))
  k_with "call ref" => (k_here; (with_reducible show wpAny _ _ (call (Value.ref 327) _) _ _ _); k_dflt (refine' need_flags_spec ?k1 ?k2 ?k3 ?k4 ?k5 ?k6 ?k7 (fun h'Z tk'Z hcZ F'Z N'Z => ?_) (fun GZ e'Z d'Z es'Z h'Z tk'Z hcZ FGZ smZ rDZ => ?_); k_extra "HA"); all_goals (try k_sweep))
  trivial
theorem place_spec {root ad q v : Int} {tr ta : Tok}
  (B : Below A₀ base outer h₀) (F : Fr h₀ L s.heap m) (X : (KF w.params).In h₀) (N : News h₀ L s.heap news) (T : Top p loose mean mg mb h₀) (hk : cs.kind = .function) (hd : dp + 10 < recursionLimit)
  (S : Std c rest) (hs : ∀ x ∈ rest, x ∈ news) (hwm : (c.w, oW) ∈ news) (hw : Wd w oW M) (hr : root = 896 ∨ root = 912) (h0 : 0 ≤ ad) (hh : ad < 256) (hq : q = 58 ∨ q = 59)
  (he : M (root / 4 + ad / 64) = 1024 * q + 1) (hv : M (4 * q + ad / 16 % 4) = v) (hv' : v = 0 ∨ Builtin.bitAnd v 1 = 1)
  (hret : ∀ t h' tk', Builtin.bitAnd v 1 = 1 → Fr h₀ L h' m → News h₀ L h' news → Q (.int (16 * q + 4 * (ad / 16 % 4)) t) { s with heap := h', toks := tk' })
  (hexc : ∀ G e d es h' tk', v = 0 → Fr h₀ L G m → G.UpToSlots h' → RaisedD base G (envX cn cs L a ccd cl :: outer) e 52 d ((d, dictOf es 1) :: news) h' → E (.ref e) { s with heap := h', toks := tk' }) :
  wpAny (model pw w) (ktrTop dp un gd cn cs L a ccd cl outer) (call (.ref 348) [.ref c.t, .int root tr, .int ad ta]) Q E s := by
  have lo := S.low
  have hm1 := MemIn.a (S.mem) hs
  have hm2 := MemIn.b (S.mem) hs
  have hl1 := LayIn.a (S.lay) hs
  have hl2 := LayIn.b (S.lay) hs
  have ht1 := TabIn.a (S.tab) hs
  have ht2 := TabIn.b (S.tab) hs
  have r1 : 896 ≤ root ∧ root ≤ 912 ∧ root % 16 = 0 := by rcases hr with rfl | rfl <;> decide
  have q1 := q_bd hq
  have z0 := ad2 (ad := ad) q1
  have z1 := z0.1
  have z2 := z0.2.1
  have z3 := z0.2.2
  have e2 : M ((16 * q + 4 * (ad / 16 % 4)) / 4) = v := by rw [ad2e]; exact hv
  have x0 : Builtin.bitAnd v 1 = 0 → v = 0 := fun e => by
    rcases hv' with z | z
    · exact z
    · rw [z] at e; cases e
  have x1 : Builtin.bitAnd v 1 ≠ 0 → Builtin.bitAnd v 1 = 1 := fun e => by
    rcases hv' with z | z
    · rw [z] at e; exact absurd rfl e
    · exact z
  k_steps
  all_goals first
    | exact hret _ _ _ (x1 (by assumption)) (by assumption) (by assumption)
    | exact hexc _ _ _ _ _ _ (x0 (by assumption)) (by assumption) (by assumption) (by assumption)
end
end Mine

namespace Mine
section
variable {w : World} {p : Program} {loose : List Str} {mean : ExcName → Option Value} {mg mb : Str → Option Value}
  {dp un : Nat} {gd : Option (List Code)} {cn : Str} {cs : Scope} {a : Addr} {ccd : Value} {cl : List (Str × Addr)} {outer : List Env} {A₀ : Around} {base h₀ : Heap} {L : Addr} {m : Str → Option Value} {s : Shared} {Q E : Value → Shared → Prop} {news : List (Addr × Obj)}
variable {c : Ads} {oW : Obj} {M : Int → Int} {rest : Ledger} {g : Obj → Ledger}
theorem rulesT40 : True := by
  k_with "call ref" => (k_here; (with_reducible show wpAny _ _ (call (Value.ref 348) _) _ _ _); k_dflt (refine' place_spec ?k1 ?k2 ?k3 ?k4 ?k5 ?k6 ?k7 ?k8 ?k9 ?k10 ?k11 ?k12 ?k13 ?k14 ?k15 ?k16 ?k17 ?k18 (fun t'Z h'Z tk'Z hcZ F'Z N'Z => ?_) (fun GZ e'Z d'Z es'Z h'Z tk'Z hcZ FGZ smZ rDZ => ?_); k_extra "HA"; (case k8 => assumption); (case k9 => k_extra "H1"); (case k10 => k_mem); (case k11 => assumption); (case k12 => assumption); (case k13 => k_extra "H10"); (case k14 => k_extra "H10"); (case k15 => assumption); (case k16 => assumption); (case k17 => assumption); (case k18 => assumption)); all_goals (try k_sweep))
  trivial
theorem unmap_spec {root ad q v : Int} {tr ta : Tok}
  (B : Below A₀ base outer h₀) (F : Fr h₀ L s.heap m) (X : (KF w.params).In h₀) (N : News h₀ L s.heap news) (T : Top p loose mean mg mb h₀) (hk : cs.kind = .function) (hd : dp + 14 < recursionLimit)
  (S : Std c rest) (hs : ∀ x ∈ rest, x ∈ news) (U : UpdF c.w oW news g) (hw : Wd w oW M) (hr : root = 896 ∨ root = 912) (h0 : 0 ≤ ad) (hh : ad < 256) (hq : q = 58 ∨ q = 59)
  (he : M (root / 4 + ad / 64) = 1024 * q + 1) (hv : M (4 * q + ad / 16 % 4) = v) (hv' : v = 0 ∨ Builtin.bitAnd v 1 = 1)
  (hz : ad % 16 = 0) (hb : 0 ≤ v ∧ v < 1099511627776)
  (hret : ∀ t o' h' tk', Builtin.bitAnd v 1 = 1 → Fr h₀ L h' m → News h₀ L h' (g o') → Wd w o' (upM M (4 * q + ad / 16 % 4) 0) → Q (.int (16 * (v / 1024)) t) { s with heap := h', toks := tk' })
  (hexc : ∀ G e d es h' tk', v = 0 → Fr h₀ L G m → G.UpToSlots h' → RaisedD base G (envX cn cs L a ccd cl :: outer) e 52 d ((d, dictOf es 1) :: news) h' → E (.ref e) { s with heap := h', toks := tk' }) :
  wpAny (model pw w) (ktrTop dp un gd cn cs L a ccd cl outer) (call (.ref 355) [.ref c.t, .int root tr, .int ad ta]) Q E s := by
  have hwm : (c.w, oW) ∈ news := by
    obtain ⟨pre, post, rfl, _⟩ := U.split
    exact List.mem_append_right _ (.head _)
  have lo := S.low
  have hm1 := MemIn.a (S.mem) hs
  have hm2 := MemIn.b (S.mem) hs
  have hl1 := LayIn.a (S.lay) hs
  have hl2 := LayIn.b (S.lay) hs
  have ht1 := TabIn.a (S.tab) hs
  have ht2 := TabIn.b (S.tab) hs
  have r1 : 896 ≤ root ∧ root ≤ 912 ∧ root % 16 = 0 := by rcases hr with rfl | rfl <;> decide
  have q1 := q_bd hq
  have z0 := ad2 (ad := ad) q1
  have z1 := z0.1
  have z2 := z0.2.1
  have z3 := z0.2.2
  have e2 : M ((16 * q + 4 * (ad / 16 % 4)) / 4) = v := by rw [ad2e]; exact hv
  have e3 : (16 * q + 4 * (ad / 16 % 4)) / 4 = 4 * q + ad / 16 % 4 := ad2e
  rw [← e3] at hret
  k_steps
  all_goals first
    | exact hret _ _ _ _ (by assumption) (by assumption) (by assumption) (by assumption)
    | exact absurd ‹flOk _› ‹¬ flOk _›
    | exact hexc _ _ _ _ _ _ (by first | assumption | (refine Or.inl ?_; assumption) | (refine Or.inr ?_; assumption)) (by assumption) (by assumption) (by assumption)
theorem change_spec {root ad q v ad1 tk1 nv : Int} {tr ta t1 t2 : Tok}
  (B : Below A₀ base outer h₀) (F : Fr h₀ L s.heap m) (X : (KF w.params).In h₀) (N : News h₀ L s.heap news) (T : Top p loose mean mg mb h₀) (hk : cs.kind = .function) (hd : dp + 14 < recursionLimit)
  (S : Std c rest) (hs : ∀ x ∈ rest, x ∈ news) (U : UpdF c.w oW news g) (hw : Wd w oW M) (hr : root = 896 ∨ root = 912) (h0 : 0 ≤ ad) (hh : ad < 256) (hq : q = 58 ∨ q = 59)
  (he : M (root / 4 + ad / 64) = 1024 * q + 1) (hv : M (4 * q + ad / 16 % 4) = v) (hv' : v = 0 ∨ Builtin.bitAnd v 1 = 1)
  (hz : ad % 16 = 0) (hb : 0 ≤ v ∧ v < 1099511627776)
  (hn : Builtin.bitOr (Builtin.bitAnd v (Builtin.bitNot (Builtin.bitAnd tk1 1023))) (Builtin.bitAnd ad1 1023) = nv) (hn0 : 0 ≤ Builtin.bitOr nv 1 ∧ Builtin.bitOr nv 1 < 4294967296)
  (hret : ∀ t o' h' tk', Builtin.bitAnd v 1 = 1 → flOk (Builtin.bitAnd (Builtin.bitAnd nv 1023) (Builtin.bitNot 1)) → Fr h₀ L h' m → News h₀ L h' (g o') → Wd w o' (upM M (4 * q + ad / 16 % 4) (Builtin.bitOr nv 1)) → Q (.int (Builtin.bitOr nv 1) t) { s with heap := h', toks := tk' })
  (hexc : ∀ G e d es h' tk', (v = 0 ∨ ¬ flOk (Builtin.bitAnd (Builtin.bitAnd nv 1023) (Builtin.bitNot 1))) → Fr h₀ L G m → G.UpToSlots h' → RaisedD base G (envX cn cs L a ccd cl :: outer) e 52 d ((d, dictOf es 1) :: news) h' → E (.ref e) { s with heap := h', toks := tk' }) :
  wpAny (model pw w) (ktrTop dp un gd cn cs L a ccd cl outer) (call (.ref 363) [.ref c.t, .int root tr, .int ad ta, .int ad1 t1, .int tk1 t2]) Q E s := by
  have hwm : (c.w, oW) ∈ news := by
    obtain ⟨pre, post, rfl, _⟩ := U.split
    exact List.mem_append_right _ (.head _)
  have lo := S.low
  have hm1 := MemIn.a (S.mem) hs
  have hm2 := MemIn.b (S.mem) hs
  have hl1 := LayIn.a (S.lay) hs
  have hl2 := LayIn.b (S.lay) hs
  have ht1 := TabIn.a (S.tab) hs
  have ht2 := TabIn.b (S.tab) hs
  have r1 : 896 ≤ root ∧ root ≤ 912 ∧ root % 16 = 0 := by rcases hr with rfl | rfl <;> decide
  have q1 := q_bd hq
  have z0 := ad2 (ad := ad) q1
  have z1 := z0.1
  have z2 := z0.2.1
  have z3 := z0.2.2
  have e2 : M ((16 * q + 4 * (ad / 16 % 4)) / 4) = v := by rw [ad2e]; exact hv
  have e3 : (16 * q + 4 * (ad / 16 % 4)) / 4 = 4 * q + ad / 16 % 4 := ad2e
  rw [← e3] at hret
  subst hn
  k_steps
  all_goals first
    | exact hret _ _ _ _ (by assumption) (by assumption) (by assumption) (by assumption) (by assumption)
    | exact absurd ‹flOk _› ‹¬ flOk _›
    | exact hexc _ _ _ _ _ _ (by first | assumption | (refine Or.inl ?_; assumption) | (refine Or.inr ?_; assumption)) (by assumption) (by assumption) (by assumption)
theorem move_spec {root ad q v ph fl : Int} {tr ta t1 t2 : Tok}
  (B : Below A₀ base outer h₀) (F : Fr h₀ L s.heap m) (X : (KF w.params).In h₀) (N : News h₀ L s.heap news) (T : Top p loose mean mg mb h₀) (hk : cs.kind = .function) (hd : dp + 14 < recursionLimit)
  (S : Std c rest) (hs : ∀ x ∈ rest, x ∈ news) (U : UpdF c.w oW news g) (hw : Wd w oW M) (hr : root = 896 ∨ root = 912) (h0 : 0 ≤ ad) (hh : ad < 256) (hq : q = 58 ∨ q = 59)
  (he : M (root / 4 + ad / 64) = 1024 * q + 1) (hv : M (4 * q + ad / 16 % 4) = v) (hv' : v = 0 ∨ Builtin.bitAnd v 1 = 1)
  (hz : ad % 16 = 0) (hb : 0 ≤ v ∧ v < 1099511627776)
  (hp0 : 0 ≤ ph ∧ ph < 1048576) (hpz : ph % 16 = 0) (hf : flOk fl) (hf1 : Builtin.bitOr fl 1 = fl + 1) (hf0 : 0 ≤ Builtin.bitOr fl 1 ∧ Builtin.bitOr fl 1 < 1024)
  (hret : ∀ t o' h' tk', Builtin.bitAnd v 1 = 1 → Fr h₀ L h' m → News h₀ L h' (g o') → Wd w o' (upM M (4 * q + ad / 16 % 4) (64 * ph + (fl + 1))) → Q (.int (16 * (v / 1024)) t) { s with heap := h', toks := tk' })
  (hexc : ∀ G e d es h' tk', v = 0 → Fr h₀ L G m → G.UpToSlots h' → RaisedD base G (envX cn cs L a ccd cl :: outer) e 52 d ((d, dictOf es 1) :: news) h' → E (.ref e) { s with heap := h', toks := tk' }) :
  wpAny (model pw w) (ktrTop dp un gd cn cs L a ccd cl outer) (call (.ref 370) [.ref c.t, .int root tr, .int ad ta, .int ph t1, .int fl t2]) Q E s := by
  have hwm : (c.w, oW) ∈ news := by
    obtain ⟨pre, post, rfl, _⟩ := U.split
    exact List.mem_append_right _ (.head _)
  have lo := S.low
  have hm1 := MemIn.a (S.mem) hs
  have hm2 := MemIn.b (S.mem) hs
  have hl1 := LayIn.a (S.lay) hs
  have hl2 := LayIn.b (S.lay) hs
  have ht1 := TabIn.a (S.tab) hs
  have ht2 := TabIn.b (S.tab) hs
  have r1 : 896 ≤ root ∧ root ≤ 912 ∧ root % 16 = 0 := by rcases hr with rfl | rfl <;> decide
  have q1 := q_bd hq
  have z0 := ad2 (ad := ad) q1
  have z1 := z0.1
  have z2 := z0.2.1
  have z3 := z0.2.2
  have e2 : M ((16 * q + 4 * (ad / 16 % 4)) / 4) = v := by rw [ad2e]; exact hv
  have e3 : (16 * q + 4 * (ad / 16 % 4)) / 4 = 4 * q + ad / 16 % 4 := ad2e
  rw [← e3] at hret
  rw [← hf1] at hret
  k_steps
  all_goals first
    | exact hret _ _ _ _ (by assumption) (by assumption) (by assumption) (by assumption)
    | exact absurd ‹flOk _› ‹¬ flOk _›
    | exact hexc _ _ _ _ _ _ (by first | assumption | (refine Or.inl ?_; assumption) | (refine Or.inr ?_; assumption)) (by assumption) (by assumption) (by assumption)
theorem map_spec {root ad q v ph fl : Int} {tr ta t1 t2 : Tok}
  (B : Below A₀ base outer h₀) (F : Fr h₀ L s.heap m) (X : (KF w.params).In h₀) (N : News h₀ L s.heap news) (T : Top p loose mean mg mb h₀) (hk : cs.kind = .function) (hd : dp + 14 < recursionLimit)
  (S : Std c rest) (hs : ∀ x ∈ rest, x ∈ news) (U : UpdF c.w oW news g) (hw : Wd w oW M) (hr : root = 896 ∨ root = 912) (h0 : 0 ≤ ad) (hh : ad < 256) (hq : q = 58 ∨ q = 59)
  (he : M (root / 4 + ad / 64) = 1024 * q + 1) (hv : M (4 * q + ad / 16 % 4) = v) (hv' : v = 0 ∨ Builtin.bitAnd v 1 = 1)
  (hz : ad % 16 = 0) (hb : 0 ≤ v ∧ v < 1099511627776)
  (hp0 : 0 ≤ ph ∧ ph < 1048576) (hpz : ph % 16 = 0) (hf : flOk fl) (hf1 : Builtin.bitOr fl 1 = fl + 1) (hf0 : 0 ≤ Builtin.bitOr fl 1 ∧ Builtin.bitOr fl 1 < 1024)
  (hret : ∀ o' h' tk', v = 0 → Fr h₀ L h' m → News h₀ L h' (g o') → Wd w o' (upM M (4 * q + ad / 16 % 4) (64 * ph + (fl + 1))) → Q .none { s with heap := h', toks := tk' })
  (hexc : ∀ G e d es h' tk', v ≠ 0 → Fr h₀ L G m → G.UpToSlots h' → RaisedD base G (envX cn cs L a ccd cl :: outer) e 52 d ((d, dictOf es 1) :: news) h' → E (.ref e) { s with heap := h', toks := tk' }) :
  wpAny (model pw w) (ktrTop dp un gd cn cs L a ccd cl outer) (call (.ref 334) [.ref c.t, .int root tr, .int ad ta, .int ph t1, .int fl t2]) Q E s := by
  have hwm : (c.w, oW) ∈ news := by
    obtain ⟨pre, post, rfl, _⟩ := U.split
    exact List.mem_append_right _ (.head _)
  have lo := S.low
  have hm1 := MemIn.a (S.mem) hs
  have hm2 := MemIn.b (S.mem) hs
  have hl1 := LayIn.a (S.lay) hs
  have hl2 := LayIn.b (S.lay) hs
  have ht1 := TabIn.a (S.tab) hs
  have ht2 := TabIn.b (S.tab) hs
  have r1 : 896 ≤ root ∧ root ≤ 912 ∧ root % 16 = 0 := by rcases hr with rfl | rfl <;> decide
  have q1 := q_bd hq
  have z0 := ad2 (ad := ad) q1
  have z1 := z0.1
  have z2 := z0.2.1
  have z3 := z0.2.2
  have e2 : M ((16 * q + 4 * (ad / 16 % 4)) / 4) = v := by rw [ad2e]; exact hv
  have e3 : (16 * q + 4 * (ad / 16 % 4)) / 4 = 4 * q + ad / 16 % 4 := ad2e
  rw [← e3] at hret
  rw [← hf1] at hret
  k_steps
  all_goals first
    | exact hret _ _ _ (by assumption) (by assumption) (by assumption) (by assumption)
    | exact absurd ‹flOk _› ‹¬ flOk _›
    | exact hexc _ _ _ _ _ _ (by first | assumption | (refine Or.inl ?_; assumption) | (refine Or.inr ?_; assumption)) (by assumption) (by assumption) (by assumption)
end
end Mine

namespace Mine
section
variable {w : World} {p : Program} {loose : List Str} {mean : ExcName → Option Value} {mg mb : Str → Option Value}
  {dp un : Nat} {gd : Option (List Code)} {cn : Str} {cs : Scope} {a : Addr} {ccd : Value} {cl : List (Str × Addr)} {outer : List Env} {A₀ : Around} {base h₀ : Heap} {L : Addr} {m : Str → Option Value} {s : Shared} {Q E : Value → Shared → Prop} {news : List (Addr × Obj)}
variable {c : Ads} {oW : Obj} {M : Int → Int} {rest : Ledger} {g : Obj → Ledger}
theorem rulesT50 : True := by
  k_with "call ref" => (k_here; (with_reducible show wpAny _ _ (call (Value.ref 355) _) _ _ _); k_dflt (refine' unmap_spec ?k1 ?k2 ?k3 ?k4 ?k5 ?k6 ?k7 ?k8 ?k9 ?k10 ?k11 ?k12 ?k13 ?k14 ?k15 ?k16 ?k17 ?k18 ?k19 ?k20 (fun t'Z o'Z h'Z tk'Z hcZ F'Z N'Z hw'Z => ?_) (fun GZ e'Z d'Z es'Z h'Z tk'Z hcZ FGZ smZ rDZ => ?_); k_extra "HA"; (case k8 => assumption); (case k9 => k_extra "H1"); (case k10 => k_updF); (case k11 => assumption); (case k12 => assumption); (case k13 => k_extra "H10"); (case k14 => k_extra "H10"); (case k15 => assumption); (case k16 => assumption); (case k17 => assumption); (case k18 => assumption); (case k19 => k_extra "H10"); (case k20 => k_extra "H10")); all_goals (try k_sweep))
  k_with "call ref" => (k_here; (with_reducible show wpAny _ _ (call (Value.ref 363) _) _ _ _); k_dflt (refine' change_spec ?k1 ?k2 ?k3 ?k4 ?k5 ?k6 ?k7 ?k8 ?k9 ?k10 ?k11 ?k12 ?k13 ?k14 ?k15 ?k16 ?k17 ?k18 ?k19 ?k20 ?k21 ?k22 (fun t'Z o'Z h'Z tk'Z hcZ hc2Z F'Z N'Z hw'Z => ?_) (fun GZ e'Z d'Z es'Z h'Z tk'Z hcZ FGZ smZ rDZ => ?_); k_extra "HA"; (case k8 => assumption); (case k9 => k_extra "H1"); (case k10 => k_updF); (case k11 => assumption); (case k12 => assumption); (case k13 => k_extra "H10"); (case k14 => k_extra "H10"); (case k15 => assumption); (case k16 => assumption); (case k17 => assumption); (case k18 => assumption); (case k19 => k_extra "H10"); (case k20 => k_extra "H10"); (case k21 => assumption); (case k22 => assumption)); all_goals (try k_sweep))
  k_with "call ref" => (k_here; (with_reducible show wpAny _ _ (call (Value.ref 370) _) _ _ _); k_dflt (refine' move_spec ?k1 ?k2 ?k3 ?k4 ?k5 ?k6 ?k7 ?k8 ?k9 ?k10 ?k11 ?k12 ?k13 ?k14 ?k15 ?k16 ?k17 ?k18 ?k19 ?k20 ?k21 ?k22 ?k23 ?k24 ?k25 (fun t'Z o'Z h'Z tk'Z hcZ F'Z N'Z hw'Z => ?_) (fun GZ e'Z d'Z es'Z h'Z tk'Z hcZ FGZ smZ rDZ => ?_); k_extra "HA"; (case k8 => assumption); (case k9 => k_extra "H1"); (case k10 => k_updF); (case k11 => assumption); (case k12 => assumption); (case k13 => k_extra "H10"); (case k14 => k_extra "H10"); (case k15 => assumption); (case k16 => assumption); (case k17 => assumption); (case k18 => assumption); (case k19 => k_extra "H10"); (case k20 => k_extra "H10"); (case k21 => k_extra "H10"); (case k22 => k_extra "H10"); (case k23 => assumption); (case k24 => assumption); (case k25 => assumption)); all_goals (try k_sweep))
  k_with "call ref" => (k_here; (with_reducible show wpAny _ _ (call (Value.ref 334) _) _ _ _); k_dflt (refine' map_spec ?k1 ?k2 ?k3 ?k4 ?k5 ?k6 ?k7 ?k8 ?k9 ?k10 ?k11 ?k12 ?k13 ?k14 ?k15 ?k16 ?k17 ?k18 ?k19 ?k20 ?k21 ?k22 ?k23 ?k24 ?k25 (fun o'Z h'Z tk'Z hcZ F'Z N'Z hw'Z => ?_) (fun GZ e'Z d'Z es'Z h'Z tk'Z hcZ FGZ smZ rDZ => ?_); k_extra "HA"; (case k8 => assumption); (case k9 => k_extra "H1"); (case k10 => k_updF); (case k11 => assumption); (case k12 => assumption); (case k13 => k_extra "H10"); (case k14 => k_extra "H10"); (case k15 => assumption); (case k16 => assumption); (case k17 => assumption); (case k18 => assumption); (case k19 => k_extra "H10"); (case k20 => k_extra "H10"); (case k21 => k_extra "H10"); (case k22 => k_extra "H10"); (case k23 => assumption); (case k24 => assumption); (case k25 => assumption)); all_goals (try k_sweep))
  k_with "noteFrame ref" => (k_here; k_dflt (refine' caught_D0 ?R ?F ?K ?U ?XB ?TB ?D ?ex ?q ?_; (case R => assumption); (case F => assumption); (case K => assumption); (case U => assumption); (case XB => assumption); (case TB => assumption); (case D => assumption); (case ex => k_is); (case q => k_extra "H15")); intro h'Z g'Z fs'Z sl'Z T'Z F'Z K'Z X'Z P'Z D'Z N'Z; (try k_lift K'Z); (try k_sweep))
  trivial
theorem done1_spec {root ad q v fr fl way : Int} {tr ta t1 t2 t3 : Tok}
  (B : Below A₀ base [] h₀) (F : Fr h₀ L s.heap m) (X : (KF w.params).In h₀) (N : News h₀ L s.heap news) (T : Top p loose mean mg mb h₀) (hk : cs.kind = .function) (hd : dp + 20 < recursionLimit) (XB : (KF w.params).In base) (TB : Top p loose mean mg mb base)
  (S : Std c rest) (hs : ∀ x ∈ rest, x ∈ news) (U : UpdF c.w oW news g) (hw : Wd w oW M) (hr : root = 896 ∨ root = 912) (h0 : 0 ≤ ad) (hh : ad < 256) (hq : q = 58 ∨ q = 59)
  (he : M (root / 4 + ad / 64) = 1024 * q + 1) (hv : M (4 * q + ad / 16 % 4) = v) (hv' : v = 0 ∨ Builtin.bitAnd v 1 = 1)
  (hz : ad % 16 = 0) (hb : 0 ≤ v ∧ v < 1099511627776)
  (hway : way = 1)
  (hret : ∀ t o' h' tk', Builtin.bitAnd v 1 = 1 → Fr h₀ L h' m → News h₀ L h' (g o') → Wd w o' (upM M (4 * q + ad / 16 % 4) 0) → Q (.int (16 * (v / 1024)) t) { s with heap := h', toks := tk' })
  (hno : ∀ h' tk', v = 0 → Fr h₀ L h' m → News h₀ L h' news → Q .none { s with heap := h', toks := tk' }) :
  wpAny (model pw w) (ktrTop dp un gd cn cs L a ccd [] []) (call (.ref 852) [.ref c.t, .int root tr, .int ad ta, .int way t1, .int fr t2, .int fl t3]) Q E s := by
  subst hway
  have hwm : (c.w, oW) ∈ news := by
    obtain ⟨pre, post, rfl, _⟩ := U.split
    exact List.mem_append_right _ (.head _)
  have lo := S.low
  have hm1 := MemIn.a (S.mem) hs
  have hm2 := MemIn.b (S.mem) hs
  have hl1 := LayIn.a (S.lay) hs
  have hl2 := LayIn.b (S.lay) hs
  have ht1 := TabIn.a (S.tab) hs
  have ht2 := TabIn.b (S.tab) hs
  refine wpAny_call ?_
  k_dflt (refine' code_defS0 ?k1 ?k2 ?k3 ?k4 ?k5 ?kA ?k6 ?k7 ?k8 ?k9 ?kB ?_ ?c1 ?c2 ?c3 ?c4 ?c5)
  case k1 => k_asm
  case k2 => k_asm
  case k3 => k_asm
  case k4 => k_asm
  case k5 => k_asm
  case kA => exact rfl
  case k6 => k_is
  case k7 => k_is
  case k8 => k_room
  case k9 => exact BindsTo.of_eq rfl
  case kB => exact locs rfl
  case c1 => assumption
  case c2 => exact rfl
  case c3 => exact rfl
  case c4 => exact rfl
  case c5 => decide
  intro g' L' h' FG' F' N' B' X' T' D'
  try dsimp only
  try k_lift B'
  try k_fold
  k_steps
  all_goals first
    | exact hret _ _ _ _ (by assumption) (by assumption) (by assumption) (by assumption)
    | exact hno _ _ (by assumption) (by assumption) (news_drop (news_drop (by assumption)))
theorem done0_spec {root ad q v fr fl way : Int} {tr ta t1 t2 t3 : Tok}
  (B : Below A₀ base [] h₀) (F : Fr h₀ L s.heap m) (X : (KF w.params).In h₀) (N : News h₀ L s.heap news) (T : Top p loose mean mg mb h₀) (hk : cs.kind = .function) (hd : dp + 20 < recursionLimit) (XB : (KF w.params).In base) (TB : Top p loose mean mg mb base)
  (S : Std c rest) (hs : ∀ x ∈ rest, x ∈ news) (U : UpdF c.w oW news g) (hw : Wd w oW M) (hr : root = 896 ∨ root = 912) (h0 : 0 ≤ ad) (hh : ad < 256) (hq : q = 58 ∨ q = 59)
  (he : M (root / 4 + ad / 64) = 1024 * q + 1) (hv : M (4 * q + ad / 16 % 4) = v) (hv' : v = 0 ∨ Builtin.bitAnd v 1 = 1)
  (hz : ad % 16 = 0) (hb : 0 ≤ v ∧ v < 1099511627776)
  (hp0 : 0 ≤ fr ∧ fr < 1048576) (hpz : fr % 16 = 0) (hf : flOk fl) (hf1 : Builtin.bitOr fl 1 = fl + 1) (hf0 : 0 ≤ Builtin.bitOr fl 1 ∧ Builtin.bitOr fl 1 < 1024)
  (hway : way = 0)
  (hret : ∀ o' h' tk', v = 0 → Fr h₀ L h' m → News h₀ L h' (g o') → Wd w o' (upM M (4 * q + ad / 16 % 4) (64 * fr + (fl + 1))) → Q (.bool true) { s with heap := h', toks := tk' })
  (hno : ∀ h' tk', v ≠ 0 → Fr h₀ L h' m → News h₀ L h' news → Q .none { s with heap := h', toks := tk' }) :
  wpAny (model pw w) (ktrTop dp un gd cn cs L a ccd [] []) (call (.ref 852) [.ref c.t, .int root tr, .int ad ta, .int way t1, .int fr t2, .int fl t3]) Q E s := by
  subst hway
  have hwm : (c.w, oW) ∈ news := by
    obtain ⟨pre, post, rfl, _⟩ := U.split
    exact List.mem_append_right _ (.head _)
  have lo := S.low
  have hm1 := MemIn.a (S.mem) hs
  have hm2 := MemIn.b (S.mem) hs
  have hl1 := LayIn.a (S.lay) hs
  have hl2 := LayIn.b (S.lay) hs
  have ht1 := TabIn.a (S.tab) hs
  have ht2 := TabIn.b (S.tab) hs
  refine wpAny_call ?_
  k_dflt (refine' code_defS0 ?k1 ?k2 ?k3 ?k4 ?k5 ?kA ?k6 ?k7 ?k8 ?k9 ?kB ?_ ?c1 ?c2 ?c3 ?c4 ?c5)
  case k1 => k_asm
  case k2 => k_asm
  case k3 => k_asm
  case k4 => k_asm
  case k5 => k_asm
  case kA => exact rfl
  case k6 => k_is
  case k7 => k_is
  case k8 => k_room
  case k9 => exact BindsTo.of_eq rfl
  case kB => exact locs rfl
  case c1 => assumption
  case c2 => exact rfl
  case c3 => exact rfl
  case c4 => exact rfl
  case c5 => decide
  intro g' L' h' FG' F' N' B' X' T' D'
  try dsimp only
  try k_lift B'
  try k_fold
  k_steps
  all_goals first
    | exact hret _ _ _ (by assumption) (by assumption) (by assumption) (by assumption)
    | exact hno _ _ (by assumption) (by assumption) (news_drop (news_drop (by assumption)))
theorem done2_spec {root ad q v fr fl way : Int} {tr ta t1 t2 t3 : Tok}
  (B : Below A₀ base [] h₀) (F : Fr h₀ L s.heap m) (X : (KF w.params).In h₀) (N : News h₀ L s.heap news) (T : Top p loose mean mg mb h₀) (hk : cs.kind = .function) (hd : dp + 20 < recursionLimit) (XB : (KF w.params).In base) (TB : Top p loose mean mg mb base)
  (S : Std c rest) (hs : ∀ x ∈ rest, x ∈ news) (U : UpdF c.w oW news g) (hw : Wd w oW M) (hr : root = 896 ∨ root = 912) (h0 : 0 ≤ ad) (hh : ad < 256) (hq : q = 58 ∨ q = 59)
  (he : M (root / 4 + ad / 64) = 1024 * q + 1) (hv : M (4 * q + ad / 16 % 4) = v) (hv' : v = 0 ∨ Builtin.bitAnd v 1 = 1)
  (hz : ad % 16 = 0) (hb : 0 ≤ v ∧ v < 1099511627776)
  (hp0 : 0 ≤ fr ∧ fr < 1048576) (hpz : fr % 16 = 0) (hf : flOk fl) (hf1 : Builtin.bitOr fl 1 = fl + 1) (hf0 : 0 ≤ Builtin.bitOr fl 1 ∧ Builtin.bitOr fl 1 < 1024)
  (hway : way = 2)
  (hret : ∀ t o' h' tk', Builtin.bitAnd v 1 = 1 → Fr h₀ L h' m → News h₀ L h' (g o') → Wd w o' (upM M (4 * q + ad / 16 % 4) (64 * fr + (fl + 1))) → Q (.int (16 * (v / 1024)) t) { s with heap := h', toks := tk' })
  (hno : ∀ h' tk', v = 0 → Fr h₀ L h' m → News h₀ L h' news → Q .none { s with heap := h', toks := tk' }) :
  wpAny (model pw w) (ktrTop dp un gd cn cs L a ccd [] []) (call (.ref 852) [.ref c.t, .int root tr, .int ad ta, .int way t1, .int fr t2, .int fl t3]) Q E s := by
  subst hway
  have hwm : (c.w, oW) ∈ news := by
    obtain ⟨pre, post, rfl, _⟩ := U.split
    exact List.mem_append_right _ (.head _)
  have lo := S.low
  have hm1 := MemIn.a (S.mem) hs
  have hm2 := MemIn.b (S.mem) hs
  have hl1 := LayIn.a (S.lay) hs
  have hl2 := LayIn.b (S.lay) hs
  have ht1 := TabIn.a (S.tab) hs
  have ht2 := TabIn.b (S.tab) hs
  refine wpAny_call ?_
  k_dflt (refine' code_defS0 ?k1 ?k2 ?k3 ?k4 ?k5 ?kA ?k6 ?k7 ?k8 ?k9 ?kB ?_ ?c1 ?c2 ?c3 ?c4 ?c5)
  case k1 => k_asm
  case k2 => k_asm
  case k3 => k_asm
  case k4 => k_asm
  case k5 => k_asm
  case kA => exact rfl
  case k6 => k_is
  case k7 => k_is
  case k8 => k_room
  case k9 => exact BindsTo.of_eq rfl
  case kB => exact locs rfl
  case c1 => assumption
  case c2 => exact rfl
  case c3 => exact rfl
  case c4 => exact rfl
  case c5 => decide
  intro g' L' h' FG' F' N' B' X' T' D'
  try dsimp only
  try k_lift B'
  try k_fold
  k_steps
  all_goals first
    | exact hret _ _ _ _ (by assumption) (by assumption) (by assumption) (by assumption)
    | exact hno _ _ (by assumption) (by assumption) (news_drop (news_drop (by assumption)))
end
end Mine

namespace Mine
section
variable {w : World} {p : Program} {loose : List Str} {mean : ExcName → Option Value} {mg mb : Str → Option Value}
  {dp un : Nat} {gd : Option (List Code)} {cn : Str} {cs : Scope} {a : Addr} {ccd : Value} {cl : List (Str × Addr)} {outer : List Env} {A₀ : Around} {base h₀ : Heap} {L : Addr} {m : Str → Option Value} {s : Shared} {Q E : Value → Shared → Prop} {news : List (Addr × Obj)}
variable {c : Ads} {oW : Obj} {M : Int → Int} {rest : Ledger} {g : Obj → Ledger}
theorem load_spec {ad v : Int} {tt t4 : Tok}
  (B : Below A₀ base outer h₀) (F : Fr h₀ L s.heap m) (X : (KF w.params).In h₀) (N : News h₀ L s.heap news) (T : Top p loose mean mg mb h₀) (hk : cs.kind = .function) (hd : dp + 12 < recursionLimit)
  (S : Std c rest) (hs : ∀ x ∈ rest, x ∈ news) (hwm : (c.w, oW) ∈ news) (hw : Wd w oW M) (h0 : 0 ≤ ad) (h4 : ad % 4 = 0) (hh : ad + 4 ≤ 1024) (hv : M (ad / 4) = v)
  (hret : ∀ t h' tk', Fr h₀ L h' m → News h₀ L h' news → Q (.int v t) { s with heap := h', toks := tk' }) :
  wpAny (model pw w) (ktrTop dp un gd cn cs L a ccd cl outer) (call (.ref 689) [.ref c.b, .int ad tt, .int 4 t4]) Q E s := by
  have lo := S.low
  have hm1 := MemIn.a (S.mem) hs
  have hm2 := MemIn.b (S.mem) hs
  have hl1 := LayIn.a (S.lay) hs
  have hl2 := LayIn.b (S.lay) hs
  have hb1 := BusIn.a (S.bus) hs
  have hb2 := BusIn.b (S.bus) hs
  have hk1 := WalkIn.a (S.walk) hs
  have hk2 := WalkIn.b (S.walk) hs
  k_steps
  all_goals exact hret _ _ _ (by assumption) (by assumption)
theorem store_spec {ad v : Int} {tt tv t4 : Tok}
  (B : Below A₀ base outer h₀) (F : Fr h₀ L s.heap m) (X : (KF w.params).In h₀) (N : News h₀ L s.heap news) (T : Top p loose mean mg mb h₀) (hk : cs.kind = .function) (hd : dp + 12 < recursionLimit)
  (S : Std c rest) (hs : ∀ x ∈ rest, x ∈ news) (U : UpdF c.w oW news g) (hw : Wd w oW M) (h0 : 0 ≤ ad) (h4 : ad % 4 = 0) (hh : ad + 4 ≤ 1024) (hv : 0 ≤ v ∧ v < 4294967296)
  (hret : ∀ o' h' tk', Fr h₀ L h' m → News h₀ L h' (g o') → Wd w o' (upM M (ad / 4) v) → Q .none { s with heap := h', toks := tk' }) :
  wpAny (model pw w) (ktrTop dp un gd cn cs L a ccd cl outer) (call (.ref 697) [.ref c.b, .int ad tt, .int 4 t4, .int v tv]) Q E s := by
  have lo := S.low
  have hm1 := MemIn.a (S.mem) hs
  have hm2 := MemIn.b (S.mem) hs
  have hl1 := LayIn.a (S.lay) hs
  have hl2 := LayIn.b (S.lay) hs
  have hb1 := BusIn.a (S.bus) hs
  have hb2 := BusIn.b (S.bus) hs
  have hk1 := WalkIn.a (S.walk) hs
  have hk2 := WalkIn.b (S.walk) hs
  k_steps
  all_goals exact hret _ _ _ (by assumption) (by assumption) (by assumption)
end
end Mine

namespace Mine
section
variable {w : World} {p : Program} {loose : List Str} {mean : ExcName → Option Value} {mg mb : Str → Option Value}
  {dp un : Nat} {gd : Option (List Code)} {cn : Str} {cs : Scope} {a : Addr} {ccd : Value} {cl : List (Str × Addr)} {outer : List Env} {A₀ : Around} {base h₀ : Heap} {L : Addr} {m : Str → Option Value} {s : Shared} {Q E : Value → Shared → Prop} {news : List (Addr × Obj)}
variable {c : Ads} {oW : Obj} {M : Int → Int} {rest : Ledger} {g : Obj → Ledger}
noncomputable def kindOk (ks : Str) (cause : Int) : Prop := (ks = "fetch" ∧ cause = 12) ∨ (ks = "load" ∧ cause = 13) ∨ (ks = "store" ∧ cause = 15)
theorem rulesW20 : True := by
  k_with "call ref" => (k_here; (with_reducible show wpAny _ _ (call (Value.ref 689) _) _ _ _); k_dflt (refine' load_spec ?k1 ?k2 ?k3 ?k4 ?k5 ?k6 ?k7 ?k8 ?k9 ?k10 ?k11 ?k12 ?k13 ?k14 ?k15 ?_; k_extra "HA"; (case k8 => assumption); (case k9 => k_extra "H1"); (case k10 => k_mem); (case k11 => assumption); (case k12 => k_extra "H10"); (case k13 => k_extra "H10"); (case k14 => k_extra "H10"); (case k15 => k_extra "H13")); intro t'Z h'Z tk'Z F'Z N'Z; (try dsimp only at N'Z); (try k_lt lts); (try k_sweep))
  k_with "call ref" => (k_here; (with_reducible show wpAny _ _ (call (Value.ref 697) _) _ _ _); k_dflt (refine' store_spec ?k1 ?k2 ?k3 ?k4 ?k5 ?k6 ?k7 ?k8 ?k9 ?k10 ?k11 ?k12 ?k13 ?k14 ?k15 ?_; k_extra "HA"; (case k8 => assumption); (case k9 => k_extra "H1"); (case k10 => k_updF); (case k11 => assumption); (case k12 => k_extra "H10"); (case k13 => k_extra "H10"); (case k14 => k_extra "H10"); (case k15 => k_extra "H10")); intro o'Z h'Z tk'Z F'Z N'Z hw'Z; (try dsimp only at N'Z); (try k_lt lts); (try k_sweep))
  trivial
theorem kind_c0 {ks : Str} {ca : Int} (h : kindOk ks ca) : 0 ≤ ca := by rcases h with ⟨_, rfl⟩ | ⟨_, rfl⟩ | ⟨_, rfl⟩ <;> decide
theorem kind_c1 {ks : Str} {ca : Int} (h : kindOk ks ca) : ca < 100 := by rcases h with ⟨_, rfl⟩ | ⟨_, rfl⟩ | ⟨_, rfl⟩ <;> decide
theorem pf_item {A : Around} {s : Shared} {h₀ : Heap} {L : Addr} {m : Str → Option Value} {w : World} {E : Value → Shared → Prop} {value slice : PySem.Expr} {ks : Str} {ca : Int} {t : Tok} {Q : Value → Shared → Prop} (F : Fr h₀ L s.heap m) (X : (KF w.params).In h₀) (hks : kindOk ks ca)
    (h : ∀ u, Q (.int ca u) { s with toks := s.toks + 1 })
    (hs : subscripted slice false (.ref 106) (.str ks t) = operate [.ref 106, .str ks t] (getItem (.ref 106) (.str ks t))) : wpAny (model pw w) A (subscriptTail value slice (.ref 106) (.str ks t)) Q E s := by
  rcases hks with ⟨rfl, rfl⟩ | ⟨rfl, rfl⟩ | ⟨rfl, rfl⟩
  · exact topItem_K F X (by k_is) (by k_keys) (by k_is) (h _) hs
  · exact topItem_K F X (by k_is) (by k_keys) (by k_is) (h _) hs
  · exact topItem_K F X (by k_is) (by k_keys) (by k_is) (h _) hs
theorem rulesW21 : True := by
  k_with "subscriptTail" => (k_here; (with_reducible show wpAny _ _ (subscriptTail _ _ (Value.ref 106) (Value.str _ _)) _ _ _); k_dflt (with_unfolding_all refine' pf_item ?k1 ?k2 ?k3 ?_ ?k4; (case k1 => k_asm); (case k2 => k_asm); (case k3 => assumption); (case k4 => with_unfolding_all rfl)); intro u'Z)
  trivial
theorem entryat_spec {pl v va ca : Int} {ks : Str} {tp ta tk : Tok}
  (B : Below A₀ base outer h₀) (F : Fr h₀ L s.heap m) (X : (KF w.params).In h₀) (N : News h₀ L s.heap news) (T : Top p loose mean mg mb h₀) (hk : cs.kind = .function) (hd : dp + 14 < recursionLimit)
  (S : Std c rest) (hs : ∀ x ∈ rest, x ∈ news) (hwm : (c.w, oW) ∈ news) (hw : Wd w oW M) (h0 : 0 ≤ pl) (h4 : pl % 4 = 0) (hh : pl + 4 ≤ 1024) (hv : M (pl / 4) = v) (v0 : 0 ≤ va) (v1 : va < 256) (hks : kindOk ks ca)
  (hret : ∀ t h' tk', soundB v = true → Fr h₀ L h' m → News h₀ L h' news → Q (.int v t) { s with heap := h', toks := tk' })
  (hexc : ∀ G e d es tc tv h' tk', soundB v = false → getL "cause" es = some (some (.int ca tc)) → getL "value" es = some (some (.int va tv)) → Fr h₀ L G m → G.UpToSlots h' → RaisedD base G (envX cn cs L a ccd cl :: outer) e 103 d ((d, dictOf es 3) :: news) h' → E (.ref e) { s with heap := h', toks := tk' }) :
  wpAny (model pw w) (ktrTop dp un gd cn cs L a ccd cl outer) (call (.ref 241) [.ref c.k, .int pl tp, .int va ta, .str ks tk]) Q E s := by
  have lo := S.low
  have hm1 := MemIn.a (S.mem) hs
  have hm2 := MemIn.b (S.mem) hs
  have hl1 := LayIn.a (S.lay) hs
  have hl2 := LayIn.b (S.lay) hs
  have hb1 := BusIn.a (S.bus) hs
  have hb2 := BusIn.b (S.bus) hs
  have hk1 := WalkIn.a (S.walk) hs
  have hk2 := WalkIn.b (S.walk) hs
  have ca0 := kind_c0 hks
  have ca1 := kind_c1 hks
  k_steps
  all_goals first
    | (refine hret _ _ _ ?_ (by assumption) (by assumption); unfold soundB; assumption)
    | (refine hexc _ _ _ _ _ _ _ _ ?_ (by assumption) (by assumption) (by assumption) (by assumption) (by assumption); unfold soundB; assumption)
    | (refine hexc _ _ _ _ _ _ _ _ ?_ (by assumption) (by assumption) (by assumption) (by assumption) (by assumption); unfold soundB; simp_all; done)
end
end Mine

namespace Mine
section
variable {w : World} {p : Program} {loose : List Str} {mean : ExcName → Option Value} {mg mb : Str → Option Value}
  {dp un : Nat} {gd : Option (List Code)} {cn : Str} {cs : Scope} {a : Addr} {ccd : Value} {cl : List (Str × Addr)} {outer : List Env} {A₀ : Around} {base h₀ : Heap} {L : Addr} {m : Str → Option Value} {s : Shared} {Q E : Value → Shared → Prop} {news : List (Addr × Obj)}
variable {c : Ads} {oW : Obj} {M : Int → Int} {rest : Ledger} {g : Obj → Ledger}
/-- the marks that an access leaves -/
noncomputable def dueOf (ks : Str) (v : Int) : Int := if ks = "store" then Builtin.bitOr (Builtin.bitOr v 64) 128 else Builtin.bitOr (Builtin.bitOr v 64) 0
/-- whether a user's access passes -/
noncomputable def mayB (ks : Str) (v : Int) : Prop := Builtin.bitAnd v 16 ≠ 0 ∧ (if ks = "fetch" then Builtin.bitAnd v 8 ≠ 0 else if ks = "store" then Builtin.bitAnd v 4 ≠ 0 else Builtin.bitAnd v 2 ≠ 0)
theorem rulesW3a0 : True := by
  k_with "H6" => first | assumption | exact .inl ⟨rfl, rfl⟩ | exact .inr (.inl ⟨rfl, rfl⟩) | exact .inr (.inr ⟨rfl, rfl⟩)
  k_with "call ref" => (k_here; (with_reducible show wpAny _ _ (call (Value.ref 241) _) _ _ _); k_dflt (refine' entryat_spec ?k1 ?k2 ?k3 ?k4 ?k5 ?k6 ?k7 ?k8 ?k9 ?k10 ?k11 ?k12 ?k13 ?k14 ?k15 ?k16 ?k17 ?k18 (fun t'Z h'Z tk'Z hcZ F'Z N'Z => ?_) (fun GZ e'Z d'Z es'Z tc'Z tv'Z h'Z tk'Z hcZ g1Z g2Z FGZ smZ rDZ => ?_); k_extra "HA"; (case k8 => assumption); (case k9 => k_extra "H1"); (case k10 => k_mem); (case k11 => assumption); (case k12 => k_extra "H10"); (case k13 => k_extra "H10"); (case k14 => k_extra "H10"); (case k15 => k_extra "H13"); (case k16 => k_extra "H10"); (case k17 => k_extra "H10"); (case k18 => k_extra "H6")); all_goals (try k_sweep))
  trivial
theorem due_f (v : Int) : dueOf "fetch" v = Builtin.bitOr (Builtin.bitOr v 64) 0 := by unfold dueOf; rw [if_neg (by decide)]
theorem due_l (v : Int) : dueOf "load" v = Builtin.bitOr (Builtin.bitOr v 64) 0 := by unfold dueOf; rw [if_neg (by decide)]
theorem due_s (v : Int) : dueOf "store" v = Builtin.bitOr (Builtin.bitOr v 64) 128 := by unfold dueOf; rw [if_pos rfl]
theorem may_f (v : Int) : mayB "fetch" v = (Builtin.bitAnd v 16 ≠ 0 ∧ Builtin.bitAnd v 8 ≠ 0) := by unfold mayB; rw [if_pos rfl]
theorem may_l (v : Int) : mayB "load" v = (Builtin.bitAnd v 16 ≠ 0 ∧ Builtin.bitAnd v 2 ≠ 0) := by unfold mayB; rw [if_neg (by decide), if_neg (by decide)]
theorem may_s (v : Int) : mayB "store" v = (Builtin.bitAnd v 16 ≠ 0 ∧ Builtin.bitAnd v 4 ≠ 0) := by unfold mayB; rw [if_neg (by decide), if_pos rfl]
theorem upd_self {d : Addr} {o : Obj} {l : Ledger} {g : Obj → Ledger} (U : UpdF d o l g) : g o = l := by
  obtain ⟨pre, post, e, hg, _⟩ := U.split
  rw [hg, e]
theorem upM_self {M : Int → Int} {k v : Int} (h : M k = v) : upM M k v = M := by
  funext j
  unfold upM
  by_cases e : j = k
  · rw [if_pos e, e, h]
  · rw [if_neg e]
theorem may_spec {v ca : Int} {ks : Str} {tv tk t1 t2 t3 : Tok}
  (B : Below A₀ base outer h₀) (F : Fr h₀ L s.heap m) (X : (KF w.params).In h₀) (N : News h₀ L s.heap news) (T : Top p loose mean mg mb h₀) (hk : cs.kind = .function) (hd : dp + 16 < recursionLimit)
  (hks : kindOk ks ca)
  (hyes : ∀ h' tk', mayB ks v → Fr h₀ L h' m → News h₀ L h' news → Q (.bool true) { s with heap := h', toks := tk' })
  (hno : ∀ h' tk', ¬ mayB ks v → Fr h₀ L h' m → News h₀ L h' news → Q (.bool false) { s with heap := h', toks := tk' }) :
  wpAny (model pw w) (ktrTop dp un gd cn cs L a ccd cl outer) (call (.ref 212) [.int v tv, .str ks tk, .int 0 t1, .int 0 t2, .int 0 t3]) Q E s := by
  rcases hks with ⟨rfl, rfl⟩ | ⟨rfl, rfl⟩ | ⟨rfl, rfl⟩
  · rw [may_f] at hyes hno
    k_steps
    all_goals first
      | exact hno _ _ (fun z => z.1 (by assumption)) (by assumption) (by assumption)
      | exact hno _ _ (fun z => z.2 (by assumption)) (by assumption) (by assumption)
      | exact hyes _ _ ⟨by assumption, by assumption⟩ (by assumption) (by assumption)
      | (generalize hb : (Builtin.bitAnd v 8 != 0) = b
         cases b
         · exact hno _ _ (fun z => z.2 (by simpa using hb)) (by assumption) (by assumption)
         · exact hyes _ _ ⟨by assumption, by simpa using hb⟩ (by assumption) (by assumption))
  · rw [may_l] at hyes hno
    k_steps
    all_goals first
      | exact hno _ _ (fun z => z.1 (by assumption)) (by assumption) (by assumption)
      | exact hno _ _ (fun z => z.2 (by assumption)) (by assumption) (by assumption)
      | exact hyes _ _ ⟨by assumption, by assumption⟩ (by assumption) (by assumption)
      | (generalize hb : (Builtin.bitAnd v 2 != 0) = b
         cases b
         · exact hno _ _ (fun z => z.2 (by simpa using hb)) (by assumption) (by assumption)
         · exact hyes _ _ ⟨by assumption, by simpa using hb⟩ (by assumption) (by assumption))
  · rw [may_s] at hyes hno
    k_steps
    all_goals first
      | exact hno _ _ (fun z => z.1 (by assumption)) (by assumption) (by assumption)
      | exact hno _ _ (fun z => z.2 (by assumption)) (by assumption) (by assumption)
      | exact hyes _ _ ⟨by assumption, by assumption⟩ (by assumption) (by assumption)
      | (generalize hb : (Builtin.bitAnd v 4 != 0) = b
         cases b
         · exact hno _ _ (fun z => z.2 (by simpa using hb)) (by assumption) (by assumption)
         · exact hyes _ _ ⟨by assumption, by simpa using hb⟩ (by assumption) (by assumption))
theorem mark_spec {pl v va ca : Int} {ks : Str} {tp tv ta tk : Tok}
  (B : Below A₀ base outer h₀) (F : Fr h₀ L s.heap m) (X : (KF w.params).In h₀) (N : News h₀ L s.heap news) (T : Top p loose mean mg mb h₀) (hk : cs.kind = .function) (hd : dp + 16 < recursionLimit)
  (S : Std c rest) (hs : ∀ x ∈ rest, x ∈ news) (U : UpdF c.w oW news g) (hw : Wd w oW M) (h0 : 0 ≤ pl) (h4 : pl % 4 = 0) (hh : pl + 4 ≤ 1024) (e2 : M (pl / 4) = v) (hdu : 0 ≤ dueOf ks v ∧ dueOf ks v < 4294967296) (hks : kindOk ks ca)
  (hret : ∀ o' h' tk', Fr h₀ L h' m → News h₀ L h' (g o') → Wd w o' (upM M (pl / 4) (dueOf ks v)) → Q .none { s with heap := h', toks := tk' }) :
  wpAny (model pw w) (ktrTop dp un gd cn cs L a ccd cl outer) (call (.ref 255) [.ref c.k, .int pl tp, .int v tv, .int va ta, .str ks tk]) Q E s := by
  have lo := S.low
  have hm1 := MemIn.a (S.mem) hs
  have hm2 := MemIn.b (S.mem) hs
  have hl1 := LayIn.a (S.lay) hs
  have hl2 := LayIn.b (S.lay) hs
  have hb1 := BusIn.a (S.bus) hs
  have hb2 := BusIn.b (S.bus) hs
  have hk1 := WalkIn.a (S.walk) hs
  have hk2 := WalkIn.b (S.walk) hs
  have gW := upd_self U
  rcases hks with ⟨rfl, rfl⟩ | ⟨rfl, rfl⟩ | ⟨rfl, rfl⟩
  · rw [due_f] at hret hdu
    k_steps
    all_goals first
      | exact hret _ _ _ (by assumption) (by assumption) (by assumption)
      | exact hret oW _ _ (by assumption) (by rw [gW]; assumption) (by
          rw [show ∀ x : Int, x = v → upM M (pl / 4) x = M from fun x e => by rw [e]; exact upM_self e2]
          · exact hw
          · assumption)
      | skip
  · rw [due_l] at hret hdu
    k_steps
    all_goals first
      | exact hret _ _ _ (by assumption) (by assumption) (by assumption)
      | exact hret oW _ _ (by assumption) (by rw [gW]; assumption) (by
          rw [show ∀ x : Int, x = v → upM M (pl / 4) x = M from fun x e => by rw [e]; exact upM_self e2]
          · exact hw
          · assumption)
      | skip
  · rw [due_s] at hret hdu
    k_steps
    all_goals first
      | exact hret _ _ _ (by assumption) (by assumption) (by assumption)
      | exact hret oW _ _ (by assumption) (by rw [gW]; assumption) (by
          rw [show ∀ x : Int, x = v → upM M (pl / 4) x = M from fun x e => by rw [e]; exact upM_self e2]
          · exact hw
          · assumption)
      | skip
end
end Mine

namespace Mine
-- the sort's tree of questions, with keys that differ: it ends with the places in the keys' order
section
variable {n : Nat} {key : Nat → Int} {cmp : Nat → Nat → (Bool → Shared → Prop) → Shared → Prop} {s : Shared}
noncomputable def Prm (n : Nat) (p : Array Nat) : Prop := p.Perm (List.toArray (List.range n))
noncomputable def kp (key : Nat → Int) (p : Array Nat) (i : Nat) : Int := key (p.getD i 0)
noncomputable def Asc (key : Nat → Int) (p : Array Nat) (k : Nat) : Prop := ∀ i j, i < j → j < k → kp key p i < kp key p j
theorem Prm.size {p : Array Nat} (h : Prm n p) : p.size = n := by have := h.size_eq; simpa using this
theorem Prm.lt {p : Array Nat} (h : Prm n p) (h0 : 0 < n) (i : Nat) : p.getD i 0 < n := by
  by_cases hi : i < p.size
  · have e : p.getD i 0 = p[i] := by simp [Array.getD, hi]
    have hm : p[i] ∈ p.toList := by simp
    have := (Array.perm_iff_toList_perm.mp h).mem_iff.mp hm
    rw [e]; simpa using this
  · have e : p.getD i 0 = 0 := by simp [Array.getD, hi]
    rw [e]; exact h0
theorem Prm.inj {p : Array Nat} (h : Prm n p) (hk : ∀ i j, i < n → j < n → key i = key j → i = j) {i j : Nat} (hi : i < n) (hj : j < n) (e : kp key p i = kp key p j) : i = j := by
  have h0 : 0 < n := by lia
  have hs := h.size
  have e1 := hk _ _ (h.lt h0 i) (h.lt h0 j) e
  have hi' : i < p.size := by lia
  have hj' : j < p.size := by lia
  have a1 : p.getD i 0 = p[i] := by simp [Array.getD, hi']
  have a2 : p.getD j 0 = p[j] := by simp [Array.getD, hj']
  rw [a1, a2] at e1
  have nd : p.toList.Nodup := (Array.perm_iff_toList_perm.mp h).nodup_iff.mpr (by simpa using List.nodup_range)
  have l1 : p.toList[i]? = some p[i] := by simp [hi']
  have l2 : p.toList[j]? = some p[i] := by simp [hj', e1]
  exact (List.getElem?_inj (by simpa using hi') nd).mp (l1.trans l2.symm)
theorem kp_congr {p q : Array Nat} {i j : Nat} (h : p[i]? = q[j]?) : kp key p i = kp key q j := by
  unfold kp
  rw [Array.getD_eq_getD_getElem?, Array.getD_eq_getD_getElem?, h]
theorem kp_bubble {p : Array Nat} {src d : Nat} (hs : src < p.size) (hd : d ≤ src) (k : Nat) :
    kp key (bubble p src d) k = if k = src - d then kp key p src else if src - d < k ∧ k ≤ src then kp key p (k - 1) else kp key p k := by
  have e := getElem?_bubble hs d hd k
  by_cases h1 : k = src - d
  · rw [if_pos h1] at e ⊢; exact kp_congr e
  · rw [if_neg h1] at e ⊢
    by_cases h2 : src - d < k ∧ k ≤ src
    · rw [if_pos h2] at e ⊢; exact kp_congr e
    · rw [if_neg h2] at e ⊢; exact kp_congr e
theorem kb_lt {p : Array Nat} {k l i : Nat} (hs : k < p.size) (hl : l ≤ k) (h : i < l) : kp key (bubble p k (k - l)) i = kp key p i := by
  rw [kp_bubble hs (Nat.sub_le _ _), Nat.sub_sub_self hl, if_neg (Nat.ne_of_lt h), if_neg fun q => absurd q.1 (Nat.lt_asymm h)]
theorem kb_eq {p : Array Nat} {k l : Nat} (hs : k < p.size) (hl : l ≤ k) : kp key (bubble p k (k - l)) l = kp key p k := by
  rw [kp_bubble hs (Nat.sub_le _ _), Nat.sub_sub_self hl, if_pos rfl]
theorem kb_gt {p : Array Nat} {k l i : Nat} (hs : k < p.size) (hl : l ≤ k) (h : l < i) (h2 : i ≤ k) : kp key (bubble p k (k - l)) i = kp key p (i - 1) := by
  rw [kp_bubble hs (Nat.sub_le _ _), Nat.sub_sub_self hl, if_neg (Nat.ne_of_gt h), if_pos ⟨h, h2⟩]
/-- a key put into its place among the first k -/
theorem asc_in {p : Array Nat} {k l : Nat} (hs : k < p.size) (hl : l ≤ k) (S : Asc key p k) (a : ∀ i, i < l → kp key p i ≤ kp key p k) (b : ∀ i, l ≤ i → i < k → kp key p k < kp key p i)
    (ne : ∀ i, i < k → kp key p i ≠ kp key p k) : Asc key (bubble p k (k - l)) (k + 1) := fun i j hij hj => by
  have hj := Nat.le_of_lt_succ hj
  rcases Nat.lt_trichotomy j l with hjl | rfl | hjl
  · rw [kb_lt hs hl hjl, kb_lt hs hl (Nat.lt_trans hij hjl)]; exact S _ _ hij (Nat.lt_of_lt_of_le hjl hl)
  · rw [kb_eq hs hl, kb_lt hs hl hij]; exact Int.lt_iff_le_and_ne.mpr ⟨a i hij, ne i (Nat.lt_of_lt_of_le hij hl)⟩
  · have j1 : l ≤ j - 1 := Nat.le_sub_one_of_lt hjl
    have j2 : j - 1 < k := Nat.lt_of_lt_of_le (Nat.sub_lt (Nat.lt_of_le_of_lt (Nat.zero_le _) hjl) Nat.one_pos) hj
    rw [kb_gt hs hl hjl hj]
    rcases Nat.lt_trichotomy i l with hil | rfl | hil
    · rw [kb_lt hs hl hil]; exact S _ _ (Nat.lt_of_lt_of_le hil j1) j2
    · rw [kb_eq hs hl]; exact b _ j1 j2
    · rw [kb_gt hs hl hil (Nat.le_trans (Nat.le_of_lt hij) hj)]; exact S _ _ (Nat.sub_lt_sub_right (Nat.lt_of_le_of_lt (Nat.zero_le _) hil) hij) j2
theorem kp_rev {p : Array Nat} {k : Nat} (hk : k ≤ p.size) (i : Nat) (hi : i < k) : kp key (kas_rev p 0 k) i = kp key p (k - 1 - i) := by
  have e := getElem?_mirror_all (i := 0) hk i
  rw [if_pos ⟨Nat.zero_le _, hi⟩, Nat.zero_add] at e
  exact kp_congr e
theorem prm_rev {p : Array Nat} (h : Prm n p) (i j : Nat) : Prm n (kas_rev p i j) := (mirror_perm _ _ _ _).trans h
theorem prm_bubble {p : Array Nat} (h : Prm n p) (i j : Nat) : Prm n (bubble p i j) := (bubble_perm _ _ _).trans h

theorem mid_ge {l r : Nat} (h : l < r) : l ≤ (l + r) / 2 := by lia
theorem mid_lt {l r : Nat} (h : l < r) : (l + r) / 2 < r := by omega
theorem mid_l {l r f : Nat} (h : l < r) (hf : r - l ≤ f + 1) : (l + r) / 2 - l ≤ f := by omega
theorem mid_r {l r f : Nat} (h : l < r) (hf : r - l ≤ f + 1) : r - ((l + r) / 2 + 1) ≤ f := by omega
theorem lt_add_eq {k f n : Nat} (e : k + (f + 1) = n) : k < n ∧ k + 1 + f = n := by lia
variable (h0 : 0 < n) (hk : ∀ i j, i < n → j < n → key i = key j → i = j)
  (hc : ∀ i j (C : Bool → Shared → Prop), i < n → j < n → C (decide (key i < key j)) s → cmp i j C s)
include h0 hk hc
theorem place_ok {p : Array Nat} {k : Nat} (P : Prm n p) {Q : Nat → Shared → Prop} : ∀ (f l r : Nat), l ≤ r → r ≤ k → r - l ≤ f →
    (∀ i, i < l → kp key p i ≤ kp key p k) → (∀ i, r ≤ i → i < k → kp key p k < kp key p i) →
    (Asc key p k) → (∀ l', l' ≤ k → (∀ i, i < l' → kp key p i ≤ kp key p k) → (∀ i, l' ≤ i → i < k → kp key p k < kp key p i) → Q l' s) → (kas_place p k f l r).kasWp cmp Q s
  | 0, l, r, hlr, hrk, hf, a, b, _, h => by
    obtain rfl : l = r := by lia
    exact h l hrk a b
  | f + 1, l, r, hlr, hrk, hf, a, b, S, h => by
    unfold kas_place
    by_cases e : l ≥ r
    · rw [if_pos e]
      obtain rfl : l = r := Nat.le_antisymm hlr e
      exact h l hrk a b
    · rw [if_neg e]
      refine hc _ _ _ (P.lt h0 _) (P.lt h0 _) ?_
      have hlt : l < r := Nat.lt_of_not_le e
      have hm1 := mid_ge hlt
      have hm2 := mid_lt hlt
      show (if decide (kp key p k < kp key p ((l + r) / 2)) = true then _ else _ : KasT Nat).kasWp cmp Q s
      by_cases c : kp key p k < kp key p ((l + r) / 2)
      · rw [if_pos (by simpa using c)]
        refine place_ok P f l ((l + r) / 2) hm1 (Nat.le_trans (Nat.le_of_lt hm2) hrk) (mid_l hlt hf) a (fun i h1 h2 => ?_) S h
        rcases Nat.lt_or_ge ((l + r) / 2) i with h3 | h3
        · exact Int.lt_trans c (S _ _ h3 h2)
        · obtain rfl : i = (l + r) / 2 := by lia
          exact c
      · rw [if_neg (by simpa using c)]
        refine place_ok P f ((l + r) / 2 + 1) r hm2 hrk (mid_r hlt hf) (fun i h1 => ?_) b S h
        rcases Nat.lt_or_ge i ((l + r) / 2) with h3 | h3
        · exact Int.le_of_lt (Int.lt_of_lt_of_le (S _ _ h3 (Nat.lt_of_lt_of_le hm2 hrk)) (Int.not_lt.mp c))
        · obtain rfl : i = (l + r) / 2 := Nat.le_antisymm (Nat.le_of_lt_succ h1) h3
          exact Int.not_lt.mp c
theorem bin_ok {Q : Array Nat → Shared → Prop} : ∀ (f : Nat) (p : Array Nat) (k : Nat), Prm n p → k + f = n → Asc key p k → (∀ q, Prm n q → Asc key q n → Q q s) → (kas_bin f p k).kasWp cmp Q s
  | 0, p, k, P, e, S, h => by
    obtain rfl : k = n := by lia
    exact h p P S
  | f + 1, p, k, P, e, S, h => by
    unfold kas_bin
    rw [KasT.kasWp_bind]
    have hz := P.size
    refine place_ok h0 hk hc P k 0 k (Nat.zero_le _) (Nat.le_refl _) (by lia) (fun i hi => absurd hi (Nat.not_lt_zero _)) (fun i h1 h2 => absurd h2 (by lia)) S fun l hl a b => ?_
    have hkp : k < p.size := by lia
    exact bin_ok f _ (k + 1) (prm_bubble P _ _) (by lia) (asc_in hkp hl S a b fun i hi q => Nat.ne_of_lt hi (P.inj hk (Nat.lt_trans hi (hz ▸ hkp)) (hz ▸ hkp) q)) h
theorem asc_ok {p : Array Nat} (P : Prm n p) {Q : Nat → Shared → Prop} : ∀ (f m : Nat), 1 ≤ m → m + f = n → Asc key p m → (∀ m', m ≤ m' → m' ≤ n → Asc key p m' → (m' = n ∨ kp key p m' < kp key p (m' - 1)) → Q m' s) → (kas_asc p f m).kasWp cmp Q s
  | 0, m, h1, e, S, h => h m (Nat.le_refl _) (by lia) S (.inl (by lia))
  | f + 1, m, h1, e, S, h => by
    unfold kas_asc
    refine hc _ _ _ (P.lt h0 _) (P.lt h0 _) ?_
    show (if decide (kp key p m < kp key p (m - 1)) = true then _ else _ : KasT Nat).kasWp cmp Q s
    by_cases c : kp key p m < kp key p (m - 1)
    · rw [if_pos (by simpa using c)]
      exact h m (Nat.le_refl _) (by lia) S (.inr c)
    · rw [if_neg (by simpa using c)]
      refine asc_ok P f (m + 1) (by lia) (by lia) (fun i j hij hj => ?_) fun m' a b => h m' (by lia) b
      rcases Nat.lt_or_ge j m with q | q
      · exact S _ _ hij q
      · obtain rfl : j = m := by lia
        have jn : j < n := by lia
        have jp : j - 1 < j := by lia
        have ne : kp key p (j - 1) ≠ kp key p j := fun q => Nat.ne_of_lt jp (P.inj hk (Nat.lt_trans jp jn) jn q)
        rcases Nat.lt_or_ge i (j - 1) with q2 | q2
        · have := S i (j - 1) q2 (by lia); lia
        · obtain rfl : i = j - 1 := by lia
          lia
theorem desc_ok {p : Array Nat} (P : Prm n p) {Q : Array Nat × Nat × Nat → Shared → Prop} : ∀ (f m : Nat), 2 ≤ m → m + f = n → (∀ i j, i < j → j < m → kp key p j < kp key p i) →
    (∀ m', m ≤ m' → m' ≤ n → (∀ i j, i < j → j < m' → kp key p j < kp key p i) → Q (p, m', 0) s) → (kas_desc f p m 0).kasWp cmp Q s
  | 0, m, h1, e, S, h => h m (Nat.le_refl _) (by lia) S
  | f + 1, m, h1, e, S, h => by
    unfold kas_desc
    refine hc _ _ _ (P.lt h0 _) (P.lt h0 _) ?_
    show (if decide (kp key p m < kp key p (m - 1)) = true then _ else _ : KasT (Array Nat × Nat × Nat)).kasWp cmp Q s
    by_cases c : kp key p m < kp key p (m - 1)
    · rw [if_pos (by simpa using c), if_neg (by lia)]
      refine desc_ok P f (m + 1) (by lia) (by lia) (fun i j hij hj => ?_) fun m' a b => h m' (by lia) b
      rcases Nat.lt_or_ge j m with q | q
      · exact S _ _ hij q
      · obtain rfl : j = m := by lia
        rcases Nat.lt_or_ge i (j - 1) with q2 | q2
        · have := S i (j - 1) q2 (by lia); lia
        · obtain rfl : i = j - 1 := by lia
          lia
    · rw [if_neg (by simpa using c)]
      refine hc _ _ _ (P.lt h0 _) (P.lt h0 _) ?_
      show (if decide (kp key p (m - 1) < kp key p m) = true then _ else _ : KasT (Array Nat × Nat × Nat)).kasWp cmp Q s
      have ne : kp key p (m - 1) ≠ kp key p m := fun q => by have := P.inj hk (by lia) (by lia) q; lia
      rw [if_pos (by simp; lia)]
      exact h m (Nat.le_refl _) (by lia) S
theorem tail3_ok {p : Array Nat} (P : Prm n p) {m : Nat} {Q : Nat × Array Nat → Shared → Prop} (h1 : 1 ≤ m) (hm : m ≤ n) (S : ∀ i j, i < j → j < m → kp key p j < kp key p i)
    (h : ∀ m' q, Prm n q → 1 ≤ m' → m' ≤ n → Asc key q m' → Q (m', q) s) : (kas_tail3 m n p).kasWp cmp Q s := by
  unfold kas_tail3
  rw [KasT.kasWp_bind]
  have hz := P.size
  refine asc_ok h0 hk hc (prm_rev P _ _) (n - m) m h1 (by omega) (fun i j hij hj => ?_) fun m' a b c _ => h m' _ (prm_rev P _ _) (by omega) b c
  rw [kp_rev (by omega) i (by omega), kp_rev (by omega) j (by omega)]
  exact S _ _ (by omega) (by omega)
theorem count_ok {p : Array Nat} (P : Prm n p) (h2 : 2 ≤ n) {Q : Nat × Array Nat → Shared → Prop} (h : ∀ m q, Prm n q → 1 ≤ m → m ≤ n → Asc key q m → Q (m, q) s) : (kas_count n p).kasWp cmp Q s := by
  unfold kas_count
  rw [KasT.kasWp_bind]
  refine asc_ok h0 hk hc P (n - 1) 1 (Nat.le_refl _) (by lia) (fun i j hij hj => absurd hj (by lia)) fun m a b S d => ?_
  by_cases e : m = n
  · rw [if_pos (by simpa using e)]
    exact h m p P a b S
  · rw [if_neg (by simpa using e)]
    by_cases g : m > 1
    · rw [if_pos g]
      refine hc _ _ _ (P.lt h0 _) (P.lt h0 _) ?_
      show (if decide (kp key p 0 < kp key p (m - 1)) = true then _ else _ : KasT (Nat × Array Nat)).kasWp cmp Q s
      rw [if_pos (by simpa using S 0 (m - 1) (by lia) (by lia))]
      exact h m p P a b S
    · rw [if_neg g]
      obtain rfl : m = 1 := by lia
      have d' : kp key p 1 < kp key p 0 := by
        rcases d with d | d
        · lia
        · exact d
      unfold kas_descPart
      rw [KasT.kasWp_bind]
      refine desc_ok h0 hk hc P (n - 2) 2 (Nat.le_refl _) (by lia) (fun i j hij hj => ?_) fun m' a b S' => ?_
      · obtain rfl : i = 0 := by lia
        obtain rfl : j = 1 := by lia
        exact d'
      · show (if (0 : Nat) > 0 then _ else _ : KasT (Nat × Array Nat)).kasWp cmp Q s
        rw [if_neg (by lia)]
        exact tail3_ok (m := m') h0 hk hc P (by lia) b S' h
theorem sort_ok (h2 : 2 ≤ n) {Q : Array Nat → Shared → Prop} (h : ∀ q, Prm n q → Asc key q n → Q q s) : (kas_sort n).kasWp cmp Q s := by
  unfold kas_sort
  rw [KasT.kasWp_bind]
  refine count_ok h0 hk hc (Array.Perm.refl _) h2 fun m q P a b S => ?_
  show (if m < n then _ else _ : KasT (Array Nat)).kasWp cmp Q s
  by_cases e : m < n
  · rw [if_pos e]
    have em : max m 1 = m := by lia
    rw [em]
    exact bin_ok h0 hk hc (n - m) q m P (by lia) S h
  · rw [if_neg e]
    obtain rfl : m = n := by lia
    exact h q P S
end
end Mine

namespace Mine
noncomputable def AllG (rest : Ledger) (g : Obj → Ledger) : Prop := ∀ o, ∀ x ∈ rest, x ∈ g o
theorem AllG.at {rest : Ledger} {g : Obj → Ledger} (h : AllG rest g) (o : Obj) : ∀ x ∈ rest, x ∈ g o := h o
theorem allG_cons {x : Addr × Obj} {rest : Ledger} {g : Obj → Ledger} (h : AllG rest g) : AllG rest (fun o => x :: g o) := fun o y hy => .tail _ (h o y hy)
theorem sub_cons {y : Addr × Obj} {l l' : Ledger} (h : ∀ x ∈ l, x ∈ l') : ∀ x ∈ l, x ∈ y :: l' := fun x hx => .tail _ (h x hx)
theorem sub_drop2 {x y : Addr × Obj} {l : Ledger} : ∀ q ∈ x :: l, q ∈ x :: y :: l := fun q hq => by
  rcases List.mem_cons.mp hq with e | e
  · rw [e]; exact .head _
  · exact .tail _ (.tail _ e)
theorem updF_cons {p : Addr × Obj} {d : Addr} {o : Obj} {l : Ledger} {g : Obj → Ledger} (h : ∀ q ∈ l, q.1 < p.1) (U : UpdF d o l g) : UpdF d o (p :: l) (fun o' => p :: g o') := by
  obtain ⟨pre, post, rfl, _, _, _⟩ := U.split
  exact .tail (fun e => by have := h (d, o) (List.mem_append_right _ (.head _)); rw [e] at this; exact Nat.lt_irrefl _ this) U
theorem allLt_all {x : Addr} : ∀ {l : Ledger}, AllLt x l → ∀ q ∈ l, q.1 < x
  | [], _, _, h => nomatch h
  | p :: l, a, q, h => by
    have a' : p.1 < x ∧ AllLt x l := a
    rcases List.mem_cons.mp h with e | e
    · rw [e]; exact a'.1
    · exact allLt_all a'.2 q e
theorem updF_allLt {p : Addr × Obj} {d : Addr} {o : Obj} {l : Ledger} {g : Obj → Ledger} (h : AllLt p.1 l) (U : UpdF d o l g) : UpdF d o (p :: l) (fun o' => p :: g o') := updF_cons (allLt_all h) U
theorem updF_ne {p : Addr × Obj} {d : Addr} {o : Obj} {l : Ledger} {g : Obj → Ledger} (h : p.1 ≠ d) (U : UpdF d o l g) : UpdF d o (p :: l) (fun o' => p :: g o') := .tail h U
theorem news_drop2 {h₀ h : Heap} {L : Addr} {x y : Addr × Obj} {l : Ledger} (N : News h₀ L h (x :: y :: l)) : News h₀ L h (x :: l) := fun q hq => N q (sub_drop2 q hq)
theorem room_un {A : Around} {un : Nat} (h : un + 60 < cLine) (e : A.units ≤ un + 50) : A.units + 1 < cLine := by lia
theorem updF_mem {d : Addr} {o : Obj} {l : Ledger} {g : Obj → Ledger} (U : UpdF d o l g) : (d, o) ∈ l := by
  obtain ⟨pre, post, rfl, _, _, _⟩ := U.split
  exact List.mem_append_right _ (.head _)
theorem updF_app {d : Addr} {o : Obj} {l : Ledger} {g : Obj → Ledger} : ∀ {tl : Ledger}, (∀ p ∈ tl, ∀ q ∈ l, q.1 < p.1) → UpdF d o l g → UpdF d o (tl ++ l) (fun o' => tl ++ g o')
  | [], _, U => U
  | p :: tl, h, U => .tail (fun e => Nat.lt_irrefl _ (e ▸ h p (.head _) _ (updF_mem U))) (updF_app (fun q hq => h q (.tail _ hq)) U)
theorem updF_old {p : Addr × Obj} {d : Addr} {o o0 : Obj} {l l0 : Ledger} {g : Obj → Ledger} (h : ∀ q ∈ l0, q.1 < p.1) (m : (d, o0) ∈ l0) (U : UpdF d o l g) : UpdF d o (p :: l) (fun o' => p :: g o') := .tail (fun e => Nat.lt_irrefl _ (e ▸ h _ m)) U
theorem updF_im {p : Addr × Obj} {d : Addr} {o : Obj} {l im : Ledger} {g : Obj → Ledger} (h : ∀ x ∈ im, x.1 ≠ d) (m : p ∈ im) (U : UpdF d o l g) : UpdF d o (p :: l) (fun o' => p :: g o') := .tail (h p m) U
end Mine

namespace Mine
noncomputable abbrev OX := List (List Int × Addr × Value)
noncomputable abbrev Own := List ((Int × Int) × (Int × Int))
noncomputable abbrev tk (w : World) := tupleKind (intKind pw w)
noncomputable abbrev tupO (vs : List Value) (n : Nat) : Obj := { cls := .type "tuple", data := .seq vs.toArray n }
/-- the entries of the own dict against its plain list -/
inductive OwR (im : Ledger) : OX → Own → Prop
  | nil : OwR im [] []
  | cons {f s p fl : Int} {t u tp tf : Tok} {n n' : Nat} {a b : Addr} {xs : OX} {ds : Own} : (a, tupO [.int f t, .int s u] n) ∈ im → (b, tupO [.int p tp, .int fl tf] n') ∈ im → OwR im xs ds →
      OwR im (([f, s], a, .ref b) :: xs) (((f, s), (p, fl)) :: ds)
noncomputable def look (ds : Own) (k : Int × Int) : Option (Int × Int) := (ds.find? fun d => decide (d.1 = k)).map (·.2)
noncomputable def put (ds : Own) (k v : Int × Int) : Own := if (look ds k).isSome then ds.map (fun d => if d.1 = k then (k, v) else d) else ds ++ [(k, v)]
noncomputable def drp (ds : Own) (k : Int × Int) : Own := ds.filter fun d => decide (d.1 ≠ k)
noncomputable def Ow (w : World) (im : Ledger) (o : Obj) (ds : Own) : Prop :=
  ∃ xs : OX, o.ExactDict ∧ (∃ es ep, o.data = .dict es ep ∧ es.toList = xs.map (entryOfKey (tk w))) ∧ (ds.map (·.1)).Nodup ∧ OwR im xs ds
section
variable {w : World} {A : Around} {E : Value → Shared → Prop} {s : Shared} {h₀ : Heap} {L d : Addr} {m : Str → Option Value} {news im im' : Ledger} {g : Obj → Ledger} {o : Obj} {ds : Own} {xs : OX}
theorem OwR.mono (h : ∀ x ∈ im, x ∈ im') (r : OwR im xs ds) : OwR im' xs ds := by
  induction r with
  | nil => exact .nil
  | cons a b _ ih => exact .cons (h _ a) (h _ b) ih
theorem Ow.mono (h : ∀ x ∈ im, x ∈ im') (r : Ow w im o ds) : Ow w im' o ds := let ⟨xs, a, b, c, q⟩ := r; ⟨xs, a, b, c, q.mono h⟩
theorem OwR.len (r : OwR im xs ds) : xs.length = ds.length := by induction r with | nil => rfl | cons _ _ _ ih => simp [ih]
theorem OwR.keys (r : OwR im xs ds) : xs.map (·.1) = (ds.map (·.1)).map fun k => [k.1, k.2] := by induction r with | nil => rfl | cons _ _ _ ih => simp [ih]
theorem OwR.nodup (r : OwR im xs ds) (h : (ds.map (·.1)).Nodup) : (xs.map (·.1)).Nodup := by
  rw [r.keys]
  refine List.Pairwise.map _ (fun a b e q => e ?_) h
  injection q with q1 q2
  injection q2 with q2 _
  exact Prod.ext q1 q2
theorem OwR.at (r : OwR im xs ds) (f u : Int) : (atKey xs [f, u] = none ∧ look ds (f, u) = none) ∨
    ∃ a b p fl tp tf n, atKey xs [f, u] = some (a, .ref b) ∧ look ds (f, u) = some (p, fl) ∧ (b, tupO [.int p tp, .int fl tf] n) ∈ im := by
  induction r with
  | nil => exact .inl ⟨rfl, rfl⟩
  | @cons f' s' p fl t u' tp tf n n' a b xs ds h1 h2 _ ih =>
    unfold atKey look at *
    by_cases e : (f', s') = (f, u)
    · injection e with e1 e2
      subst e1; subst e2
      exact .inr ⟨a, b, p, fl, tp, tf, n', by simp, by simp, h2⟩
    · have e' : ¬ [f', s'] = [f, u] := fun q => by
        injection q with q1 q2
        injection q2 with q2 _
        exact e (by rw [q1, q2])
      simpa [e, e', List.find?_cons] using ih
theorem OwR.isKey (N : News h₀ L s.heap news) (h : ∀ x ∈ im, x ∈ news) (r : OwR im xs ds) : ∀ x ∈ xs, (tk w).is s.heap x.1 x.2.1 := by
  induction r with
  | nil => intro x hx; simp at hx
  | cons h1 _ _ ih =>
    intro x hx
    rcases List.mem_cons.mp hx with rfl | hx
    · exact ⟨_, _, _, (N _ (h _ h1)).1, rfl, rfl, .cons (intKind_is pw w _ _) (.cons (intKind_is pw w _ _) .nil)⟩
    · exact ih x hx
theorem keyAt {a : Addr} {f u : Int} {t t' : Tok} {n : Nat} (N : News h₀ L s.heap news) (h : (a, tupO [.int f t, .int u t'] n) ∈ news) : (tk w).is s.heap [f, u] a :=
  ⟨_, _, _, (N _ h).1, rfl, rfl, .cons (intKind_is pw w _ _) (.cons (intKind_is pw w _ _) .nil)⟩
theorem Ow.dict (N : News h₀ L s.heap news) (hp : (d, o) ∈ news) (h : ∀ x ∈ im, x ∈ news) (W : Ow w im o ds) : ∃ xs, s.heap.DictOfH (tk w) d xs ∧ OwR im xs ds := by
  obtain ⟨xs, hc, ⟨es, ep, hd, he⟩, hn, r⟩ := W
  exact ⟨xs, ⟨o, es, ep, (N _ hp).1, hc, hd, he, r.isKey N h, r.nodup hn⟩, r⟩

theorem OwR.map_put (r : OwR im xs ds) {f u p fl : Int} {tp tf : Tok} {n : Nat} {b : Addr} (hb : (b, tupO [.int p tp, .int fl tf] n) ∈ im) :
    OwR im (xs.map (putAt [f, u] (.ref b))) (ds.map (fun d => if d.1 = (f, u) then ((f, u), (p, fl)) else d)) := by
  induction r with
  | nil => exact .nil
  | @cons f' s' p' fl' t u' tp tf n n' a b xs ds h1 h2 r ih =>
    by_cases e : (f', s') = (f, u)
    · injection e with e1 e2
      subst e1; subst e2
      simpa [putAt] using OwR.cons h1 hb ih
    · have e' : ¬ [f', s'] = [f, u] := fun q => by
        injection q with q1 q2
        injection q2 with q2 _
        exact e (by rw [q1, q2])
      simpa [putAt, e, e'] using OwR.cons h1 h2 ih
theorem OwR.snoc (r : OwR im xs ds) {f u p fl : Int} {t t' tp tf : Tok} {n n' : Nat} {a b : Addr} (ha : (a, tupO [.int f t, .int u t'] n) ∈ im) (hb : (b, tupO [.int p tp, .int fl tf] n') ∈ im) :
    OwR im (xs ++ [([f, u], a, .ref b)]) (ds ++ [((f, u), (p, fl))]) := by
  induction r with
  | nil => exact .cons ha hb .nil
  | cons h1 h2 _ ih => exact .cons h1 h2 ih
theorem OwR.drop (r : OwR im xs ds) (f u : Int) : OwR im (xs.filter fun x => decide (x.1 ≠ [f, u])) (drp ds (f, u)) := by
  unfold drp
  induction r with
  | nil => exact .nil
  | @cons f' s' p' fl' t u' tp tf n n' a b xs ds h1 h2 r ih =>
    by_cases e : (f', s') = (f, u)
    · injection e with e1 e2
      subst e1; subst e2
      simpa using ih
    · have e' : ¬ [f', s'] = [f, u] := fun q => by
        injection q with q1 q2
        injection q2 with q2 _
        exact e (by rw [q1, q2])
      rw [List.filter_cons, List.filter_cons, if_pos (decide_eq_true e'), if_pos (decide_eq_true e)]
      exact OwR.cons h1 h2 ih
theorem look_none {k : Int × Int} (h : look ds k = none) : k ∉ ds.map (·.1) := by
  intro hm
  obtain ⟨x, hx, rfl⟩ := List.mem_map.mp hm
  unfold look at h
  rw [Option.map_eq_none_iff, List.find?_eq_none] at h
  exact h x hx (by simp)
theorem nodup_put (h : (ds.map (·.1)).Nodup) (k v : Int × Int) : ((put ds k v).map (·.1)).Nodup := by
  unfold put
  split
  · have : (ds.map (fun d => if d.1 = k then (k, v) else d)).map (·.1) = ds.map (·.1) := by
      rw [List.map_map]
      refine List.map_congr_left fun x _ => ?_
      show (if x.1 = k then (k, v) else x).1 = x.1
      split
      · rename_i e; exact e.symm
      · rfl
    rw [this]; exact h
  · rename_i e
    rw [List.map_append, List.nodup_append]
    refine ⟨h, by simp, fun a ha b hb q => ?_⟩
    simp only [List.map_cons, List.map_nil, List.mem_singleton] at hb
    have e' : look ds k = none := by simpa using e
    exact look_none e' (hb ▸ q ▸ ha)
theorem nodup_drp (h : (ds.map (·.1)).Nodup) (k : Int × Int) : ((drp ds k).map (·.1)).Nodup := by
  unfold drp
  exact h.sublist ((List.filter_sublist).map _)

variable {f u : Int} {ka : Addr} {t t' : Tok} {n : Nat}
theorem news_in {x : Addr × Obj} {h : Heap} (N : News h₀ L h news) (hx : x ∈ news) : News h₀ L h (x :: news) := fun q hq => by
  rcases List.mem_cons.mp hq with e | e
  · rw [e]; exact N _ hx
  · exact N _ e
theorem tup_ne {b : Addr} {vs : List Value} {n : Nat} {h : Heap} (N : News h₀ L h news) (hp : (d, o) ∈ news) (hi : ∀ x ∈ im, x ∈ news) (W : Ow w im o ds) (hb : (b, tupO vs n) ∈ im) : b ≠ d := by
  rintro rfl
  have e := (N _ (hi _ hb)).1.symm.trans (N _ hp).1
  have e : tupO vs n = o := Option.some.inj e
  obtain ⟨_, hc, _⟩ := W
  have := hc.1
  rw [← e] at this
  injection this with q
  exact absurd q (by decide)
theorem ow_in {Q : Value → Shared → Prop} (hu : A.units + 1 < cLine) (N : News h₀ L s.heap news) (hp : (d, o) ∈ news) (lo : (d == sysModules) = false) (h : ∀ x ∈ im, x ∈ news) (W : Ow w im o ds) (hk : (ka, tupO [.int f t, .int u t'] n) ∈ news)
    (hq : Q (.bool (look ds (f, u)).isSome) { s with toks := s.toks + 3 }) : wpAny (model pw w) A (compareOp .In (.ref ka) (.ref d)) Q E s := by
  obtain ⟨xs, hD, r⟩ := W.dict N hp h
  refine wpAny_in_heap (knd := tk w) (tupleKind_room_in1 hu) (keyAt N hk) lo hD ?_
  rcases r.at f u with ⟨e1, e2⟩ | ⟨a, b, p, fl, tp, tf, n', e1, e2, _⟩
  · rw [e1]; rw [e2] at hq; exact hq
  · rw [e1]; rw [e2] at hq; exact hq
theorem ow_in_eq {b : Bool} {Q : Value → Shared → Prop} (hb : (look ds (f, u)).isSome = b) (hu : A.units + 1 < cLine) (N : News h₀ L s.heap news) (hp : (d, o) ∈ news) (lo : (d == sysModules) = false) (h : ∀ x ∈ im, x ∈ news) (W : Ow w im o ds) (hk : (ka, tupO [.int f t, .int u t'] n) ∈ news)
    (hq : Q (.bool b) { s with toks := s.toks + 3 }) : wpAny (model pw w) A (compareOp .In (.ref ka) (.ref d)) Q E s := ow_in hu N hp lo h W hk (hb ▸ hq)
theorem ow_item {value slice : Expr} {Q : Value → Shared → Prop} {p fl : Int} (hu : A.units + 1 < cLine) (N : News h₀ L s.heap news) (hp : (d, o) ∈ news) (h : ∀ x ∈ im, x ∈ news) (W : Ow w im o ds) (hk : (ka, tupO [.int f t, .int u t'] n) ∈ news)
    (hl : look ds (f, u) = some (p, fl)) (hq : ∀ b tp tf n', (b, tupO [.int p tp, .int fl tf] n') ∈ im → b ≠ d → News h₀ L s.heap ((b, tupO [.int p tp, .int fl tf] n') :: news) → Q (.ref b) { s with toks := s.toks + 3 })
    (hs : subscripted slice false (.ref d) (.ref ka) = operate [.ref d, .ref ka] (getItem (.ref d) (.ref ka))) (hg : ∀ r, letTemporaryGo value (.ref d) r = pure ()) :
    wpAny (model pw w) A (subscriptTail value slice (.ref d) (.ref ka)) Q E s := by
  obtain ⟨xs, hD, r⟩ := W.dict N hp h
  rcases r.at f u with ⟨e1, e2⟩ | ⟨a, b, p', fl', tp, tf, n', e1, e2, hb⟩
  · rw [hl] at e2; cases e2
  · rw [hl] at e2
    cases e2
    exact subscriptTail_builtin hD.typeIs slot_dict_getitem.lookup (wpAny_getItem_heap (tupleKind_room_in1 hu) (keyAt N hk) hD e1 (hq b tp tf n' hb (tup_ne N hp h W hb) (news_in N (h _ hb)))) hs hg
theorem ow_method {name : Str} {id : String} {pl : Sem Bool} {Q : Value × List Value → Shared → Prop} (slot : Slot "dict" name id) (ty : typeOf (.builtin id) = pure (.type "method_descriptor")) (N : News h₀ L s.heap news) (hp : (d, o) ∈ news)
    (h : ∀ x ∈ im, x ∈ news) (W : Ow w im o ds) (hq : Q (.builtin id, [.ref d]) s) : wpAny (model pw w) A (getMethod (.ref d) name pl) Q E s := by
  obtain ⟨xs, hD, r⟩ := W.dict N hp h
  exact getMethod_builtin hD.typeIs PySem.F.plainAttrs_dict slot ty (dictOfH_noDict hD) hq
theorem ow_get2 {Q : Value → Shared → Prop} {dflt : Value} (hu : A.units + 1 < cLine) (N : News h₀ L s.heap news) (hp : (d, o) ∈ news) (lo : (d == sysModules) = false) (h : ∀ x ∈ im, x ∈ news) (W : Ow w im o ds) (hk : (ka, tupO [.int f t, .int u t'] n) ∈ news)
    (hq0 : look ds (f, u) = none → Q dflt { s with toks := s.toks + 3 })
    (hq : ∀ p fl b tp tf n', look ds (f, u) = some (p, fl) → (b, tupO [.int p tp, .int fl tf] n') ∈ im → b ≠ d → News h₀ L s.heap ((b, tupO [.int p tp, .int fl tf] n') :: news) → Q (.ref b) { s with toks := s.toks + 3 }) :
    wpAny (model pw w) A (call (.builtin "dict.get") [.ref d, .ref ka, dflt]) Q E s := by
  obtain ⟨xs, hD, r⟩ := W.dict N hp h
  refine call_meetsIn PySem.F.slot_dict_get hD.typeIs PySem.F.entry_dict_get (PySem.F.args_dict_get_3 _ _ _) (meetsH_dict_get_default (tk w) d ka lo dflt) ⟨tupleKind_room_in1 hu, [f, u], xs, keyAt N hk, hD, ?_⟩
  rcases r.at f u with ⟨e1, e2⟩ | ⟨a, b, p, fl, tp, tf, n', e1, e2, hb⟩
  · rw [e1]; exact hq0 e2
  · rw [e1]; exact hq p fl b tp tf n' e2 hb (tup_ne N hp h W hb) (news_in N (h _ hb))
theorem ow_getN {Q : Value → Shared → Prop} {dflt : Value} (hl : look ds (f, u) = none) (hu : A.units + 1 < cLine) (N : News h₀ L s.heap news) (hp : (d, o) ∈ news) (lo : (d == sysModules) = false) (h : ∀ x ∈ im, x ∈ news) (W : Ow w im o ds) (hk : (ka, tupO [.int f t, .int u t'] n) ∈ news)
    (hq0 : Q dflt { s with toks := s.toks + 3 }) :
    wpAny (model pw w) A (call (.builtin "dict.get") [.ref d, .ref ka, dflt]) Q E s :=
  ow_get2 hu N hp lo h W hk (fun _ => hq0) fun p fl b tp tf n' e => by rw [hl] at e; cases e
theorem ow_getS {Q : Value → Shared → Prop} {dflt : Value} {p fl : Int} (hl : look ds (f, u) = some (p, fl)) (hu : A.units + 1 < cLine) (N : News h₀ L s.heap news) (hp : (d, o) ∈ news) (lo : (d == sysModules) = false) (h : ∀ x ∈ im, x ∈ news) (W : Ow w im o ds) (hk : (ka, tupO [.int f t, .int u t'] n) ∈ news)
    (hq : ∀ b tp tf n', (b, tupO [.int p tp, .int fl tf] n') ∈ im → b ≠ d → News h₀ L s.heap ((b, tupO [.int p tp, .int fl tf] n') :: news) → Q (.ref b) { s with toks := s.toks + 3 }) :
    wpAny (model pw w) A (call (.builtin "dict.get") [.ref d, .ref ka, dflt]) Q E s :=
  ow_get2 hu N hp lo h W hk (fun e => by rw [hl] at e; cases e) fun p' fl' b tp tf n' e => by
    rw [hl] at e
    cases e
    exact hq b tp tf n'
theorem ow_set {Q : Unit → Shared → Prop} {p fl : Int} {tp tf : Tok} {n' : Nat} {vb : Addr} (hu : A.units + 1 < cLine) (F : Fr h₀ L s.heap m) (N : News h₀ L s.heap news) (U : UpdF d o news g) (h : ∀ x ∈ im, x ∈ news) (W : Ow w im o ds)
    (hk : (ka, tupO [.int f t, .int u t'] n) ∈ news) (hv : (vb, tupO [.int p tp, .int fl tf] n') ∈ news) (hz : ds.length ≤ 1000)
    (hq : ∀ h' o', Fr h₀ L h' m → News h₀ L h' (g o') → Ow w ((ka, tupO [.int f t, .int u t'] n) :: (vb, tupO [.int p tp, .int fl tf] n') :: im) o' (put ds (f, u) (p, fl)) → Q () { s with heap := h', toks := s.toks + 3 }) :
    wpAny (model pw w) A (setItem (.ref d) (.ref ka) (.ref vb)) Q E s := by
  obtain ⟨pre, post, rfl, hg, a, b⟩ := U.split
  have hm : (d, o) ∈ pre ++ (d, o) :: post := List.mem_append_right _ (.head _)
  obtain ⟨xs, hD, r⟩ := W.dict N hm h
  have hn : (ds.map (·.1)).Nodup := let ⟨_, _, _, c, _⟩ := W; c
  refine wpAny_setItem_heap (knd := tk w) (tupleKind_room_in1 hu) (keyAt N hk) hD (fun h' hD' hs => ?_) (by rw [sizeLine_eq, r.len]; lia)
  obtain ⟨o', es, ep, ho', hc', hd', he', _, _⟩ := hD'
  have hN := N _ hm
  refine hq h' o' (F.change hs hN.2.1 hN.2.2) (hg o' ▸ N.setIn a b hs ho') ⟨_, hc', ⟨es, ep, hd', he'⟩, nodup_put hn _ _, ?_⟩
  have r' := r.mono (im' := (ka, tupO [.int f t, .int u t'] n) :: (vb, tupO [.int p tp, .int fl tf] n') :: im) (fun x hx => .tail _ (.tail _ hx))
  unfold put
  rcases r.at f u with ⟨e1, e2⟩ | ⟨a, b, p', fl', tp, tf, n'', e1, e2, hb⟩
  · rw [storedH_new e1, if_neg (by simp [e2])]
    exact r'.snoc (.head _) (.tail _ (.head _))
  · rw [storedH_old e1, if_pos (by simp [e2])]
    exact r'.map_put (.tail _ (.head _))
theorem erase_filter : ∀ (xs : OX) (j : Nat) (k : List Int) (p : Addr × Value), (xs.map (·.1)).Nodup → xs[j]? = some (k, p) → xs.eraseIdx j = xs.filter fun x => decide (x.1 ≠ k)
  | [], j, k, p, _, h => by simp at h
  | x :: xs, 0, k, p, hn, h => by
    simp only [List.getElem?_cons_zero, Option.some.injEq] at h
    subst h
    rw [List.map_cons, List.nodup_cons] at hn
    rw [List.eraseIdx_cons_zero, List.filter_cons, if_neg (by simp)]
    symm
    rw [List.filter_eq_self]
    intro y hy
    exact decide_eq_true fun e => hn.1 (List.mem_map.mpr ⟨y, hy, e⟩)
  | x :: xs, j + 1, k, p, hn, h => by
    rw [List.getElem?_cons_succ] at h
    rw [List.map_cons, List.nodup_cons] at hn
    have hne : x.1 ≠ k := fun e => hn.1 (by rw [e]; exact List.mem_map.mpr ⟨(k, p), List.mem_of_getElem? h, rfl⟩)
    rw [List.eraseIdx_cons_succ, List.filter_cons, if_pos (by simpa using hne), erase_filter xs j k p hn.2 h]
theorem map_erase {α β : Type} (f : α → β) : ∀ (l : List α) (j : Nat), (l.map f).eraseIdx j = (l.eraseIdx j).map f
  | [], _ => rfl
  | _ :: _, 0 => rfl
  | x :: l, j + 1 => by rw [List.map_cons, List.eraseIdx_cons_succ, List.eraseIdx_cons_succ, List.map_cons, map_erase f l j]
theorem takeOut_heap {xs : OX} {k : List Int} {a : Addr} {p : Addr × Value} {Q : Option DictEntry → Shared → Prop} (hu : A.units < cLine) (hkey : (tk w).is s.heap k a) (hm : s.heap.DictOfH (tk w) d xs) (hp : atKey xs k = some p)
    (hQ : ∀ e h' o' es' ep', e.val = p.2 → h'.get? d = some o' → o'.ExactDict → o'.data = .dict es' ep' → es'.toList = (xs.filter fun x => decide (x.1 ≠ k)).map (entryOfKey (tk w)) → Heap.SameBut d s.heap h' → Q (some e) { s with heap := h', toks := s.toks + (k.length + 1) })
    (hsz : xs.length ≤ 1000) : wpAny (model pw w) A (Builtin.Dict.takeOut d (.ref a)) Q E s := by
  obtain ⟨o, es, ep, ho, hc, hd, he, his, hn⟩ := hm
  unfold Builtin.Dict.takeOut
  try with_reducible refine wpAny_holding ?_
  refine wpAny_bind ((tk w).pyHash hu hkey ?_)
  refine wpAny_bind (wpAny_dictFind_heap (s := { s with toks := s.toks + (tk w).draws k }) hu hkey ho hd he his hn (fun hno => ?_) fun j q hj => ?_)
  · rw [atKey_none_of_get hno] at hp; cases hp
  · have e1 := atKey_of_get hn hj
    rw [hp] at e1
    injection e1 with e1
    subst e1
    refine wpAny_bind (wpAny_dictEntries (s := { s with toks := s.toks + (tk w).draws k }) ho hd ?_)
    rw [entry_at he j, hj]
    refine wpAny_bind (wpAny_updateDictKeys (hz := by have e := size_of_entries he; rw [sizeLine_eq]; lia) (s := { s with toks := s.toks + (tk w).draws k }) ho hd (wpAny_pure (hQ _ _ _ _ _ rfl (Heap.get?_update_self _ ho (Obj.isFreed_of_dict (Obj.data_mapDictKeys hd _)))
      (hc.mapDictKeys _) (Obj.data_mapDictKeys hd _) ?_ (Heap.SameBut.update ..))))
    rw [← erase_filter xs j k p hn hj]
    obtain ⟨l⟩ := es
    simp only at he
    subst he
    simp [map_erase]
theorem ow_pop {Q : Value → Shared → Prop} {p fl : Int} (hu : A.units + 1 < cLine) (F : Fr h₀ L s.heap m) (N : News h₀ L s.heap news) (U : UpdF d o news g) (h : ∀ x ∈ im, x ∈ news) (W : Ow w im o ds)
    (hk : (ka, tupO [.int f t, .int u t'] n) ∈ news) (hl : look ds (f, u) = some (p, fl)) (hz : ds.length ≤ 1000)
    (hq : ∀ x h' o', Fr h₀ L h' m → News h₀ L h' (g o') → Ow w im o' (drp ds (f, u)) → Q x { s with heap := h', toks := s.toks + 3 }) :
    wpAny (model pw w) A (call (.builtin "dict.pop") [.ref d, .ref ka]) Q E s := by
  obtain ⟨pre, post, rfl, hg, a, b⟩ := U.split
  have hm : (d, o) ∈ pre ++ (d, o) :: post := List.mem_append_right _ (.head _)
  obtain ⟨xs, hD, r⟩ := W.dict N hm h
  have hn : (ds.map (·.1)).Nodup := let ⟨_, _, _, c, _⟩ := W; c
  have hT := hD.typeIs
  refine wpAny_call_entry PySem.F.slot_dict_pop hT PySem.F.entry_dict_pop ?_ (PySem.F.args_dict_pop_2 _ _)
  unfold Builtin.«dict.pop»
  refine wpAny_bind ?_
  unfold Builtin.Dict.keyAndDefault
  refine wpAny_bind (wpAny_notOrdered_dict hT ?_)
  show wpAny _ _ (pure (d, Value.ref ka, none)) _ _ s
  refine wpAny_pure ?_
  rcases r.at f u with ⟨e1, e2⟩ | ⟨a', b', p', fl', tp, tf, n'', e1, e2, hb⟩
  · rw [hl] at e2; cases e2
  obtain ⟨o1, es, ep, ho, hc, hd, he, his, hnd⟩ := id hD
  have hne : es.isEmpty = false := by
    have : es.toList ≠ [] := by
      rw [he]
      intro q
      rw [List.map_eq_nil_iff] at q
      subst q
      simp [atKey] at e1
    obtain ⟨l⟩ := es
    simpa using this
  simp only [keyPart, Option.isSome_none, Bool.false_eq_true, if_false]
  refine wpAny_bind (wpAny_dictEntries ho hd (wpAny_bind (wpAny_pure ?_)))
  rw [hne]
  simp only [Bool.false_eq_true, if_false]
  have hN := N _ hm
  refine wpAny_bind (takeOut_heap (tupleKind_room_in1 (A := A) (knd := intKind pw w) hu) (keyAt N hk) hD e1 (fun e h' o' es' ep' hev ho' hc' hd' he' hs => ?_) (by rw [r.len]; exact hz))
  simp only [Option.isNone_some, Bool.false_eq_true, if_false]
  exact wpAny_bind (wpAny_letGo (wpAny_pure ⟨e.val, rfl, hq _ h' o' (F.change hs hN.2.1 hN.2.2) (hg o' ▸ N.setIn a b hs ho') ⟨_, hc', ⟨es', ep', hd', he'⟩, nodup_drp hn _, r.drop f u⟩⟩))
end
end Mine

namespace Mine
/-- the flags that a number gives a page -/
noncomputable def lawFl (n : Int) : Int := [22, 18, 24, 2, 30].getD (n.fmod 5).toNat 0
noncomputable def addOf (n : Int) : Int := [4, 64, 16].getD (n.fmod 3).toNat 0
noncomputable def takeOf (n : Int) : Int := [64, 4, 128].getD (n.fmod 3).toNat 0
end Mine

namespace Mine
section
variable {w : World} {p : Program} {loose : List Str} {mean : ExcName → Option Value} {mg mb : Str → Option Value}
  {dp un : Nat} {gd : Option (List Code)} {cn : Str} {cs : Scope} {a : Addr} {ccd : Value} {cl : List (Str × Addr)} {outer : List Env} {A₀ : Around} {base h₀ : Heap} {L : Addr} {m : Str → Option Value} {s : Shared} {Q E : Value → Shared → Prop} {news : List (Addr × Obj)}
theorem flags_spec {n : Int} {t1 : Tok}
  (B : Below A₀ base outer h₀) (F : Fr h₀ L s.heap m) (X : (KF w.params).In h₀) (N : News h₀ L s.heap news) (T : Top p loose mean mg mb h₀) (hk : cs.kind = .function) (hd : dp + 4 < recursionLimit)
  (hret : ∀ t h' tk', Fr h₀ L h' m → News h₀ L h' news → Q (.int (lawFl n) t) { s with heap := h', toks := tk' }) :
  wpAny (model pw w) (ktrTop dp un gd cn cs L a ccd cl outer) (call (.ref 845) [.int n t1]) Q E s := by
  k_steps
  all_goals first
    | exact hret _ _ _ (by assumption) (by assumption)
    | exact hret _ _ _ (by assumption) (news_drop (by assumption))
    | skip
end
end Mine

namespace Mine
open PySem.Builtin PySem.Builtin.ObjectAttr
theorem ga_kind : builtinKind "BaseException.__getattribute__" = some .slot := by decide +kernel
theorem ga_split : splitId "BaseException.__getattribute__" = some ("BaseException", "__getattribute__") := by decide +kernel
section
variable {prog : Program} {w : World} {A : Around} {E : Value → Shared → Prop} {s : Shared} {K : Frag} {x C D : Addr} {ox : Obj} {od : Option Obj} {name : Str} {v : Value} {cd : ClassData}
/-- an attribute of an own exception -/
theorem xc_get {expr : Bool} {Q : Value → Shared → Prop} (X : K.In s.heap) (I : InstAt s.heap x ox C od) (hc : clsIn K C = some cd) (hm : cd.mro = .ref C :: .ref D :: vErr)
    (hga : findIn K (.ref C) "__getattribute__" = some (some (.builtin "BaseException.__getattribute__"))) (hk : findIn K (.ref C) "__getattr__" = some none)
    (hf : findObj K C od name = some (.value v)) (hh : handedIn v = true) (h : Q v { s with toks := s.toks + 1 }) : wpAny (model prog w) A (getAttr (.ref x) name expr) Q E s := by
  have sub : Looks (model prog w) s.heap (isInstance (.ref x) (.type "BaseException")) true := I.type.andThen (looks_mroIn X (by
    unfold mroIn
    rw [hc, Option.bind_some, if_neg (by rw [xc_ne hm]; decide), hm]
    rfl))
  obtain ⟨hh', g, d, t, os⟩ := s
  have L0 := I.type (M := model prog w)
  have L1 := looks_findIn (M := model prog w) X hga
  have L2 := looks_findIn (M := model prog w) X hk
  have L3 := looks_find (M := model prog w) X I hf
  have FX := PySem.F.excAttr_ValueError.ga
  unfold getAttr getAttrBy
  refine wpAny_bind (wpAny_mkText (wpAny_holding (wpAny_bind (L0.at (wpAny_bind (L1.at ?_))))))
  dsimp only
  rw [if_neg (by rw [show (Value.builtin "BaseException.__getattribute__" == Value.builtin "object.__getattribute__") = false by decide, Bool.and_false]; exact Bool.false_ne_true)]
  unfold getAttrByItsOwn hookBefore
  refine wpAny_bind (L2.at ?_)
  have hx0 : (expr && onTheHeap (Value.builtin "BaseException.__getattribute__")) = false := by cases expr <;> rfl
  refine wpAny_bind (wpAny_attempt (wpAny_holding ?_))
  unfold callGetattribute
  rw [hx0, if_neg (by decide)]
  unfold boundAndCalled
  rw [FX.bind]
  refine wpAny_bind (wpAny_pure ?_)
  refine wpAny_call (codeAny_call_builtin FX.plain PySem.F.entry_bexc_ga (@check_slot (model prog w) _ _ _ _ _ _ (.ref x) [.str name t] [] _ ga_kind ga_split sub (PySem.F.args_bexc_ga (.ref x) (.str name t)) ?_))
  unfold Builtin.«object.__getattribute__»
  refine wpAny_bind (wpAny_pure ?_)
  refine wpAny_bind (wpAny_pure (wpAny_bind (L0.at (wpAny_bind (L3.at ?_)))))
  refine wpAny_pure ?_
  show wpAny _ _ (handedOut v) _ _ _
  rw [handedOut_of hh]; exact wpAny_pure h
theorem xc_getK {h₀ : Heap} {L d : Addr} {m : Str → Option Value} {news : List (Addr × Obj)} {fs : Array Value} {sl : Array (Option Value)} {es : List DictEntry} {n : Nat} {attr : Option Value} {expr : Bool} {Q : Value → Shared → Prop}
    (F : Fr h₀ L s.heap m) (X₀ : K.In h₀) (N : News h₀ L s.heap news) (hx : (x, (⟨.ref C, some d, .fields fs, sl⟩ : Obj)) ∈ news) (hdm : (d, dictOf es n) ∈ news) (hc : clsIn K C = some cd) (hm : cd.mro = .ref C :: .ref D :: vErr)
    (hga : findIn K (.ref C) "__getattribute__" = some (some (.builtin "BaseException.__getattribute__"))) (hk : findIn K (.ref C) "__getattr__" = some none)
    (hh : hasDictIn K C = true) (ha : findIn K (.ref C) name = some attr) (hn : noGet K attr = true) (hl : getL name es = some (some v)) (hv : handedIn v = true)
    (h : Q v { s with toks := s.toks + 1 }) : wpAny (model prog w) A (getAttr (.ref x) name expr) Q E s :=
  xc_get (X₀.keeps F.keep) (ox := ⟨.ref C, some d, .fields fs, sl⟩) (od := some (dictOf es n)) ⟨(N _ hx).1, rfl, rfl, (N _ hdm).1⟩ hc hm hga hk (findObj_own hh ha hn hl) hv h
end
end Mine

namespace Mine
section
variable {w : World} {p : Program} {loose : List Str} {mean : ExcName → Option Value} {mg mb : Str → Option Value}
  {dp un : Nat} {gd : Option (List Code)} {cn : Str} {cs : Scope} {a : Addr} {ccd : Value} {cl : List (Str × Addr)} {outer : List Env} {A₀ : Around} {base h₀ : Heap} {L : Addr} {m : Str → Option Value} {s : Shared} {Q E : Value → Shared → Prop} {news : List (Addr × Obj)}
variable {D : Addr} {oD : Obj} {ds : Own} {im : Ledger} {g : Obj → Ledger}
noncomputable def turnO (old n : Int) : Int := Builtin.bitOr (Builtin.bitAnd old (1023 - takeOf n)) (addOf n)
theorem rulesD10 : True := by
  k_with "H0" => first | with_reducible assumption | exact (fun _ hZ => hZ) | (refine AllG.at ?_ _; with_reducible assumption) | (refine sub_cons ?_; first | with_reducible assumption | exact (fun _ hZ => hZ) | (refine AllG.at ?_ _; with_reducible assumption) | (refine sub_cons ?_; first | with_reducible assumption | exact (fun _ hZ => hZ) | (refine AllG.at ?_ _; with_reducible assumption) | (refine sub_cons ?_; first | with_reducible assumption | exact (fun _ hZ => hZ) | (refine AllG.at ?_ _; with_reducible assumption) | (refine sub_cons ?_; first | with_reducible assumption | exact (fun _ hZ => hZ) | (refine AllG.at ?_ _; with_reducible assumption) | (refine sub_cons ?_; first | with_reducible assumption | exact (fun _ hZ => hZ) | (refine AllG.at ?_ _; with_reducible assumption))))))
  k_with "H2" => (refine room_un (by assumption) ?_; simp (config := {zetaDelta := true}) only [units_deeper, units_in1]; (first | exact unle2 (Nat.le_of_ble_eq_true rfl) | exact unle1 (Nat.le_of_ble_eq_true rfl) | omega))
  k_with "compareOp In ref ref" => (k_here; k_dflt (refine' ow_in ?k1 ?k2 ?k3 ?k4 ?k5 ?k6 ?k7 ?_; (case k2 => k_asm); (case k3 => k_mem); (case k4 => assumption); (case k6 => assumption); (case k5 => k_extra "H0"); (case k7 => k_mem); (case k1 => k_extra "H2")))
  k_with "compareOp In ref ref" => (k_here; k_dflt (refine' ow_in_eq ?k0 ?k1 ?k2 ?k3 ?k4 ?k5 ?k6 ?k7 ?_; (case k2 => k_asm); (case k6 => assumption); (case k7 => k_mem); (case k0 => assumption); (case k3 => k_mem); (case k4 => assumption); (case k5 => k_extra "H0"); (case k1 => k_extra "H2")))
  k_with "subscriptTail" => (k_here; (with_reducible show wpAny _ _ (subscriptTail _ _ (Value.ref _) (Value.ref _)) _ _ _); k_dflt (with_unfolding_all refine' ow_item ?k1 ?k2 ?k3 ?k4 ?k5 ?k6 ?k7 ?_ ?k8 ?k9; (case k2 => k_asm); (case k3 => k_mem); (case k5 => assumption); (case k4 => k_extra "H0"); (case k6 => k_mem); (case k7 => assumption); (case k1 => k_extra "H2"); (case k8 => with_unfolding_all rfl); (case k9 => (intro _; with_unfolding_all rfl))); intro b'Z tp'Z tf'Z n'Z hb'Z hne'Z N'Z)
  k_with "getMethod ref" => (k_here; (with_reducible show wpAny _ _ (getMethod (Value.ref _) (Str.ofString "get") _) _ _ _); k_dflt (refine' ow_method PySem.F.slot_dict_get PySem.F.type_dict_get ?k1 ?k2 ?k3 ?k4 ?_; (case k1 => k_asm); (case k2 => k_mem); (case k4 => assumption); (case k3 => k_extra "H0")))
  k_with "getMethod ref" => (k_here; (with_reducible show wpAny _ _ (getMethod (Value.ref _) (Str.ofString "pop") _) _ _ _); k_dflt (refine' ow_method PySem.F.slot_dict_pop PySem.F.type_dict_pop ?k1 ?k2 ?k3 ?k4 ?_; (case k1 => k_asm); (case k2 => k_mem); (case k4 => assumption); (case k3 => k_extra "H0")))
  k_with "call builtin:dict.get" => (k_here; k_dflt (refine' ow_get2 ?k1 ?k2 ?k3 ?k4 ?k5 ?k6 ?k7 (fun hl'Z => ?_) (fun p'Z fl'Z b'Z tp'Z tf'Z n'Z hl'Z hb'Z hne'Z N'Z => ?_); (case k2 => k_asm); (case k3 => k_mem); (case k4 => assumption); (case k6 => assumption); (case k5 => k_extra "H0"); (case k7 => k_mem); (case k1 => k_extra "H2")))
  k_with "call builtin:dict.get" => (k_here; k_dflt (refine' ow_getN ?k0 ?k1 ?k2 ?k3 ?k4 ?k5 ?k6 ?k7 ?_; (case k2 => k_asm); (case k6 => assumption); (case k7 => k_mem); (case k0 => assumption); (case k3 => k_mem); (case k4 => assumption); (case k5 => k_extra "H0"); (case k1 => k_extra "H2")))
  k_with "call builtin:dict.get" => (k_here; k_dflt (refine' ow_getS ?k0 ?k1 ?k2 ?k3 ?k4 ?k5 ?k6 ?k7 ?_; (case k2 => k_asm); (case k6 => assumption); (case k7 => k_mem); (case k0 => assumption); (case k3 => k_mem); (case k4 => assumption); (case k5 => k_extra "H0"); (case k1 => k_extra "H2")); intro b'Z tp'Z tf'Z n'Z hb'Z hne'Z N'Z)
  k_with "setItem ref ref" => (k_here; k_dflt (refine' ow_set ?k1 ?k2 ?k3 ?k4 ?k5 ?k6 ?k7 ?k8 ?k9 ?_; (case k2 => k_asm); (case k3 => k_asm); (case k4 => k_updF); (case k6 => assumption); (case k5 => k_extra "H0"); (case k7 => k_mem); (case k8 => k_mem); (case k9 => assumption); (case k1 => k_extra "H2")); intro h'Z o'Z F'Z N'Z hw'Z; (try dsimp only at N'Z))
  k_with "call builtin:dict.pop" => (k_here; k_dflt (refine' ow_pop ?k1 ?k2 ?k3 ?k4 ?k5 ?k6 ?k7 ?k8 ?k9 ?_; (case k2 => k_asm); (case k3 => k_asm); (case k4 => k_updF); (case k6 => assumption); (case k5 => k_extra "H0"); (case k7 => k_mem); (case k8 => assumption); (case k9 => assumption); (case k1 => k_extra "H2")); intro x'Z h'Z o'Z F'Z N'Z hw'Z; (try dsimp only at N'Z))
  trivial
theorem due0_spec {f u fr fl : Int} {ka : Addr} {t t' t1 t2 t3 : Tok} {n : Nat}
  (B : Below A₀ base outer h₀) (F : Fr h₀ L s.heap m) (X : (KF w.params).In h₀) (N : News h₀ L s.heap news) (T : Top p loose mean mg mb h₀) (hk : cs.kind = .function) (hd : dp + 4 < recursionLimit) (hun : un + 60 < cLine)
  (U : UpdF D oD news g) (hi : ∀ x ∈ im, x ∈ news) (W : Ow w im oD ds) (hkm : (ka, tupO [.int f t, .int u t'] n) ∈ news) (lo : (D == sysModules) = false) (hz : ds.length ≤ 1000)
  (hno : ∀ h' tk', (look ds (f, u)).isSome = true → Fr h₀ L h' m → News h₀ L h' news → Q .none { s with heap := h', toks := tk' })
  (hyes : ∀ V tp tf n' o' h' tk', look ds (f, u) = none → Fr h₀ L h' m → News h₀ L h' ((V, tupO [.int fr tp, .int (fl + 1) tf] n') :: g o') → Ow w ((ka, tupO [.int f t, .int u t'] n) :: (V, tupO [.int fr tp, .int (fl + 1) tf] n') :: im) o' (put ds (f, u) (fr, fl + 1)) → Q (.bool true) { s with heap := h', toks := tk' }) :
  wpAny (model pw w) (ktrTop dp un gd cn cs L a ccd cl outer) (call (.ref 859) [.ref D, .ref ka, .int 0 t1, .int fr t2, .int fl t3]) Q E s := by
  have hDm := updF_mem U
  k_steps
  all_goals first
    | exact hno _ _ (by simp_all) (by assumption) (by assumption)
    | exact hyes _ _ _ _ _ _ _ (by simp_all) (by assumption) (by assumption) (by assumption)
    | skip
theorem due1_none {f u fr fl : Int} {ka : Addr} {t t' t1 t2 t3 : Tok} {n : Nat}
  (B : Below A₀ base outer h₀) (F : Fr h₀ L s.heap m) (X : (KF w.params).In h₀) (N : News h₀ L s.heap news) (T : Top p loose mean mg mb h₀) (hk : cs.kind = .function) (hd : dp + 4 < recursionLimit) (hun : un + 60 < cLine)
  (U : UpdF D oD news g) (hi : ∀ x ∈ im, x ∈ news) (W : Ow w im oD ds) (hkm : (ka, tupO [.int f t, .int u t'] n) ∈ news) (lo : (D == sysModules) = false) (hz : ds.length ≤ 1000)
  (hl : look ds (f, u) = none)
  (hno : ∀ h' tk', Fr h₀ L h' m → News h₀ L h' news → Q .none { s with heap := h', toks := tk' }) :
  wpAny (model pw w) (ktrTop dp un gd cn cs L a ccd cl outer) (call (.ref 859) [.ref D, .ref ka, .int 1 t1, .int fr t2, .int fl t3]) Q E s := by
  have hDm := updF_mem U
  have hln : (look ds (f, u)).isSome = false := by rw [hl]; rfl
  k_steps
  all_goals first
    | exact hno _ _ (by assumption) (by assumption)
    | (exfalso; simp_all; done)
theorem due1_some {f u fr fl pg old : Int} {ka : Addr} {t t' t1 t2 t3 : Tok} {n : Nat}
  (B : Below A₀ base outer h₀) (F : Fr h₀ L s.heap m) (X : (KF w.params).In h₀) (N : News h₀ L s.heap news) (T : Top p loose mean mg mb h₀) (hk : cs.kind = .function) (hd : dp + 4 < recursionLimit) (hun : un + 60 < cLine)
  (U : UpdF D oD news g) (hi : ∀ x ∈ im, x ∈ news) (W : Ow w im oD ds) (hkm : (ka, tupO [.int f t, .int u t'] n) ∈ news) (lo : (D == sysModules) = false) (hz : ds.length ≤ 1000)
  (hl : look ds (f, u) = some (pg, old))
  (hyes : ∀ tv o' h' tk', Fr h₀ L h' m → News h₀ L h' (g o') → Ow w im o' (drp ds (f, u)) → Q (.int pg tv) { s with heap := h', toks := tk' }) :
  wpAny (model pw w) (ktrTop dp un gd cn cs L a ccd cl outer) (call (.ref 859) [.ref D, .ref ka, .int 1 t1, .int fr t2, .int fl t3]) Q E s := by
  have hDm := updF_mem U
  have hln : (look ds (f, u)).isSome = true := by rw [hl]; rfl
  k_steps
  all_goals first
    | exact hyes _ _ _ _ (by assumption) (by assumption) (by assumption)
    | exact hyes _ _ _ _ (by assumption) (news_drop (by assumption)) (by assumption)
    | exact hyes _ _ _ _ _ _ _ _ (by assumption) (by assumption) (by assumption)
    | exact hyes _ _ _ _ _ _ _ _ (by assumption) (news_drop2 (by assumption)) (by assumption)
    | skip
theorem due2_none {f u fr fl : Int} {ka : Addr} {t t' t1 t2 t3 : Tok} {n : Nat}
  (B : Below A₀ base outer h₀) (F : Fr h₀ L s.heap m) (X : (KF w.params).In h₀) (N : News h₀ L s.heap news) (T : Top p loose mean mg mb h₀) (hk : cs.kind = .function) (hd : dp + 4 < recursionLimit) (hun : un + 60 < cLine)
  (U : UpdF D oD news g) (hi : ∀ x ∈ im, x ∈ news) (W : Ow w im oD ds) (hkm : (ka, tupO [.int f t, .int u t'] n) ∈ news) (lo : (D == sysModules) = false) (hz : ds.length ≤ 1000)
  (hl : look ds (f, u) = none)
  (hno : ∀ h' tk', Fr h₀ L h' m → News h₀ L h' news → Q .none { s with heap := h', toks := tk' }) :
  wpAny (model pw w) (ktrTop dp un gd cn cs L a ccd cl outer) (call (.ref 859) [.ref D, .ref ka, .int 2 t1, .int fr t2, .int fl t3]) Q E s := by
  have hDm := updF_mem U
  have hln : (look ds (f, u)).isSome = false := by rw [hl]; rfl
  k_steps
  all_goals first
    | exact hno _ _ (by assumption) (by assumption)
    | (exfalso; simp_all; done)
theorem due2_some {f u fr fl pg old : Int} {ka : Addr} {t t' t1 t2 t3 : Tok} {n : Nat}
  (B : Below A₀ base outer h₀) (F : Fr h₀ L s.heap m) (X : (KF w.params).In h₀) (N : News h₀ L s.heap news) (T : Top p loose mean mg mb h₀) (hk : cs.kind = .function) (hd : dp + 4 < recursionLimit) (hun : un + 60 < cLine)
  (U : UpdF D oD news g) (hi : ∀ x ∈ im, x ∈ news) (W : Ow w im oD ds) (hkm : (ka, tupO [.int f t, .int u t'] n) ∈ news) (lo : (D == sysModules) = false) (hz : ds.length ≤ 1000)
  (hl : look ds (f, u) = some (pg, old))
  (hyes : ∀ tv V tp tf n' o' h' tk', Fr h₀ L h' m → News h₀ L h' ((V, tupO [.int fr tp, .int (fl + 1) tf] n') :: g o') → Ow w ((ka, tupO [.int f t, .int u t'] n) :: (V, tupO [.int fr tp, .int (fl + 1) tf] n') :: im) o' (put ds (f, u) (fr, fl + 1)) → Q (.int pg tv) { s with heap := h', toks := tk' }) :
  wpAny (model pw w) (ktrTop dp un gd cn cs L a ccd cl outer) (call (.ref 859) [.ref D, .ref ka, .int 2 t1, .int fr t2, .int fl t3]) Q E s := by
  have hDm := updF_mem U
  have hln : (look ds (f, u)).isSome = true := by rw [hl]; rfl
  k_steps
  all_goals first
    | exact hyes _ _ _ _ (by assumption) (by assumption) (by assumption)
    | exact hyes _ _ _ _ (by assumption) (news_drop (by assumption)) (by assumption)
    | exact hyes _ _ _ _ _ _ _ _ (by assumption) (by assumption) (by assumption)
    | exact hyes _ _ _ _ _ _ _ _ (by assumption) (news_drop2 (by assumption)) (by assumption)
    | skip
theorem due3_none {f u fr fl : Int} {ka : Addr} {t t' t1 t2 t3 : Tok} {n : Nat}
  (B : Below A₀ base outer h₀) (F : Fr h₀ L s.heap m) (X : (KF w.params).In h₀) (N : News h₀ L s.heap news) (T : Top p loose mean mg mb h₀) (hk : cs.kind = .function) (hd : dp + 4 < recursionLimit) (hun : un + 60 < cLine)
  (U : UpdF D oD news g) (hi : ∀ x ∈ im, x ∈ news) (W : Ow w im oD ds) (hkm : (ka, tupO [.int f t, .int u t'] n) ∈ news) (lo : (D == sysModules) = false) (hz : ds.length ≤ 1000)
  (hl : look ds (f, u) = none)
  (hno : ∀ h' tk', Fr h₀ L h' m → News h₀ L h' news → Q .none { s with heap := h', toks := tk' }) :
  wpAny (model pw w) (ktrTop dp un gd cn cs L a ccd cl outer) (call (.ref 859) [.ref D, .ref ka, .int 3 t1, .int fr t2, .int fl t3]) Q E s := by
  have hDm := updF_mem U
  have hln : (look ds (f, u)).isSome = false := by rw [hl]; rfl
  k_steps
  all_goals first
    | exact hno _ _ (by assumption) (by assumption)
    | (exfalso; simp_all; done)
theorem due3_some {f u fr fl pg old : Int} {ka : Addr} {t t' t1 t2 t3 : Tok} {n : Nat}
  (B : Below A₀ base outer h₀) (F : Fr h₀ L s.heap m) (X : (KF w.params).In h₀) (N : News h₀ L s.heap news) (T : Top p loose mean mg mb h₀) (hk : cs.kind = .function) (hd : dp + 4 < recursionLimit) (hun : un + 60 < cLine)
  (U : UpdF D oD news g) (hi : ∀ x ∈ im, x ∈ news) (W : Ow w im oD ds) (hkm : (ka, tupO [.int f t, .int u t'] n) ∈ news) (lo : (D == sysModules) = false) (hz : ds.length ≤ 1000)
  (hl : look ds (f, u) = some (pg, old))
  (hno : ∀ h' tk', Builtin.bitAnd (Builtin.bitOr (Builtin.bitAnd old (1023 - [64, 4, 128].getD (fl.fmod 3).toNat 0)) ([4, 64, 16].getD (fl.fmod 3).toNat 0)) 6 = 4 → Fr h₀ L h' m → News h₀ L h' news → Q .none { s with heap := h', toks := tk' })
  (hyes : ∀ tv V tp tf n' o' h' tk', Builtin.bitAnd (Builtin.bitOr (Builtin.bitAnd old (1023 - [64, 4, 128].getD (fl.fmod 3).toNat 0)) ([4, 64, 16].getD (fl.fmod 3).toNat 0)) 6 ≠ 4 → Fr h₀ L h' m → News h₀ L h' ((V, tupO [.int pg tp, .int (Builtin.bitOr (Builtin.bitAnd old (1023 - [64, 4, 128].getD (fl.fmod 3).toNat 0)) ([4, 64, 16].getD (fl.fmod 3).toNat 0)) tf] n') :: g o') → Ow w ((ka, tupO [.int f t, .int u t'] n) :: (V, tupO [.int pg tp, .int (Builtin.bitOr (Builtin.bitAnd old (1023 - [64, 4, 128].getD (fl.fmod 3).toNat 0)) ([4, 64, 16].getD (fl.fmod 3).toNat 0)) tf] n') :: im) o' (put ds (f, u) (pg, Builtin.bitOr (Builtin.bitAnd old (1023 - [64, 4, 128].getD (fl.fmod 3).toNat 0)) ([4, 64, 16].getD (fl.fmod 3).toNat 0))) → Q (.int (pg * 64 + Builtin.bitOr (Builtin.bitAnd old (1023 - [64, 4, 128].getD (fl.fmod 3).toNat 0)) ([4, 64, 16].getD (fl.fmod 3).toNat 0)) tv) { s with heap := h', toks := tk' }) :
  wpAny (model pw w) (ktrTop dp un gd cn cs L a ccd cl outer) (call (.ref 859) [.ref D, .ref ka, .int 3 t1, .int fr t2, .int fl t3]) Q E s := by
  have hDm := updF_mem U
  have hln : (look ds (f, u)).isSome = true := by rw [hl]; rfl
  k_steps
  all_goals first
    | exact hyes _ _ _ _ (by assumption) (by assumption) (by assumption)
    | exact hyes _ _ _ _ (by assumption) (news_drop (by assumption)) (by assumption)
    | exact hyes _ _ _ _ _ _ _ _ (by assumption) (by assumption) (by assumption)
    | exact hyes _ _ _ _ _ _ _ _ (by assumption) (news_drop2 (by assumption)) (by assumption)
    | exact hno _ _ (by assumption) (by assumption) (by assumption)
    | exact hno _ _ (by assumption) (by assumption) (news_drop (news_drop (news_drop (by assumption))))
    | exact hyes _ _ _ _ _ _ _ _ (by assumption) (by assumption) (by assumption) (by assumption)
    | exact hyes _ _ _ _ _ _ _ _ (by assumption) (by assumption) (news_drop2 (news_drop2 (news_drop2 (by assumption)))) (by assumption)
    | skip
end
end Mine

namespace Mine
section
variable {kd ca : Int} {ks : Str} (h : (kd = 0 ∧ ks = "fetch" ∧ ca = 12) ∨ (kd = 1 ∧ ks = "load" ∧ ca = 13) ∨ (kd = 2 ∧ ks = "store" ∧ ca = 15))
include h
theorem kind_ca : ca = [12, 13, 15].getD kd.toNat 0 := by rcases h with ⟨rfl, _, rfl⟩ | ⟨rfl, _, rfl⟩ | ⟨rfl, _, rfl⟩ <;> rfl
theorem kind_ge : 0 ≤ kd := by rcases h with ⟨rfl, _⟩ | ⟨rfl, _⟩ | ⟨rfl, _⟩ <;> decide
theorem kind_lt : kd < 3 := by rcases h with ⟨rfl, _⟩ | ⟨rfl, _⟩ | ⟨rfl, _⟩ <;> decide
theorem may_k {v : Int} : mayB ks v = (Builtin.bitAnd v 16 ≠ 0 ∧ Builtin.bitAnd v ([8, 2, 4].getD kd.toNat 0) ≠ 0) := by
  rcases h with ⟨rfl, rfl, _⟩ | ⟨rfl, rfl, _⟩ | ⟨rfl, rfl, _⟩
  · exact may_f v
  · exact may_l v
  · exact may_s v
theorem due_k {v : Int} : dueOf ks v = Builtin.bitOr (Builtin.bitOr v 64) (128 * (if decide (kd = 2) = true then 1 else 0)) := by
  rcases h with ⟨rfl, rfl, _⟩ | ⟨rfl, rfl, _⟩ | ⟨rfl, rfl, _⟩
  · exact due_f v
  · exact due_l v
  · exact due_s v
end
section
variable {w : World} {p : Program} {loose : List Str} {mean : ExcName → Option Value} {mg mb : Str → Option Value}
  {dp un : Nat} {gd : Option (List Code)} {cn : Str} {cs : Scope} {a : Addr} {ccd : Value} {cl : List (Str × Addr)} {outer : List Env} {A₀ : Around} {base h₀ : Heap} {L : Addr} {m : Str → Option Value} {s : Shared} {Q E : Value → Shared → Prop} {news : List (Addr × Obj)}
variable {D : Addr} {oD : Obj} {ds : Own} {im : Ledger} {g : Obj → Ledger}
theorem adue_none {f u ad kd ca : Int} {ks : Str} {ka : Addr} {t t' t1 t2 : Tok} {n : Nat}
  (B : Below A₀ base outer h₀) (F : Fr h₀ L s.heap m) (X : (KF w.params).In h₀) (N : News h₀ L s.heap news) (T : Top p loose mean mg mb h₀) (hk : cs.kind = .function) (hd : dp + 4 < recursionLimit) (hun : un + 60 < cLine)
  (U : UpdF D oD news g) (hi : ∀ x ∈ im, x ∈ news) (W : Ow w im oD ds) (hkm : (ka, tupO [.int f t, .int u t'] n) ∈ news) (lo : (D == sysModules) = false) (hz : ds.length ≤ 1000)
  (hkd : (kd = 0 ∧ ks = "fetch" ∧ ca = 12) ∨ (kd = 1 ∧ ks = "load" ∧ ca = 13) ∨ (kd = 2 ∧ ks = "store" ∧ ca = 15))
  (hl : look ds (f, u) = none)
  (hno : ∀ P ta tb n h' tk', Fr h₀ L h' m → News h₀ L h' ((P, tupO [.int ca ta, .int ad tb] n) :: news) → Q (.ref P) { s with heap := h', toks := tk' }) :
  wpAny (model pw w) (ktrTop dp un gd cn cs L a ccd cl outer) (call (.ref 873) [.ref D, .ref ka, .int ad t1, .int kd t2]) Q E s := by
  have hDm := updF_mem U
  have hca := kind_ca hkd
  subst hca
  have hk0 : 0 ≤ kd := kind_ge hkd
  have hk3 : kd < 3 := kind_lt hkd
  clear hkd
  k_steps
  all_goals first
    | exact hno _ _ _ _ _ _ (by assumption) (by assumption)
    | exact hno _ _ _ _ _ _ (by assumption) (news_drop2 (by assumption))
    | exact hno _ _ _ _ _ _ (by assumption) (news_drop2 (news_drop2 (by assumption)))
    | (exfalso; simp_all; done)
theorem adue_some {f u ad kd ca pg fl dv : Int} {ks : Str} {ka : Addr} {t t' t1 t2 : Tok} {n : Nat}
  (B : Below A₀ base outer h₀) (F : Fr h₀ L s.heap m) (X : (KF w.params).In h₀) (N : News h₀ L s.heap news) (T : Top p loose mean mg mb h₀) (hk : cs.kind = .function) (hd : dp + 4 < recursionLimit) (hun : un + 60 < cLine)
  (U : UpdF D oD news g) (hi : ∀ x ∈ im, x ∈ news) (W : Ow w im oD ds) (hkm : (ka, tupO [.int f t, .int u t'] n) ∈ news) (lo : (D == sysModules) = false) (hz : ds.length ≤ 1000)
  (hkd : (kd = 0 ∧ ks = "fetch" ∧ ca = 12) ∨ (kd = 1 ∧ ks = "load" ∧ ca = 13) ∨ (kd = 2 ∧ ks = "store" ∧ ca = 15))
  (hl : look ds (f, u) = some (pg, fl)) (hdu : dueOf ks fl = dv)
  (hno : ∀ P ta tb n h' tk', ¬ mayB ks fl → Fr h₀ L h' m → News h₀ L h' ((P, tupO [.int ca ta, .int ad tb] n) :: news) → Q (.ref P) { s with heap := h', toks := tk' })
  (hyes : ∀ tv V tp tf n' o' h' tk', mayB ks fl → Fr h₀ L h' m → News h₀ L h' ((V, tupO [.int pg tp, .int dv tf] n') :: g o') → Ow w ((ka, tupO [.int f t, .int u t'] n) :: (V, tupO [.int pg tp, .int dv tf] n') :: im) o' (put ds (f, u) (pg, dv)) → Q (.int (pg + ad % 16) tv) { s with heap := h', toks := tk' }) :
  wpAny (model pw w) (ktrTop dp un gd cn cs L a ccd cl outer) (call (.ref 873) [.ref D, .ref ka, .int ad t1, .int kd t2]) Q E s := by
  have hDm := updF_mem U
  have hm16 : ad % 16 = ad.fmod 16 := (Int.fmod_eq_emod_of_nonneg _ (by decide)).symm
  rw [hm16] at hyes
  have hca := kind_ca hkd
  subst hca
  rw [may_k hkd] at hno hyes
  rw [due_k hkd] at hdu
  subst hdu
  have hk0 : 0 ≤ kd := kind_ge hkd
  have hk3 : kd < 3 := kind_lt hkd
  clear hkd
  k_steps
  all_goals first
      | exact hno _ _ _ _ _ _ (fun z => z.1 (by assumption)) (by assumption) (news_drop2 (news_drop2 (by assumption)))
      | exact hno _ _ _ _ _ _ (fun z => z.2 (by assumption)) (by assumption) (news_drop2 (news_drop2 (news_drop2 (by assumption))))
      | exact hno _ _ _ _ _ _ (fun z => z.2 (by assumption)) (by assumption) (news_drop2 (news_drop2 (news_drop2 (news_drop2 (by assumption)))))
      | exact hno _ _ _ _ _ _ (fun z => z.1 (by assumption)) (by assumption) (news_drop2 (news_drop2 (news_drop2 (by assumption))))
      | exact hyes _ _ _ _ _ _ _ _ ⟨by assumption, by assumption⟩ (by assumption) (news_drop2 (news_drop2 (by assumption))) (by assumption)
      | exact hyes _ _ _ _ _ _ _ _ ⟨by assumption, by assumption⟩ (by assumption) (news_drop2 (news_drop2 (news_drop2 (by assumption)))) (by assumption)
end
end Mine

namespace Mine
section
variable {w : World} {p : Program} {loose : List Str} {mean : ExcName → Option Value} {mg mb : Str → Option Value}
  {dp un : Nat} {gd : Option (List Code)} {cn : Str} {cs : Scope} {a : Addr} {ccd : Value} {cl : List (Str × Addr)} {outer : List Env} {A₀ : Around} {base h₀ : Heap} {L : Addr} {m : Str → Option Value} {s : Shared} {Q E : Value → Shared → Prop} {news : List (Addr × Obj)}
variable {c : Ads} {oW : Obj} {M : Int → Int} {rest : Ledger} {g : Obj → Ledger}
theorem rulesT60 : True := by
  k_with "getMethod ref" => (k_here; (with_reducible show wpAny _ _ (getMethod (Value.ref _) (Str.ofString "get") _) _ _ _); k_dflt (refine' wd_method ?k1 ?k2 ?k3 ?_; (case k1 => k_asm); (case k2 => k_mem); (case k3 => assumption)))
  k_with "getMethod ref" => (k_here; (with_reducible show wpAny _ _ (getMethod (Value.ref _) (Str.ofString "pop") _) _ _ _); k_dflt (refine' wd_methodP ?k1 ?k2 ?k3 ?_; (case k1 => k_asm); (case k2 => k_mem); (case k3 => assumption)))
  k_with "call builtin:dict.get" => (k_here; k_dflt (refine' wd_get ?k1 ?k2 ?k3 ?k4 ?_; (case k1 => k_asm); (case k2 => k_mem); (case k3 => assumption); (case k4 => assumption)); intro t'Z)
  k_with "call builtin:dict.pop" => (k_here; k_dflt (refine' wd_pop ?k1 ?k2 ?k3 ?k4 ?k5 ?_; (case k1 => k_asm); (case k2 => k_asm); (case k3 => assumption); (case k4 => assumption); (case k5 => assumption)); intro h'Z o'Z x'Z F'Z N'Z hw'Z)
  k_with "call ref" => (k_here; (with_reducible show wpAny _ _ (call (Value.ref 355) _) _ _ _); k_dflt (refine' unmap_spec ?k1 ?k2 ?k3 ?k4 ?k5 ?k6 ?k7 ?k8 ?k9 ?k10 ?k11 ?k12 ?k13 ?k14 ?k15 ?k16 ?k17 ?k18 ?k19 ?k20 (fun t'Z o'Z h'Z tk'Z hcZ F'Z N'Z hw'Z => ?_) (fun GZ e'Z d'Z es'Z h'Z tk'Z hcZ FGZ smZ rDZ => ?_); k_extra "HA"; (case k8 => assumption); (case k9 => k_extra "H1"); (case k10 => k_updF); (case k11 => assumption); (case k12 => assumption); (case k13 => k_extra "H10"); (case k14 => k_extra "H10"); (case k15 => assumption); (case k16 => assumption); (case k17 => assumption); (case k18 => assumption); (case k19 => k_extra "H10"); (case k20 => k_extra "H10")); all_goals (try k_sweep))
  k_with "call ref" => (k_here; (with_reducible show wpAny _ _ (call (Value.ref 363) _) _ _ _); k_dflt (refine' change_spec ?k1 ?k2 ?k3 ?k4 ?k5 ?k6 ?k7 ?k8 ?k9 ?k10 ?k11 ?k12 ?k13 ?k14 ?k15 ?k16 ?k17 ?k18 ?k19 ?k20 ?k21 ?k22 (fun t'Z o'Z h'Z tk'Z hcZ hc2Z F'Z N'Z hw'Z => ?_) (fun GZ e'Z d'Z es'Z h'Z tk'Z hcZ FGZ smZ rDZ => ?_); k_extra "HA"; (case k8 => assumption); (case k9 => k_extra "H1"); (case k10 => k_updF); (case k11 => assumption); (case k12 => assumption); (case k13 => k_extra "H10"); (case k14 => k_extra "H10"); (case k15 => assumption); (case k16 => assumption); (case k17 => assumption); (case k18 => assumption); (case k19 => k_extra "H10"); (case k20 => k_extra "H10"); (case k21 => assumption); (case k22 => assumption)); all_goals (try k_sweep))
  k_with "call ref" => (k_here; (with_reducible show wpAny _ _ (call (Value.ref 370) _) _ _ _); k_dflt (refine' move_spec ?k1 ?k2 ?k3 ?k4 ?k5 ?k6 ?k7 ?k8 ?k9 ?k10 ?k11 ?k12 ?k13 ?k14 ?k15 ?k16 ?k17 ?k18 ?k19 ?k20 ?k21 ?k22 ?k23 ?k24 ?k25 (fun t'Z o'Z h'Z tk'Z hcZ F'Z N'Z hw'Z => ?_) (fun GZ e'Z d'Z es'Z h'Z tk'Z hcZ FGZ smZ rDZ => ?_); k_extra "HA"; (case k8 => assumption); (case k9 => k_extra "H1"); (case k10 => k_updF); (case k11 => assumption); (case k12 => assumption); (case k13 => k_extra "H10"); (case k14 => k_extra "H10"); (case k15 => assumption); (case k16 => assumption); (case k17 => assumption); (case k18 => assumption); (case k19 => k_extra "H10"); (case k20 => k_extra "H10"); (case k21 => k_extra "H10"); (case k22 => k_extra "H10"); (case k23 => assumption); (case k24 => assumption); (case k25 => assumption)); all_goals (try k_sweep))
  k_with "call ref" => (k_here; (with_reducible show wpAny _ _ (call (Value.ref 334) _) _ _ _); k_dflt (refine' map_spec ?k1 ?k2 ?k3 ?k4 ?k5 ?k6 ?k7 ?k8 ?k9 ?k10 ?k11 ?k12 ?k13 ?k14 ?k15 ?k16 ?k17 ?k18 ?k19 ?k20 ?k21 ?k22 ?k23 ?k24 ?k25 (fun o'Z h'Z tk'Z hcZ F'Z N'Z hw'Z => ?_) (fun GZ e'Z d'Z es'Z h'Z tk'Z hcZ FGZ smZ rDZ => ?_); k_extra "HA"; (case k8 => assumption); (case k9 => k_extra "H1"); (case k10 => k_updF); (case k11 => assumption); (case k12 => assumption); (case k13 => k_extra "H10"); (case k14 => k_extra "H10"); (case k15 => assumption); (case k16 => assumption); (case k17 => assumption); (case k18 => assumption); (case k19 => k_extra "H10"); (case k20 => k_extra "H10"); (case k21 => k_extra "H10"); (case k22 => k_extra "H10"); (case k23 => assumption); (case k24 => assumption); (case k25 => assumption)); all_goals (try k_sweep))
  k_with "call ref" => (k_here; (with_reducible show wpAny _ _ (call (Value.ref 355) _) _ _ _); k_dflt (refine' unmap_spec ?k1 ?k2 ?k3 ?k4 ?k5 ?k6 ?k7 ?k8 ?k9 ?k10 ?k11 ?k12 ?k13 ?k14 ?k15 ?k16 ?k17 ?k18 ?k19 ?k20 (fun t'Z o'Z h'Z tk'Z hcZ F'Z N'Z hw'Z => ?_) (fun GZ e'Z d'Z es'Z h'Z tk'Z hcZ FGZ smZ rDZ => ?_); k_extra "HA"; (case k8 => assumption); (case k9 => k_extra "H0"); (case k10 => k_updF); (case k11 => assumption); (case k12 => assumption); (case k13 => k_extra "H10"); (case k14 => k_extra "H10"); (case k15 => assumption); (case k16 => assumption); (case k17 => assumption); (case k18 => assumption); (case k19 => k_extra "H10"); (case k20 => k_extra "H10")); all_goals (try k_sweep))
  k_with "call ref" => (k_here; (with_reducible show wpAny _ _ (call (Value.ref 363) _) _ _ _); k_dflt (refine' change_spec ?k1 ?k2 ?k3 ?k4 ?k5 ?k6 ?k7 ?k8 ?k9 ?k10 ?k11 ?k12 ?k13 ?k14 ?k15 ?k16 ?k17 ?k18 ?k19 ?k20 ?k21 ?k22 (fun t'Z o'Z h'Z tk'Z hcZ hc2Z F'Z N'Z hw'Z => ?_) (fun GZ e'Z d'Z es'Z h'Z tk'Z hcZ FGZ smZ rDZ => ?_); k_extra "HA"; (case k8 => assumption); (case k9 => k_extra "H0"); (case k10 => k_updF); (case k11 => assumption); (case k12 => assumption); (case k13 => k_extra "H10"); (case k14 => k_extra "H10"); (case k15 => assumption); (case k16 => assumption); (case k17 => assumption); (case k18 => assumption); (case k19 => k_extra "H10"); (case k20 => k_extra "H10"); (case k21 => assumption); (case k22 => assumption)); all_goals (try k_sweep))
  k_with "call ref" => (k_here; (with_reducible show wpAny _ _ (call (Value.ref 370) _) _ _ _); k_dflt (refine' move_spec ?k1 ?k2 ?k3 ?k4 ?k5 ?k6 ?k7 ?k8 ?k9 ?k10 ?k11 ?k12 ?k13 ?k14 ?k15 ?k16 ?k17 ?k18 ?k19 ?k20 ?k21 ?k22 ?k23 ?k24 ?k25 (fun t'Z o'Z h'Z tk'Z hcZ F'Z N'Z hw'Z => ?_) (fun GZ e'Z d'Z es'Z h'Z tk'Z hcZ FGZ smZ rDZ => ?_); k_extra "HA"; (case k8 => assumption); (case k9 => k_extra "H0"); (case k10 => k_updF); (case k11 => assumption); (case k12 => assumption); (case k13 => k_extra "H10"); (case k14 => k_extra "H10"); (case k15 => assumption); (case k16 => assumption); (case k17 => assumption); (case k18 => assumption); (case k19 => k_extra "H10"); (case k20 => k_extra "H10"); (case k21 => k_extra "H10"); (case k22 => k_extra "H10"); (case k23 => assumption); (case k24 => assumption); (case k25 => assumption)); all_goals (try k_sweep))
  k_with "call ref" => (k_here; (with_reducible show wpAny _ _ (call (Value.ref 334) _) _ _ _); k_dflt (refine' map_spec ?k1 ?k2 ?k3 ?k4 ?k5 ?k6 ?k7 ?k8 ?k9 ?k10 ?k11 ?k12 ?k13 ?k14 ?k15 ?k16 ?k17 ?k18 ?k19 ?k20 ?k21 ?k22 ?k23 ?k24 ?k25 (fun o'Z h'Z tk'Z hcZ F'Z N'Z hw'Z => ?_) (fun GZ e'Z d'Z es'Z h'Z tk'Z hcZ FGZ smZ rDZ => ?_); k_extra "HA"; (case k8 => assumption); (case k9 => k_extra "H0"); (case k10 => k_updF); (case k11 => assumption); (case k12 => assumption); (case k13 => k_extra "H10"); (case k14 => k_extra "H10"); (case k15 => assumption); (case k16 => assumption); (case k17 => assumption); (case k18 => assumption); (case k19 => k_extra "H10"); (case k20 => k_extra "H10"); (case k21 => k_extra "H10"); (case k22 => k_extra "H10"); (case k23 => assumption); (case k24 => assumption); (case k25 => assumption)); all_goals (try k_sweep))
  trivial
theorem done3_spec {root ad q v fr fl way nv : Int} {tr ta t1 t2 t3 : Tok}
  (B : Below A₀ base [] h₀) (F : Fr h₀ L s.heap m) (X : (KF w.params).In h₀) (N : News h₀ L s.heap news) (T : Top p loose mean mg mb h₀) (hk : cs.kind = .function) (hd : dp + 20 < recursionLimit) (XB : (KF w.params).In base) (TB : Top p loose mean mg mb base)
  (S : Std c rest) (hs : ∀ x ∈ rest, x ∈ news) (U : UpdF c.w oW news g) (hw : Wd w oW M) (hr : root = 896 ∨ root = 912) (h0 : 0 ≤ ad) (hh : ad < 256) (hq : q = 58 ∨ q = 59)
  (he : M (root / 4 + ad / 64) = 1024 * q + 1) (hv : M (4 * q + ad / 16 % 4) = v) (hv' : v = 0 ∨ Builtin.bitAnd v 1 = 1)
  (hz : ad % 16 = 0) (hb : 0 ≤ v ∧ v < 1099511627776)
  (hway : way = 3) (hn : Builtin.bitOr (Builtin.bitAnd v (Builtin.bitNot (Builtin.bitAnd (takeOf fl) 1023))) (Builtin.bitAnd (addOf fl) 1023) = nv) (hn0 : 0 ≤ Builtin.bitOr nv 1 ∧ Builtin.bitOr nv 1 < 4294967296)
  (hret : ∀ t o' h' tk', Builtin.bitAnd v 1 = 1 → flOk (Builtin.bitAnd (Builtin.bitAnd nv 1023) (Builtin.bitNot 1)) → Fr h₀ L h' m → News h₀ L h' (g o') → Wd w o' (upM M (4 * q + ad / 16 % 4) (Builtin.bitOr nv 1)) → Q (.int (Builtin.bitOr nv 1) t) { s with heap := h', toks := tk' })
  (hno : ∀ h' tk', (v = 0 ∨ ¬ flOk (Builtin.bitAnd (Builtin.bitAnd nv 1023) (Builtin.bitNot 1))) → Fr h₀ L h' m → News h₀ L h' news → Q .none { s with heap := h', toks := tk' }) :
  wpAny (model pw w) (ktrTop dp un gd cn cs L a ccd [] []) (call (.ref 852) [.ref c.t, .int root tr, .int ad ta, .int way t1, .int fr t2, .int fl t3]) Q E s := by
  subst hway
  have hwm : (c.w, oW) ∈ news := by
    obtain ⟨pre, post, rfl, _⟩ := U.split
    exact List.mem_append_right _ (.head _)
  have lo := S.low
  have hm1 := MemIn.a (S.mem) hs
  have hm2 := MemIn.b (S.mem) hs
  have hl1 := LayIn.a (S.lay) hs
  have hl2 := LayIn.b (S.lay) hs
  have ht1 := TabIn.a (S.tab) hs
  have ht2 := TabIn.b (S.tab) hs
  have hn' : Builtin.bitOr (Builtin.bitAnd v (Builtin.bitNot (Builtin.bitAnd ([64, 4, 128].getD (fl.fmod 3).toNat 0) 1023))) (Builtin.bitAnd ([4, 64, 16].getD (fl.fmod 3).toNat 0) 1023) = nv := hn
  refine wpAny_call ?_
  k_dflt (refine' code_defS0 ?k1 ?k2 ?k3 ?k4 ?k5 ?kA ?k6 ?k7 ?k8 ?k9 ?kB ?_ ?c1 ?c2 ?c3 ?c4 ?c5)
  case k1 => k_asm
  case k2 => k_asm
  case k3 => k_asm
  case k4 => k_asm
  case k5 => k_asm
  case kA => exact rfl
  case k6 => k_is
  case k7 => k_is
  case k8 => k_room
  case k9 => exact BindsTo.of_eq rfl
  case kB => exact locs rfl
  case c1 => assumption
  case c2 => exact rfl
  case c3 => exact rfl
  case c4 => exact rfl
  case c5 => decide
  intro g' L' h' FG' F' N' B' X' T' D'
  try dsimp only
  try k_lift B'
  try k_fold
  k_steps
  all_goals first
    | exact hret _ _ _ _ (by assumption) (by assumption) (by assumption) (by assumption) (by assumption)
    | exact hret _ _ _ _ (by assumption) (by assumption) (by assumption) (news_drop (news_drop (by assumption))) (by assumption)
    | exact hno _ _ (by assumption) (by assumption) (news_drop (news_drop (news_drop (news_drop (by assumption)))))
    | exact hno _ _ (by assumption) (by assumption) (news_drop (news_drop (by assumption)))
    | skip
end
end Mine

namespace Mine
section
variable {w : World} {p : Program} {loose : List Str} {mean : ExcName → Option Value} {mg mb : Str → Option Value}
  {dp un : Nat} {gd : Option (List Code)} {cn : Str} {cs : Scope} {a : Addr} {ccd : Value} {cl : List (Str × Addr)} {outer : List Env} {A₀ : Around} {base h₀ : Heap} {L : Addr} {m : Str → Option Value} {s : Shared} {Q E : Value → Shared → Prop} {news : List (Addr × Obj)}
variable {c : Ads} {oW : Obj} {M : Int → Int} {rest : Ledger} {g : Obj → Ledger}
theorem rulesW40 : True := by
  k_with "call ref" => (k_here; (with_reducible show wpAny _ _ (call (Value.ref 129) _) _ _ _); k_dflt (refine' parts_spec ?k1 ?k2 ?k3 ?k4 ?k5 ?k6 ?k7 ?k8 ?k9 ?k10 ?k11 ?_; k_extra "HA"; (case k8 => assumption); (case k9 => k_extra "H1"); (case k10 => k_extra "H10"); (case k11 => k_extra "H10")); intro D'Z t1Z t2Z t3Z h'Z tk'Z F'Z ltsZ N'Z; k_extra "HE")
  k_with "call ref" => (k_here; (with_reducible show wpAny _ _ (call (Value.ref 179) _) _ _ _); k_dflt (refine' physical_spec ?k1 ?k2 ?k3 ?k4 ?k5 ?k6 ?k7 ?k8 ?k9 ?k10 ?k11 ?_; k_extra "HA"; (case k8 => assumption); (case k9 => k_extra "H1"); (case k10 => k_extra "H10"); (case k11 => k_extra "H13")); intro t'Z h'Z tk'Z F'Z N'Z; (try dsimp only at N'Z); (try k_lt lts); (try k_sweep))
  k_with "call ref" => (k_here; (with_reducible show wpAny _ _ (call (Value.ref 241) _) _ _ _); k_dflt (refine' entryat_spec ?k1 ?k2 ?k3 ?k4 ?k5 ?k6 ?k7 ?k8 ?k9 ?k10 ?k11 ?k12 ?k13 ?k14 ?k15 ?k16 ?k17 ?k18 (fun t'Z h'Z tk'Z hcZ F'Z N'Z => ?_) (fun GZ e'Z d'Z es'Z tc'Z tv'Z h'Z tk'Z hcZ g1Z g2Z FGZ smZ rDZ => ?_); k_extra "HA"; (case k8 => assumption); (case k9 => k_extra "H1"); (case k10 => k_mem); (case k11 => assumption); (case k12 => k_extra "H10"); (case k13 => k_extra "H10"); (case k14 => k_extra "H10"); (case k15 => k_extra "H13"); (case k16 => k_extra "H10"); (case k17 => k_extra "H10"); (case k18 => k_extra "H6")); all_goals (try k_sweep))
  k_with "call ref" => (k_here; (with_reducible show wpAny _ _ (call (Value.ref 212) _) _ _ _); k_dflt (refine' may_spec ?k1 ?k2 ?k3 ?k4 ?k5 ?k6 ?k7 ?k8 (fun h'Z tk'Z hcZ F'Z N'Z => ?_) (fun h'Z tk'Z hcZ F'Z N'Z => ?_); k_extra "HA"; (case k8 => assumption)); all_goals (try k_sweep))
  k_with "call ref" => (k_here; (with_reducible show wpAny _ _ (call (Value.ref 255) _) _ _ _); k_dflt (refine' mark_spec ?k1 ?k2 ?k3 ?k4 ?k5 ?k6 ?k7 ?k8 ?k9 ?k10 ?k11 ?k12 ?k13 ?k14 ?k15 ?k16 ?k17 ?_; k_extra "HA"; (case k8 => assumption); (case k9 => k_extra "H1"); (case k10 => k_updF); (case k11 => assumption); (case k12 => k_extra "H10"); (case k13 => k_extra "H10"); (case k14 => k_extra "H10"); (case k15 => assumption); (case k16 => assumption); (case k17 => assumption)); intro o'Z h'Z tk'Z F'Z N'Z hw'Z; (try dsimp only at N'Z); (try k_lt lts); (try k_sweep))
  k_with "call ref" => (k_here; (with_reducible show wpAny _ _ (call (Value.ref 129) _) _ _ _); k_dflt (refine' parts_spec ?k1 ?k2 ?k3 ?k4 ?k5 ?k6 ?k7 ?k8 ?k9 ?k10 ?k11 ?_; k_extra "HA"; (case k8 => assumption); (case k9 => k_extra "H0"); (case k10 => k_extra "H10"); (case k11 => k_extra "H10")); intro D'Z t1Z t2Z t3Z h'Z tk'Z F'Z ltsZ N'Z; k_extra "HE")
  k_with "call ref" => (k_here; (with_reducible show wpAny _ _ (call (Value.ref 179) _) _ _ _); k_dflt (refine' physical_spec ?k1 ?k2 ?k3 ?k4 ?k5 ?k6 ?k7 ?k8 ?k9 ?k10 ?k11 ?_; k_extra "HA"; (case k8 => assumption); (case k9 => k_extra "H0"); (case k10 => k_extra "H10"); (case k11 => k_extra "H13")); intro t'Z h'Z tk'Z F'Z N'Z; (try dsimp only at N'Z); (try k_lt lts); (try k_sweep))
  k_with "call ref" => (k_here; (with_reducible show wpAny _ _ (call (Value.ref 241) _) _ _ _); k_dflt (refine' entryat_spec ?k1 ?k2 ?k3 ?k4 ?k5 ?k6 ?k7 ?k8 ?k9 ?k10 ?k11 ?k12 ?k13 ?k14 ?k15 ?k16 ?k17 ?k18 (fun t'Z h'Z tk'Z hcZ F'Z N'Z => ?_) (fun GZ e'Z d'Z es'Z tc'Z tv'Z h'Z tk'Z hcZ g1Z g2Z FGZ smZ rDZ => ?_); k_extra "HA"; (case k8 => assumption); (case k9 => k_extra "H0"); (case k10 => k_mem); (case k11 => assumption); (case k12 => k_extra "H10"); (case k13 => k_extra "H10"); (case k14 => k_extra "H10"); (case k15 => k_extra "H13"); (case k16 => k_extra "H10"); (case k17 => k_extra "H10"); (case k18 => k_extra "H6")); all_goals (try k_sweep))
  k_with "call ref" => (k_here; (with_reducible show wpAny _ _ (call (Value.ref 255) _) _ _ _); k_dflt (refine' mark_spec ?k1 ?k2 ?k3 ?k4 ?k5 ?k6 ?k7 ?k8 ?k9 ?k10 ?k11 ?k12 ?k13 ?k14 ?k15 ?k16 ?k17 ?_; k_extra "HA"; (case k8 => assumption); (case k9 => k_extra "H0"); (case k10 => k_updF); (case k11 => assumption); (case k12 => k_extra "H10"); (case k13 => k_extra "H10"); (case k14 => k_extra "H10"); (case k15 => assumption); (case k16 => assumption); (case k17 => assumption)); intro o'Z h'Z tk'Z F'Z N'Z hw'Z; (try dsimp only at N'Z); k_dflt ((rename Std _ _ => kS'Z); (rename AllG _ _ => kG'Z); (have kw1'Z := WalkIn.a (Std.walk kS'Z) (kG'Z o'Z)); (have kw2'Z := WalkIn.b (Std.walk kS'Z) (kG'Z o'Z)); (have kl1'Z := LayIn.a (Std.lay kS'Z) (kG'Z o'Z)); (have kl2'Z := LayIn.b (Std.lay kS'Z) (kG'Z o'Z))); (try k_sweep))
  k_with "subscriptTail" => (k_here; (with_reducible show wpAny _ _ (subscriptTail _ _ (Value.ref 106) (Value.str _ _)) _ _ _); k_dflt (with_unfolding_all refine' pf_item ?k1 ?k2 ?k3 ?_ ?k4; (case k1 => k_asm); (case k2 => k_asm); (case k3 => assumption); (case k4 => with_unfolding_all rfl)); intro u'Z)
  k_with "eval Call" => (k_here; refine PyProof.Rows.Call_ (he := ?hcl) ?_; (case hcl => with_unfolding_all rfl))
  trivial
theorem translate_spec {root ad q v ca : Int} {ks : Str} {tr ta tk tm : Tok}
  (B : Below A₀ base outer h₀) (F : Fr h₀ L s.heap m) (X : (KF w.params).In h₀) (N : News h₀ L s.heap news) (T : Top p loose mean mg mb h₀) (hk : cs.kind = .function) (hd : dp + 18 < recursionLimit)
  (S : Std c rest) (hs : ∀ x ∈ rest, x ∈ news) (U : UpdF c.w oW news g) (hs' : AllG rest g) (hw : Wd w oW M) (hr : root = 896 ∨ root = 912) (h0 : 0 ≤ ad) (hh : ad < 256) (hq : q = 58 ∨ q = 59)
  (he : M (root / 4 + ad / 64) = 1024 * q + 1) (hv : M (4 * q + ad / 16 % 4) = v) (hsd : v = 0 ∨ (soundB v = true ∧ Builtin.bitAnd v 10 ≠ 0)) (hb : 0 ≤ v ∧ v < 1099511627776) (hdu : 0 ≤ dueOf ks v ∧ dueOf ks v < 4294967296) (hks : kindOk ks ca)
  (hret : ∀ t o' h' tk', v ≠ 0 → mayB ks v → Fr h₀ L h' m → News h₀ L h' (g o') → Wd w o' (upM M (4 * q + ad / 16 % 4) (dueOf ks v)) → Q (.int (16 * (v / 1024) + ad % 16) t) { s with heap := h', toks := tk' })
  (hexc : ∀ G e d es tc tv h' tk', (v = 0 ∨ ¬ mayB ks v) → getL "cause" es = some (some (.int ca tc)) → getL "value" es = some (some (.int ad tv)) → Fr h₀ L G m → G.UpToSlots h' → RaisedD base G (envX cn cs L a ccd cl :: outer) e 103 d ((d, dictOf es 3) :: news) h' → E (.ref e) { s with heap := h', toks := tk' }) :
  wpAny (model pw w) (ktrTop dp un gd cn cs L a ccd cl outer) (call (.ref 234) [.ref c.k, .int root tr, .int ad ta, .str ks tk, .int 0 tm]) Q E s := by
  have hwm : (c.w, oW) ∈ news := by
    obtain ⟨pre, post, rfl, _⟩ := U.split
    exact List.mem_append_right _ (.head _)
  have lo := S.low
  have hm1 := MemIn.a (S.mem) hs
  have hm2 := MemIn.b (S.mem) hs
  have hl1 := LayIn.a (S.lay) hs
  have hl2 := LayIn.b (S.lay) hs
  have hb1 := BusIn.a (S.bus) hs
  have hb2 := BusIn.b (S.bus) hs
  have hk1 := WalkIn.a (S.walk) hs
  have hk2 := WalkIn.b (S.walk) hs
  obtain ⟨f1, f2, f3, f4⟩ := root_facts hq
  have e1 : M ((root + 4 * (ad / 64)) / 4) = 1024 * q + 1 := by rw [ad1e hr]; exact he
  have e2 : M ((16 * q + 4 * (ad / 16 % 4)) / 4) = v := by rw [ad2e]; exact hv
  have e3 : (16 * q + 4 * (ad / 16 % 4)) / 4 = 4 * q + ad / 16 % 4 := ad2e
  have r1 : 896 ≤ root ∧ root ≤ 912 ∧ root % 16 = 0 := by rcases hr with rfl | rfl <;> decide
  have w0 := ad1 hr h0 hh
  have w1 := w0.1
  have w2 := w0.2.1
  have w3 := w0.2.2
  have q1 := q_bd hq
  have z0 := ad2 (ad := ad) q1
  have z1 := z0.1
  have z2 := z0.2.1
  have z3 := z0.2.2
  have s1 : soundB (1024 * q + 1) = true := by rcases hq with rfl | rfl <;> decide
  have o1 : Builtin.bitOr (16 * (v / 1024)) (ad % 16) = 16 * (v / 1024) + ad % 16 := by
    have := or_low (k := 4) (q := v / 1024) (b := ad % 16) (by omega) (by omega) (by omega)
    have e : (2 : Int) ^ 4 = 16 := rfl
    rw [e] at this
    rw [Int.mul_comm, this]
  rw [← o1, ← e3] at hret
  have x0 : soundB v = false → v = 0 := fun e => by
    rcases hsd with z | z
    · exact z
    · rw [z.1] at e; cases e
  have x1 : Builtin.bitAnd v 10 = 0 → v = 0 := fun e => by
    rcases hsd with z | z
    · exact z
    · exact absurd e z.2
  have x2 : Builtin.bitAnd v 10 ≠ 0 → v ≠ 0 := fun e z => by rw [z] at e; exact e rfl
  clear hsd
  have ca0 := kind_c0 hks
  have ca1 := kind_c1 hks
  k_steps
  all_goals first
    | exact hret _ _ _ _ (x2 (by assumption)) (by assumption) (by assumption) (news_drop (by assumption)) (by assumption)
    | exact hexc _ _ _ _ _ _ _ _ (.inl (x0 (by assumption))) (by assumption) (by assumption) (by assumption) (by assumption) (RaisedD.sub (by assumption) sub_drop2)
    | exact hexc _ _ _ _ _ _ _ _ (.inl (x1 (by assumption))) (by assumption) (by assumption) (by assumption) (by assumption) (RaisedD.sub (by assumption) sub_drop2)
    | exact hexc _ _ _ _ _ _ _ _ (.inr (by assumption)) (by assumption) (by assumption) (by assumption) (by assumption) (RaisedD.sub (by assumption) sub_drop2)
    | exact absurd (s1.symm.trans (by assumption)) (by decide)
end
end Mine

namespace Mine
section
variable {w : World} {p : Program} {loose : List Str} {mean : ExcName → Option Value} {mg mb : Str → Option Value}
  {dp un : Nat} {gd : Option (List Code)} {cn : Str} {cs : Scope} {a : Addr} {ccd : Value} {cl : List (Str × Addr)} {outer : List Env} {A₀ : Around} {base h₀ : Heap} {L : Addr} {m : Str → Option Value} {s : Shared} {Q E : Value → Shared → Prop} {news : List (Addr × Obj)}
variable {c : Ads} {oW : Obj} {M : Int → Int} {rest : Ledger} {g : Obj → Ledger}
theorem rulesA10 : True := by
  k_with "noteFrame ref" => (k_here; k_dflt (refine' caught_DB ?R ?F ?K ?U ?XB ?TB ?D ?ex ?q ?_; (case R => assumption); (case F => assumption); (case K => assumption); (case U => assumption); (case XB => assumption); (case TB => assumption); (case D => assumption); (case ex => k_is); (case q => k_extra "H15")); intro h'Z g'Z fs'Z sl'Z tk'Z T'Z F'Z K'Z X'Z P'Z D'Z N'Z; (try k_lift K'Z); (try k_sweep))
  k_with "getAttr ref" => (k_here; k_dflt (refine' xc_getK (C := 103) (D := 39) ?k1 ?k2 ?k3 ?k4 ?k5 ?k6 ?k7 ?k8 ?k9 ?k10 ?k11 ?k12 ?k13 ?k14 ?_; (case k1 => k_asm); (case k2 => k_asm); (case k3 => k_asm); (case k4 => exact .head _); (case k5 => exact .tail _ (.head _)); (case k6 => k_is); (case k7 => exact rfl); (case k8 => k_is); (case k9 => k_is); (case k10 => exact rfl); (case k11 => k_is); (case k12 => exact rfl); (case k13 => assumption); (case k14 => exact rfl)))
  k_with "call ref" => (k_here; (with_reducible show wpAny _ _ (call (Value.ref 234) _) _ _ _); k_dflt (refine' translate_spec ?k1 ?k2 ?k3 ?k4 ?k5 ?k6 ?k7 ?k8 ?k9 ?k10 ?k11 ?k12 ?k13 ?k14 ?k15 ?k16 ?k17 ?k18 ?k19 ?k20 ?k21 ?k22 (fun t'Z o'Z h'Z tk'Z hcZ hc2Z F'Z N'Z hw'Z => ?_) (fun GZ e'Z d'Z es'Z tc'Z tv'Z h'Z tk'Z hcZ g1Z g2Z FGZ smZ rDZ => ?_); k_extra "HA"; (case k8 => assumption); (case k9 => k_extra "H0"); (case k10 => k_updF); (case k11 => first | assumption | (refine allG_cons ?_; first | assumption | (refine allG_cons ?_; assumption))); (case k12 => assumption); (case k13 => assumption); (case k14 => k_extra "H10"); (case k15 => k_extra "H10"); (case k16 => assumption); (case k17 => assumption); (case k18 => assumption); (case k19 => assumption); (case k20 => k_extra "H10"); (case k21 => k_extra "H10"); (case k22 => first | assumption | exact Or.inl ⟨rfl, rfl⟩ | exact Or.inr (Or.inl ⟨rfl, rfl⟩) | exact Or.inr (Or.inr ⟨rfl, rfl⟩))); all_goals (try k_sweep))
  trivial
theorem kind_of {kd ca : Int} {ks : Str} (h : (kd = 0 ∧ ks = "fetch" ∧ ca = 12) ∨ (kd = 1 ∧ ks = "load" ∧ ca = 13) ∨ (kd = 2 ∧ ks = "store" ∧ ca = 15)) : kindOk ks ca := h.imp And.right (Or.imp And.right And.right)
theorem kd_item {A : Around} {s : Shared} {h₀ : Heap} {L : Addr} {w : World} {E : Value → Shared → Prop} {news : Ledger} {kd ca : Int} {ks : Str} {G : Addr} {n : Nat} {u x y z : Tok} {value slice : PySem.Expr} {Q : Value → Shared → Prop} (N : News h₀ L s.heap news)
    (hm : (G, listOf (List.toArray [.str (Str.ofString "fetch") x, .str (Str.ofString "load") y, .str (Str.ofString "store") z]) n) ∈ news)
    (hkd : (kd = 0 ∧ ks = "fetch" ∧ ca = 12) ∨ (kd = 1 ∧ ks = "load" ∧ ca = 13) ∨ (kd = 2 ∧ ks = "store" ∧ ca = 15)) (h : ∀ t, Q (.str ks t) s)
    (hs : subscripted slice false (.ref G) (.int kd u) = operate [.ref G, .int kd u] (getItem (.ref G) (.int kd u))) : wpAny (model pw w) A (subscriptTail value slice (.ref G) (.int kd u)) Q E s := by
  have hl : s.heap.IsList G (List.toArray [.str (Str.ofString "fetch") x, .str (Str.ofString "load") y, .str (Str.ofString "store") z]) := ⟨_, (N _ hm).1, rfl, n, rfl⟩
  rcases hkd with ⟨rfl, rfl, _⟩ | ⟨rfl, rfl, _⟩ | ⟨rfl, rfl, _⟩
  · exact tail_any hl.typeIs slot_list_getitem.lookup (wpAny_getItem_list hl (by decide) (by decide) (by rfl) (h _)) hs
  · exact tail_any hl.typeIs slot_list_getitem.lookup (wpAny_getItem_list hl (by decide) (by decide) (by rfl) (h _)) hs
  · exact tail_any hl.typeIs slot_list_getitem.lookup (wpAny_getItem_list hl (by decide) (by decide) (by rfl) (h _)) hs
theorem rulesA11 : True := by
  k_with "subscriptTail" => (k_here; (with_reducible show wpAny _ _ (subscriptTail _ _ (Value.ref _) (Value.int _ _)) _ _ _); k_dflt (with_unfolding_all refine' kd_item ?k1 ?k2 ?k3 ?_ ?k4; (case k1 => k_asm); (case k2 => k_mem); (case k3 => assumption); (case k4 => with_unfolding_all rfl)); intro u'Z)
  trivial
theorem accessed_spec {root ad q v ca kd : Int} {ks : Str} {tr ta t1 : Tok}
  (B : Below A₀ base [] h₀) (F : Fr h₀ L s.heap m) (X : (KF w.params).In h₀) (N : News h₀ L s.heap news) (T : Top p loose mean mg mb h₀) (hk : cs.kind = .function) (hd : dp + 24 < recursionLimit) (XB : (KF w.params).In base) (TB : Top p loose mean mg mb base)
  (S : Std c rest) (hs : ∀ x ∈ rest, x ∈ news) (U : UpdF c.w oW news g) (hs' : AllG rest g) (hw : Wd w oW M) (hr : root = 896 ∨ root = 912) (h0 : 0 ≤ ad) (hh : ad < 256) (hq : q = 58 ∨ q = 59)
  (he : M (root / 4 + ad / 64) = 1024 * q + 1) (hv : M (4 * q + ad / 16 % 4) = v) (hsd : v = 0 ∨ (soundB v = true ∧ Builtin.bitAnd v 10 ≠ 0)) (hb : 0 ≤ v ∧ v < 1099511627776) (hdu : 0 ≤ dueOf ks v ∧ dueOf ks v < 4294967296)
  (hkd : (kd = 0 ∧ ks = "fetch" ∧ ca = 12) ∨ (kd = 1 ∧ ks = "load" ∧ ca = 13) ∨ (kd = 2 ∧ ks = "store" ∧ ca = 15))
  (hret : ∀ t o' h' tk', v ≠ 0 → mayB ks v → Fr h₀ L h' m → News h₀ L h' (g o') → Wd w o' (upM M (4 * q + ad / 16 % 4) (dueOf ks v)) → Q (.int (16 * (v / 1024) + ad % 16) t) { s with heap := h', toks := tk' })
  (hno : ∀ P ta tb n h' tk', (v = 0 ∨ ¬ mayB ks v) → Fr h₀ L h' m → News h₀ L h' ((P, ({ cls := .type "tuple", data := .seq (List.toArray [.int ca ta, .int ad tb]) n } : Obj)) :: news) → Q (.ref P) { s with heap := h', toks := tk' }) :
  wpAny (model pw w) (ktrTop dp un gd cn cs L a ccd [] []) (call (.ref 866) [.ref c.k, .int root tr, .int ad ta, .int kd t1]) Q E s := by
  have hwm : (c.w, oW) ∈ news := updF_mem U
  have lo := S.low
  have hm1 := MemIn.a (S.mem) hs
  have hm2 := MemIn.b (S.mem) hs
  have hl1 := LayIn.a (S.lay) hs
  have hl2 := LayIn.b (S.lay) hs
  have hb1 := BusIn.a (S.bus) hs
  have hb2 := BusIn.b (S.bus) hs
  have hk1 := WalkIn.a (S.walk) hs
  have hk2 := WalkIn.b (S.walk) hs
  have hks := kind_of hkd
  refine wpAny_call ?_
  k_dflt (refine' code_defS0 ?k1 ?k2 ?k3 ?k4 ?k5 ?kA ?k6 ?k7 ?k8 ?k9 ?kB ?_ ?c1 ?c2 ?c3 ?c4 ?c5)
  case k1 => k_asm
  case k2 => k_asm
  case k3 => k_asm
  case k4 => k_asm
  case k5 => k_asm
  case kA => exact rfl
  case k6 => k_is
  case k7 => k_is
  case k8 => k_room
  case k9 => exact BindsTo.of_eq rfl
  case kB => exact locs rfl
  case c1 => assumption
  case c2 => exact rfl
  case c3 => exact rfl
  case c4 => exact rfl
  case c5 => decide
  intro g' L' h' FG' F' N' B' X' T' D'
  try dsimp only
  try k_lift B'
  try k_fold
  k_steps
  all_goals first
    | exact hret _ _ _ _ (by assumption) (by assumption) (by assumption) (by assumption) (by assumption)
    | exact hret _ _ _ _ (by assumption) (by assumption) (by assumption) (news_drop (by assumption)) (by assumption)
    | exact hno _ _ _ _ _ _ (by assumption) (by assumption) (news_drop2 (news_drop2 (news_drop2 (by assumption))))
    | exact hno _ _ _ _ _ _ (by assumption) (by assumption) (news_drop2 (news_drop2 (by assumption)))
    | exact hno _ _ _ _ _ _ (by assumption) (by assumption) (news_drop2 (news_drop2 (news_drop2 (news_drop2 (by assumption)))))
    | skip
end
end Mine

namespace Mine
/-- the end of one turn of a loop whose ledger may grow -/
noncomputable def TurnV (h₀ : Heap) (L I : Addr) (oI : Obj) (J : (Str → Option Value) → Ledger → Prop) (s₁ : Shared) (Q : Flow → Shared → Prop) (f : Flow) (s₂ : Shared) : Prop :=
  match f with
  | .ret v => Q (.ret v) s₂
  | .brk => Q .next s₂
  | _ => ∃ h' tk m₂ nx, s₂ = { s₁ with heap := h', toks := tk } ∧ Fr h₀ L h' m₂ ∧ News h₀ L h' ((I, oI) :: nx) ∧ (∀ p ∈ nx, p.1 ≠ I) ∧ J m₂ nx
noncomputable def TurnT (h₀ : Heap) (L I D : Addr) (oI oD : Obj) (J : (Str → Option Value) → Ledger → Prop) (s₁ : Shared) (f : Flow) (s₂ : Shared) : Prop :=
  f = .next ∧ ∃ h' tk m₂ nx, s₂ = { s₁ with heap := h', toks := tk } ∧ Fr h₀ L h' m₂ ∧ News h₀ L h' ((I, oI) :: (D, oD) :: nx) ∧ (∀ p ∈ nx, p.1 ≠ I) ∧ J m₂ nx
section
variable {w : World} {A : Around} {E : Value → Shared → Prop} {s : Shared} {env : Env} {h₀ : Heap} {x : Str} {body : List Stmt} {Q : Flow → Shared → Prop}
theorem range_grow {r : Addr} {a₀ b₀ : Int} {t₀ u₀ v₀ : Tok} {n : Nat} {m₀ : Str → Option Value} {news : Ledger} (J : Nat → (Str → Option Value) → Ledger → Prop)
    (hh : A.handled = none) (hr : IsRange s.heap r a₀ b₀ 1 t₀ u₀ v₀) (hsmall : Builtin.Range.small a₀ b₀ 1 = true) (hn : Builtin.Range.rangeSize a₀ b₀ 1 = (n : Int)) (F : Fr h₀ env.locals s.heap m₀) (N : News h₀ env.locals s.heap news)
    (h0 : J 0 m₀ news)
    (turn : ∀ I oI i m₁ nx h tk t, i < n → (∀ p ∈ nx, p.1 ≠ I) → J i m₁ nx → Fr h₀ env.locals h (fun y => if y = x then some (.int (a₀ + (i : Int)) t) else m₁ y) → News h₀ env.locals h ((I, oI) :: nx) →
      wpAny (model pw w) A (execs body env) (TurnV h₀ env.locals I oI (J (i + 1)) { s with heap := h, toks := tk } Q) E { s with heap := h, toks := tk })
    (done : ∀ h tk m₁ nx, J n m₁ nx → Fr h₀ env.locals h m₁ → News h₀ env.locals h nx → Q .next { s with heap := h, toks := tk }) :
    wpAny (model pw w) A (pyIter (.ref r)) (fun it s₂ => LoopAtV pw w A h₀ env x body Q E it s₂) E s := by
  refine wpAny_pyIter_range hr hsmall ?_
  have W := PyProof.Rows.LCg.range_walks (prog := pw) (w := w) (I := s.heap.objs.size) hh a₀ n
  have hnew := next_is_new F
  refine ⟨_, _, _, n, _, _, m₀, news, J, rfl, W, ?_, ?_, ?_, (by show IsRangeIter _ _ _ _ _; rw [hn]; simpa using Heap.get?_push_size _ rfl), F.push _, (fun p hp => ⟨Heap.get?_push_of_some _ (N p hp).1, (N p hp).2⟩), h0, ?_, ?_⟩
  · intro hm
    exact absurd F.ns.lt ((List.mem_singleton.mp hm) ▸ Nat.lt_irrefl _)
  · intro b hb
    rw [List.mem_singleton.mp hb]
    exact hnew
  · intro p hp hI
    exact absurd (Heap.lt_size (N p hp).1) ((List.mem_singleton.mp hI) ▸ Nat.lt_irrefl _)
  · rintro i v m₁ news₁ s₁ own ⟨hh', tk', rfl⟩ hin ⟨t, rfl⟩ hJ hoff hown hget hall hst F₁ N₁
    obtain ⟨oI, hst'⟩ : ∃ o, hh'.get? s.heap.objs.size = some o := ⟨_, hst⟩
    have hmem := hall s.heap.objs.size (List.mem_singleton.mpr rfl) hnew _ hst'
    refine wpAny_mono (turn s.heap.objs.size oI i m₁ news₁ hh' tk' t hin (fun p hp e => hoff p hp (List.mem_singleton.mpr e)) hJ F₁ (fun p hp => by
      rcases List.mem_cons.mp hp with rfl | hp
      · exact N₁ _ (List.mem_append_left _ hmem)
      · exact N₁ _ (List.mem_append_right _ hp))) (fun f s₂ p => ?_) fun _ _ e => e
    have fin : (∃ h' tk m₂ nx, s₂ = { s with heap := h', toks := tk } ∧ Fr h₀ env.locals h' m₂ ∧ News h₀ env.locals h' ((s.heap.objs.size, oI) :: nx) ∧ (∀ p ∈ nx, p.1 ≠ s.heap.objs.size) ∧ J (i + 1) m₂ nx) →
        LoopStepU h₀ env.locals [s.heap.objs.size] own (J (i + 1)) { s with heap := hh', toks := tk' } .next s₂ := by
      rintro ⟨h', tk, m', nx, e, F', N', ho, r⟩
      refine ⟨rfl, h', tk, m', nx, e, F', fun p hp => ?_, fun p hp hI => ho p hp (List.mem_singleton.mp hI), r⟩
      rcases List.mem_append.mp hp with hp | hp
      · have h1 : p.1 = s.heap.objs.size := List.mem_singleton.mp (hown p hp)
        have h2 : hh'.get? p.1 = some p.2 := hget p hp
        rw [h1, hst'] at h2
        have h3 : p = (s.heap.objs.size, oI) := Prod.ext h1 (Option.some.inj h2).symm
        rw [h3]; exact N' _ (List.mem_cons_self ..)
      · exact N' _ (List.mem_cons_of_mem _ hp)
    cases f with
    | ret v => exact .ret p
    | brk => exact .brk p
    | next => exact .next (fin p)
    | cont => exact .cont (fin p)
  · rintro h' tk m' news' F' N' _ hJ
    exact done h' tk m' news' hJ F' N'
end

section
variable {w : World} {A : Around} {E : Value → Shared → Prop} {s : Shared} {d it : Addr} {es : Array DictEntry} {ep i : Nat} {od : Obj}
theorem pyIter_own {Q : Value → Shared → Prop} (hd : (d == sysModules) = false) (ho : s.heap.get? d = some od) (hc : od.ExactDict) (hdat : od.data = .dict es ep)
    (hQ : Q (.ref s.heap.objs.size) { s with heap := s.heap.push { cls := .type "dict_keyiterator", data := .fields #[.ref d, .int 0 0, .int es.size 0, .int ep 0] } }) :
    wpAny (model pw w) A (pyIter (.ref d)) Q E s := by
  have hT : s.TypeIs (.ref d) "dict" := ⟨od, ho, hc.1⟩
  refine wpAny_pyIter_slot hT F.slot_dict_iter (wpAny_call_entry F.slot_dict_iter hT F.entry_dict_iter ?_ (F.args_dict_iter_1 _))
  unfold Builtin.«dict.__iter__»
  refine wpAny_bind ?_
  unfold Builtin.Dict.dictSlotNone
  refine wpAny_bind (wpAny_notOrdered_dict hT ?_)
  show wpAny _ _ (pure (Value.ref d)) _ _ s
  refine wpAny_pure ?_
  show wpAny _ _ (Builtin.Dict.showsAll d >>= _) _ _ s
  unfold Builtin.Dict.showsAll
  rw [if_neg (by rw [hd]; exact Bool.false_ne_true)]
  refine wpAny_bind (wpAny_pure ?_)
  refine wpAny_bind (wpAny_dictEntries ho hdat ?_)
  refine wpAny_bind (wpAny_dictEpoch ho hdat ?_)
  refine wpAny_bind (wpAny_newObj_type (wpAny_pure ⟨_, rfl, "dict_keyiterator", _, ⟨_, Heap.get?_push_size _ rfl, rfl⟩, F.slot_dict_keyiterator_next.lookup, ?_⟩))
  simpa [rawInt] using hQ
theorem pyNext_own {Q : Option Value → Shared → Prop} (hit : s.heap.IsKeyIter it d i es.size ep) (ho : s.heap.get? d = some od) (hdd : od.data = .dict es ep) (hlt : i < es.size)
    (hQ : ∀ h', h'.IsKeyIter it d (i + 1) es.size ep → Heap.SameBut it s.heap h' → Q (some es[i].key) { s with heap := h' }) :
    wpAny (model pw w) A (pyNext (.ref it)) Q E s := by
  obtain ⟨o, hio, hc, hd⟩ := id hit
  unfold pyNext
  refine wpAny_bind (wpAny_attempt (wpAny_callSpecial?_slot (name := Str.ofString "__next__") hit.typeIs F.slot_dict_keyiterator_next
    (wpAny_call_entry F.slot_dict_keyiterator_next hit.typeIs F.entry_dict_keyiterator_next ?_ (F.args_dict_keyiterator_next_1 _))))
  refine wpAny_bind (wpAny_pure ?_)
  refine wpAny_bind ?_
  refine wpAny_bind ?_
  first | refine wpAny_bind (wpAny_typeNameOfWhole_keyiter hit.typeIs (wpAny_pure ?_)) | refine wpAny_bind (wpAny_typeNameOf_keyiter hit.typeIs (wpAny_pure ?_))
  refine wpAny_bind (wpAny_fieldsOf hio hd ?_)
  have hown : Builtin.Dict_items.ownsTuple "dict_keyiterator" = false := by decide
  rw [hown, if_neg Bool.false_ne_true]
  show wpAny _ _ (if (Value.ref d == Value.none) = true then _ else _) _ _ s
  rw [if_neg (show ¬ ((Value.ref d == Value.none) = true) from Bool.false_ne_true)]
  refine wpAny_bind (wpAny_pure ?_)
  refine wpAny_bind (wpAny_dictEntries ho hdd ?_)
  rw [if_neg (by simp)]
  refine wpAny_bind (wpAny_pure ?_)
  refine wpAny_bind (wpAny_dictEpoch ho hdd ?_)
  rw [if_neg (by simp)]
  refine wpAny_pure ?_
  dsimp only
  rw [if_neg (show ¬ ((i : Int) < 0) from by lia), Int.toNat_natCast, Array.getElem?_eq_getElem hlt]
  refine wpAny_bind ?_
  first | refine wpAny_bind (wpAny_typeNameOfWhole_keyiter hit.typeIs (wpAny_pure ?_)) | refine wpAny_bind (wpAny_typeNameOf_keyiter hit.typeIs (wpAny_pure ?_))
  refine wpAny_bind (wpAny_isOneOf_keyiter hit.typeIs ?_)
  show wpAny _ _ (setField (.ref it) 1 (rawInt ((i : Int) + 1)) >>= _) _ _ s
  refine wpAny_bind (wpAny_setField hio hd (by simp) ?_)
  have hit' : (s.heap.update it (Obj.mapFields (·.setIfInBounds 1 (rawInt ((i : Int) + 1))))).IsKeyIter it d (i + 1) es.size ep :=
    ⟨_, Heap.get?_update_self _ hio (Obj.isFreed_of_fields (Obj.data_mapFields hd _)), (Obj.cls_mapFields ..).trans hc, by rw [Obj.data_mapFields hd]; simp [rawInt]⟩
  refine wpAny_bind (wpAny_holding ?_)
  refine wpAny_bind (wpAny_isOneOf_keyiter (s := { s with heap := s.heap.update it (Obj.mapFields (·.setIfInBounds 1 (rawInt ((i : Int) + 1)))) }) hit'.typeIs ?_)
  show wpAny _ _ (pure es[i].key) _ _ _
  exact wpAny_pure (wpAny_pure ⟨_, rfl, wpAny_pure (hQ _ hit' (Heap.SameBut.update ..))⟩)
theorem pyNext_own_end {Q : Option Value → Shared → Prop} (hh : A.handled = none) (hit : s.heap.IsKeyIter it d es.size es.size ep) (ho : s.heap.get? d = some od) (hdd : od.data = .dict es ep)
    (hQ : ∀ h', Heap.ExtBut it s.heap h' → Q none { s with heap := h' }) : wpAny (model pw w) A (pyNext (.ref it)) Q E s := by
  obtain ⟨o, hio, hc, hd⟩ := id hit
  unfold pyNext
  refine wpAny_bind (wpAny_attempt (wpAny_callSpecial?_slot (name := Str.ofString "__next__") hit.typeIs F.slot_dict_keyiterator_next
    (wpAny_call_entry F.slot_dict_keyiterator_next hit.typeIs F.entry_dict_keyiterator_next ?_ (F.args_dict_keyiterator_next_1 _))))
  refine wpAny_bind (wpAny_pure ?_)
  refine wpAny_bind ?_
  refine wpAny_bind ?_
  first | refine wpAny_bind (wpAny_typeNameOfWhole_keyiter hit.typeIs (wpAny_pure ?_)) | refine wpAny_bind (wpAny_typeNameOf_keyiter hit.typeIs (wpAny_pure ?_))
  refine wpAny_bind (wpAny_fieldsOf hio hd ?_)
  have hown : Builtin.Dict_items.ownsTuple "dict_keyiterator" = false := by decide
  rw [hown, if_neg Bool.false_ne_true]
  show wpAny _ _ (if (Value.ref d == Value.none) = true then _ else _) _ _ s
  rw [if_neg (show ¬ ((Value.ref d == Value.none) = true) from Bool.false_ne_true)]
  refine wpAny_bind (wpAny_pure ?_)
  refine wpAny_bind (wpAny_dictEntries ho hdd ?_)
  rw [if_neg (by simp)]
  refine wpAny_bind (wpAny_pure ?_)
  refine wpAny_bind (wpAny_dictEpoch ho hdd ?_)
  rw [if_neg (by simp)]
  refine wpAny_pure ?_
  dsimp only
  rw [if_neg (show ¬ ((es.size : Int) < 0) from by lia), Int.toNat_natCast, Array.getElem?_eq_none (Nat.le_refl es.size)]
  refine wpAny_bind ?_
  first | refine wpAny_bind (wpAny_typeNameOfWhole_keyiter hit.typeIs (wpAny_pure ?_)) | refine wpAny_bind (wpAny_typeNameOf_keyiter hit.typeIs (wpAny_pure ?_))
  show wpAny _ _ (setField (.ref it) 0 .none >>= _) _ _ s
  refine wpAny_bind (wpAny_setField hio hd (by simp) ?_)
  show wpAny _ _ (newExc (.type "StopIteration") [] >>= _) _ _ _
  refine wpAny_bind ?_
  simp only [newExc, newTuple]
  refine wpAny_bind (wpAny_newObj_type ?_ (by size_fits))
  refine wpAny_bind (m := firstArgMember _ _) (wpAny_of_eq (a := Value.none) (by first | rfl | (simp only [firstArgMember]; rfl)) ?_)
  refine wpAny_newObj_type ?_ (by size_fits)
  unfold raiseNew
  dsimp only
  refine wpAny_bind (wpAny_handled ?_)
  rw [show A.in1.handled = none from hh]
  refine wpAny_bind (wpAny_pure (wpAny_throw ?_))
  refine wpAny_bind (wpAny_isInstance (T := "StopIteration") (b := true) ⟨_, Heap.get?_push_size _ rfl, rfl⟩ isSubtype_stop ?_)
  exact wpAny_pure (hQ _ (((Heap.SameBut.update ..).extBut.push _).push _))
theorem Walks.own (hh : A.handled = none) (I d : Addr) (hne : d ≠ I) (hdd : od.data = .dict es ep) :
    Walks pw w A I [I, d] [I] es.size (fun i v => ∃ e, es[i]? = some e ∧ v = e.key) (fun i h => h.IsKeyIter I d i es.size ep ∧ h.get? d = some od) where
  sub := fun b hb => by simp at hb; simp [hb]
  frame := fun _ _ _ st hk => ⟨st.1.at fun o e => hk I (by simp) o e, hk d (by simp) _ st.2⟩
  item := fun i s Q E hi st hQ => by
    refine pyNext_own st.1 st.2 hdd hi fun h' hit' hs' => ?_
    exact hQ _ h' s.toks ⟨_, Array.getElem?_eq_getElem hi, rfl⟩ ⟨hit', (hs'.2 d hne).trans st.2⟩ fun b o hb e => hs'.extBut b o (fun h => hb (by simp [h])) e
  done := fun s Q E st hQ => pyNext_own_end hh st.1 st.2 hdd fun h' he' => hQ h' s.toks fun b o hb e => he' b o (fun h => hb (by simp [h])) e
  self := fun _ _ _ _ st hQ => wpAny_pyIter_keyiter st.1 hQ
end
section
variable {w : World} {A : Around} {E : Value → Shared → Prop} {s : Shared} {env : Env} {h₀ : Heap} {target : Expr} {body : List Stmt} {Q : Flow → Shared → Prop}
theorem OwR.at_idx {im : Ledger} {xs : OX} {ds : Own} (r : OwR im xs ds) : ∀ (i : Nat), i < xs.length → ∃ f u p fl t t' tp tf n n' a b, xs[i]? = some ([f, u], a, .ref b) ∧ ds[i]? = some ((f, u), (p, fl)) ∧ (a, tupO [.int f t, .int u t'] n) ∈ im ∧ (b, tupO [.int p tp, .int fl tf] n') ∈ im := by
  induction r with
  | nil => intro i h; simp at h
  | cons h1 h2 _ ih =>
    intro i h
    cases i with
    | zero => exact ⟨_, _, _, _, _, _, _, _, _, _, _, _, rfl, rfl, h1, h2⟩
    | succ j => exact ih j (by simpa using h)
theorem own_grow {D : Addr} {oD : Obj} {ds : Own} {im news : Ledger} {m₀ : Str → Option Value} (J : Nat → (Str → Option Value) → Ledger → Prop)
    (hh : A.handled = none) (lo : (D == sysModules) = false) (F : Fr h₀ env.locals s.heap m₀) (N : News h₀ env.locals s.heap news) (hp : (D, oD) ∈ news) (W : Ow w im oD ds)
    (h0 : J 0 m₀ news)
    (turn : ∀ I oI i m₁ nx (s₁ : Shared) f u p fl t t' n a, ds[i]? = some ((f, u), (p, fl)) → (a, tupO [.int f t, .int u t'] n) ∈ im → (∀ p ∈ nx, p.1 ≠ I) → J i m₁ nx → Fr h₀ env.locals s₁.heap m₁ → News h₀ env.locals s₁.heap ((I, oI) :: (D, oD) :: nx) →
      wpAny (model pw w) A (assign target env (.ref a)) (fun _ s₃ => wpAny (model pw w) A (execs body env) (TurnT h₀ env.locals I D oI oD (J (i + 1)) s₁) E s₃) E s₁)
    (done : ∀ h tk m₁ nx, J ds.length m₁ nx → Fr h₀ env.locals h m₁ → News h₀ env.locals h nx → Q .next { s with heap := h, toks := tk }) :
    wpAny (model pw w) A (pyIter (.ref D)) (fun it s₂ => LoopAtT pw w A h₀ env target body Q E it s₂) E s := by
  obtain ⟨xs, hc, ⟨es, ep, hd, he⟩, _, r⟩ := W
  have ho := (N _ hp).1
  have hsz : es.size = ds.length := by rw [← r.len]; have := congrArg List.length he; simpa using this
  refine pyIter_own lo ho hc hd ?_
  have hne : D ≠ s.heap.objs.size := Nat.ne_of_lt (Heap.lt_size ho)
  have W := Walks.own (w := w) hh s.heap.objs.size D hne hd
  have hnew := next_is_new F
  have hnD : h₀.get? D = none := (N _ hp).2.2
  refine ⟨_, _, _, es.size, _, _, m₀, news, J, rfl, W, ?_, ?_, ?_, ⟨⟨_, Heap.get?_push_size _ rfl, rfl, rfl⟩, Heap.get?_push_of_some _ ho⟩, F.push _, (fun p hp => ⟨Heap.get?_push_of_some _ (N p hp).1, (N p hp).2⟩), (fun i s' v Q' st hq => letGo_keyiter st.1 hq), h0, ?_, ?_⟩
  · intro hm
    rcases List.mem_cons.mp hm with e | hm
    · exact absurd F.ns.lt (e ▸ Nat.lt_irrefl _)
    · exact (N _ hp).2.1 ((List.mem_singleton.mp hm).symm)
  · intro b hb
    rw [List.mem_singleton.mp hb]
    exact hnew
  · intro p hp hI
    exact absurd (Heap.lt_size (N p hp).1) ((List.mem_singleton.mp hI) ▸ Nat.lt_irrefl _)
  · rintro i v m₁ nx s₁ own hi ⟨e, hei, rfl⟩ hJ hoff hown hget hall hst F₁ N₁
    have hst1 := hst.1
    obtain ⟨oI, hoI, _⟩ := hst.1
    have hmI := hall s.heap.objs.size (.head _) hnew _ hoI
    have hmD := hall D (.tail _ (.head _)) hnD _ hst.2
    obtain ⟨f, u, p, fl, t, t', tp, tf, n, n', a, b, hx, hds, ha, hb⟩ := r.at_idx i (by have := congrArg List.length he; simp at this; lia)
    have hkey : e.key = .ref a := by
      have e1 : es.toList[i]? = some e := by simpa using hei
      rw [he, List.getElem?_map, hx] at e1
      injection e1 with e1
      rw [← e1]; rfl
    rw [hkey]
    refine wpAny_mono (turn s.heap.objs.size oI i m₁ nx s₁ f u p fl t t' n a hds ha (fun p hp e => hoff p hp (List.mem_singleton.mpr e)) hJ F₁ (fun p hp => by
      rcases List.mem_cons.mp hp with rfl | hp
      · exact N₁ _ (List.mem_append_left _ hmI)
      · rcases List.mem_cons.mp hp with rfl | hp
        · exact N₁ _ (List.mem_append_left _ hmD)
        · exact N₁ _ (List.mem_append_right _ hp))) (fun _ s₃ p => wpAny_mono p (fun fl s₂ q => ?_) fun _ _ e => e) fun _ _ e => e
    obtain ⟨rfl, h', tk, m', nx', e, F', N', ho', hJ'⟩ := q
    refine ⟨rfl, h', tk, m', nx', e, F', fun p hp => ?_, fun p hp hI => ho' p hp (List.mem_singleton.mp hI), hJ'⟩
    rcases List.mem_append.mp hp with hp | hp
    · have h2 := hget p hp
      rcases List.mem_cons.mp (hown p hp) with e1 | e1
      · rw [e1, hoI] at h2
        have h3 : p = (s.heap.objs.size, oI) := Prod.ext e1 (Option.some.inj h2).symm
        rw [h3]; exact N' _ (.head _)
      · have e1 := List.mem_singleton.mp e1
        rw [e1, hst.2] at h2
        have h3 : p = (D, oD) := Prod.ext e1 (Option.some.inj h2).symm
        rw [h3]; exact N' _ (.tail _ (.head _))
    · exact N' _ (.tail _ (.tail _ hp))
  · rintro h' tk m' nx F' N' _ hJ
    rw [hsz] at hJ
    exact done h' tk m' nx hJ F' N'
end
end Mine

namespace Mine
noncomputable def StopHere (P : Prop) : Prop := P
theorem stop_here {P : Prop} (h : StopHere P) : P := h
section
variable {w : World} {A : Around} {E : Value → Shared → Prop} {s : Shared} {h₀ : Heap} {L D b : Addr} {m : Str → Option Value} {news : Ledger} {g : Obj → Ledger} {vs us : List Value} {n n2 : Nat} {x : Value}
theorem app_U {Q : Value → Shared → Prop} (F : Fr h₀ L s.heap m) (N : News h₀ L s.heap news) (U : UpdF D (listOf vs.toArray n) news g) (hz : vs.length ≤ 1000)
    (h : ∀ h', Fr h₀ L h' m → News h₀ L h' (g (listOf (vs ++ [x]).toArray (n + 1))) → Q .none { s with heap := h' }) : wpAny (model pw w) A (call (.builtin "list.append") [.ref D, x]) Q E s := by
  obtain ⟨pre, post, rfl, hg, a, b⟩ := U.split
  have z := N (D, listOf vs.toArray n) (List.mem_append.mpr (.inr (.head _)))
  refine append_at (hsz := by rw [sizeLine_eq, List.size_toArray]; lia) z.1 fun h' hs ho' => h h' (F.change hs z.2.1 z.2.2) (hg _ ▸ news_set N a b hs ?_)
  rw [ho', List.push_toArray]
theorem upd_of {d : Addr} {o o' : Obj} {l : Ledger} {g : Obj → Ledger} (U : UpdF d o l g) : Upd d o o' l (g o') := by
  induction U with
  | head h => exact .head h
  | tail h _ ih => exact .tail h ih
theorem ext_U {Q : Value → Shared → Prop} (F : Fr h₀ L s.heap m) (N : News h₀ L s.heap news) (hb : (b, listOf us.toArray n2) ∈ news) (U : UpdF D (listOf vs.toArray n) news g) (hz : vs.length + us.length ≤ 1000)
    (h : ∀ h' n', Fr h₀ L h' m → News h₀ L h' (g (listOf (vs ++ us).toArray n')) → Q .none { s with heap := h' }) : wpAny (model pw w) A (call (.builtin "list.extend") [.ref D, .ref b]) Q E s := by
  have e1 : ¬(!vs.toArray.isEmpty && Builtin.List.listTooLong (vs.toArray.size + us.toArray.size)) = true := by
    have : Builtin.List.listTooLong (vs.toArray.size + us.toArray.size) = false := by
      unfold Builtin.List.listTooLong
      simp only [List.size_toArray]
      first
        | (apply decide_eq_false; simp [sizeLine_eq]; lia)
        | (simp; lia)
    rw [this, Bool.and_false]; exact Bool.false_ne_true
  have e2 : vs.toArray.toList.length ≤ sizeLine := by rw [sizeLine_eq]; simp; lia
  have e3 : vs.toArray.size + us.toArray.size ≤ sizeLine + 1 := by rw [sizeLine_eq]; simp; lia
  by_cases hu : us = []
  · subst hu
    have hh := h (n' := n)
    rw [List.append_nil] at hh
    exact kxn_extend F N hb rfl (upd_of U) e1 e2 e3 fun h' F' N' => hh h' F' N'
  · refine kl_extend (l := vs ++ us) F N hb (by simp) (by simp; exact hu) (upd_of U) e1 e2 e3 fun h' F' N' => h h' (n + 1) F' N'
theorem goal_item {L : Addr} {h₀ : Heap} {news : Ledger} {G : Addr} {value slice : Expr} {Q : Value → Shared → Prop} {g0 g1 k : Int} {t0 t1 u : Tok} {n : Nat} (N : News h₀ L s.heap news) (hm : (G, listOf (List.toArray [.int g0 t0, .int g1 t1]) n) ∈ news) (hk : k = 0 ∨ k = 1)
    (h : ∀ t, Q (.int (if k = 0 then g0 else g1) t) s)
    (hs : subscripted slice false (.ref G) (.int k u) = operate [.ref G, .int k u] (getItem (.ref G) (.int k u))) : wpAny (model pw w) A (subscriptTail value slice (.ref G) (.int k u)) Q E s := by
  have hl : s.heap.IsList G (List.toArray [.int g0 t0, .int g1 t1]) := ⟨_, (N _ hm).1, rfl, n, rfl⟩
  rcases hk with rfl | rfl
  · exact tail_any hl.typeIs slot_list_getitem.lookup (wpAny_getItem_list hl (by decide) (by decide) (by rfl) (h t0)) hs
  · exact tail_any hl.typeIs slot_list_getitem.lookup (wpAny_getItem_list hl (by decide) (by decide) (by rfl) (h t1)) hs
end
end Mine

namespace Mine
/-- the end of a turn that may have added rows to a list -/
noncomputable def EndL (h₀ : Heap) (L I Fl : Addr) (oI : Obj) (x n1 n2 : Str) (m₀ : Str → Option Value) (news : Ledger) (ds : List Dat) (s₁ s₂ : Shared) : Prop :=
  ∃ h' tk m₂ vs nn tl, s₂ = { s₁ with heap := h', toks := tk } ∧ Fr h₀ L h' m₂ ∧ News h₀ L h' ((I, oI) :: (Fl, listOf (List.toArray vs) nn) :: (tl ++ news)) ∧ (∀ p ∈ tl, p.1 ≠ I) ∧ (∀ p ∈ tl, p.1 ≠ Fl) ∧ (∀ p ∈ tl, ∀ q ∈ news, q.1 < p.1) ∧ DatAll tl vs ds ∧
    ∀ y, y ≠ x → y ≠ n1 → y ≠ n2 → m₂ y = m₀ y
noncomputable def TurnL (h₀ : Heap) (L I Fl : Addr) (oI : Obj) (x n1 n2 : Str) (m₀ : Str → Option Value) (news : Ledger) (ds : List Dat) (s₁ : Shared) (Q : Flow → Shared → Prop) (f : Flow) (s₂ : Shared) : Prop :=
  match f with
  | .ret v => Q (.ret v) s₂
  | .brk => Q .next s₂
  | _ => EndL h₀ L I Fl oI x n1 n2 m₀ news ds s₁ s₂
theorem form2 {m m₀ : Str → Option Value} {x n1 n2 : Str} {v : Option Value} (h : ∀ y, y ≠ x → y ≠ n1 → y ≠ n2 → m y = m₀ y) :
    (fun y => if y = x then v else m y) = fun y => if y = x then v else if y = n1 then m y else if y = n2 then m y else m₀ y := by
  funext y
  by_cases h1 : y = x
  · simp [h1]
  · by_cases h2 : y = n1
    · simp [h2]
    · by_cases h3 : y = n2
      · simp [h3]
      · simp [h1, h2, h3, h y h1 h2 h3]
theorem form3 {m m₀ : Str → Option Value} {x n1 n2 : Str} (h : ∀ y, y ≠ x → y ≠ n1 → y ≠ n2 → m y = m₀ y) :
    m = fun y => if y = x then m y else if y = n1 then m y else if y = n2 then m y else m₀ y := by
  funext y
  by_cases h1 : y = x
  · simp [h1]
  · by_cases h2 : y = n1
    · simp [h2]
    · by_cases h3 : y = n2
      · simp [h3]
      · simp [h1, h2, h3, h y h1 h2 h3]
section
variable {w : World} {A : Around} {E : Value → Shared → Prop} {s : Shared} {env : Env} {h₀ : Heap} {x : Str} {body : List Stmt} {Q : Flow → Shared → Prop}
theorem range_list {r Fl : Addr} {t₀ u₀ v₀ : Tok} {m₀ : Str → Option Value} {news : Ledger} (dsf : Nat → List Dat) (n1 n2 : Str)
    (hh : A.handled = none) (hr : IsRange s.heap r 0 4 1 t₀ u₀ v₀) (F : Fr h₀ env.locals s.heap m₀) (N : News h₀ env.locals s.heap ((Fl, listOf #[] 0) :: news)) (hlt : ∀ p ∈ news, p.1 < Fl)
    (h0 : dsf 0 = []) (hz : ∀ i, i ≤ 4 → (dsf i).length ≤ 100)
    (turn : ∀ I oI (i : Nat) (u : Str → Option Value) vs nn tl h tk t, i < 4 → I ≠ Fl → (∀ p ∈ tl ++ news, p.1 ≠ I) → (∀ p ∈ tl, p.1 ≠ Fl) → (∀ p ∈ tl, ∀ q ∈ news, q.1 < p.1) → DatAll tl vs (dsf i) → vs.length ≤ 100 →
      UpdF Fl (listOf (List.toArray vs) nn) ((Fl, listOf (List.toArray vs) nn) :: (tl ++ news)) (fun o => (Fl, o) :: (tl ++ news)) →
      Fr h₀ env.locals h (fun y => if y = x then some (.int (i : Int) t) else if y = n1 then u y else if y = n2 then u y else m₀ y) → News h₀ env.locals h ((I, oI) :: (Fl, listOf (List.toArray vs) nn) :: (tl ++ news)) →
      wpAny (model pw w) A (execs body env) (TurnL h₀ env.locals I Fl oI x n1 n2 m₀ news (dsf (i + 1)) { s with heap := h, toks := tk } Q) E { s with heap := h, toks := tk })
    (done : ∀ (u : Str → Option Value) vs nn tl h tk, (∀ p ∈ tl, p.1 ≠ Fl) → (∀ p ∈ tl, ∀ q ∈ news, q.1 < p.1) → DatAll tl vs (dsf 4) → Fr h₀ env.locals h (fun y => if y = x then u y else if y = n1 then u y else if y = n2 then u y else m₀ y) → News h₀ env.locals h ((Fl, listOf (List.toArray vs) nn) :: (tl ++ news)) → Q .next { s with heap := h, toks := tk }) :
    wpAny (model pw w) A (pyIter (.ref r)) (fun it s₂ => LoopAtV pw w A h₀ env x body Q E it s₂) E s := by
  refine range_grow (n := 4) (fun i m nx => ∃ vs nn tl, nx = (Fl, listOf (List.toArray vs) nn) :: (tl ++ news) ∧ (∀ p ∈ tl, p.1 ≠ Fl) ∧ (∀ p ∈ tl, ∀ q ∈ news, q.1 < p.1) ∧ DatAll tl vs (dsf i) ∧ ∀ y, y ≠ x → y ≠ n1 → y ≠ n2 → m y = m₀ y)
    hh hr (by decide) (by decide) F N ⟨[], 0, [], rfl, (fun p h => by cases h), (fun p h => by cases h), (by rw [h0]; exact .nil), fun _ _ _ _ => rfl⟩ ?_ ?_
  · rintro I oI i m₁ nx h tk t hi hoff ⟨vs, nn, tl, rfl, hF, hsub, hD, hm⟩ F₁ N₁
    rw [form2 hm, Int.zero_add] at F₁
    have hlen : vs.length ≤ 100 := by rw [hD.length]; exact hz i (by lia)
    have hF2 : ∀ p ∈ tl ++ news, p.1 ≠ Fl := fun p hp => (List.mem_append.mp hp).elim (hF p) fun q => Nat.ne_of_lt (hlt p q)
    refine wpAny_mono (turn I oI i m₁ vs nn tl h tk t hi (fun e => hoff _ (.head _) e.symm) (fun p hp => hoff p (.tail _ hp)) hF hsub hD hlen (.head hF2) F₁ N₁) (fun f s₂ p => ?_) fun _ _ e => e
    have fin : EndL h₀ env.locals I Fl oI x n1 n2 m₀ news (dsf (i + 1)) { s with heap := h, toks := tk } s₂ → ∃ h' tk m₂ nx, s₂ = { s with heap := h', toks := tk } ∧ Fr h₀ env.locals h' m₂ ∧ News h₀ env.locals h' ((I, oI) :: nx) ∧ (∀ p ∈ nx, p.1 ≠ I) ∧
        ∃ vs nn tl, nx = (Fl, listOf (List.toArray vs) nn) :: (tl ++ news) ∧ (∀ p ∈ tl, p.1 ≠ Fl) ∧ (∀ p ∈ tl, ∀ q ∈ news, q.1 < p.1) ∧ DatAll tl vs (dsf (i + 1)) ∧ ∀ y, y ≠ x → y ≠ n1 → y ≠ n2 → m₂ y = m₀ y := by
      rintro ⟨h', tk, m₂, vs', nn', tl', e, F', N', o1, o2, o3, o4, o5⟩
      refine ⟨h', tk, m₂, _, e, F', N', fun p hp => ?_, vs', nn', tl', rfl, o2, o3, o4, o5⟩
      rcases List.mem_cons.mp hp with rfl | hp
      · exact fun e => hoff (Fl, listOf (List.toArray vs) nn) (.head _) e
      · rcases List.mem_append.mp hp with hp | hp
        · exact o1 p hp
        · exact hoff p (.tail _ (List.mem_append_right _ hp))
    cases f with
    | ret v => exact p
    | brk => exact p
    | next => exact fin p
    | cont => exact fin p
  · rintro h tk m₁ nx ⟨vs, nn, tl, rfl, hF, hsub, hD, hm⟩ F₁ N₁
    rw [form3 hm] at F₁
    exact done m₁ vs nn tl h tk hF hsub hD F₁ N₁
end
section
variable {h₀ h' : Heap} {L I Fl T : Addr} {oI oT : Obj} {x n1 n2 : Str} {m₀ m₂ : Str → Option Value} {news tl : Ledger} {ds : List Dat} {d : Dat} {s₁ : Shared} {tk nn : Nat} {vs : List Value}
theorem endL_skip (F : Fr h₀ L h' m₂) (N : News h₀ L h' ((I, oI) :: (Fl, listOf (List.toArray vs) nn) :: (tl ++ news))) (a : ∀ p ∈ tl ++ news, p.1 ≠ I) (b : ∀ p ∈ tl, p.1 ≠ Fl) (c : ∀ p ∈ tl, ∀ q ∈ news, q.1 < p.1) (D : DatAll tl vs ds) (hm : ∀ y, y ≠ x → y ≠ n1 → y ≠ n2 → m₂ y = m₀ y) :
    EndL h₀ L I Fl oI x n1 n2 m₀ news ds s₁ { s₁ with heap := h', toks := tk } := ⟨h', tk, m₂, vs, nn, tl, rfl, F, N, fun p hp => a p (List.mem_append_left _ hp), b, c, D, hm⟩
theorem endL_app (F : Fr h₀ L h' m₂) (N : News h₀ L h' ((T, oT) :: (I, oI) :: (Fl, listOf (List.toArray (vs ++ [.ref T])) nn) :: (tl ++ news))) (l : @LT.lt Nat _ I T ∧ @LT.lt Nat _ Fl T ∧ AllLt T (tl ++ news)) (a : ∀ p ∈ tl ++ news, p.1 ≠ I) (b : ∀ p ∈ tl, p.1 ≠ Fl) (c : ∀ p ∈ tl, ∀ q ∈ news, q.1 < p.1)
    (D : DatAll tl vs ds) (Dt : DatIn ((T, oT) :: tl) (.ref T) d) (hm : ∀ y, y ≠ x → y ≠ n1 → y ≠ n2 → m₂ y = m₀ y) :
    EndL h₀ L I Fl oI x n1 n2 m₀ news (ds ++ [d]) s₁ { s₁ with heap := h', toks := tk } := by
  refine ⟨h', tk, m₂, vs ++ [.ref T], nn, (T, oT) :: tl, rfl, F, fun q hq => ?_, fun p hp => ?_, fun p hp => ?_, fun p hp => ?_, (D.mono fun p hp => .tail _ hp).append (DatAll.one Dt), hm⟩
  · rcases List.mem_cons.mp hq with rfl | hq
    · exact N _ (.tail _ (.head _))
    · rcases List.mem_cons.mp hq with rfl | hq
      · exact N _ (.tail _ (.tail _ (.head _)))
      · rcases List.mem_cons.mp hq with rfl | hq
        · exact N _ (.head _)
        · exact N _ (.tail _ (.tail _ (.tail _ hq)))
  · rcases List.mem_cons.mp hp with rfl | hp
    · exact Nat.ne_of_gt l.1
    · exact a p (List.mem_append_left _ hp)
  · rcases List.mem_cons.mp hp with rfl | hp
    · exact Nat.ne_of_gt l.2.1
    · exact b p hp
  · rcases List.mem_cons.mp hp with rfl | hp
    · exact fun q hq => allLt_all l.2.2 q (List.mem_append_right _ hq)
    · exact c p hp
theorem endL_ext {F2 : Addr} {o2 oF : Obj} {tl2 : Ledger} {us : List Value} {ds2 : List Dat} (F : Fr h₀ L h' m₂) (N : News h₀ L h' ((F2, o2) :: (tl2 ++ ((I, oI) :: (Fl, listOf (List.toArray (vs ++ us)) nn) :: (tl ++ news))))) (fr2 : ∀ p ∈ tl2, ∀ q ∈ (I, oI) :: (Fl, oF) :: (tl ++ news), q.1 < p.1)
    (a : ∀ p ∈ tl ++ news, p.1 ≠ I) (b : ∀ p ∈ tl, p.1 ≠ Fl) (c : ∀ p ∈ tl, ∀ q ∈ news, q.1 < p.1)
    (D : DatAll tl vs ds) (D2 : DatAll tl2 us ds2) (hm : ∀ y, y ≠ x → y ≠ n1 → y ≠ n2 → m₂ y = m₀ y) :
    EndL h₀ L I Fl oI x n1 n2 m₀ news (ds ++ ds2) s₁ { s₁ with heap := h', toks := tk } := by
  refine ⟨h', tk, m₂, vs ++ us, nn, tl2 ++ tl, rfl, F, fun q hq => ?_, fun p hp => ?_, fun p hp => ?_, fun p hp => ?_, (D.mono fun p hp => List.mem_append_right _ hp).append (D2.mono fun p hp => List.mem_append_left _ hp), hm⟩
  · rcases List.mem_cons.mp hq with rfl | hq
    · exact N _ (.tail _ (List.mem_append_right _ (.head _)))
    · rcases List.mem_cons.mp hq with rfl | hq
      · exact N _ (.tail _ (List.mem_append_right _ (.tail _ (.head _))))
      · rcases List.mem_append.mp hq with hq | hq
        · rcases List.mem_append.mp hq with hq | hq
          · exact N _ (.tail _ (List.mem_append_left _ hq))
          · exact N _ (.tail _ (List.mem_append_right _ (.tail _ (.tail _ (List.mem_append_left _ hq)))))
        · exact N _ (.tail _ (List.mem_append_right _ (.tail _ (.tail _ (List.mem_append_right _ hq)))))
  · rcases List.mem_append.mp hp with hp | hp
    · exact Nat.ne_of_gt (fr2 p hp _ (.head _))
    · exact a p (List.mem_append_left _ hp)
  · rcases List.mem_append.mp hp with hp | hp
    · exact Nat.ne_of_gt (fr2 p hp _ (.tail _ (.head _)))
    · exact b p hp
  · rcases List.mem_append.mp hp with hp | hp
    · exact fun q hq => fr2 p hp q (.tail _ (.tail _ (List.mem_append_right _ hq)))
    · exact c p hp
end
end Mine

namespace Mine
/-- the end of a turn over the own dict that has added a row -/
noncomputable def EndO (h₀ : Heap) (L I D Fl : Addr) (oI oD : Obj) (nm : List Str) (m₀ : Str → Option Value) (news : Ledger) (ds : List Dat) (s₁ s₂ : Shared) : Prop :=
  ∃ h' tk m₂ vs nn tl, s₂ = { s₁ with heap := h', toks := tk } ∧ Fr h₀ L h' m₂ ∧ News h₀ L h' ((I, oI) :: (D, oD) :: (Fl, listOf (List.toArray vs) nn) :: (tl ++ news)) ∧ (∀ p ∈ tl, p.1 ≠ I) ∧ (∀ p ∈ tl, p.1 ≠ Fl) ∧ (∀ p ∈ tl, ∀ q ∈ news, q.1 < p.1) ∧ DatAll tl vs ds ∧
    ∀ y, y ∉ nm → m₂ y = m₀ y
theorem form4 {m m₀ : Str → Option Value} {n1 n2 n3 n4 : Str} (h : ∀ y, y ∉ [n1, n2, n3, n4] → m y = m₀ y) :
    m = fun y => if y = n1 then m y else if y = n2 then m y else if y = n3 then m y else if y = n4 then m y else m₀ y := by
  funext y
  by_cases h1 : y = n1
  · simp [h1]
  · by_cases h2 : y = n2
    · simp [h2]
    · by_cases h3 : y = n3
      · simp [h3]
      · by_cases h4 : y = n4
        · simp [h4]
        · simp [h1, h2, h3, h4, h y (by simp [h1, h2, h3, h4])]
theorem look_get {ds : Own} (hn : (ds.map (·.1)).Nodup) {i : Nat} {k v : Int × Int} (h : ds[i]? = some (k, v)) : look ds k = some v := by
  induction ds generalizing i with
  | nil => simp at h
  | cons d ds ih =>
    rw [List.map_cons, List.nodup_cons] at hn
    unfold look at *
    cases i with
    | zero =>
      simp only [List.getElem?_cons_zero, Option.some.injEq] at h
      subst h
      simp
    | succ j =>
      rw [List.getElem?_cons_succ] at h
      have hne : ¬ d.1 = k := fun e => hn.1 (by rw [e]; exact List.mem_map.mpr ⟨(k, v), List.mem_of_getElem? h, rfl⟩)
      simpa [hne] using ih hn.2 h
section
variable {w : World} {A : Around} {E : Value → Shared → Prop} {s : Shared} {env : Env} {h₀ : Heap} {target : Expr} {body : List Stmt} {Q : Flow → Shared → Prop}
theorem own_list {D Fl : Addr} {oD : Obj} {ds : Own} {im news : Ledger} {m₀ : Str → Option Value} (rw' : (Int × Int) × (Int × Int) → Dat) (n1 n2 n3 n4 : Str)
    (hh : A.handled = none) (lo : (D == sysModules) = false) (F : Fr h₀ env.locals s.heap m₀) (N : News h₀ env.locals s.heap ((Fl, listOf #[] 0) :: news)) (hlt : ∀ p ∈ news, p.1 < Fl) (hp : (D, oD) ∈ news) (hi : ∀ x ∈ im, x ∈ news) (W : Ow w im oD ds)
    (hz : ds.length ≤ 100)
    (turn : ∀ I oI (i : Nat) (u : Str → Option Value) vs nn tl (s₁ : Shared) f q p fl t t' n a, ds[i]? = some ((f, q), (p, fl)) → look ds (f, q) = some (p, fl) → (∀ x ∈ im, x.1 ≠ Fl) → a ≠ Fl → I ≠ Fl → D ≠ Fl → (∀ p ∈ tl ++ news, p.1 ≠ I) → (∀ p ∈ tl, p.1 ≠ Fl) → (∀ p ∈ tl, ∀ q ∈ news, q.1 < p.1) → DatAll tl vs ((ds.take i).map rw') → vs.length ≤ 100 →
      UpdF Fl (listOf (List.toArray vs) nn) ((Fl, listOf (List.toArray vs) nn) :: (tl ++ news)) (fun o => (Fl, o) :: (tl ++ news)) →
      Fr h₀ env.locals s₁.heap (fun y => if y = n1 then u y else if y = n2 then u y else if y = n3 then u y else if y = n4 then u y else m₀ y) → News h₀ env.locals s₁.heap ((a, tupO [.int f t, .int q t'] n) :: (I, oI) :: (D, oD) :: (Fl, listOf (List.toArray vs) nn) :: (tl ++ news)) →
      wpAny (model pw w) A (assign target env (.ref a)) (fun _ s₃ => wpAny (model pw w) A (execs body env) (fun f s₂ => f = .next ∧ EndO h₀ env.locals I D Fl oI oD [n1, n2, n3, n4] m₀ news ((ds.take (i + 1)).map rw') s₁ s₂) E s₃) E s₁)
    (done : ∀ (u : Str → Option Value) vs nn tl h tk, (∀ p ∈ tl, p.1 ≠ Fl) → (∀ p ∈ tl, ∀ q ∈ news, q.1 < p.1) → DatAll tl vs (ds.map rw') → Fr h₀ env.locals h (fun y => if y = n1 then u y else if y = n2 then u y else if y = n3 then u y else if y = n4 then u y else m₀ y) → News h₀ env.locals h ((Fl, listOf (List.toArray vs) nn) :: (tl ++ news)) → Q .next { s with heap := h, toks := tk }) :
    wpAny (model pw w) A (pyIter (.ref D)) (fun it s₂ => LoopAtT pw w A h₀ env target body Q E it s₂) E s := by
  have hn : (ds.map (·.1)).Nodup := let ⟨_, _, _, c, _⟩ := W; c
  refine own_grow (fun i m nx => ∃ vs nn tl, nx = (Fl, listOf (List.toArray vs) nn) :: (tl ++ news) ∧ (∀ p ∈ tl, p.1 ≠ Fl) ∧ (∀ p ∈ tl, ∀ q ∈ news, q.1 < p.1) ∧ DatAll tl vs ((ds.take i).map rw') ∧ ∀ y, y ∉ [n1, n2, n3, n4] → m y = m₀ y)
    hh lo F N (.tail _ hp) W ⟨[], 0, [], rfl, (fun p h => by cases h), (fun p h => by cases h), (by simp; exact .nil), fun _ _ => rfl⟩ ?_ ?_
  · rintro I oI i m₁ nx s₁ f q p fl t t' n a hds ha hoff ⟨vs, nn, tl, rfl, hF, hfr, hD, hm⟩ F₁ N₁
    rw [form4 hm] at F₁
    have hil : i < ds.length := by
      rcases Nat.lt_or_ge i ds.length with h | h
      · exact h
      · rw [List.getElem?_eq_none h] at hds; cases hds
    have hlen : vs.length ≤ 100 := by rw [hD.length, List.length_map, List.length_take]; lia
    have hF2 : ∀ p ∈ tl ++ news, p.1 ≠ Fl := fun p hp => (List.mem_append.mp hp).elim (hF p) fun q => Nat.ne_of_lt (hlt p q)
    have han := hi _ ha
    refine wpAny_mono (turn I oI i m₁ vs nn tl s₁ f q p fl t t' n a hds (look_get hn hds) (fun x hx => Nat.ne_of_lt (hlt _ (hi x hx))) (Nat.ne_of_lt (hlt _ han)) (fun e => hoff _ (.head _) e.symm) (Nat.ne_of_lt (hlt _ hp)) (fun p hp => hoff p (.tail _ hp)) hF hfr hD hlen (.head hF2) F₁ (fun x hx => by
      rcases List.mem_cons.mp hx with rfl | hx
      · exact N₁ _ (.tail _ (.tail _ (.tail _ (List.mem_append_right _ han))))
      · exact N₁ _ hx)) (fun _ s₃ h => wpAny_mono h (fun f s₂ h => ?_) fun _ _ e => e) fun _ _ e => e
    obtain ⟨rfl, h', tk, m₂, vs', nn', tl', e, F', N', o1, o2, o3, o4, o5⟩ := h
    refine ⟨rfl, h', tk, m₂, _, e, F', N', fun p hp => ?_, vs', nn', tl', rfl, o2, o3, o4, o5⟩
    rcases List.mem_cons.mp hp with rfl | hp
    · exact fun e => hoff (Fl, listOf (List.toArray vs) nn) (.head _) e
    · rcases List.mem_append.mp hp with hp | hp
      · exact o1 p hp
      · exact hoff p (.tail _ (List.mem_append_right _ hp))
  · rintro h tk m₁ nx ⟨vs, nn, tl, rfl, hF, hfr, hD, hm⟩ F₁ N₁
    rw [form4 hm] at F₁
    rw [List.take_length] at hD
    exact done m₁ vs nn tl h tk hF hfr hD F₁ N₁
end
section
variable {h₀ h' : Heap} {L I D Fl T : Addr} {oI oD oT : Obj} {nm : List Str} {m₀ m₂ : Str → Option Value} {news tl ex : Ledger} {ds : List Dat} {d : Dat} {s₁ : Shared} {tk nn : Nat} {vs : List Value}
theorem endO_app (F : Fr h₀ L h' m₂) (N : News h₀ L h' ((T, oT) :: (ex ++ ((I, oI) :: (D, oD) :: (Fl, listOf (List.toArray (vs ++ [.ref T])) nn) :: (tl ++ news))))) (l : @LT.lt Nat _ I T ∧ @LT.lt Nat _ D T ∧ @LT.lt Nat _ Fl T ∧ AllLt T (tl ++ news)) (a : ∀ p ∈ tl ++ news, p.1 ≠ I) (b : ∀ p ∈ tl, p.1 ≠ Fl) (c : ∀ p ∈ tl, ∀ q ∈ news, q.1 < p.1)
    (Dd : DatAll tl vs ds) (Dt : DatIn ((T, oT) :: tl) (.ref T) d) (hm : ∀ y, y ∉ nm → m₂ y = m₀ y) :
    EndO h₀ L I D Fl oI oD nm m₀ news (ds ++ [d]) s₁ { s₁ with heap := h', toks := tk } := by
  refine ⟨h', tk, m₂, vs ++ [.ref T], nn, (T, oT) :: tl, rfl, F, fun q hq => ?_, fun p hp => ?_, fun p hp => ?_, fun p hp => ?_, (Dd.mono fun p hp => .tail _ hp).append (DatAll.one Dt), hm⟩
  · rcases List.mem_cons.mp hq with rfl | hq
    · exact N _ (.tail _ (List.mem_append_right _ (.head _)))
    · rcases List.mem_cons.mp hq with rfl | hq
      · exact N _ (.tail _ (List.mem_append_right _ (.tail _ (.head _))))
      · rcases List.mem_cons.mp hq with rfl | hq
        · exact N _ (.tail _ (List.mem_append_right _ (.tail _ (.tail _ (.head _)))))
        · rcases List.mem_cons.mp hq with rfl | hq
          · exact N _ (.head _)
          · exact N _ (.tail _ (List.mem_append_right _ (.tail _ (.tail _ (.tail _ hq)))))
  · rcases List.mem_cons.mp hp with rfl | hp
    · exact Nat.ne_of_gt l.1
    · exact a p (List.mem_append_left _ hp)
  · rcases List.mem_cons.mp hp with rfl | hp
    · exact Nat.ne_of_gt l.2.2.1
    · exact b p hp
  · rcases List.mem_cons.mp hp with rfl | hp
    · exact fun q hq => allLt_all l.2.2.2 q (List.mem_append_right _ hq)
    · exact c p hp
end
end Mine

namespace Mine
noncomputable def keyD : Dat → Int
  | .tuple (.int k :: _) => k
  | _ => 0
noncomputable def rowT (k a b c : Int) : Dat := .tuple [.int k, .int a, .int b, .int c]
section
variable {w : World} {A : Around} {E : Value → Shared → Prop} {s : Shared} {h₀ : Heap} {L a : Addr} {m : Str → Option Value} {news tl : Ledger} {vs : List Value} {ds : List Dat}
theorem dat_int {v : Value} {k : Int} (h : DatIn tl v (.int k)) : ∃ t, v = .int k t := by cases h; exact ⟨_, rfl⟩
theorem dat_tup {v : Value} {ds : List Dat} (h : DatIn tl v (.tuple ds)) : ∃ a vs n, v = .ref a ∧ (a, tupO vs n) ∈ tl ∧ DatAll tl vs ds := by cases h with | tuple hm r => exact ⟨_, _, _, rfl, hm, r⟩
theorem dats_cons {vs : List Value} {d : Dat} {ds : List Dat} (h : DatAll tl vs (d :: ds)) : ∃ v r, vs = v :: r ∧ DatIn tl v d ∧ DatAll tl r ds := by cases h with | cons x y => exact ⟨_, _, rfl, x, y⟩
theorem dats_int {vs : List Value} {k : Int} {ds : List Dat} (h : DatAll tl vs (.int k :: ds)) : ∃ t r, vs = .int k t :: r ∧ DatAll tl r ds :=
  let ⟨_, r, e, x, y⟩ := dats_cons h; let ⟨t, f⟩ := dat_int x; ⟨t, r, e.trans (congrArg (· :: r) f), y⟩
theorem dats_nil {vs : List Value} (h : DatAll tl vs []) : vs = [] := by cases h; rfl
theorem row_in {v : Value} {k a b c : Int} (h : DatIn tl v (rowT k a b c)) : ∃ ad t1 t2 t3 t4 n, v = .ref ad ∧ (ad, tupO [.int k t1, .int a t2, .int b t3, .int c t4] n) ∈ tl :=
  let ⟨ad, _, n, e, hm, r⟩ := dat_tup h
  let ⟨t1, _, e1, r⟩ := dats_int r
  let ⟨t2, _, e2, r⟩ := dats_int r
  let ⟨t3, _, e3, r⟩ := dats_int r
  let ⟨t4, _, e4, r⟩ := dats_int r
  ⟨ad, t1, t2, t3, t4, n, e, dats_nil r ▸ e4 ▸ e3 ▸ e2 ▸ e1 ▸ hm⟩
/-- sorting a list of fewer than two -/
theorem short_sort {n : Nat} {P : PySem.Fin → Shared → Prop} (F : Fr h₀ L s.heap m) (N : News h₀ L s.heap news) (ho : s.heap.get? a = some (seqObj "list" vs.toArray n)) (haL : a ≠ L) (ha0 : h₀.get? a = none) (hna : ∀ p ∈ news, p.1 ≠ a)
    (h2 : vs.length < 2) (h : ∀ c h', Fr h₀ L h' m → News h₀ L h' ((a, listOf vs.toArray c) :: news) → P (.done (.ret .none)) { s with heap := h' }) :
    wpAny (model pw w) A (Builtin.«list.sort» ⟨[.ref a], []⟩) P E s := by
  have ha : a < s.heap.objs.size := Heap.lt_size ho
  have s1 := Heap.SameBut.update s.heap a (Obj.mapSeq fun _ => (#[] : Array Value))
  obtain ⟨e1, ho1⟩ : ∃ e1, (s.heap.update a (Obj.mapSeq fun _ => (#[] : Array Value))).get? a = some (seqObj "list" #[] e1) := ⟨_, get?_update_seq ho fun _ => #[]⟩
  have F3 : Fr h₀ L (((s.heap.update a (Obj.mapSeq fun _ => (#[] : Array Value))).push (seqObj "tuple" vs.toArray 0)).push (seqObj "list" #[] 0)) m := ((kas_fr F s1 haL ha0).push _).push _
  have N2 : News h₀ L (((s.heap.update a (Obj.mapSeq fun _ => (#[] : Array Value))).push (seqObj "tuple" vs.toArray 0)).push (seqObj "list" #[] 0)) news :=
    (kas_news N s1 hna).grown fun b x e => Heap.get?_push_of_some _ (Heap.get?_push_of_some _ e)
  have na : (((s.heap.update a (Obj.mapSeq fun _ => (#[] : Array Value))).push (seqObj "tuple" vs.toArray 0)).push (seqObj "list" #[] 0)).get? a = some (seqObj "list" #[] e1) := Heap.get?_push_of_some _ (Heap.get?_push_of_some _ ho1)
  rw [list_sort_plain]
  refine wpAny_bind (listItems_at ho rfl ?_)
  refine wpAny_bind (listUpdate_at ho rfl ?_ (by rw [List.size_toArray, sizeLine_eq]; lia) (Nat.zero_le _))
  refine wpAny_bind (seqEpoch_at ho1 rfl ?_)
  refine wpAny_bind (wpAny_newTuple ?_ (by show vs.length ≤ _; rw [sizeLine_eq]; lia))
  refine wpAny_bind (wpAny_newList ?_ (Nat.zero_le _))
  refine wpAny_holding ?_
  show wpAny (model pw w) A _ P E { s with heap := ((s.heap.update a (Obj.mapSeq fun _ => (#[] : Array Value))).push (seqObj "tuple" vs.toArray 0)).push (seqObj "list" #[] 0) }
  dsimp only
  have hn2 : vs.toArray.size < 2 := by rw [List.size_toArray]; lia
  rw [if_pos hn2, if_pos hn2]
  refine wpAny_bind (wpAny_pure ?_)
  refine wpAny_bind ?_
  rw [StateT.run_pure]
  refine wpAny_pure ?_
  dsimp only
  have e3 : (arrOf (SortSt.mk' general' (vs.toArray.zip vs.toArray) #[] 7 none)).map (·.2) = vs.toArray := by
    show (vs.toArray.zip vs.toArray).map (·.2) = vs.toArray
    apply Array.toList_inj.mp
    rw [Array.toList_map, Array.toList_zip]
    simp [List.map_snd_zip]
  rw [e3]
  have s2 := Heap.SameBut.update (((s.heap.update a (Obj.mapSeq fun _ => (#[] : Array Value))).push (seqObj "tuple" vs.toArray 0)).push (seqObj "list" #[] 0)) a (Obj.mapSeq fun _ => vs.toArray)
  obtain ⟨c2, hc2⟩ : ∃ c2, ((((s.heap.update a (Obj.mapSeq fun _ => (#[] : Array Value))).push (seqObj "tuple" vs.toArray 0)).push (seqObj "list" #[] 0)).update a (Obj.mapSeq fun _ => vs.toArray)).get? a = some (seqObj "list" vs.toArray c2) := ⟨_, get?_update_seq na fun _ => vs.toArray⟩
  refine wpAny_bind (seqEpoch_at na rfl ?_)
  refine wpAny_bind (listUpdate_at na rfl ?_ (Nat.zero_le _) (by rw [List.size_toArray, sizeLine_eq]; lia))
  simp only [bne_self_eq_false, Bool.false_eq_true, if_false]
  refine wpAny_pure (h c2 _ (kas_fr F3 s2 haL ha0) fun p hp => ?_)
  rcases List.mem_cons.mp hp with rfl | hp
  · exact ⟨hc2, haL, ha0⟩
  · exact ⟨(s2.2 p.1 (hna p hp)).trans (N2 p hp).1, (N2 p hp).2⟩
/-- sorted(list): a fresh list, sorted in place -/
theorem sorted_shell {l : Addr} {Q : Value → Shared → Prop} (F : Fr h₀ L s.heap m) (N : News h₀ L s.heap news) (hl : s.heap.IsList l vs.toArray) (h64 : vs.length < 64)
    (h : ∀ D h', Fr h₀ L h' m → News h₀ L h' news → h'.get? D = some (seqObj "list" vs.toArray 0) → D ≠ L → h₀.get? D = none → (∀ q ∈ news, q.1 < D) →
      wpAny (model pw w) A.in1.in1 (Builtin.«list.sort» ⟨[.ref D], []⟩) (fun fin s' => fin = .done (.ret .none) ∧ Q (.ref D) s') (fun _ _ => False) { s with heap := h' }) :
    wpAny (model pw w) A (call (.builtin "sorted") [.ref l]) Q E s := by
  refine Calls.call_function_entry kind_sorted plain_sorted entry_sorted (args_sorted1 _) ?_
  unfold Builtin.«sorted»
  refine wpAny_bind (m := checkCount "sorted" 1 1 _) (wpAny_pure ?_)
  refine wpAny_bind (collect_list hl ?_ (by rw [sizeLine_eq]; omega))
  refine wpAny_bind (wpAny_newList ?_ (by rw [sizeLine_eq]; omega))
  have hsz : ((s.heap.push (seqObj "list" #[] 0)).update s.heap.objs.size (Obj.mapSeq (· ++ vs.toArray))).objs.size = s.heap.objs.size + 1 := by
    rw [Heap.size_update, size_push']
  have hoL : (((s.heap.push (seqObj "list" #[] 0)).update s.heap.objs.size (Obj.mapSeq (· ++ vs.toArray))).push (seqObj "list" vs.toArray 0)).get? (s.heap.objs.size + 1) = some (seqObj "list" vs.toArray 0) := by
    rw [← hsz]; exact Heap.get?_push_size _ rfl
  have keep : ∀ b o, s.heap.get? b = some o → (((s.heap.push (seqObj "list" #[] 0)).update s.heap.objs.size (Obj.mapSeq (· ++ vs.toArray))).push (seqObj "list" vs.toArray 0)).get? b = some o := fun b o q => by
    have hlt : b < s.heap.objs.size := Heap.lt_size q
    rw [Heap.get?_push_ne _ _ _ (by rw [hsz]; exact Nat.ne_of_lt (Nat.lt_succ_of_lt hlt)), Heap.get?_update_ne _ _ _ _ (Nat.ne_of_lt hlt), Heap.get?_push_ne _ _ _ (Nat.ne_of_lt hlt)]
    exact q
  have hL : L < s.heap.objs.size := F.ns.lt
  show wpAny _ _ _ _ _ { s with heap := ((s.heap.push (seqObj "list" #[] 0)).update s.heap.objs.size (Obj.mapSeq (· ++ vs.toArray))).push (seqObj "list" vs.toArray 0) }
  rw [hsz]
  refine wpAny_bind (wpAny_holding (wpAny_call_entry slot_list_sort ⟨_, hoL, rfl⟩ entry_list_sort ?body (args_list_sort _)))
  case body =>
    refine wpAny_mono (h (s.heap.objs.size + 1) _ (F.kept keep) (N.grown keep) hoL (Nat.ne_of_gt (Nat.lt_succ_of_lt hL)) (Heap.get?_none_of_le (Nat.le_trans F.above (Nat.le_succ_of_le (Nat.le_of_lt hL))))
      (fun q hq => Nat.lt_succ_of_lt (Heap.lt_size (N q hq).1))) (fun fin s' hk => ?_) fun _ _ x => x.elim
    obtain ⟨rfl, hq⟩ := hk
    exact ⟨_, rfl, wpAny_pure ⟨_, rfl, hq⟩⟩
end
section
variable {w : World} {A : Around} {E : Value → Shared → Prop} {s : Shared} {h₀ : Heap} {L a : Addr} {m : Str → Option Value} {news tl : Ledger} {vs : List Value} {ds : List Dat}
theorem tups_of (N : News h₀ L s.heap news) (htl : ∀ x ∈ tl, x ∈ news) : ∀ {vs : List Value} {ds : List Dat}, DatAll tl vs ds → (∀ d ∈ ds, ∃ k a b c, d = rowT k a b c) → ∃ fs, KatTups s.heap vs fs ∧ fs.length = vs.length ∧ ∀ f ∈ fs, ∃ k t, f = .int k t
  | _, _, .nil, _ => ⟨[], trivial, rfl, fun _ h => nomatch h⟩
  | _, _, .cons h r, hr => by
    obtain ⟨k, a, b, c, rfl⟩ := hr _ (.head _)
    obtain ⟨ad, t1, t2, t3, t4, n, rfl, hm⟩ := row_in h
    obtain ⟨fs, e1, e2, e3⟩ := tups_of N htl r fun d hd => hr d (.tail _ hd)
    exact ⟨.int k t1 :: fs, .cons (N _ (htl _ hm)).1 rfl rfl rfl e1, by simp [e2], fun f hf => by
      rcases List.mem_cons.mp hf with rfl | hf
      · exact ⟨_, _, rfl⟩
      · exact e3 f hf⟩
theorem row_lt {v v' : Value} {k a b c k' a' b' c' : Int} {C : Bool → Shared → Prop} (N : News h₀ L s.heap news) (htl : ∀ x ∈ tl, x ∈ news) (h : DatIn tl v (rowT k a b c)) (h' : DatIn tl v' (rowT k' a' b' c')) (hd : k = k' → a = a' ∧ b = b' ∧ c = c') (hC : C (decide (k < k')) s) :
    wpAny (model pw w) A (keyLt' (tuples' true) v v') C (fun _ _ => False) s := by
  obtain ⟨ad, t1, t2, t3, t4, n, rfl, hm⟩ := row_in h
  obtain ⟨ad', u1, u2, u3, u4, n', rfl, hm'⟩ := row_in h'
  refine kat_lt (N _ (htl _ hm)).1 rfl (N _ (htl _ hm')).1 rfl ?_
  show KatLex pw w A true _ C [(.int k t1, .int k' u1), (.int a t2, .int a' u2), (.int b t3, .int b' u3), (.int c t4, .int c' u4)] 0 s
  refine kat_cons (wpAny_eqBool_int ?_)
  by_cases e : k = k'
  · obtain ⟨rfl, rfl, rfl⟩ := hd e
    subst e
    rw [beq_self_eq_true]
    refine kat_yes (kat_cons (wpAny_eqBool_int ?_))
    rw [beq_self_eq_true]
    refine kat_yes (kat_cons (wpAny_eqBool_int ?_))
    rw [beq_self_eq_true]
    refine kat_yes (kat_cons (wpAny_eqBool_int ?_))
    rw [beq_self_eq_true]
    refine kat_yes (kat_nil ?_)
    rw [decide_eq_false (Int.lt_irrefl k)] at hC
    exact hC
  · rw [show (k == k') = false by simpa using e]
    exact kat_no (oneLt_int hC)
theorem dat_map {key : List Nat} : ∀ (l : List Nat), DatAll tl vs ds → (∀ i ∈ l, i < vs.length) → DatAll tl (l.map fun i => vs.getD i Value.none) (l.map fun i => ds.getD i Dat.none)
  | [], _, _ => .nil
  | i :: l, D, h => by
    have hi : i < ds.length := D.length ▸ h i (.head _)
    obtain ⟨v, hv, hD⟩ := D.get hi
    refine .cons ?_ (dat_map (key := key) l D fun j hj => h j (.tail _ hj))
    show DatIn tl (vs.getD i Value.none) (ds.getD i Dat.none)
    rw [List.getD_eq_getElem?_getD, List.getD_eq_getElem?_getD, hv, List.getElem?_eq_getElem hi]
    exact hD
theorem sorted_rows {l : Addr} {n : Nat} {Q : Value → Shared → Prop} (F : Fr h₀ L s.heap m) (N : News h₀ L s.heap news) (hl : (l, listOf (List.toArray vs) n) ∈ news) (htl : ∀ x ∈ tl, x ∈ news) (D : DatAll tl vs ds) (hr : ∀ d ∈ ds, ∃ k a b c, d = rowT k a b c)
    (hk : (ds.map keyD).Nodup) (h64 : vs.length < 64)
    (h : ∀ Fl c out ds' h', Fr h₀ L h' m → News h₀ L h' ((Fl, listOf (List.toArray out) c) :: news) → (∀ q ∈ news, q.1 < Fl) → DatAll tl out ds' → ds'.Perm ds → ds'.Pairwise (fun x y => keyD x < keyD y) → Q (.ref Fl) { s with heap := h' }) :
    wpAny (model pw w) A (call (.builtin "sorted") [.ref l]) Q E s := by
  have hL : s.heap.IsList l vs.toArray := ⟨_, (N _ hl).1, rfl, n, rfl⟩
  have hlen := D.length
  refine sorted_shell F N hL h64 fun S h1 F1 N1 hS hSL hS0 lts => ?_
  have hna : ∀ p ∈ news, p.1 ≠ S := fun p hp => Nat.ne_of_lt (lts p hp)
  by_cases h2 : vs.length < 2
  · refine short_sort (s := { s with heap := h1 }) F1 N1 hS hSL hS0 hna h2 fun c h' F' N' => ⟨rfl, h S c vs ds h' F' N' lts D (.refl _) ?_⟩
    match ds, hlen with
    | [], _ => exact .nil
    | [d], _ => exact List.pairwise_singleton _ _
    | d :: d' :: r, e => simp only [List.length_cons] at e; lia
  · refine kat_list_sort (s := { s with heap := h1 }) F1 N1 hS hSL hS0 hna (by lia) h64 fun e1 h' F' N' => ?_
    have N'' : News h₀ L h' news := fun q hq => N' q (.tail _ hq)
    obtain ⟨fs, t1, t2, t3⟩ := tups_of (s := { s with heap := h' }) N'' htl D hr
    refine kat_kind (T := .type "int") (s := { s with heap := h' }) t1 (by lia) (fun f hf => by
      obtain ⟨k, t, rfl⟩ := t3 f hf
      exact Looks.of_pure rfl) (by decide) ?_
    rw [show (Value.type "int" != Value.type "tuple") = true by decide]
    have hkey : ∀ i j, i < vs.length → j < vs.length → keyD (ds.getD i Dat.none) = keyD (ds.getD j Dat.none) → i = j := by
      intro i j hi hj e
      rw [hlen] at hi hj
      have a1 : (ds.map keyD)[i]? = some (keyD (ds.getD i Dat.none)) := by
        rw [List.getElem?_map, List.getElem?_eq_getElem hi, List.getD_eq_getElem?_getD, List.getElem?_eq_getElem hi]; rfl
      have a2 : (ds.map keyD)[j]? = some (keyD (ds.getD j Dat.none)) := by
        rw [List.getElem?_map, List.getElem?_eq_getElem hj, List.getD_eq_getElem?_getD, List.getElem?_eq_getElem hj]; rfl
      rw [e] at a1
      exact (List.getElem?_inj (by simpa using hi) hk).mp (a1.trans a2.symm)
    refine sort_ok (n := vs.length) (key := fun i => keyD (ds.getD i Dat.none)) (by lia) hkey (fun i j C hi hj hC => ?_) (by lia) fun q P S' => ?_
    · unfold kas_ask
      have hi' := hlen ▸ hi
      have hj' := hlen ▸ hj
      obtain ⟨v, hv, hDv⟩ := D.get hi'
      obtain ⟨v', hv', hDv'⟩ := D.get hj'
      obtain ⟨k, a, b, c, er⟩ := hr _ (List.getElem_mem hi')
      obtain ⟨k', a', b', c', er'⟩ := hr _ (List.getElem_mem hj')
      have g1 : ds.getD i Dat.none = rowT k a b c := by rw [List.getD_eq_getElem?_getD, List.getElem?_eq_getElem hi', ← er]; rfl
      have g2 : ds.getD j Dat.none = rowT k' a' b' c' := by rw [List.getD_eq_getElem?_getD, List.getElem?_eq_getElem hj', ← er']; rfl
      rw [List.getD_eq_getElem?_getD, List.getD_eq_getElem?_getD, hv, hv']
      rw [er] at hDv
      rw [er'] at hDv'
      refine row_lt (s := { s with heap := h' }) N'' htl hDv hDv' (fun e => ?_) ?_
      · have : i = j := hkey i j hi hj (by rw [g1, g2]; exact e)
        subst this
        rw [g1] at g2
        injection g2 with g2
        injection g2 with _ g2
        injection g2 with x1 g2
        injection g2 with x2 g2
        injection g2 with x3 _
        injection x1 with x1
        injection x2 with x2
        injection x3 with x3
        exact ⟨x1, x2, x3⟩
      · rw [g1, g2] at hC
        exact hC
    · have hmem : ∀ i ∈ q.toList, i < vs.length := fun i hi => by
        have := (Array.perm_iff_toList_perm.mp P).mem_iff.mp hi
        simpa using this
      refine KasFin.intro (s := { s with heap := h' }) F' N' (.head hna) fun h3 c3 F3 N3 => ⟨rfl, h S c3 _ (q.toList.map fun i => ds.getD i Dat.none) h3 F3 N3 lts (dat_map (key := []) _ D hmem) ?_ ?_⟩
      · have p1 := (Array.perm_iff_toList_perm.mp P).map fun i => ds.getD i Dat.none
        have e : (List.toArray (List.range vs.length)).toList.map (fun i => ds.getD i Dat.none) = ds := by
          rw [hlen]
          apply List.ext_getElem?
          intro i
          by_cases hi : i < ds.length
          · simp [hi]
          · simp [Nat.le_of_not_lt hi]
        rw [e] at p1
        exact p1
      · rw [List.pairwise_map, List.pairwise_iff_getElem]
        intro i j hi hj hij
        have hz := P.size
        have := S' i j hij (by rw [← hz]; simpa using hj)
        unfold kp at this
        have b1 : q.getD i 0 = q.toList[i] := by simp [Array.getD, show i < q.size by simpa using hi]
        have b2 : q.getD j 0 = q.toList[j] := by simp [Array.getD, show j < q.size by simpa using hj]
        rw [b1, b2] at this
        exact this
end
end Mine

namespace Mine
section
variable {w : World} {p : Program} {loose : List Str} {mean : ExcName → Option Value} {mg mb : Str → Option Value}
  {dp un : Nat} {gd : Option (List Code)} {cn : Str} {cs : Scope} {a : Addr} {ccd : Value} {cl : List (Str × Addr)} {outer : List Env} {A₀ : Around} {base h₀ : Heap} {L : Addr} {m : Str → Option Value} {s : Shared} {Q E : Value → Shared → Prop} {news : List (Addr × Obj)}
variable {c : Ads} {oW : Obj} {M : Int → Int} {rest : Ledger} {g : Obj → Ledger}
noncomputable def rowD (fi u v : Int) : Dat := .tuple [.int (64 * fi + 16 * u), .int (16 * (v / 1024)), .int (Builtin.bitAnd v 1023), .int 16]
noncomputable def rowsD (M : Int → Int) (q fi : Int) (k : Nat) : List Dat := (List.range k).filterMap fun (u : Nat) => if M (4 * q + (u : Int)) = 0 then none else some (rowD fi u (M (4 * q + (u : Int))))
theorem rulesT70 : True := by
  k_with "call ref" => (k_here; (with_reducible show wpAny _ _ (call (Value.ref 480) _) _ _ _); k_dflt (refine' word_spec ?k1 ?k2 ?k3 ?k4 ?k5 ?k6 ?k7 ?k8 ?k9 ?k10 ?k11 ?k12 ?k13 ?k14 ?k15 ?_; k_extra "HA"; (case k8 => assumption); (case k9 => k_extra "H1"); (case k10 => k_mem); (case k11 => assumption); (case k12 => k_extra "H10"); (case k13 => k_extra "H10"); (case k14 => k_extra "H10"); (case k15 => k_extra "H13")); intro t'Z h'Z tk'Z F'Z N'Z; (try dsimp only at N'Z); (try k_lt lts); (try k_sweep))
  k_with "call ref" => (k_here; (with_reducible show wpAny _ _ (call (Value.ref 129) _) _ _ _); k_dflt (refine' parts_spec ?k1 ?k2 ?k3 ?k4 ?k5 ?k6 ?k7 ?k8 ?k9 ?k10 ?k11 ?_; k_extra "HA"; (case k8 => assumption); (case k9 => k_extra "H1"); (case k10 => k_extra "H10"); (case k11 => k_extra "H10")); intro D'Z t1Z t2Z t3Z h'Z tk'Z F'Z ltsZ N'Z; k_extra "HE")
  k_with "call ref" => (k_here; (with_reducible show wpAny _ _ (call (Value.ref 137) _) _ _ _); k_dflt (refine' address_spec ?k1 ?k2 ?k3 ?k4 ?k5 ?k6 ?k7 ?k8 ?k9 ?k10 ?k11 ?_; k_extra "HA"; (case k8 => assumption); (case k9 => k_extra "H1"); (case k10 => k_extra "H10"); (case k11 => k_extra "H10")); intro t'Z h'Z tk'Z F'Z N'Z; (try dsimp only at N'Z); (try k_lt lts); (try k_sweep))
  k_with "call ref" => (k_here; (with_reducible show wpAny _ _ (call (Value.ref 480) _) _ _ _); k_dflt (refine' word_spec ?k1 ?k2 ?k3 ?k4 ?k5 ?k6 ?k7 ?k8 ?k9 ?k10 ?k11 ?k12 ?k13 ?k14 ?k15 ?_; k_extra "HA"; (case k8 => assumption); (case k9 => k_extra "H0"); (case k10 => k_mem); (case k11 => assumption); (case k12 => k_extra "H10"); (case k13 => k_extra "H10"); (case k14 => k_extra "H10"); (case k15 => k_extra "H13")); intro t'Z h'Z tk'Z F'Z N'Z; (try dsimp only at N'Z); (try k_lt lts); (try k_sweep))
  k_with "call ref" => (k_here; (with_reducible show wpAny _ _ (call (Value.ref 137) _) _ _ _); k_dflt (refine' address_spec ?k1 ?k2 ?k3 ?k4 ?k5 ?k6 ?k7 ?k8 ?k9 ?k10 ?k11 ?_; k_extra "HA"; (case k8 => assumption); (case k9 => k_extra "H0"); (case k10 => k_extra "H10"); (case k11 => k_extra "H10")); intro t'Z h'Z tk'Z F'Z N'Z; (try dsimp only at N'Z); (try k_lt lts); (try k_sweep))
  k_with "call builtin:list.append" => (k_here; (with_reducible show wpAny _ _ (call (Value.builtin _) [Value.ref _, _]) _ _ _); k_dflt (refine' app_U ?k1 ?k2 ?k3 ?k4 ?_; (case k1 => k_asm); (case k2 => k_asm); (case k3 => k_updF); (case k4 => first | assumption | omega)); intro h'Z F'Z N'Z; (try dsimp only at N'Z))
  k_with "call builtin:list.extend" => (k_here; (with_reducible show wpAny _ _ (call (Value.builtin _) [Value.ref _, Value.ref _]) _ _ _); k_dflt (refine' ext_U ?k1 ?k2 ?k3 ?k4 ?k5 ?_; (case k1 => k_asm); (case k2 => k_asm); (case k3 => k_mem); (case k4 => k_updF); (case k5 => first | assumption | omega)); intro h'Z n'Z F'Z N'Z; (try dsimp only at N'Z))
  k_with "exec For Name Call cons nil" => (k_here; (rename Fr _ _ _ _ => lF'Z); (with_unfolding_all refine' For_invVF lF'Z ?k1 ?k2 ?_; (case k1 => exact rfl); (case k2 => exact rfl); k_whole))
  k_with "pyIter ref" => (refine stop_here ?_)
  trivial
theorem rowsD_zero {M : Int → Int} {q fi : Int} {i : Nat} (h : M (4 * q + (i : Int)) = 0) : rowsD M q fi (i + 1) = rowsD M q fi i := by
  unfold rowsD
  rw [List.range_succ, List.filterMap_append]
  simp [h]
theorem rowsD_more {M : Int → Int} {q fi : Int} {i : Nat} (h : M (4 * q + (i : Int)) ≠ 0) : rowsD M q fi (i + 1) = rowsD M q fi i ++ [rowD fi i (M (4 * q + (i : Int)))] := by
  unfold rowsD
  rw [List.range_succ, List.filterMap_append]
  simp [h]
theorem rowsD_len {M : Int → Int} {q fi : Int} {i : Nat} : (rowsD M q fi i).length ≤ i := by
  unfold rowsD
  have := List.length_filterMap_le (fun (u : Nat) => if M (4 * q + (u : Int)) = 0 then none else some (rowD fi u (M (4 * q + (u : Int))))) (List.range i)
  rw [List.length_range] at this
  exact this
theorem rowsof_spec {tb q fi : Int} {t1 t2 : Tok}
  (B : Below A₀ base outer h₀) (F : Fr h₀ L s.heap m) (X : (KF w.params).In h₀) (N : News h₀ L s.heap news) (T : Top p loose mean mg mb h₀) (hk : cs.kind = .function) (hd : dp + 8 < recursionLimit)
  (S : Std c rest) (hs : ∀ x ∈ rest, x ∈ news) (hwm : (c.w, oW) ∈ news) (hw : Wd w oW M) (hq : q = 58 ∨ q = 59) (htb : tb = 16 * q) (hf0 : 0 ≤ fi ∧ fi < 4)
  (hM : ∀ u, 0 ≤ u → u < 4 → (M (4 * q + u) = 0 ∨ Builtin.bitAnd (M (4 * q + u)) 1 ≠ 0) ∧ 0 ≤ M (4 * q + u) ∧ M (4 * q + u) < 1099511627776)
  (hret : ∀ Fl vs nn tl h' tk', Fr h₀ L h' m → News h₀ L h' ((Fl, listOf (List.toArray vs) nn) :: (tl ++ news)) → (∀ p ∈ news, p.1 < Fl) → (∀ p ∈ tl, p.1 ≠ Fl) → (∀ p ∈ tl, ∀ q ∈ news, q.1 < p.1) → vs.length ≤ 4 → DatAll tl vs (rowsD M q fi 4) → Q (.ref Fl) { s with heap := h', toks := tk' }) :
  wpAny (model pw w) (ktrTop dp un gd cn cs L a ccd cl outer) (call (.ref 391) [.ref c.t, .int tb t1, .int fi t2]) Q E s := by
  have lo := S.low
  have hm1 := MemIn.a (S.mem) hs
  have hm2 := MemIn.b (S.mem) hs
  have hl1 := LayIn.a (S.lay) hs
  have hl2 := LayIn.b (S.lay) hs
  have ht1 := TabIn.a (S.tab) hs
  have ht2 := TabIn.b (S.tab) hs
  subst htb
  k_steps
  unfold StopHere
  refine range_list (fun i => rowsD M q fi i) (Str.ofString "entry") (Str.ofString "address") rfl (by assumption) (by assumption) (by assumption) (by assumption) rfl (fun i hi => ?_) ?_ ?_
  · have := rowsD_len (M := M) (q := q) (fi := fi) (i := i)
    omega
  · intro I oI i u vs nn tl h2 tk2 t2 hi hIF oI1 oF1 hsub hD hlen hU F2 N2
    clear hret
    have hwm2 : (c.w, oW) ∈ tl ++ news := List.mem_append_right _ hwm
    replace hs : ∀ x ∈ rest, x ∈ tl ++ news := fun x hx => List.mem_append_right _ (hs x hx)
    obtain ⟨hz0, hz1, hz2⟩ := hM i (by omega) (by omega)
    have e1 : M ((16 * q + 4 * (i : Int)) / 4) = M (4 * q + (i : Int)) := by congr 1; omega
    have q1 : 58 ≤ q ∧ q ≤ 59 := by omega
    generalize hv : M (4 * q + (i : Int)) = v at *
    have lo := S.low
    have hm1 := MemIn.a (S.mem) hs
    have hm2 := MemIn.b (S.mem) hs
    have hl1 := LayIn.a (S.lay) hs
    have hl2 := LayIn.b (S.lay) hs
    have ht1 := TabIn.a (S.tab) hs
    have ht2 := TabIn.b (S.tab) hs
    k_steps
    · have ha : Builtin.bitAnd v 1 ≠ 0 := by assumption
      have hv0 : v ≠ 0 := fun e => ha (by rw [e]; decide)
      show EndL _ _ _ _ _ _ _ _ _ _ (rowsD M q fi (i + 1)) _ _
      rw [rowsD_more (by rw [hv]; exact hv0), hv]
      refine endL_app (by assumption) (by assumption) (by assumption) oI1 oF1 hsub hD (.tuple (.head _) (.cons (.int _ _) (.cons (.int _ _) (.cons (.int _ _) (.cons (.int _ _) .nil))))) (fun y a1 a2 a3 => by ((repeat (refine' (if_neg ?hn).trans ?_; (case hn => assumption))); rfl))
    · have hv0 : v = 0 := hz0.resolve_right fun e => e (by assumption)
      show EndL _ _ _ _ _ _ _ _ _ _ (rowsD M q fi (i + 1)) _ _
      rw [rowsD_zero (by rw [hv]; exact hv0)]
      refine endL_skip (by assumption) (by assumption) oI1 oF1 hsub hD (fun y a1 a2 a3 => by ((repeat (refine' (if_neg ?hn).trans ?_; (case hn => assumption))); rfl))
  · intro u vs nn tl h2 tk2 oF1 hsub hD F2 N2
    k_steps
    all_goals exact hret _ _ _ _ _ _ (by assumption) (by assumption) (by assumption) (by assumption) (by assumption) (by rw [hD.length]; exact rowsD_len) (by assumption)
end
end Mine

namespace Mine
section
variable {w : World} {p : Program} {loose : List Str} {mean : ExcName → Option Value} {mg mb : Str → Option Value}
  {dp un : Nat} {gd : Option (List Code)} {cn : Str} {cs : Scope} {a : Addr} {ccd : Value} {cl : List (Str × Addr)} {outer : List Env} {A₀ : Around} {base h₀ : Heap} {L : Addr} {m : Str → Option Value} {s : Shared} {Q E : Value → Shared → Prop} {news : List (Addr × Obj)}
variable {c : Ads} {oW : Obj} {M : Int → Int} {rest : Ledger} {g : Obj → Ledger}
/-- the rows of a root: of the tables that its entries name, in their order -/
noncomputable def tabD (M : Int → Int) (r : Int) (k : Nat) : List Dat := (List.range k).flatMap fun (f : Nat) => if M (r / 4 + (f : Int)) = 0 then [] else rowsD M (M (r / 4 + (f : Int)) / 1024) (f : Int) 4
theorem rulesT80 : True := by
  k_with_none
  k_with "H0" => first | with_reducible assumption | exact (fun _ hZ => hZ) | (refine AllG.at ?_ _; with_reducible assumption) | (refine sub_cons ?_; first | with_reducible assumption | exact (fun _ hZ => hZ) | (refine AllG.at ?_ _; with_reducible assumption) | (refine sub_cons ?_; first | with_reducible assumption | exact (fun _ hZ => hZ) | (refine AllG.at ?_ _; with_reducible assumption) | (refine sub_cons ?_; first | with_reducible assumption | exact (fun _ hZ => hZ) | (refine AllG.at ?_ _; with_reducible assumption) | (refine sub_cons ?_; first | with_reducible assumption | exact (fun _ hZ => hZ) | (refine AllG.at ?_ _; with_reducible assumption) | (refine sub_cons ?_; first | with_reducible assumption | exact (fun _ hZ => hZ) | (refine AllG.at ?_ _; with_reducible assumption))))))
  k_with "H1" => (intro xZ hxZ; repeat (first | with_reducible assumption | (with_reducible apply_assumption; with_reducible assumption) | (with_reducible refine List.mem_append_right _ ?_) | (with_reducible refine List.mem_cons_of_mem _ ?_)))
  k_with "H10" => first | with_reducible assumption | assumption | omega
  k_with "H12" => first | assumption | exact ⟨by omega, by omega⟩
  k_with "H13" => first | with_reducible assumption | exact rfl
  k_with "H7" => first | omega | (rw [sh4]; omega) | (rw [sh10]; omega) | (rw [or_4 (by omega) (by omega)]; omega)
  k_with "H8" => first | exact binds_K (by k_in) rfl (by k_is) rfl rfl rfl | exact BindsTo.of_eq rfl
  k_with "HA" => (case k1 => k_asm); (case k2 => k_asm); (case k3 => k_asm); (case k4 => k_asm); (case k5 => k_asm); (case k6 => first | with_reducible assumption | exact rfl); (case k7 => k_room)
  k_with "HB" => (case k1 => k_asm); (case k2 => k_asm); (case k3 => k_asm); (case k4 => k_asm); (case k5 => k_asm)
  k_with "HE" => (try dsimp only at N'Z); (try k_lt ltsZ); (try k_sweep)
  k_with "K_MEM" => first | with_reducible assumption | ktr_member | exact List.Mem.head _ | (refine List.mem_cons_of_mem _ ?_; k_mem) | (refine List.mem_append_right _ ?_; k_mem) | (refine List.mem_append_left _ ?_; with_reducible assumption)
  k_with "K_IN" => first | k_in_fast | with_reducible assumption | exact Frag.In.keeps (by with_reducible assumption) (Fr.keep (by with_reducible assumption))
  k_with "K_ROOM" => ((try simp (config := {zetaDelta := true}) only [depth_under_make, depth_under_kw, depth_in1, depth_deeper, depth_caller]); (try dsimp only [ktrTop]); (first | (refine' room0 ?rh; (case rh => assumption)) | (refine' room1 ?rh ?rk; (case rh => assumption); (case rk => exact Nat.le_of_ble_eq_true rfl)) | (refine' room2 ?rh ?rk; (case rh => assumption); (case rk => exact Nat.le_of_ble_eq_true rfl)) | (refine' room3 ?rh ?rk; (case rh => assumption); (case rk => exact Nat.le_of_ble_eq_true rfl)) | (refine' room4 ?rh ?rk; (case rh => assumption); (case rk => exact Nat.le_of_ble_eq_true rfl)) | omega))
  k_with "testChain" => first | refine test_link ?_ | refine test_last ?_
  k_with "K_ALL" => first | with_reducible assumption | (refine lt_ne ?_; with_reducible assumption)
  k_with "call ref" => (k_here; refine wpAny_call ?_; k_dflt (refine' code_defL ?k1 ?k2 ?k3 ?k4 ?k5 ?kA ?kF ?kK ?k6 ?k7 ?k8 ?k9 ?kB ?_ ?c2 ?c3 ?c4 ?c5; (case kA => exact rfl); (case kF => exact rfl); (case kK => first | assumption | exact rfl); k_extra "HB"; (case k6 => k_is); (case k7 => k_is); (case k8 => k_room); (case k9 => k_extra "H8"); (case c5 => decide); (case kB => exact locs rfl); (case c2 => exact rfl); (case c3 => exact rfl); (case c4 => exact rfl); k_whole; intro g'Z L'Z h'Z kEZ kAZ kMZ kQZ kXZ FG'Z F'Z N'Z B'Z X'Z T'Z; (try dsimp only); (try k_lift B'Z)))
  k_with "LeaveK" => (k_dflt (refine' leaveK_ ?k1 ?k2 ?_; (case k1 => k_asm); (case k2 => k_asm); k_whole); intro kFZ kNZ; (try (have kXZ := kFor kFZ (by k_asm))); (try dsimp only [PySem.W.InitBack, PySem.W.CmpBack, PySem.W.LenBack, PySem.W.StrBack, PySem.W.BoolBack]); (try refine ⟨rfl, ?_⟩); (try dsimp only [PySem.W.CmpBack, PySem.W.LenBack, PySem.W.StrBack, PySem.W.BoolBack]); (try (refine ⟨⟨by omega, by omega⟩, ?_⟩)); (try (refine handed_on rfl ?_; try dsimp only)))
  k_with "storeName" => (k_here; k_dflt ((refine' storeL ?F ?N ?_ ?a ?b; (case F => k_asm); (case N => k_asm); (case a => rfl); (case b => rfl); k_whole; intro h'Z kMZ F'Z N'Z; (try k_sweep))))
  k_with "eval Attribute Name" => (k_here; k_dflt (refine' selfAttr ?kF ?ka ?kb ?kv ?k2 ?k3 ?k4 ?k5 ?k6 ?k7 ?k8 ?k9 ?_ ?kd; (case kF => k_asm); (case ka => rfl); (case kb => rfl); (case kv => rfl); (case k2 => k_asm); (case k3 => k_inst); (case k4 => k_is); (case k5 => k_is); (case k6 => k_is); (case k7 => k_is); (case k8 => k_get); (case k9 => k_handed); (case kd => decide); k_whole))
  k_with "spliced" => (k_here; (with_reducible show wpAny _ _ (spliced (backTo _ (starEach [Expr.Name _ _] _))) _ _ _); k_dflt (refine' argN1 ?kF ?ka ?kb ?kv ?_ ?kd; (case kF => k_asm); (case ka => rfl); (case kb => rfl); (case kv => rfl); (case kd => decide); k_whole))
  k_with "spliced" => (k_here; (with_reducible show wpAny _ _ (spliced (backTo _ (starEach (Expr.Name _ _ :: _ :: _) _))) _ _ _); k_dflt (refine' argN ?kF ?ka ?kb ?kv ?_ ?kd; (case kF => k_asm); (case ka => rfl); (case kb => rfl); (case kv => rfl); (case kd => decide); k_whole))
  k_with "K_UPDF" => first | with_reducible assumption | (refine' updF_cons ?kua ?kub; (case kua => assumption); (case kub => k_updF)) | (refine' updF_allLt ?kua ?kub; (case kua => assumption); (case kub => k_updF)) | (refine' updF_ne ?kua ?kub; (case kua => assumption); (case kub => k_updF)) | (refine' updF_app ?kua ?kub; (case kua => assumption); (case kub => k_updF)) | (refine' updF_old ?kua ?kuc ?kub; (case kua => assumption); (case kuc => k_mem); (case kub => k_updF)) | (refine' updF_im ?kua ?kuc ?kub; (case kuc => assumption); (case kua => assumption); (case kub => k_updF))
  k_with "getMethod ref" => (k_here; (with_reducible show wpAny _ _ (getMethod (Value.ref _) (Str.ofString "get") _) _ _ _); k_dflt (refine' wd_method ?k1 ?k2 ?k3 ?_; (case k1 => k_asm); (case k2 => k_mem); (case k3 => assumption)))
  k_with "getMethod ref" => (k_here; (with_reducible show wpAny _ _ (getMethod (Value.ref _) (Str.ofString "pop") _) _ _ _); k_dflt (refine' wd_methodP ?k1 ?k2 ?k3 ?_; (case k1 => k_asm); (case k2 => k_mem); (case k3 => assumption)))
  k_with "call builtin:dict.get" => (k_here; k_dflt (refine' wd_get ?k1 ?k2 ?k3 ?k4 ?_; (case k1 => k_asm); (case k2 => k_mem); (case k3 => assumption); (case k4 => assumption)); intro t'Z)
  k_with "call builtin:dict.pop" => (k_here; k_dflt (refine' wd_pop ?k1 ?k2 ?k3 ?k4 ?k5 ?_; (case k1 => k_asm); (case k2 => k_asm); (case k3 => assumption); (case k4 => assumption); (case k5 => assumption)); intro h'Z o'Z x'Z F'Z N'Z hw'Z)
  k_with "setItem ref int" => (k_here; k_dflt (refine' wd_set ?k1 ?k2 ?k3 ?k4 ?k5 ?_; (case k1 => k_asm); (case k2 => k_asm); (case k3 => assumption); (case k4 => assumption); (case k5 => assumption)); intro h'Z o'Z F'Z N'Z hw'Z)
  k_with "binaryOp LShift int int" => (k_here; (refine' lshift_int_small ?k1 ?k2 ?k3 ?_; (case k1 => decide); (case k2 => decide); (case k3 => k_extra "H7")))
  k_with "call ref" => (k_here; (with_reducible show wpAny _ _ (call (Value.ref 480) _) _ _ _); k_dflt (refine' word_spec ?k1 ?k2 ?k3 ?k4 ?k5 ?k6 ?k7 ?k8 ?k9 ?k10 ?k11 ?k12 ?k13 ?k14 ?k15 ?_; k_extra "HA"; (case k8 => assumption); (case k9 => k_extra "H1"); (case k10 => k_mem); (case k11 => assumption); (case k12 => k_extra "H10"); (case k13 => k_extra "H10"); (case k14 => k_extra "H10"); (case k15 => k_extra "H13")); intro t'Z h'Z tk'Z F'Z N'Z; (try dsimp only at N'Z); (try k_lt lts); (try k_sweep))
  k_with "call ref" => (k_here; (with_reducible show wpAny _ _ (call (Value.ref 487) _) _ _ _); k_dflt (refine' put_spec ?k1 ?k2 ?k3 ?k4 ?k5 ?k6 ?k7 ?k8 ?k9 ?k10 ?k11 ?k12 ?k13 ?k14 ?k15 ?_; k_extra "HA"; (case k8 => assumption); (case k9 => k_extra "H1"); (case k10 => k_updF); (case k11 => assumption); (case k12 => k_extra "H10"); (case k13 => k_extra "H10"); (case k14 => k_extra "H10"); (case k15 => k_extra "H10")); intro o'Z h'Z tk'Z F'Z N'Z hw'Z; (try dsimp only at N'Z); (try k_lt lts); (try k_sweep))
  k_with "call ref" => (k_here; (with_reducible show wpAny _ _ (call (Value.ref 129) _) _ _ _); k_dflt (refine' parts_spec ?k1 ?k2 ?k3 ?k4 ?k5 ?k6 ?k7 ?k8 ?k9 ?k10 ?k11 ?_; k_extra "HA"; (case k8 => assumption); (case k9 => k_extra "H1"); (case k10 => k_extra "H10"); (case k11 => k_extra "H10")); intro D'Z t1Z t2Z t3Z h'Z tk'Z F'Z ltsZ N'Z; k_extra "HE")
  k_with "call ref" => (k_here; (with_reducible show wpAny _ _ (call (Value.ref 137) _) _ _ _); k_dflt (refine' address_spec ?k1 ?k2 ?k3 ?k4 ?k5 ?k6 ?k7 ?k8 ?k9 ?k10 ?k11 ?_; k_extra "HA"; (case k8 => assumption); (case k9 => k_extra "H1"); (case k10 => k_extra "H10"); (case k11 => k_extra "H10")); intro t'Z h'Z tk'Z F'Z N'Z; (try dsimp only at N'Z); (try k_lt lts); (try k_sweep))
  k_with "call ref" => (k_here; (with_reducible show wpAny _ _ (call (Value.ref 144) _) _ _ _); k_dflt (refine' down_spec ?k1 ?k2 ?k3 ?k4 ?k5 ?k6 ?k7 ?k8 ?k9 ?k10 ?_; k_extra "HA"; (case k8 => assumption); (case k9 => k_extra "H1"); (case k10 => k_extra "H10")); intro t'Z h'Z tk'Z F'Z N'Z; (try dsimp only at N'Z); (try k_lt lts); (try k_sweep))
  k_with "call ref" => (k_here; (with_reducible show wpAny _ _ (call (Value.ref 158) _) _ _ _); k_dflt (refine' begin_spec ?k1 ?k2 ?k3 ?k4 ?k5 ?k6 ?k7 ?k8 ?k9 ?k10 ?_; k_extra "HA"; (case k8 => assumption); (case k9 => k_extra "H1"); (case k10 => k_extra "H10")); intro h'Z tk'Z F'Z N'Z; (try dsimp only at N'Z); (try k_lt lts); (try k_sweep))
  k_with "call ref" => (k_here; (with_reducible show wpAny _ _ (call (Value.ref 172) _) _ _ _); k_dflt (refine' entry_spec ?k1 ?k2 ?k3 ?k4 ?k5 ?k6 ?k7 ?k8 ?k9 ?k10 ?k11 ?k12 ?k13 ?_; k_extra "HA"; (case k8 => assumption); (case k9 => k_extra "H1"); (case k10 => k_extra "H10"); (case k11 => k_extra "H10"); (case k12 => k_extra "H10"); (case k13 => k_extra "H10")); intro t'Z h'Z tk'Z F'Z N'Z; (try dsimp only at N'Z); (try k_lt lts); (try k_sweep))
  k_with "call ref" => (k_here; (with_reducible show wpAny _ _ (call (Value.ref 179) _) _ _ _); k_dflt (refine' physical_spec ?k1 ?k2 ?k3 ?k4 ?k5 ?k6 ?k7 ?k8 ?k9 ?k10 ?k11 ?_; k_extra "HA"; (case k8 => assumption); (case k9 => k_extra "H1"); (case k10 => k_extra "H10"); (case k11 => k_extra "H13")); intro t'Z h'Z tk'Z F'Z N'Z; (try dsimp only at N'Z); (try k_lt lts); (try k_sweep))
  k_with "call ref" => (k_here; (with_reducible show wpAny _ _ (call (Value.ref 480) _) _ _ _); k_dflt (refine' word_spec ?k1 ?k2 ?k3 ?k4 ?k5 ?k6 ?k7 ?k8 ?k9 ?k10 ?k11 ?k12 ?k13 ?k14 ?k15 ?_; k_extra "HA"; (case k8 => assumption); (case k9 => k_extra "H0"); (case k10 => k_mem); (case k11 => assumption); (case k12 => k_extra "H10"); (case k13 => k_extra "H10"); (case k14 => k_extra "H10"); (case k15 => k_extra "H13")); intro t'Z h'Z tk'Z F'Z N'Z; (try dsimp only at N'Z); (try k_lt lts); (try k_sweep))
  k_with "call ref" => (k_here; (with_reducible show wpAny _ _ (call (Value.ref 137) _) _ _ _); k_dflt (refine' address_spec ?k1 ?k2 ?k3 ?k4 ?k5 ?k6 ?k7 ?k8 ?k9 ?k10 ?k11 ?_; k_extra "HA"; (case k8 => assumption); (case k9 => k_extra "H0"); (case k10 => k_extra "H10"); (case k11 => k_extra "H10")); intro t'Z h'Z tk'Z F'Z N'Z; (try dsimp only at N'Z); (try k_lt lts); (try k_sweep))
  k_with "call ref" => (k_here; (with_reducible show wpAny _ _ (call (Value.ref 179) _) _ _ _); k_dflt (refine' physical_spec ?k1 ?k2 ?k3 ?k4 ?k5 ?k6 ?k7 ?k8 ?k9 ?k10 ?k11 ?_; k_extra "HA"; (case k8 => assumption); (case k9 => k_extra "H0"); (case k10 => k_extra "H10"); (case k11 => k_extra "H13")); intro t'Z h'Z tk'Z F'Z N'Z; (try dsimp only at N'Z); (try k_lt lts); (try k_sweep))
  k_with "call ref" => (k_here; (with_reducible show wpAny _ _ (call (Value.ref 391) _) _ _ _); k_dflt (refine' rowsof_spec ?k1 ?k2 ?k3 ?k4 ?k5 ?k6 ?k7 ?k8 ?k9 ?k10 ?k11 ?k12 ?k13 ?k14 ?k15 ?_; k_extra "HA"; (case k8 => assumption); (case k9 => k_extra "H0"); (case k10 => k_mem); (case k11 => assumption); (case k12 => assumption); (case k13 => first | exact rfl | omega); (case k14 => k_extra "H12"); (case k15 => assumption)); intro F2Z vs'Z nn'Z tl'Z h'Z tk'Z F'Z N'Z lts'Z ne'Z fr'Z len'Z hD'Z; (try dsimp only at N'Z); (try k_lt lts); (try k_sweep))
  k_with "call builtin:list.append" => (k_here; (with_reducible show wpAny _ _ (call (Value.builtin _) [Value.ref _, _]) _ _ _); k_dflt (refine' app_U ?k1 ?k2 ?k3 ?k4 ?_; (case k1 => k_asm); (case k2 => k_asm); (case k3 => k_updF); (case k4 => first | assumption | omega)); intro h'Z F'Z N'Z; (try dsimp only at N'Z))
  k_with "call builtin:list.extend" => (k_here; (with_reducible show wpAny _ _ (call (Value.builtin _) [Value.ref _, Value.ref _]) _ _ _); k_dflt (refine' ext_U ?k1 ?k2 ?k3 ?k4 ?k5 ?_; (case k1 => k_asm); (case k2 => k_asm); (case k3 => k_mem); (case k4 => k_updF); (case k5 => first | assumption | omega)); intro h'Z n'Z F'Z N'Z; (try dsimp only at N'Z))
  k_with "exec For Name Call cons nil" => (k_here; (rename Fr _ _ _ _ => lF'Z); (with_unfolding_all refine' For_invVF lF'Z ?k1 ?k2 ?_; (case k1 => exact rfl); (case k2 => exact rfl); k_whole))
  k_with "pyIter ref" => (refine stop_here ?_)
  trivial
theorem tabD_zero {M : Int → Int} {r : Int} {i : Nat} (h : M (r / 4 + (i : Int)) = 0) : tabD M r (i + 1) = tabD M r i := by
  unfold tabD
  rw [List.range_succ, List.flatMap_append]
  simp [h]
theorem tabD_more {M : Int → Int} {r q : Int} {i : Nat} (hq : q = 58 ∨ q = 59) (h : M (r / 4 + (i : Int)) = 1024 * q + 1) : tabD M r (i + 1) = tabD M r i ++ rowsD M q i 4 := by
  unfold tabD
  rw [List.range_succ, List.flatMap_append]
  have e : (1024 * q + 1) / 1024 = q := by lia
  have e2 : ¬ (1024 * q + 1 = 0) := by lia
  simp [h, e, e2]
theorem tabD_len {M : Int → Int} {r : Int} : ∀ i : Nat, (tabD M r i).length ≤ 4 * i
  | 0 => by simp [tabD]
  | i + 1 => by
    have ih := tabD_len (M := M) (r := r) i
    have e : tabD M r (i + 1) = tabD M r i ++ (if M (r / 4 + (i : Int)) = 0 then [] else rowsD M (M (r / 4 + (i : Int)) / 1024) (i : Int) 4) := by
      unfold tabD
      rw [List.range_succ, List.flatMap_append]
      simp
    rw [e, List.length_append]
    split
    · simp; lia
    · have := rowsD_len (M := M) (q := M (r / 4 + (i : Int)) / 1024) (fi := i) (i := 4)
      lia
theorem rows_spec {root : Int} {t1 : Tok}
  (B : Below A₀ base outer h₀) (F : Fr h₀ L s.heap m) (X : (KF w.params).In h₀) (N : News h₀ L s.heap news) (T : Top p loose mean mg mb h₀) (hk : cs.kind = .function) (hd : dp + 12 < recursionLimit)
  (S : Std c rest) (hs : ∀ x ∈ rest, x ∈ news) (hwm : (c.w, oW) ∈ news) (hw : Wd w oW M) (hr : root = 896 ∨ root = 912)
  (hR : ∀ f, 0 ≤ f → f < 4 → M (root / 4 + f) = 0 ∨ ∃ q, (q = 58 ∨ q = 59) ∧ M (root / 4 + f) = 1024 * q + 1)
  (hM : ∀ q, (q = 58 ∨ q = 59) → ∀ u, 0 ≤ u → u < 4 → (M (4 * q + u) = 0 ∨ Builtin.bitAnd (M (4 * q + u)) 1 ≠ 0) ∧ 0 ≤ M (4 * q + u) ∧ M (4 * q + u) < 1099511627776)
  (hret : ∀ Fl vs nn tl h' tk', Fr h₀ L h' m → News h₀ L h' ((Fl, listOf (List.toArray vs) nn) :: (tl ++ news)) → (∀ p ∈ news, p.1 < Fl) → (∀ p ∈ tl, p.1 ≠ Fl) → (∀ p ∈ tl, ∀ q ∈ news, q.1 < p.1) → DatAll tl vs (tabD M root 4) → Q (.ref Fl) { s with heap := h', toks := tk' }) :
  wpAny (model pw w) (ktrTop dp un gd cn cs L a ccd cl outer) (call (.ref 384) [.ref c.t, .int root t1]) Q E s := by
  have lo := S.low
  have hm1 := MemIn.a (S.mem) hs
  have hm2 := MemIn.b (S.mem) hs
  have hl1 := LayIn.a (S.lay) hs
  have hl2 := LayIn.b (S.lay) hs
  have ht1 := TabIn.a (S.tab) hs
  have ht2 := TabIn.b (S.tab) hs
  k_steps
  unfold StopHere
  refine range_list (fun i => tabD M root i) (Str.ofString "entry") (Str.ofString "row") rfl (by assumption) (by assumption) (by assumption) (by assumption) rfl (fun i hi => ?_) ?_ ?_
  · have := tabD_len (M := M) (r := root) i
    omega
  · intro I oI i u vs nn tl h2 tk2 t2 hi hIF oI1 oF1 hsub hD hlen hU F2 N2
    clear hret
    have hwm2 : (c.w, oW) ∈ tl ++ news := List.mem_append_right _ hwm
    replace hs : ∀ x ∈ rest, x ∈ tl ++ news := fun x hx => List.mem_append_right _ (hs x hx)
    have e1 : M ((root + 4 * (i : Int)) / 4) = M (root / 4 + (i : Int)) := by congr 1; rcases hr with rfl | rfl <;> omega
    have r1 : 896 ≤ root ∧ root ≤ 912 ∧ root % 16 = 0 := by rcases hr with rfl | rfl <;> decide
    have lo := S.low
    have hm1 := MemIn.a (S.mem) hs
    have hm2 := MemIn.b (S.mem) hs
    have hl1 := LayIn.a (S.lay) hs
    have hl2 := LayIn.b (S.lay) hs
    have ht1 := TabIn.a (S.tab) hs
    have ht2 := TabIn.b (S.tab) hs
    rcases hR i (by omega) (by omega) with hz0 | ⟨q, hq, hz0⟩
    · rw [hz0] at e1
      k_steps
      show EndL _ _ _ _ _ _ _ _ _ _ (tabD M root (i + 1)) _ _
      rw [tabD_zero hz0]
      refine endL_skip (by assumption) (by assumption) oI1 oF1 hsub hD (fun y a1 a2 a3 => by ((repeat (refine' (if_neg ?hn).trans ?_; (case hn => assumption))); rfl))
    · have hMq := hM q hq
      rw [hz0] at e1
      obtain ⟨f1, f2, f3, f4⟩ := root_facts hq
      have q1 : 58 ≤ q ∧ q ≤ 59 := by omega
      clear hR hM
      k_steps
      show EndL _ _ _ _ _ _ _ _ _ _ (tabD M root (i + 1)) _ _
      rw [tabD_more hq hz0]
      refine endL_ext (by assumption) (by assumption) (by assumption) oI1 oF1 hsub hD (by assumption) (fun y a1 a2 a3 => by ((repeat (refine' (if_neg ?hn).trans ?_; (case hn => assumption))); rfl))
  · intro u vs nn tl h2 tk2 oF1 hsub hD F2 N2
    k_steps
    all_goals exact hret _ _ _ _ _ _ (by assumption) (by assumption) (by assumption) (by assumption) (by assumption) (by assumption)
end
end Mine

namespace Mine
section
variable {w : World} {p : Program} {loose : List Str} {mean : ExcName → Option Value} {mg mb : Str → Option Value}
  {dp un : Nat} {gd : Option (List Code)} {cn : Str} {cs : Scope} {a : Addr} {ccd : Value} {cl : List (Str × Addr)} {outer : List Env} {A₀ : Around} {base h₀ : Heap} {L : Addr} {m : Str → Option Value} {s : Shared} {Q E : Value → Shared → Prop} {news : List (Addr × Obj)}
variable {D : Addr} {oD : Obj} {ds : Own} {im : Ledger} {g : Obj → Ledger}
noncomputable def ownD (g0 g1 : Int) (d : (Int × Int) × (Int × Int)) : Dat := rowT (64 * (if d.1.1 = 0 then g0 else g1) + 16 * d.1.2) d.2.1 d.2.2 16
theorem rulesD30 : True := by
  k_with_none
  k_with "H0" => first | with_reducible assumption | exact (fun _ hZ => hZ) | (refine AllG.at ?_ _; with_reducible assumption) | (refine sub_cons ?_; first | with_reducible assumption | exact (fun _ hZ => hZ) | (refine AllG.at ?_ _; with_reducible assumption) | (refine sub_cons ?_; first | with_reducible assumption | exact (fun _ hZ => hZ) | (refine AllG.at ?_ _; with_reducible assumption) | (refine sub_cons ?_; first | with_reducible assumption | exact (fun _ hZ => hZ) | (refine AllG.at ?_ _; with_reducible assumption) | (refine sub_cons ?_; first | with_reducible assumption | exact (fun _ hZ => hZ) | (refine AllG.at ?_ _; with_reducible assumption) | (refine sub_cons ?_; first | with_reducible assumption | exact (fun _ hZ => hZ) | (refine AllG.at ?_ _; with_reducible assumption))))))
  k_with "H2" => (refine room_un (by assumption) ?_; simp (config := {zetaDelta := true}) only [units_deeper, units_in1]; (first | exact unle2 (Nat.le_of_ble_eq_true rfl) | exact unle1 (Nat.le_of_ble_eq_true rfl) | omega))
  k_with "H8" => first | exact binds_K (by k_in) rfl (by k_is) rfl rfl rfl | exact BindsTo.of_eq rfl
  k_with "HB" => (case k1 => k_asm); (case k2 => k_asm); (case k3 => k_asm); (case k4 => k_asm); (case k5 => k_asm)
  k_with "K_MEM" => first | with_reducible assumption | ktr_member | exact List.Mem.head _ | (refine List.mem_cons_of_mem _ ?_; k_mem) | (refine List.mem_append_right _ ?_; k_mem) | (refine List.mem_append_left _ ?_; with_reducible assumption)
  k_with "K_IN" => first | k_in_fast | with_reducible assumption | exact Frag.In.keeps (by with_reducible assumption) (Fr.keep (by with_reducible assumption))
  k_with "K_ROOM" => ((try simp (config := {zetaDelta := true}) only [depth_under_make, depth_under_kw, depth_in1, depth_deeper, depth_caller]); (try dsimp only [ktrTop]); (first | (refine' room0 ?rh; (case rh => assumption)) | (refine' room1 ?rh ?rk; (case rh => assumption); (case rk => exact Nat.le_of_ble_eq_true rfl)) | (refine' room2 ?rh ?rk; (case rh => assumption); (case rk => exact Nat.le_of_ble_eq_true rfl)) | (refine' room3 ?rh ?rk; (case rh => assumption); (case rk => exact Nat.le_of_ble_eq_true rfl)) | (refine' room4 ?rh ?rk; (case rh => assumption); (case rk => exact Nat.le_of_ble_eq_true rfl)) | omega))
  k_with "testChain" => first | refine test_link ?_ | refine test_last ?_
  k_with "K_ALL" => first | with_reducible assumption | (refine lt_ne ?_; with_reducible assumption)
  k_with "call ref" => (k_here; refine wpAny_call ?_; k_dflt (refine' code_defL ?k1 ?k2 ?k3 ?k4 ?k5 ?kA ?kF ?kK ?k6 ?k7 ?k8 ?k9 ?kB ?_ ?c2 ?c3 ?c4 ?c5; (case kA => exact rfl); (case kF => exact rfl); (case kK => first | assumption | exact rfl); k_extra "HB"; (case k6 => k_is); (case k7 => k_is); (case k8 => k_room); (case k9 => k_extra "H8"); (case c5 => decide); (case kB => exact locs rfl); (case c2 => exact rfl); (case c3 => exact rfl); (case c4 => exact rfl); k_whole; intro g'Z L'Z h'Z kEZ kAZ kMZ kQZ kXZ FG'Z F'Z N'Z B'Z X'Z T'Z; (try dsimp only); (try k_lift B'Z)))
  k_with "LeaveK" => (k_dflt (refine' leaveK_ ?k1 ?k2 ?_; (case k1 => k_asm); (case k2 => k_asm); k_whole); intro kFZ kNZ; (try (have kXZ := kFor kFZ (by k_asm))); (try dsimp only [PySem.W.InitBack, PySem.W.CmpBack, PySem.W.LenBack, PySem.W.StrBack, PySem.W.BoolBack]); (try refine ⟨rfl, ?_⟩); (try dsimp only [PySem.W.CmpBack, PySem.W.LenBack, PySem.W.StrBack, PySem.W.BoolBack]); (try (refine ⟨⟨by omega, by omega⟩, ?_⟩)); (try (refine handed_on rfl ?_; try dsimp only)))
  k_with "storeName" => (k_here; k_dflt ((refine' storeL ?F ?N ?_ ?a ?b; (case F => k_asm); (case N => k_asm); (case a => rfl); (case b => rfl); k_whole; intro h'Z kMZ F'Z N'Z; (try k_sweep))))
  k_with "eval Attribute Name" => (k_here; k_dflt (refine' selfAttr ?kF ?ka ?kb ?kv ?k2 ?k3 ?k4 ?k5 ?k6 ?k7 ?k8 ?k9 ?_ ?kd; (case kF => k_asm); (case ka => rfl); (case kb => rfl); (case kv => rfl); (case k2 => k_asm); (case k3 => k_inst); (case k4 => k_is); (case k5 => k_is); (case k6 => k_is); (case k7 => k_is); (case k8 => k_get); (case k9 => k_handed); (case kd => decide); k_whole))
  k_with "spliced" => (k_here; (with_reducible show wpAny _ _ (spliced (backTo _ (starEach [Expr.Name _ _] _))) _ _ _); k_dflt (refine' argN1 ?kF ?ka ?kb ?kv ?_ ?kd; (case kF => k_asm); (case ka => rfl); (case kb => rfl); (case kv => rfl); (case kd => decide); k_whole))
  k_with "spliced" => (k_here; (with_reducible show wpAny _ _ (spliced (backTo _ (starEach (Expr.Name _ _ :: _ :: _) _))) _ _ _); k_dflt (refine' argN ?kF ?ka ?kb ?kv ?_ ?kd; (case kF => k_asm); (case ka => rfl); (case kb => rfl); (case kv => rfl); (case kd => decide); k_whole))
  k_with "K_UPDF" => first | with_reducible assumption | (refine' updF_cons ?kua ?kub; (case kua => assumption); (case kub => k_updF)) | (refine' updF_allLt ?kua ?kub; (case kua => assumption); (case kub => k_updF)) | (refine' updF_ne ?kua ?kub; (case kua => assumption); (case kub => k_updF)) | (refine' updF_app ?kua ?kub; (case kua => assumption); (case kub => k_updF)) | (refine' updF_old ?kua ?kuc ?kub; (case kua => assumption); (case kuc => k_mem); (case kub => k_updF)) | (refine' updF_im ?kua ?kuc ?kub; (case kuc => assumption); (case kua => assumption); (case kub => k_updF))
  k_with "compareOp In ref ref" => (k_here; k_dflt (refine' ow_in ?k1 ?k2 ?k3 ?k4 ?k5 ?k6 ?k7 ?_; (case k2 => k_asm); (case k3 => k_mem); (case k4 => assumption); (case k6 => assumption); (case k5 => k_extra "H0"); (case k7 => k_mem); (case k1 => k_extra "H2")))
  k_with "compareOp In ref ref" => (k_here; k_dflt (refine' ow_in_eq ?k0 ?k1 ?k2 ?k3 ?k4 ?k5 ?k6 ?k7 ?_; (case k2 => k_asm); (case k6 => assumption); (case k7 => k_mem); (case k0 => assumption); (case k3 => k_mem); (case k4 => assumption); (case k5 => k_extra "H0"); (case k1 => k_extra "H2")))
  k_with "subscriptTail" => (k_here; (with_reducible show wpAny _ _ (subscriptTail _ _ (Value.ref _) (Value.ref _)) _ _ _); k_dflt (with_unfolding_all refine' ow_item ?k1 ?k2 ?k3 ?k4 ?k5 ?k6 ?k7 ?_ ?k8 ?k9; (case k2 => k_asm); (case k3 => k_mem); (case k5 => assumption); (case k4 => k_extra "H0"); (case k6 => k_mem); (case k7 => assumption); (case k1 => k_extra "H2"); (case k8 => with_unfolding_all rfl); (case k9 => (intro _; with_unfolding_all rfl))); intro b'Z tp'Z tf'Z n'Z hb'Z hne'Z N'Z)
  k_with "getMethod ref" => (k_here; (with_reducible show wpAny _ _ (getMethod (Value.ref _) (Str.ofString "get") _) _ _ _); k_dflt (refine' ow_method PySem.F.slot_dict_get PySem.F.type_dict_get ?k1 ?k2 ?k3 ?k4 ?_; (case k1 => k_asm); (case k2 => k_mem); (case k4 => assumption); (case k3 => k_extra "H0")))
  k_with "getMethod ref" => (k_here; (with_reducible show wpAny _ _ (getMethod (Value.ref _) (Str.ofString "pop") _) _ _ _); k_dflt (refine' ow_method PySem.F.slot_dict_pop PySem.F.type_dict_pop ?k1 ?k2 ?k3 ?k4 ?_; (case k1 => k_asm); (case k2 => k_mem); (case k4 => assumption); (case k3 => k_extra "H0")))
  k_with "call builtin:dict.get" => (k_here; k_dflt (refine' ow_get2 ?k1 ?k2 ?k3 ?k4 ?k5 ?k6 ?k7 (fun hl'Z => ?_) (fun p'Z fl'Z b'Z tp'Z tf'Z n'Z hl'Z hb'Z hne'Z N'Z => ?_); (case k2 => k_asm); (case k3 => k_mem); (case k4 => assumption); (case k6 => assumption); (case k5 => k_extra "H0"); (case k7 => k_mem); (case k1 => k_extra "H2")))
  k_with "call builtin:dict.get" => (k_here; k_dflt (refine' ow_getN ?k0 ?k1 ?k2 ?k3 ?k4 ?k5 ?k6 ?k7 ?_; (case k2 => k_asm); (case k6 => assumption); (case k7 => k_mem); (case k0 => assumption); (case k3 => k_mem); (case k4 => assumption); (case k5 => k_extra "H0"); (case k1 => k_extra "H2")))
  k_with "call builtin:dict.get" => (k_here; k_dflt (refine' ow_getS ?k0 ?k1 ?k2 ?k3 ?k4 ?k5 ?k6 ?k7 ?_; (case k2 => k_asm); (case k6 => assumption); (case k7 => k_mem); (case k0 => assumption); (case k3 => k_mem); (case k4 => assumption); (case k5 => k_extra "H0"); (case k1 => k_extra "H2")); intro b'Z tp'Z tf'Z n'Z hb'Z hne'Z N'Z)
  k_with "setItem ref ref" => (k_here; k_dflt (refine' ow_set ?k1 ?k2 ?k3 ?k4 ?k5 ?k6 ?k7 ?k8 ?k9 ?_; (case k2 => k_asm); (case k3 => k_asm); (case k4 => k_updF); (case k6 => assumption); (case k5 => k_extra "H0"); (case k7 => k_mem); (case k8 => k_mem); (case k9 => assumption); (case k1 => k_extra "H2")); intro h'Z o'Z F'Z N'Z hw'Z; (try dsimp only at N'Z))
  k_with "call builtin:dict.pop" => (k_here; k_dflt (refine' ow_pop ?k1 ?k2 ?k3 ?k4 ?k5 ?k6 ?k7 ?k8 ?k9 ?_; (case k2 => k_asm); (case k3 => k_asm); (case k4 => k_updF); (case k6 => assumption); (case k5 => k_extra "H0"); (case k7 => k_mem); (case k8 => assumption); (case k9 => assumption); (case k1 => k_extra "H2")); intro x'Z h'Z o'Z F'Z N'Z hw'Z; (try dsimp only at N'Z))
  k_with "call builtin:list.append" => (k_here; (with_reducible show wpAny _ _ (call (Value.builtin _) [Value.ref _, _]) _ _ _); k_dflt (refine' app_U ?k1 ?k2 ?k3 ?k4 ?_; (case k1 => k_asm); (case k2 => k_asm); (case k3 => k_updF); (case k4 => first | assumption | omega)); intro h'Z F'Z N'Z; (try dsimp only at N'Z))
  k_with "call builtin:list.extend" => (k_here; (with_reducible show wpAny _ _ (call (Value.builtin _) [Value.ref _, Value.ref _]) _ _ _); k_dflt (refine' ext_U ?k1 ?k2 ?k3 ?k4 ?k5 ?_; (case k1 => k_asm); (case k2 => k_asm); (case k3 => k_mem); (case k4 => k_updF); (case k5 => first | assumption | omega)); intro h'Z n'Z F'Z N'Z; (try dsimp only at N'Z))
  k_with "exec For Name Call cons nil" => (k_here; (rename Fr _ _ _ _ => lF'Z); (with_unfolding_all refine' For_invVF lF'Z ?k1 ?k2 ?_; (case k1 => exact rfl); (case k2 => exact rfl); k_whole))
  k_with "pyIter ref" => (refine stop_here ?_)
  k_with "eval Subscript" => (k_here; (with_reducible show wpAny _ _ (eval (Expr.Subscript (Expr.Name (Str.ofString "goals") _) _ _) _) _ _ _); refine PyProof.Rows.Subscript_ ?_)
  k_with "subscriptTail" => (k_here; (with_reducible show wpAny _ _ (subscriptTail _ _ (Value.ref _) (Value.int _ _)) _ _ _); k_dflt (with_unfolding_all refine' goal_item ?k1 ?k2 ?k3 ?_ ?k4; (case k1 => k_asm); (case k2 => k_mem); (case k3 => assumption); (case k4 => with_unfolding_all rfl)); intro t'Z)
  k_with "exec For Tuple Name cons nil" => (k_here; (rename Fr _ _ _ _ => lF'Z); (with_unfolding_all refine' For_invTF lF'Z ?_ ?k1; (case k1 => (intro _; rfl)); k_whole))
  k_with "call builtin:sorted" => (k_here; k_dflt (refine' sorted_rows ?k1 ?k2 ?k3 ?k4 ?k5 ?k6 ?k7 ?k8 ?_; (case k1 => k_asm); (case k2 => k_asm); (case k3 => exact .head _); (case k5 => assumption); (case k4 => exact (fun xZ hxZ => .tail _ (List.mem_append_left _ hxZ))); (case k6 => assumption); (case k7 => assumption); (case k8 => assumption)); intro S'Z c'Z out'Z ds'Z h'Z F'Z N'Z lts'Z hD'Z pm'Z pw'Z)
  trivial
theorem lawrows_spec {G : Addr} {g0 g1 : Int} {tg0 tg1 : Tok} {ng : Nat}
  (B : Below A₀ base outer h₀) (F : Fr h₀ L s.heap m) (X : (KF w.params).In h₀) (N : News h₀ L s.heap news) (T : Top p loose mean mg mb h₀) (hk : cs.kind = .function) (hd : dp + 4 < recursionLimit) (hun : un + 60 < cLine)
  (hi : ∀ x ∈ im, x ∈ news) (hDm : (D, oD) ∈ news) (W : Ow w im oD ds) (lo : (D == sysModules) = false) (hz : ds.length ≤ 60) (hG : (G, listOf (List.toArray [.int g0 tg0, .int g1 tg1]) ng) ∈ news)
  (h01 : ∀ d ∈ ds, d.1.1 = 0 ∨ d.1.1 = 1) (hkn : ((ds.map (ownD g0 g1)).map keyD).Nodup)
  (hret : ∀ Fl vs nn tl ds' h' tk', Fr h₀ L h' m → News h₀ L h' ((Fl, listOf (List.toArray vs) nn) :: (tl ++ news)) → (∀ p ∈ news, p.1 < Fl) → (∀ p ∈ tl, ∀ q ∈ news, q.1 < p.1) → DatAll tl vs ds' → ds'.Perm (ds.map (ownD g0 g1)) → ds'.Pairwise (fun x y => keyD x < keyD y) → Q (.ref Fl) { s with heap := h', toks := tk' }) :
  wpAny (model pw w) (ktrTop dp un gd cn cs L a ccd cl outer) (call (.ref 880) [.ref D, .ref G]) Q E s := by
  k_steps
  unfold StopHere
  refine own_list (im := im) (D := D) (oD := oD) (ds := ds) (ownD g0 g1) (Str.ofString "first") (Str.ofString "second") (Str.ofString "page") (Str.ofString "flags") rfl lo (by assumption) (by assumption) (by assumption) hDm hi W (by lia) ?_ ?_
  · intro I oI i u vs nn tl s₁ f q pg fl t t' n b hds hlk him hbF hIF hDF oI1 oF1 hfr hD hlen hU F2 N2
    clear hret
    have hi2 : ∀ x ∈ im, x ∈ tl ++ news := fun x hx => List.mem_append_right _ (hi x hx)
    have hG2 : (G, listOf (List.toArray [.int g0 tg0, .int g1 tg1]) ng) ∈ tl ++ news := List.mem_append_right _ hG
    have e01 := h01 _ (List.mem_of_getElem? hds)
    k_steps
    have hil : i < ds.length := by
      rcases Nat.lt_or_ge i ds.length with h | h
      · exact h
      · rw [List.getElem?_eq_none h] at hds; cases hds
    have e : (ds.take (i + 1)).map (ownD g0 g1) = (ds.take i).map (ownD g0 g1) ++ [ownD g0 g1 ((f, q), (pg, fl))] := by
      rw [List.take_add_one, hds]; simp
    rw [e]
    rename _ ∧ _ => l1
    refine endO_app (ex := [_, _, _]) (by assumption) (by assumption) l1.2.2.2 oI1 oF1 hfr hD (.tuple (.head _) (.cons (.int _ _) (.cons (.int _ _) (.cons (.int _ _) (.cons (.int _ _) .nil))))) (fun y hy => ?_)
    simp only [List.mem_cons, List.not_mem_nil, or_false, not_or] at hy
    simp +zetaDelta [hy.1, hy.2.1, hy.2.2.1, hy.2.2.2]
  · intro u vs nn tl h2 tk2 oF1 hfr hD F2 N2
    have k6 : ∀ d ∈ ds.map (ownD g0 g1), ∃ k a b c, d = rowT k a b c := fun d hd => by
      obtain ⟨x, _, rfl⟩ := List.mem_map.mp hd
      exact ⟨_, _, _, _, rfl⟩
    have k8 : vs.length < 64 := by rw [hD.length, List.length_map]; lia
    k_steps
    all_goals exact hret _ _ _ _ _ _ _ (by assumption) (news_drop2 (by assumption)) (fun p hp => by
      have := ‹∀ q ∈ _ :: (tl ++ news), q.1 < _› p (.tail _ (List.mem_append_right _ hp))
      exact this) hfr (by assumption) (by assumption) (by assumption)
end
end Mine

namespace Mine
theorem sub_app {l l' tl : Ledger} (h : ∀ x ∈ l, x ∈ l') : ∀ x ∈ l, x ∈ tl ++ l' := fun x hx => List.mem_append_right _ (h x hx)
/-- two lists of rows, in the same strict order: the same list -/
theorem sorted_uniq : ∀ {a b : List Dat}, a.Perm b → a.Pairwise (fun x y => keyD x < keyD y) → b.Pairwise (fun x y => keyD x < keyD y) → a = b
  | [], b, p, _, _ => (List.Perm.nil_eq p)
  | x :: a, [], p, _, _ => by have := p.length_eq; simp at this
  | x :: a, y :: b, p, h1, h2 => by
    rw [List.pairwise_cons] at h1 h2
    have e : x = y := by
      have hx : x ∈ y :: b := p.mem_iff.mp (.head _)
      have hy : y ∈ x :: a := p.mem_iff.mpr (.head _)
      rcases List.mem_cons.mp hx with e | hx
      · exact e
      · rcases List.mem_cons.mp hy with e | hy
        · exact e.symm
        · have := h2.1 x hx
          have := h1.1 y hy
          lia
    subst e
    rw [sorted_uniq (List.Perm.cons_inv p) h1.2 h2.2]
theorem sorted_keys {a : List Dat} (h : a.Pairwise (fun x y => keyD x < keyD y)) : (a.map keyD).Nodup := by
  unfold List.Nodup
  rw [List.pairwise_map]
  exact h.imp fun hxy e => by rw [e] at hxy; exact Int.lt_irrefl _ hxy
theorem unrEnd_own {h₀ : Heap} {L I T : Addr} {it oT : Obj} {rest : (Str → Option Value) → List (Addr × Obj) → Prop} {s₁ : Shared} {h' : Heap} {tk : Nat} {m' : Str → Option Value} {news : Ledger} (F : Fr h₀ L h' m') (N : News h₀ L h' ((T, oT) :: (I, it) :: news))
    (off : ∀ p ∈ news, p.1 < I) (r : rest m' news) : UnrEnd h₀ L s₁ I it rest { s₁ with heap := h', toks := tk } :=
  UnrEnd.intro F N news (fun p hp => .tail _ hp) (fun p hp => Nat.ne_of_lt (off p hp)) r
theorem unrEnd_sub {h₀ : Heap} {L I : Addr} {it : Obj} {rest : (Str → Option Value) → List (Addr × Obj) → Prop} {s₁ : Shared} {h' : Heap} {tk : Nat} {m' : Str → Option Value} {news all : Ledger} (F : Fr h₀ L h' m') (N : News h₀ L h' all)
    (off : ∀ p ∈ news, p.1 < I) (hs : ∀ p ∈ (I, it) :: news, p ∈ all) (r : rest m' news) : UnrEnd h₀ L s₁ I it rest { s₁ with heap := h', toks := tk } :=
  UnrEnd.intro F N news hs (fun p hp => Nat.ne_of_lt (off p hp)) r
theorem tabD_row {M : Int → Int} {r : Int} {k : Nat} : ∀ d ∈ tabD M r k, ∃ k a b c, d = rowT k a b c := by
  intro d hd
  unfold tabD at hd
  obtain ⟨f, _, hd⟩ := List.mem_flatMap.mp hd
  split at hd
  · cases hd
  · unfold rowsD at hd
    obtain ⟨u, _, hd⟩ := List.mem_filterMap.mp hd
    split at hd
    · cases hd
    · cases hd
      exact ⟨_, _, _, _, rfl⟩
structure SideOk (M : Int → Int) (ds : Own) (rs g0 g1 : Int) : Prop where
  root : rs = 896 ∨ rs = 912
  ents : ∀ f, 0 ≤ f → f < 4 → M (rs / 4 + f) = 0 ∨ ∃ q, (q = 58 ∨ q = 59) ∧ M (rs / 4 + f) = 1024 * q + 1
  perm : (tabD M rs 4).Perm (ds.map (ownD g0 g1))
  sorted : (tabD M rs 4).Pairwise (fun x y => keyD x < keyD y)
  ent0 : M (rs / 4 + g0) = 1024 * 58 + 1
  ent1 : M (rs / 4 + g1) = 1024 * 59 + 1
  b0 : 0 ≤ g0 ∧ g0 < 4
  b1 : 0 ≤ g1 ∧ g1 < 4
theorem SideOk.keys {M : Int → Int} {ds : Own} {rs g0 g1 : Int} (S : SideOk M ds rs g0 g1) : ((ds.map (ownD g0 g1)).map keyD).Nodup := ((S.perm.map keyD).nodup_iff).mp (sorted_keys S.sorted)
noncomputable def LeafOk (M : Int → Int) : Prop := ∀ q, (q = 58 ∨ q = 59) → ∀ u, 0 ≤ u → u < 4 → (M (4 * q + u) = 0 ∨ Builtin.bitAnd (M (4 * q + u)) 1 ≠ 0) ∧ 0 ≤ M (4 * q + u) ∧ M (4 * q + u) < 1099511627776
section
variable {w : World} {A : Around} {E : Value → Shared → Prop} {s : Shared} {h₀ : Heap} {L F1 F2 : Addr} {m : Str → Option Value} {l tl1 tl2 : Ledger} {vs1 vs2 : List Value} {n1 n2 : Nat} {ds1 ds2 : List Dat}
theorem ne_rows {Q : Value → Shared → Prop} (N : News h₀ L s.heap ((F2, listOf (List.toArray vs2) n2) :: (tl2 ++ ((F1, listOf (List.toArray vs1) n1) :: (tl1 ++ l))))) (D1 : DatAll tl1 vs1 ds1) (D2 : DatAll tl2 vs2 ds2) (e : ds1 = ds2) (hr : ∀ d ∈ ds1, ∃ k a b c, d = rowT k a b c)
    (hu : A.units + 64 < cLine) (h : News h₀ L s.heap l → Q (.bool false) s) : wpAny (model pw w) A (compareOp .NotEq (.ref F1) (.ref F2)) Q E s := by
  subst e
  have hok : ∀ d ∈ ds1, kqdOk 8 d = true := fun d hd => by
    obtain ⟨k, a, b, c, rfl⟩ := hr d hd
    rfl
  refine kqd_ne (n₁ := tl1) (n₂ := tl2) N (.tail _ (List.mem_append_right _ (.head _))) rfl rfl D1 (fun p hp => .tail _ (List.mem_append_right _ (.tail _ (List.mem_append_left _ hp)))) (.head _) rfl rfl D2 (fun p hp => .tail _ (List.mem_append_left _ hp)) hok hok hu ?_
  have hq := h fun q hq => N q (.tail _ (List.mem_append_right _ (.tail _ (List.mem_append_right _ hq))))
  simpa using hq
theorem pick_item {G : Addr} {news : Ledger} {us : List Value} {v : Value} {value slice : Expr} {Q : Value → Shared → Prop} {k : Int} {u : Tok} {n : Nat} (N : News h₀ L s.heap news) (hm : (G, listOf (List.toArray us) n) ∈ news) (h0 : 0 ≤ k ∧ k < 2) (hv : us[k.toNat]? = some v) (h : Q v s)
    (hs : subscripted slice false (.ref G) (.int k u) = operate [.ref G, .int k u] (getItem (.ref G) (.int k u))) : wpAny (model pw w) A (subscriptTail value slice (.ref G) (.int k u)) Q E s := by
  have hl : s.heap.IsList G (List.toArray us) := ⟨_, (N _ hm).1, rfl, n, rfl⟩
  exact tail_any hl.typeIs slot_list_getitem.lookup (wpAny_getItem_list hl h0.1 (by omega) (by simpa using hv) h) hs
theorem tup_item {G : Addr} {news : Ledger} {us : List Value} {v : Value} {value slice : Expr} {Q : Value → Shared → Prop} {k : Int} {u : Tok} {n j : Nat} (N : News h₀ L s.heap news) (hm : (G, tupO us n) ∈ news) (hj : seqIndex? k us.length = some j) (h1 : -(2 ^ 63) ≤ k) (h2 : k < 2 ^ 63) (hv : us[j]? = some v) (h : Q v s)
    (hs : subscripted slice false (.ref G) (.int k u) = operate [.ref G, .int k u] (getItem (.ref G) (.int k u))) (hg : ∀ r, letTemporaryGo value (.ref G) r = pure ()) : wpAny (model pw w) A (subscriptTail value slice (.ref G) (.int k u)) Q E s :=
  item_tupleL (News.isTup N hm) h1 h2 hj hv h hs hg
end
theorem sorted_uniq_of {a b c : List Dat} (p : b.Perm c) (q : a.Perm c) (h1 : a.Pairwise (fun x y => keyD x < keyD y)) (h2 : b.Pairwise (fun x y => keyD x < keyD y)) : a = b := sorted_uniq (q.trans p.symm) h1 h2
section
variable {w : World} {p : Program} {loose : List Str} {mean : ExcName → Option Value} {mg mb : Str → Option Value}
  {dp un : Nat} {gd : Option (List Code)} {cn : Str} {cs : Scope} {a : Addr} {ccd : Value} {cl : List (Str × Addr)} {outer : List Env} {A₀ : Around} {base h₀ : Heap} {L : Addr} {m : Str → Option Value} {s : Shared} {Q E : Value → Shared → Prop} {news : List (Addr × Obj)}
variable {c : Ads} {oW : Obj} {M : Int → Int} {rest : Ledger}
theorem tphys_none {root ad q v : Int} {tr ta : Tok}
  (B : Below A₀ base outer h₀) (F : Fr h₀ L s.heap m) (X : (KF w.params).In h₀) (N : News h₀ L s.heap news) (T : Top p loose mean mg mb h₀) (hk : cs.kind = .function) (hd : dp + 10 < recursionLimit)
  (S : Std c rest) (hs : ∀ x ∈ rest, x ∈ news) (hwm : (c.w, oW) ∈ news) (hw : Wd w oW M) (hr : root = 896 ∨ root = 912) (h0 : 0 ≤ ad) (hh : ad < 256) (hq : q = 58 ∨ q = 59)
  (he : M (root / 4 + ad / 64) = 1024 * q + 1) (hv : M (4 * q + ad / 16 % 4) = v) (hv' : v = 0 ∨ Builtin.bitAnd v 1 = 1) (hb : 0 ≤ v ∧ v < 1099511627776) (hz : v = 0)
  (hret0 : ∀ h' tk', Fr h₀ L h' m → News h₀ L h' news → Q .none { s with heap := h', toks := tk' }) :
  wpAny (model pw w) (ktrTop dp un gd cn cs L a ccd cl outer) (call (.ref 320) [.ref c.t, .int root tr, .int ad ta]) Q E s :=
  tphys_spec B F X N T hk hd S hs hwm hw hr h0 hh hq he hv hv' hb (fun h' tk' _ F' N' => hret0 h' tk' F' N') fun _ _ _ z => absurd hz z
theorem tphys_some {root ad q v : Int} {tr ta : Tok}
  (B : Below A₀ base outer h₀) (F : Fr h₀ L s.heap m) (X : (KF w.params).In h₀) (N : News h₀ L s.heap news) (T : Top p loose mean mg mb h₀) (hk : cs.kind = .function) (hd : dp + 10 < recursionLimit)
  (S : Std c rest) (hs : ∀ x ∈ rest, x ∈ news) (hwm : (c.w, oW) ∈ news) (hw : Wd w oW M) (hr : root = 896 ∨ root = 912) (h0 : 0 ≤ ad) (hh : ad < 256) (hq : q = 58 ∨ q = 59)
  (he : M (root / 4 + ad / 64) = 1024 * q + 1) (hv : M (4 * q + ad / 16 % 4) = v) (hv' : v = 0 ∨ Builtin.bitAnd v 1 = 1) (hb : 0 ≤ v ∧ v < 1099511627776) (hz : v ≠ 0)
  (hret : ∀ t h' tk', Fr h₀ L h' m → News h₀ L h' news → Q (.int (16 * (v / 1024) + ad % 16) t) { s with heap := h', toks := tk' }) :
  wpAny (model pw w) (ktrTop dp un gd cn cs L a ccd cl outer) (call (.ref 320) [.ref c.t, .int root tr, .int ad ta]) Q E s :=
  tphys_spec B F X N T hk hd S hs hwm hw hr h0 hh hq he hv hv' hb (fun _ _ z => absurd z hz) fun t h' tk' _ F' N' => hret t h' tk' F' N'
end
end Mine

namespace Mine
noncomputable def nmO : PySem.Expr → Option Str
  | .Name id _ => some id
  | _ => none
theorem fm_names {f : PySem.Expr → Option Str} {l : List PySem.Expr} (e : List.filterMap f l = List.filterMap nmO l) : List.filterMap f l = List.filterMap nmO l := e
section
variable {w : World} {o : Obj}
theorem wd_of_nil (h : o.IsDictOf (intKind pw w) ([] : List (Int × Value))) : Wd w o fun _ => 0 :=
  ⟨[], h, fun _ h => by simp at h, fun _ => .inl ⟨rfl, rfl⟩⟩
theorem ow_of_nil {im : Ledger} (h : o.IsDictOf (intKind pw w) ([] : List (Int × Value))) : Ow w im o [] := by
  obtain ⟨es, ep, hc, hd, _, hp, _⟩ := h
  refine ⟨[], hc, ⟨es, ep, hd, ?_⟩, List.nodup_nil, .nil⟩
  generalize es.toList = l at hp
  cases hp
  rfl
/-- an own dict of ints of which we know but the size -/
noncomputable def Hd (w : World) (o : Obj) (k : Nat) : Prop := ∃ kvs : List (Int × Value), o.IsDictOf (intKind pw w) kvs ∧ kvs.length ≤ k
theorem hd_of_nil (h : o.IsDictOf (intKind pw w) ([] : List (Int × Value))) : Hd w o 0 := ⟨[], h, Nat.le_refl _⟩
theorem stored_len (kvs : List (Int × Value)) (k : Int) (x : Value) : (stored kvs k x).length ≤ kvs.length + 1 := by
  unfold stored
  split
  · simp
  · simp
end
section
variable {w : World} {A : Around} {E : Value → Shared → Prop} {s : Shared} {h₀ : Heap} {L d : Addr} {m : Str → Option Value} {news : Ledger} {g : Obj → Ledger} {o : Obj} {n : Nat} {k : Int} {t : Tok}
theorem hd_set {Q : Unit → Shared → Prop} {v : Value} (F : Fr h₀ L s.heap m) (N : News h₀ L s.heap news) (U : UpdF d o news g) (hw : Hd w o n) (hn : n ≤ 100)
    (h : ∀ h' o', Fr h₀ L h' m → News h₀ L h' (g o') → Hd w o' (n + 1) → Q () { s with heap := h', toks := s.toks + 1 }) : wpAny (model pw w) A (setItem (.ref d) (.int k t) v) Q E s := by
  obtain ⟨kvs, hd, hb⟩ := hw
  exact kda_set F N U hd (intKind_is pw w k t) (by rw [sizeLine_eq]; lia) fun h' o' F' N' hd' => h h' o' F' N' ⟨_, hd', Nat.le_trans (stored_len _ _ _) (by lia)⟩
end
section
variable {w : World} {A : Around} {E : Value → Shared → Prop} {s : Shared} {env : Env} {h₀ : Heap} {x : Str} {body : List Stmt} {Q : Flow → Shared → Prop}
theorem list_grow {l : Addr} {vs : List Value} {ns : List Int} {nn : Nat} {m₀ : Str → Option Value} {news : Ledger} (J : Nat → (Str → Option Value) → Ledger → Prop)
    (hh : A.handled = none) (hl : (l, listOf (List.toArray vs) nn) ∈ news) (hi : IntsAre vs ns) (F : Fr h₀ env.locals s.heap m₀) (N : News h₀ env.locals s.heap news)
    (h0 : J 0 m₀ news) (hJl : ∀ i m nx, J i m nx → (l, listOf (List.toArray vs) nn) ∈ nx)
    (turn : ∀ I oI i n m₁ nx h tk t, oI.cls = .type "list_iterator" → ns[i]? = some n → (∀ p ∈ nx, p.1 ≠ I) → J i m₁ nx → Fr h₀ env.locals h (fun y => if y = x then some (.int n t) else m₁ y) → News h₀ env.locals h ((I, oI) :: nx) →
      wpAny (model pw w) A (execs body env) (TurnV h₀ env.locals I oI (J (i + 1)) { s with heap := h, toks := tk } Q) E { s with heap := h, toks := tk })
    (done : ∀ h tk m₁ nx, J ns.length m₁ nx → Fr h₀ env.locals h m₁ → News h₀ env.locals h nx → Q .next { s with heap := h, toks := tk }) :
    wpAny (model pw w) A (pyIter (.ref l)) (fun it s₂ => LoopAtV pw w A h₀ env x body Q E it s₂) E s := by
  have hol : s.heap.get? l = some (listOf vs.toArray nn) := (N _ hl).1
  have hls : s.heap.IsList l vs.toArray := ⟨_, hol, rfl, nn, rfl⟩
  have hne : l ≠ s.heap.objs.size := Nat.ne_of_lt (Heap.lt_size hol)
  refine wpAny_pyIter_list hls ?_
  have W := Walks.list (prog := pw) (w := w) hh s.heap.objs.size l hne vs.toArray
  have hlen : vs.toArray.size = ns.length := by simp [hi.length]
  rw [hlen] at W
  refine ⟨_, _, _, ns.length, _, _, m₀, news, J, rfl, W, ?_, ?_, ?_, ⟨⟨_, Heap.get?_push_size _ rfl, rfl, rfl⟩, hls.at fun o e => Heap.get?_push_of_some _ e⟩, F.push _, (fun p hp => ⟨Heap.get?_push_of_some _ (N p hp).1, (N p hp).2⟩), h0, ?_, ?_⟩
  · intro hm
    rcases List.mem_cons.mp hm with e | hm
    · exact absurd F.ns.lt (e ▸ Nat.lt_irrefl _)
    · exact (N _ hl).2.1 ((List.mem_singleton.mp hm).symm)
  · intro b hb
    rw [List.mem_singleton.mp hb]
    exact next_is_new F
  · intro p hp hI
    exact absurd (Heap.lt_size (N p hp).1) ((List.mem_singleton.mp hI) ▸ Nat.lt_irrefl _)
  · rintro i v m₁ nx s₁ own ⟨hh', tk', rfl⟩ hin hP hJ hoff hown hget hall hst F₁ N₁
    have hlt' : i < ns.length := hin
    obtain ⟨t, hx⟩ := hi.get i ns[i] (by simp [hlt'])
    have hv : v = .int ns[i] t := by
      have hP' : vs[i]? = some v := by simpa using hP
      rw [hx] at hP'; exact (Option.some.inj hP').symm
    subst hv
    obtain ⟨oI, hoI, hcI, _⟩ := hst.1
    have hmI := hall s.heap.objs.size (.head _) (next_is_new F) _ hoI
    have hmL := hJl _ _ _ hJ
    have hlo : hh'.get? l = some (listOf vs.toArray nn) := (N₁ _ (List.mem_append_right _ hmL)).1
    refine wpAny_mono (turn s.heap.objs.size oI i ns[i] m₁ nx hh' tk' _ hcI (by simp [hlt']) (fun p hp e => hoff p hp (List.mem_singleton.mpr e)) hJ F₁ (fun p hp => by
      rcases List.mem_cons.mp hp with rfl | hp
      · exact N₁ _ (List.mem_append_left _ hmI)
      · exact N₁ _ (List.mem_append_right _ hp))) (fun f s₂ p => ?_) fun _ _ e => e
    have fin : (∃ h' tk m₂ nx, s₂ = { s with heap := h', toks := tk } ∧ Fr h₀ env.locals h' m₂ ∧ News h₀ env.locals h' ((s.heap.objs.size, oI) :: nx) ∧ (∀ p ∈ nx, p.1 ≠ s.heap.objs.size) ∧ J (i + 1) m₂ nx) →
        LoopStepU h₀ env.locals [s.heap.objs.size] own (J (i + 1)) { s with heap := hh', toks := tk' } .next s₂ := by
      rintro ⟨h', tk, m', nx', e, F', N', ho, r⟩
      refine ⟨rfl, h', tk, m', nx', e, F', fun p hp => ?_, fun p hp hI => ho p hp (List.mem_singleton.mp hI), r⟩
      rcases List.mem_append.mp hp with hp | hp
      · have h2 : hh'.get? p.1 = some p.2 := hget p hp
        rcases List.mem_cons.mp (hown p hp) with h1 | h1
        · rw [h1, hoI] at h2
          have h3 : p = (s.heap.objs.size, oI) := Prod.ext h1 (Option.some.inj h2).symm
          rw [h3]; exact N' _ (List.mem_cons_self ..)
        · have h1 := List.mem_singleton.mp h1
          rw [h1, hlo] at h2
          have h3 : p = (l, listOf vs.toArray nn) := Prod.ext h1 (Option.some.inj h2).symm
          rw [h3]; exact N' _ (List.mem_cons_of_mem _ (hJl _ _ _ r))
      · exact N' _ (List.mem_cons_of_mem _ hp)
    cases f with
    | ret v => exact .ret p
    | brk => exact .brk p
    | next => exact .next (fin p)
    | cont => exact .cont (fin p)
  · rintro h' tk m' news' F' N' _ hJ
    exact done h' tk m' news' hJ F' N'
end
end Mine

namespace Mine
theorem and_hi {k x y : Int} (hk : 0 ≤ k) (hx : 0 ≤ x) (hy : 0 ≤ y) (hy2 : y < 1024) : Builtin.bitAnd (1024 * k + x) y = Builtin.bitAnd x y := by
  obtain ⟨k, rfl⟩ := Int.eq_ofNat_of_zero_le hk
  obtain ⟨x, rfl⟩ := Int.eq_ofNat_of_zero_le hx
  obtain ⟨y, rfl⟩ := Int.eq_ofNat_of_zero_le hy
  have hy3 : y < 2 ^ 10 := by lia
  rw [bitAnd_pp (by lia) (by lia), bitAnd_pp (by lia) (by lia)]
  have e1 : (1024 * (k : Int) + (x : Int)).toNat = 1024 * k + x := by lia
  rw [e1, Int.toNat_natCast, Int.toNat_natCast]
  congr 1
  have h1 : (1024 * k + x) &&& y < 2 ^ 10 := Nat.lt_of_le_of_lt Nat.and_le_right hy3
  have h2 : x &&& y < 2 ^ 10 := Nat.lt_of_le_of_lt Nat.and_le_right hy3
  rw [← Nat.mod_eq_of_lt h1, ← Nat.mod_eq_of_lt h2, Nat.and_mod_two_pow, Nat.and_mod_two_pow]
  congr 1
  lia
theorem or_hi {k x y : Int} (hk : 0 ≤ k) (hx : 0 ≤ x) (hy : 0 ≤ y) (hy2 : y < 1024) : Builtin.bitOr (1024 * k + x) y = 1024 * k + Builtin.bitOr x y := by
  rw [bitOr_and, bitOr_and, and_hi hk hx hy hy2]; lia
theorem not_hi {k x y : Int} (hk : 0 ≤ k) (hx : 0 ≤ x) (hy : 0 ≤ y) (hy2 : y < 1024) : Builtin.bitAnd (1024 * k + x) (Builtin.bitNot y) = 1024 * k + Builtin.bitAnd x (Builtin.bitNot y) := by
  rw [bitAnd_not, bitAnd_not, and_hi hk hx hy hy2]; lia
/-- the flags that a page of the law may bear -/
noncomputable abbrev FG (fl : Int) : Prop := 0 ≤ fl ∧ fl < 256 ∧ Builtin.bitAnd fl 1 = 1 ∧ Builtin.bitAnd fl 10 ≠ 0 ∧ Builtin.bitAnd fl 6 ≠ 4
noncomputable def PG (p : Int) : Prop := 0 ≤ p ∧ p < 1000 ∧ p % 16 = 0
theorem FG.nat {P : Int → Prop} (h : ∀ n : Nat, n < 256 → FG (n : Int) → P (n : Int)) {fl : Int} (hf : FG fl) : P fl := by
  obtain ⟨n, rfl⟩ := Int.eq_ofNat_of_zero_le hf.1
  exact h n (by have := hf.2.1; omega) hf
theorem fg_sound {fl : Int} (hf : FG fl) : soundB fl = true := FG.nat (P := fun fl => soundB fl = true) (by decide +kernel) hf
theorem fg_odd {fl : Int} (hf : FG fl) : fl ≠ 0 := FG.nat (P := fun fl => fl ≠ 0) (by decide +kernel) hf
theorem tri {n : Int} : n.fmod 3 = 0 ∨ n.fmod 3 = 1 ∨ n.fmod 3 = 2 := by
  rw [Int.fmod_eq_emod_of_nonneg _ (by decide)]; lia
noncomputable def addK (j : Nat) : Int := [4, 64, 16].getD j 0
noncomputable def takeK (j : Nat) : Int := [64, 4, 128].getD j 0
noncomputable def turnK (j : Nat) (n : Int) : Int := Builtin.bitOr (Builtin.bitAnd n (1023 - takeK j)) (addK j)
theorem turn_f1 : ∀ j : Nat, j < 3 → ∀ n : Nat, n < 256 → FG (n : Int) → 0 ≤ turnK j (n : Int) ∧ turnK j (n : Int) < 256 := by decide +kernel
theorem turn_f2 : ∀ j : Nat, j < 3 → ∀ n : Nat, n < 256 → FG (n : Int) → Builtin.bitOr (Builtin.bitAnd (n : Int) (Builtin.bitNot (Builtin.bitAnd (takeK j) 1023))) (Builtin.bitAnd (addK j) 1023) = turnK j (n : Int) := by decide +kernel
theorem turn_f3 : ∀ j : Nat, j < 3 → ∀ n : Nat, n < 256 → FG (n : Int) → Builtin.bitOr (turnK j (n : Int)) 1 = turnK j (n : Int) := by decide +kernel
set_option synthInstance.maxSize 1000 in
set_option synthInstance.maxHeartbeats 400000 in
theorem turn_f4 : ∀ j : Nat, j < 3 → ∀ n : Nat, n < 256 → FG (n : Int) → Builtin.bitAnd (turnK j (n : Int)) 6 ≠ 4 → FG (turnK j (n : Int)) := by decide +kernel
theorem turn_f5 : ∀ j : Nat, j < 3 → ∀ n : Nat, n < 256 → FG (n : Int) → Builtin.bitAnd (Builtin.bitAnd (Builtin.bitAnd (turnK j (n : Int)) 1023) (Builtin.bitNot 1)) (Builtin.bitNot 1023) = 0 ∧ Builtin.bitAnd (Builtin.bitAnd (Builtin.bitAnd (turnK j (n : Int)) 1023) (Builtin.bitNot 1)) 10 ≠ 0 := by decide +kernel
theorem turn_f6 : ∀ j : Nat, j < 3 → ∀ n : Nat, n < 256 → FG (n : Int) → (soundB (Builtin.bitOr (Builtin.bitAnd (Builtin.bitAnd (turnK j (n : Int)) 1023) (Builtin.bitNot 1)) 1) = true ↔ Builtin.bitAnd (turnK j (n : Int)) 6 ≠ 4) := by decide +kernel
theorem idx3 (n : Int) : (n.fmod 3).toNat < 3 := by have := tri (n := n); lia
theorem addOf_eq (n : Int) : addOf n = addK (n.fmod 3).toNat := rfl
theorem takeOf_eq (n : Int) : takeOf n = takeK (n.fmod 3).toNat := rfl
theorem addK_r : ∀ j : Nat, j < 3 → 0 ≤ addK j ∧ addK j < 1024 ∧ 0 ≤ takeK j ∧ takeK j < 1024 ∧ Builtin.bitAnd (addK j) 1023 = addK j ∧ Builtin.bitAnd (takeK j) 1023 = takeK j := by decide +kernel
noncomputable def turnF (old n : Int) : Int := Builtin.bitOr (Builtin.bitAnd old (1023 - [64, 4, 128].getD (n.fmod 3).toNat 0)) ([4, 64, 16].getD (n.fmod 3).toNat 0)
theorem turnF_eq (old n : Int) : turnF old n = turnK (n.fmod 3).toNat old := rfl
/-- what change makes of an entry -/
theorem change_law {k fl n : Int} (hk : 0 ≤ k ∧ k < 1000) (hf : FG fl) :
    Builtin.bitOr (Builtin.bitAnd (1024 * k + fl) (Builtin.bitNot (Builtin.bitAnd (takeOf n) 1023))) (Builtin.bitAnd (addOf n) 1023) = 1024 * k + turnF fl n ∧
    Builtin.bitOr (1024 * k + turnF fl n) 1 = 1024 * k + turnF fl n ∧ 0 ≤ turnF fl n ∧ turnF fl n < 256 ∧
    (Builtin.bitAnd (turnF fl n) 6 ≠ 4 → FG (turnF fl n)) ∧
    (flOk (Builtin.bitAnd (Builtin.bitAnd (1024 * k + turnF fl n) 1023) (Builtin.bitNot 1)) ↔ Builtin.bitAnd (turnF fl n) 6 ≠ 4) := by
  obtain ⟨m, rfl⟩ := Int.eq_ofNat_of_zero_le hf.1
  have hm : m < 256 := by have := hf.2.1; lia
  obtain ⟨t1, t2⟩ := turn_f1 _ (idx3 n) m hm hf
  have t3 := turn_f2 _ (idx3 n) m hm hf
  have t4 := turn_f3 _ (idx3 n) m hm hf
  have t5 := turn_f4 _ (idx3 n) m hm hf
  have t6 := turn_f5 _ (idx3 n) m hm hf
  have t7 := turn_f6 _ (idx3 n) m hm hf
  obtain ⟨a1, a2, a3, a4, a5, a6⟩ := addK_r _ (idx3 n)
  rw [← turnF_eq] at t1 t2 t3 t4 t5 t6 t7
  rw [addOf_eq, takeOf_eq]
  refine ⟨?_, ?_, t1, t2, t5, ?_⟩
  · rw [a5, a6] at t3 ⊢
    rw [not_hi hk.1 (by lia) a3 a4, or_hi hk.1 (by rw [bitAnd_not]; have := bitAnd_range (m : Int) a3; have := bitAnd_range (takeK (n.fmod 3).toNat) (y := (m : Int)) (by lia); rw [bitAnd_comm] at this; lia) a1 a2, t3]
  · rw [or_hi hk.1 t1 (by decide) (by decide), t4]
  · rw [and_hi hk.1 t1 (by decide) (by decide)]
    unfold flOk
    exact ⟨fun h => t7.mp h.2.2, fun h => ⟨t6.1, t6.2, t7.mpr h⟩⟩
theorem flags_fin : ∀ j : Nat, j < 5 → Builtin.bitAnd ([22, 18, 24, 2, 30].getD j (0 : Int)) (Builtin.bitNot 1023) = 0 ∧ Builtin.bitAnd ([22, 18, 24, 2, 30].getD j (0 : Int)) 10 ≠ 0 ∧ soundB (Builtin.bitOr ([22, 18, 24, 2, 30].getD j (0 : Int)) 1) = true ∧
    Builtin.bitOr ([22, 18, 24, 2, 30].getD j (0 : Int)) 1 = [22, 18, 24, 2, 30].getD j (0 : Int) + 1 ∧ FG ([22, 18, 24, 2, 30].getD j (0 : Int) + 1) := by decide +kernel
theorem flags_law (n : Int) : flOk (lawFl n) ∧ Builtin.bitOr (lawFl n) 1 = lawFl n + 1 ∧ (0 ≤ Builtin.bitOr (lawFl n) 1 ∧ Builtin.bitOr (lawFl n) 1 < 1024) ∧ FG (lawFl n + 1) := by
  have h5 : (n.fmod 5).toNat < 5 := by rw [Int.fmod_eq_emod_of_nonneg _ (by decide)]; lia
  obtain ⟨a, b, c, d, e⟩ := flags_fin _ h5
  have e' : FG (lawFl n + 1) := e
  refine ⟨⟨a, b, c⟩, d, ?_, e⟩
  rw [show Builtin.bitOr (lawFl n) 1 = lawFl n + 1 from d]
  have := e'.1; have := e'.2.1; lia
theorem due_fin : ∀ n : Nat, n < 256 → FG (n : Int) → FG (Builtin.bitOr (Builtin.bitOr (n : Int) 64) 0) ∧ FG (Builtin.bitOr (Builtin.bitOr (n : Int) 64) 128) ∧ 0 ≤ Builtin.bitOr (n : Int) 64 := by decide +kernel
theorem due_law {k fl : Int} {ks : Str} (hk : 0 ≤ k ∧ k < 1000) (hf : FG fl) : dueOf ks (1024 * k + fl) = 1024 * k + dueOf ks fl ∧ FG (dueOf ks fl) := by
  obtain ⟨m, rfl⟩ := Int.eq_ofNat_of_zero_le hf.1
  have hm : m < 256 := by have := hf.2.1; lia
  obtain ⟨a, b, c⟩ := due_fin m hm hf
  unfold dueOf
  split
  · rw [or_hi hk.1 (by lia) (by decide) (by decide), or_hi hk.1 c (by decide) (by decide)]
    exact ⟨rfl, b⟩
  · rw [or_hi hk.1 (by lia) (by decide) (by decide), or_hi hk.1 c (by decide) (by decide)]
    exact ⟨rfl, a⟩
theorem may_law {k fl : Int} {ks : Str} (hk : 0 ≤ k ∧ k < 1000) (hf : FG fl) : mayB ks (1024 * k + fl) ↔ mayB ks fl := by
  unfold mayB
  rw [and_hi hk.1 hf.1 (by decide) (by decide), and_hi hk.1 hf.1 (by decide) (by decide), and_hi hk.1 hf.1 (by decide) (by decide), and_hi hk.1 hf.1 (by decide) (by decide)]
theorem val_law {k fl : Int} (hk : 0 ≤ k ∧ k < 1000) (hf : FG fl) : (1024 * k + fl ≠ 0) ∧ Builtin.bitAnd (1024 * k + fl) 1 = 1 ∧ Builtin.bitAnd (1024 * k + fl) 10 ≠ 0 ∧ soundB (1024 * k + fl) = true ∧ Builtin.bitAnd (1024 * k + fl) 1023 = fl ∧ (1024 * k + fl) / 1024 = k := by
  have h0 := hf.1
  have h1 := hf.2.1
  refine ⟨?_, ?_, ?_, ?_, ?_, by omega⟩
  · have := fg_odd hf; omega
  · rw [and_hi hk.1 h0 (by decide) (by decide)]; exact hf.2.2.1
  · rw [and_hi hk.1 h0 (by decide) (by decide)]; exact hf.2.2.2.1
  · have := fg_sound hf
    unfold soundB at this ⊢
    have e : Builtin.bitOr 2 4 = 6 := by decide
    rw [and_hi hk.1 h0 (by decide) (by decide), e, and_hi hk.1 h0 (by decide) (by decide), ← e]
    exact this
  · rw [and_hi hk.1 h0 (by decide) (by decide)]
    exact FG.nat (P := fun fl => Builtin.bitAnd fl 1023 = fl) (by decide +kernel) hf
end Mine

namespace Mine
/-- the words of the tables against the plain dict of pages -/
structure Rel (M : Int → Int) (ds : Own) (g0 g1 : Int) : Prop where
  nodup : (ds.map (·.1)).Nodup
  keys : ∀ d ∈ ds, (d.1.1 = 0 ∨ d.1.1 = 1) ∧ 0 ≤ d.1.2 ∧ d.1.2 < 4
  vals : ∀ d ∈ ds, PG d.2.1 ∧ FG d.2.2
  leaf : ∀ f u, (f = 0 ∨ f = 1) → 0 ≤ u → u < 4 → M (4 * (58 + f) + u) = match look ds (f, u) with | none => 0 | some (p, fl) => p * 64 + fl
  r0 : ∀ j, 0 ≤ j → j < 4 → M (224 + j) = if j = 0 then 59393 else if j = 1 then 60417 else 0
  r1 : ∀ j, 0 ≤ j → j < 4 → M (228 + j) = if j = g0 then 59393 else if j = g1 then 60417 else 0
  b0 : 0 ≤ g0 ∧ g0 < 4
  b1 : 0 ≤ g1 ∧ g1 < 4
  ne : g0 ≠ g1
theorem look_mem {ds : Own} {k v : Int × Int} (h : look ds k = some v) : (k, v) ∈ ds := by
  unfold look at h
  obtain ⟨x, hx, e⟩ := Option.map_eq_some_iff.mp h
  have h1 := List.find?_some hx
  have h2 := List.mem_of_find?_eq_some hx
  have h3 : x.1 = k := of_decide_eq_true h1
  rw [← h3, ← e]
  exact h2
theorem look_of_mem {ds : Own} (hn : (ds.map (·.1)).Nodup) {k v : Int × Int} (h : (k, v) ∈ ds) : look ds k = some v := by
  obtain ⟨i, hi⟩ := List.getElem?_of_mem h
  exact look_get hn hi
theorem look_map (ds : Own) (k v j : Int × Int) : look (ds.map fun d => if d.1 = k then (k, v) else d) j = if j = k then (look ds j).map (fun _ => v) else look ds j := by
  induction ds with
  | nil => simp [look]
  | cons p r ih =>
    unfold look at *
    rw [List.map_cons, List.find?_cons, List.find?_cons]
    by_cases h3 : p.1 = j
    · by_cases h1 : p.1 = k
      · have : j = k := h3.symm.trans h1
        simp [h1, h3, this]
      · have : ¬ j = k := fun q => h1 (h3.trans q)
        simp [h3, this]
    · by_cases h1 : p.1 = k
      · have h3' : ¬ k = j := fun q => h3 (h1.trans q)
        simpa [h1, h3'] using ih
      · simpa [h1, h3] using ih
theorem look_snoc (ds : Own) (k v j : Int × Int) (h : look ds k = none) : look (ds ++ [(k, v)]) j = if j = k then some v else look ds j := by
  induction ds with
  | nil =>
    by_cases e : j = k
    · subst e; simp [look]
    · have : ¬ k = j := fun q => e q.symm
      simp [look, e, this]
  | cons p r ih =>
    unfold look at *
    by_cases h1 : p.1 = k
    · simp [h1] at h
    · have h' : Option.map (fun x => x.2) (List.find? (fun d => decide (d.1 = k)) r) = none := by simpa [h1] using h
      by_cases h3 : p.1 = j
      · have : ¬ j = k := fun q => h1 (h3.trans q)
        simp [h3, this]
      · simpa [h3] using ih h'
theorem look_put {ds : Own} {k v : Int × Int} (j : Int × Int) : look (put ds k v) j = if j = k then some v else look ds j := by
  unfold put
  cases h : look ds k with
  | none => simpa using look_snoc ds k v j h
  | some y =>
    simp only [Option.isSome_some, if_true]
    rw [look_map]
    by_cases e : j = k
    · rw [if_pos e, if_pos e, e, h]; rfl
    · rw [if_neg e, if_neg e]
theorem look_drp {ds : Own} {k : Int × Int} (j : Int × Int) : look (drp ds k) j = if j = k then none else look ds j := by
  induction ds with
  | nil => unfold drp look; simp
  | cons d r ih =>
    unfold drp look at *
    rw [List.filter_cons]
    by_cases h1 : d.1 = k
    · rw [if_neg (by simpa using h1), ih, List.find?_cons]
      by_cases e : j = k
      · rw [if_pos e, if_pos e]
      · have : ¬ d.1 = j := fun q => e (q.symm.trans h1)
        rw [if_neg e, if_neg e]
        simp [this]
    · rw [if_pos (by simpa using h1), List.find?_cons, List.find?_cons]
      by_cases hj : d.1 = j
      · have : ¬ j = k := fun q => h1 (hj.trans q)
        simp [hj, this]
      · simp only [hj, decide_false]
        exact ih
theorem put_mem {ds : Own} {k v : Int × Int} : ∀ d ∈ put ds k v, d = (k, v) ∨ d ∈ ds := by
  intro d hd
  unfold put at hd
  split at hd
  · obtain ⟨x, hx, e⟩ := List.mem_map.mp hd
    by_cases h : x.1 = k
    · rw [if_pos h] at e; exact .inl e.symm
    · rw [if_neg h] at e; exact .inr (e ▸ hx)
  · rcases List.mem_append.mp hd with hd | hd
    · exact .inr hd
    · exact .inl (by simpa using hd)
theorem idx_inj {f u f' u' : Int} (hf : f = 0 ∨ f = 1) (hf' : f' = 0 ∨ f' = 1) (hu : 0 ≤ u ∧ u < 4) (hu' : 0 ≤ u' ∧ u' < 4) : (4 * (58 + f') + u' = 4 * (58 + f) + u) ↔ ((f', u') = (f, u)) := by
  rw [Prod.mk.injEq]; lia
theorem Rel.put {M : Int → Int} {ds : Own} {g0 g1 f u p fl : Int} (R : Rel M ds g0 g1) (hf : f = 0 ∨ f = 1) (hu : 0 ≤ u ∧ u < 4) (hp : PG p) (hfl : FG fl) : Rel (upM M (4 * (58 + f) + u) (p * 64 + fl)) (put ds (f, u) (p, fl)) g0 g1 where
  nodup := nodup_put R.nodup _ _
  keys := fun d hd => by
    rcases put_mem d hd with rfl | hd
    · exact ⟨hf, hu⟩
    · exact R.keys d hd
  vals := fun d hd => by
    rcases put_mem d hd with rfl | hd
    · exact ⟨hp, hfl⟩
    · exact R.vals d hd
  leaf := fun f' u' hf' a b => by
    rw [look_put]
    unfold upM
    by_cases e : (f', u') = (f, u)
    · rw [if_pos e, if_pos ((idx_inj hf hf' hu ⟨a, b⟩).mpr e)]
    · rw [if_neg e, if_neg (fun q => e ((idx_inj hf hf' hu ⟨a, b⟩).mp q))]
      exact R.leaf f' u' hf' a b
  r0 := fun j a b => by
    unfold upM
    rw [if_neg (by omega)]; exact R.r0 j a b
  r1 := fun j a b => by
    unfold upM
    rw [if_neg (by omega)]; exact R.r1 j a b
  b0 := R.b0
  b1 := R.b1
  ne := R.ne
theorem Rel.drp {M : Int → Int} {ds : Own} {g0 g1 f u : Int} (R : Rel M ds g0 g1) (hf : f = 0 ∨ f = 1) (hu : 0 ≤ u ∧ u < 4) : Rel (upM M (4 * (58 + f) + u) 0) (drp ds (f, u)) g0 g1 where
  nodup := nodup_drp R.nodup _
  keys := fun d hd => R.keys d (List.mem_filter.mp hd).1
  vals := fun d hd => R.vals d (List.mem_filter.mp hd).1
  leaf := fun f' u' hf' a b => by
    rw [look_drp]
    unfold upM
    by_cases e : (f', u') = (f, u)
    · rw [if_pos e, if_pos ((idx_inj hf hf' hu ⟨a, b⟩).mpr e)]
    · rw [if_neg e, if_neg (fun q => e ((idx_inj hf hf' hu ⟨a, b⟩).mp q))]
      exact R.leaf f' u' hf' a b
  r0 := fun j a b => by
    unfold upM
    rw [if_neg (by lia)]; exact R.r0 j a b
  r1 := fun j a b => by
    unfold upM
    rw [if_neg (by lia)]; exact R.r1 j a b
  b0 := R.b0
  b1 := R.b1
  ne := R.ne
theorem Rel.len {M : Int → Int} {ds : Own} {g0 g1 : Int} (R : Rel M ds g0 g1) : ds.length ≤ 8 := by
  have hn : ((ds.map (·.1)).map fun k => 4 * k.1 + k.2).Nodup := by
    refine List.Pairwise.map _ (fun a b h => h) ?_
    have := R.nodup
    refine List.Pairwise.imp_of_mem ?_ this
    intro a b ha hb hab e
    obtain ⟨x, hx, rfl⟩ := List.mem_map.mp ha
    obtain ⟨y, hy, rfl⟩ := List.mem_map.mp hb
    have h1 := R.keys x hx
    have h2 := R.keys y hy
    exact hab (Prod.ext (by omega) (by omega))
  have := nodup_bound 8 _ hn (fun x hx => by
    obtain ⟨k, hk, rfl⟩ := List.mem_map.mp hx
    obtain ⟨d, hd, rfl⟩ := List.mem_map.mp hk
    have := R.keys d hd
    omega)
  simpa using this
end Mine

namespace Mine
theorem rowsD_mem {M : Int → Int} {q fi : Int} {k : Nat} {d : Dat} : d ∈ rowsD M q fi k ↔ ∃ u : Nat, u < k ∧ M (4 * q + (u : Int)) ≠ 0 ∧ d = rowD fi u (M (4 * q + (u : Int))) := by
  unfold rowsD
  rw [List.mem_filterMap]
  constructor
  · rintro ⟨u, hu, e⟩
    rw [List.mem_range] at hu
    by_cases h : M (4 * q + (u : Int)) = 0
    · rw [if_pos h] at e; cases e
    · rw [if_neg h] at e; exact ⟨u, hu, h, (Option.some.inj e).symm⟩
  · rintro ⟨u, hu, h, e⟩
    exact ⟨u, List.mem_range.mpr hu, by rw [if_neg h, e]⟩
theorem key_row {fi u v : Int} : keyD (rowD fi u v) = 64 * fi + 16 * u := rfl
theorem rowsD_sorted {M : Int → Int} {q fi : Int} : ∀ k : Nat, (rowsD M q fi k).Pairwise (fun x y => keyD x < keyD y)
  | 0 => List.Pairwise.nil
  | k + 1 => by
    by_cases h : M (4 * q + (k : Int)) = 0
    · rw [rowsD_zero h]; exact rowsD_sorted k
    · rw [rowsD_more h, List.pairwise_append]
      refine ⟨rowsD_sorted k, List.pairwise_singleton _ _, fun a ha b hb => ?_⟩
      obtain ⟨u, hu, _, rfl⟩ := rowsD_mem.mp ha
      rw [List.mem_singleton.mp hb, key_row, key_row]
      lia
theorem tabD_mem {M : Int → Int} {r : Int} {k : Nat} {d : Dat} : d ∈ tabD M r k ↔ ∃ f : Nat, f < k ∧ M (r / 4 + (f : Int)) ≠ 0 ∧ d ∈ rowsD M (M (r / 4 + (f : Int)) / 1024) (f : Int) 4 := by
  unfold tabD
  rw [List.mem_flatMap]
  constructor
  · rintro ⟨f, hf, hd⟩
    rw [List.mem_range] at hf
    by_cases h : M (r / 4 + (f : Int)) = 0
    · rw [if_pos h] at hd; cases hd
    · rw [if_neg h] at hd; exact ⟨f, hf, h, hd⟩
  · rintro ⟨f, hf, h, hd⟩
    exact ⟨f, List.mem_range.mpr hf, by rw [if_neg h]; exact hd⟩
theorem tabD_sorted {M : Int → Int} {r : Int} : ∀ k : Nat, (tabD M r k).Pairwise (fun x y => keyD x < keyD y)
  | 0 => List.Pairwise.nil
  | k + 1 => by
    have e : tabD M r (k + 1) = tabD M r k ++ (if M (r / 4 + (k : Int)) = 0 then [] else rowsD M (M (r / 4 + (k : Int)) / 1024) (k : Int) 4) := by
      unfold tabD
      rw [List.range_succ, List.flatMap_append]
      simp
    rw [e, List.pairwise_append]
    refine ⟨tabD_sorted k, ?_, fun a ha b hb => ?_⟩
    · split
      · exact List.Pairwise.nil
      · exact rowsD_sorted 4
    · obtain ⟨f, hf, _, ha⟩ := tabD_mem.mp ha
      obtain ⟨u, hu, _, rfl⟩ := rowsD_mem.mp ha
      split at hb
      · cases hb
      · obtain ⟨u', hu', _, rfl⟩ := rowsD_mem.mp hb
        rw [key_row, key_row]
        lia
theorem row_val {p fl : Int} (hp : PG p) (hf : FG fl) : 16 * ((p * 64 + fl) / 1024) = p ∧ Builtin.bitAnd (p * 64 + fl) 1023 = fl ∧ p * 64 + fl ≠ 0 ∧ Builtin.bitAnd (p * 64 + fl) 1 = 1 ∧ Builtin.bitAnd (p * 64 + fl) 10 ≠ 0 ∧ soundB (p * 64 + fl) = true ∧ (0 ≤ p * 64 + fl ∧ p * 64 + fl < 100000) := by
  obtain ⟨h1, h2, h3⟩ := hp
  have hk : 0 ≤ p / 16 ∧ p / 16 < 1000 := by lia
  have e : p * 64 + fl = 1024 * (p / 16) + fl := by lia
  obtain ⟨v1, v2, v3, v4, v5, v6⟩ := val_law hk hf
  rw [← e] at v1 v2 v3 v4 v5 v6
  exact ⟨by lia, v5, v1, v2, v3, v4, by have := hf.1; have := hf.2.1; lia⟩
section
variable {M : Int → Int} {ds : Own} {g0 g1 : Int}
theorem Rel.look_ok (R : Rel M ds g0 g1) {k : Int × Int} {p fl : Int} (h : look ds k = some (p, fl)) : PG p ∧ FG fl := R.vals _ (look_mem h)
theorem side_of (R : Rel M ds g0 g1) {r ga gb : Int} (hr : r = 896 ∨ r = 912) (ha : 0 ≤ ga ∧ ga < 4) (hb : 0 ≤ gb ∧ gb < 4) (hne : ga ≠ gb)
    (hw : ∀ j, 0 ≤ j → j < 4 → M (r / 4 + j) = if j = ga then 59393 else if j = gb then 60417 else 0) : SideOk M ds r ga gb where
  root := hr
  ents := fun f a b => by
    rw [hw f a b]
    split
    · exact .inr ⟨58, .inl rfl, rfl⟩
    · split
      · exact .inr ⟨59, .inr rfl, rfl⟩
      · exact .inl rfl
  sorted := tabD_sorted 4
  ent0 := by rw [hw ga ha.1 ha.2, if_pos rfl]; rfl
  ent1 := by rw [hw gb hb.1 hb.2, if_neg (fun e => hne e.symm), if_pos rfl]; rfl
  b0 := ha
  b1 := hb
  perm := by
    have n1 : (tabD M r 4).Nodup := by
      have := tabD_sorted (M := M) (r := r) 4
      exact this.imp fun h e => by rw [e] at h; exact Int.lt_irrefl _ h
    have n2 : (ds.map (ownD ga gb)).Nodup := by
      unfold List.Nodup
      rw [List.pairwise_map]
      have hn := R.nodup
      unfold List.Nodup at hn
      rw [List.pairwise_map] at hn
      refine List.Pairwise.imp_of_mem ?_ hn
      intro x y hx hy hxy e
      have k1 := R.keys x hx
      have k2 := R.keys y hy
      have ek : keyD (ownD ga gb x) = keyD (ownD ga gb y) := by rw [e]
      have ek' : 64 * (if x.1.1 = 0 then ga else gb) + 16 * x.1.2 = 64 * (if y.1.1 = 0 then ga else gb) + 16 * y.1.2 := ek
      refine hxy (Prod.ext ?_ ?_)
      · rcases k1.1 with e1 | e1 <;> rcases k2.1 with e2 | e2 <;> rw [e1, e2] <;> rw [e1, e2] at ek' <;> simp at ek' <;> lia
      · rcases k1.1 with e1 | e1 <;> rcases k2.1 with e2 | e2 <;> rw [e1, e2] at ek' <;> simp at ek' <;> lia
    rw [List.perm_ext_iff_of_nodup n1 n2]
    intro d
    constructor
    · intro hd
      obtain ⟨f, hf, hz, hd⟩ := tabD_mem.mp hd
      have hwf := hw f (by lia) (by lia)
      have hq : ∃ f' : Int, (f' = 0 ∨ f' = 1) ∧ M (r / 4 + (f : Int)) / 1024 = 58 + f' ∧ (f : Int) = (if f' = 0 then ga else gb) := by
        rw [hwf] at hz ⊢
        by_cases h1 : (f : Int) = ga
        · rw [if_pos h1]; exact ⟨0, .inl rfl, rfl, by rw [if_pos rfl]; exact h1⟩
        · rw [if_neg h1] at hz ⊢
          by_cases h2 : (f : Int) = gb
          · rw [if_pos h2]; exact ⟨1, .inr rfl, rfl, by rw [if_neg (by decide)]; exact h2⟩
          · rw [if_neg h2] at hz; exact absurd rfl hz
      obtain ⟨f', hf', hq, hfi⟩ := hq
      rw [hq] at hd
      obtain ⟨u, hu, hz2, rfl⟩ := rowsD_mem.mp hd
      have hl := R.leaf f' u hf' (by lia) (by lia)
      cases hlk : look ds (f', (u : Int)) with
      | none => rw [hlk] at hl; exact absurd hl hz2
      | some v =>
        obtain ⟨p, fl⟩ := v
        rw [hlk] at hl
        obtain ⟨hp, hfl⟩ := R.look_ok hlk
        obtain ⟨r1, r2, _⟩ := row_val hp hfl
        refine List.mem_map.mpr ⟨_, look_mem hlk, ?_⟩
        have hl' : M (4 * (58 + f') + (u : Int)) = p * 64 + fl := hl
        rw [hl']
        show rowT (64 * (if f' = 0 then ga else gb) + 16 * (u : Int)) p fl 16 = Dat.tuple [.int (64 * (f : Int) + 16 * (u : Int)), .int (16 * ((p * 64 + fl) / 1024)), .int (Builtin.bitAnd (p * 64 + fl) 1023), .int 16]
        rw [r1, r2, ← hfi]
        rfl
    · intro hd
      obtain ⟨⟨⟨f', u⟩, ⟨p, fl⟩⟩, hx, rfl⟩ := List.mem_map.mp hd
      obtain ⟨hf', hu0, hu1⟩ := R.keys _ hx
      obtain ⟨hp, hfl⟩ := R.vals _ hx
      have hlk := look_of_mem R.nodup hx
      have hf'' : f' = 0 ∨ f' = 1 := hf'
      have hu0' : 0 ≤ u := hu0
      have hu1' : u < 4 := hu1
      have hl := R.leaf f' u hf'' hu0' hu1'
      rw [hlk] at hl
      have hl' : M (4 * (58 + f') + u) = p * 64 + fl := hl
      obtain ⟨r1, r2, r3, _⟩ := row_val hp hfl
      have hg : 0 ≤ (if f' = 0 then ga else gb) ∧ (if f' = 0 then ga else gb) < 4 := by split <;> lia
      have hword : M (r / 4 + (if f' = 0 then ga else gb)) = 1024 * (58 + f') + 1 := by
        rw [hw _ hg.1 hg.2]
        rcases hf'' with e | e
        · subst e; rw [if_pos rfl, if_pos rfl]; rfl
        · subst e; rw [if_neg (show ¬ ((1 : Int) = 0) by decide), if_neg (fun e => hne e.symm), if_pos rfl]; rfl
      obtain ⟨n, hn⟩ := Int.eq_ofNat_of_zero_le hg.1
      obtain ⟨j, hj⟩ := Int.eq_ofNat_of_zero_le hu0'
      refine tabD_mem.mpr ⟨n, by lia, ?_, ?_⟩
      · rw [← hn, hword]; rcases hf'' with e | e <;> rw [e] <;> decide
      · rw [← hn, hword, show (1024 * (58 + f') + 1) / 1024 = 58 + f' by lia]
        refine rowsD_mem.mpr ⟨j, by lia, ?_, ?_⟩
        · rw [← hj, hl']; exact r3
        · rw [← hj, hl']
          show rowT (64 * (if f' = 0 then ga else gb) + 16 * u) p fl 16 = Dat.tuple [.int (64 * (if f' = 0 then ga else gb) + 16 * u), .int (16 * ((p * 64 + fl) / 1024)), .int (Builtin.bitAnd (p * 64 + fl) 1023), .int 16]
          rw [r1, r2]
          rfl
theorem Rel.side0 (R : Rel M ds g0 g1) : SideOk M ds 896 0 1 := side_of R (.inl rfl) (by decide) (by decide) (by decide) fun j a b => R.r0 j a b
theorem Rel.side1 (R : Rel M ds g0 g1) : SideOk M ds 912 g0 g1 := side_of R (.inr rfl) R.b0 R.b1 R.ne fun j a b => R.r1 j a b
theorem Rel.leafOk (R : Rel M ds g0 g1) : LeafOk M := by
  intro q hq u a b
  have hl := R.leaf (q - 58) u (by lia) a b
  rw [show 4 * (58 + (q - 58)) + u = 4 * q + u by lia] at hl
  cases hlk : look ds (q - 58, u) with
  | none =>
    rw [hlk] at hl
    have hl' : M (4 * q + u) = 0 := hl
    rw [hl']
    exact ⟨.inl rfl, by decide, by decide⟩
  | some v =>
    obtain ⟨p, fl⟩ := v
    rw [hlk] at hl
    have hl' : M (4 * q + u) = p * 64 + fl := hl
    obtain ⟨hp, hfl⟩ := R.look_ok hlk
    obtain ⟨r1, r2, r3, r4, r5, r6, r7, r8⟩ := row_val hp hfl
    rw [hl']
    exact ⟨.inr (by rw [r4]; decide), r7, by lia⟩
end
end Mine

namespace Mine
noncomputable def PoolIn (c : Ads) (u : Int) (news : Ledger) : Prop :=
  ∃ (u4 g1 : Nat), (c.p, instObj 834 c.pD) ∈ news ∧ (c.pD, dictOf (poolE c u4 u) 8) ∈ news ∧ (c.g, listOf (List.toArray []) g1) ∈ news
section
variable {w : World} {p : Program} {loose : List Str} {mean : ExcName → Option Value} {mg mb : Str → Option Value}
  {dp un : Nat} {gd : Option (List Code)} {cn : Str} {cs : Scope} {a : Addr} {ccd : Value} {cl : List (Str × Addr)} {outer : List Env} {A₀ : Around} {base h₀ : Heap} {L : Addr} {m : Str → Option Value} {s : Shared} {Q E : Value → Shared → Prop} {news : List (Addr × Obj)}
variable {c : Ads} {oW oD : Obj} {M : Int → Int} {rest im : Ledger} {D : Addr} {ds : Own}
theorem rulesQ10 : True := by
  k_with_none
  k_with "H0" => first | with_reducible assumption | exact (fun _ hZ => hZ) | (refine AllG.at ?_ _; with_reducible assumption) | (refine sub_cons ?_; first | with_reducible assumption | exact (fun _ hZ => hZ) | (refine AllG.at ?_ _; with_reducible assumption) | (refine sub_cons ?_; first | with_reducible assumption | exact (fun _ hZ => hZ) | (refine AllG.at ?_ _; with_reducible assumption) | (refine sub_cons ?_; first | with_reducible assumption | exact (fun _ hZ => hZ) | (refine AllG.at ?_ _; with_reducible assumption) | (refine sub_cons ?_; first | with_reducible assumption | exact (fun _ hZ => hZ) | (refine AllG.at ?_ _; with_reducible assumption) | (refine sub_cons ?_; first | with_reducible assumption | exact (fun _ hZ => hZ) | (refine AllG.at ?_ _; with_reducible assumption))))))
  k_with "H1" => (intro xZ hxZ; repeat (first | with_reducible assumption | (with_reducible apply_assumption; with_reducible assumption) | (with_reducible refine List.mem_append_right _ ?_) | (with_reducible refine List.mem_cons_of_mem _ ?_)))
  k_with "H10" => first | with_reducible assumption | assumption | omega
  k_with "H13" => first | with_reducible assumption | exact rfl
  k_with "H2" => (refine room_un (by assumption) ?_; simp (config := {zetaDelta := true}) only [units_deeper, units_in1]; (first | exact unle2 (Nat.le_of_ble_eq_true rfl) | exact unle1 (Nat.le_of_ble_eq_true rfl) | omega))
  k_with "H5" => repeat' (first | with_reducible assumption | exact (fun _ hZ => hZ) | refine sub_cons ?_ | refine sub_app ?_)
  k_with "H7" => first | omega | (rw [sh4]; omega) | (rw [sh10]; omega) | (rw [or_4 (by omega) (by omega)]; omega)
  k_with "H8" => first | exact binds_K (by k_in) rfl (by k_is) rfl rfl rfl | exact BindsTo.of_eq rfl
  k_with "HA" => (case k1 => k_asm); (case k2 => k_asm); (case k3 => k_asm); (case k4 => k_asm); (case k5 => k_asm); (case k6 => first | with_reducible assumption | exact rfl); (case k7 => k_room)
  k_with "HB" => (case k1 => k_asm); (case k2 => k_asm); (case k3 => k_asm); (case k4 => k_asm); (case k5 => k_asm)
  k_with "HE" => (try dsimp only at N'Z); (try k_lt ltsZ); (try k_sweep)
  k_with "K_MEM" => first | with_reducible assumption | ktr_member | exact List.Mem.head _ | (refine List.mem_cons_of_mem _ ?_; k_mem) | (refine List.mem_append_right _ ?_; k_mem) | (refine List.mem_append_left _ ?_; with_reducible assumption)
  k_with "K_IN" => first | k_in_fast | with_reducible assumption | exact Frag.In.keeps (by with_reducible assumption) (Fr.keep (by with_reducible assumption))
  k_with "K_ROOM" => ((try simp (config := {zetaDelta := true}) only [depth_under_make, depth_under_kw, depth_in1, depth_deeper, depth_caller]); (try dsimp only [ktrTop]); (first | (refine' room0 ?rh; (case rh => assumption)) | (refine' room1 ?rh ?rk; (case rh => assumption); (case rk => exact Nat.le_of_ble_eq_true rfl)) | (refine' room2 ?rh ?rk; (case rh => assumption); (case rk => exact Nat.le_of_ble_eq_true rfl)) | (refine' room3 ?rh ?rk; (case rh => assumption); (case rk => exact Nat.le_of_ble_eq_true rfl)) | (refine' room4 ?rh ?rk; (case rh => assumption); (case rk => exact Nat.le_of_ble_eq_true rfl)) | omega))
  k_with "testChain" => first | refine test_link ?_ | refine test_last ?_
  k_with "K_ALL" => first | with_reducible assumption | (refine lt_ne ?_; with_reducible assumption)
  k_with "call ref" => (k_here; refine wpAny_call ?_; k_dflt (refine' code_defL ?k1 ?k2 ?k3 ?k4 ?k5 ?kA ?kF ?kK ?k6 ?k7 ?k8 ?k9 ?kB ?_ ?c2 ?c3 ?c4 ?c5; (case kA => exact rfl); (case kF => exact rfl); (case kK => first | assumption | exact rfl); k_extra "HB"; (case k6 => k_is); (case k7 => k_is); (case k8 => k_room); (case k9 => k_extra "H8"); (case c5 => decide); (case kB => exact locs rfl); (case c2 => exact rfl); (case c3 => exact rfl); (case c4 => exact rfl); k_whole; intro g'Z L'Z h'Z kEZ kAZ kMZ kQZ kXZ FG'Z F'Z N'Z B'Z X'Z T'Z; (try dsimp only); (try k_lift B'Z)))
  k_with "LeaveK" => (k_dflt (refine' leaveK_ ?k1 ?k2 ?_; (case k1 => k_asm); (case k2 => k_asm); k_whole); intro kFZ kNZ; (try (have kXZ := kFor kFZ (by k_asm))); (try dsimp only [PySem.W.InitBack, PySem.W.CmpBack, PySem.W.LenBack, PySem.W.StrBack, PySem.W.BoolBack]); (try refine ⟨rfl, ?_⟩); (try dsimp only [PySem.W.CmpBack, PySem.W.LenBack, PySem.W.StrBack, PySem.W.BoolBack]); (try (refine ⟨⟨by omega, by omega⟩, ?_⟩)); (try (refine handed_on rfl ?_; try dsimp only)))
  k_with "storeName" => (k_here; k_dflt ((refine' storeL ?F ?N ?_ ?a ?b; (case F => k_asm); (case N => k_asm); (case a => rfl); (case b => rfl); k_whole; intro h'Z kMZ F'Z N'Z; (try k_sweep))))
  k_with "eval Attribute Name" => (k_here; k_dflt (refine' selfAttr ?kF ?ka ?kb ?kv ?k2 ?k3 ?k4 ?k5 ?k6 ?k7 ?k8 ?k9 ?_ ?kd; (case kF => k_asm); (case ka => rfl); (case kb => rfl); (case kv => rfl); (case k2 => k_asm); (case k3 => k_inst); (case k4 => k_is); (case k5 => k_is); (case k6 => k_is); (case k7 => k_is); (case k8 => k_get); (case k9 => k_handed); (case kd => decide); k_whole))
  k_with "spliced" => (k_here; (with_reducible show wpAny _ _ (spliced (backTo _ (starEach [Expr.Name _ _] _))) _ _ _); k_dflt (refine' argN1 ?kF ?ka ?kb ?kv ?_ ?kd; (case kF => k_asm); (case ka => rfl); (case kb => rfl); (case kv => rfl); (case kd => decide); k_whole))
  k_with "spliced" => (k_here; (with_reducible show wpAny _ _ (spliced (backTo _ (starEach (Expr.Name _ _ :: _ :: _) _))) _ _ _); k_dflt (refine' argN ?kF ?ka ?kb ?kv ?_ ?kd; (case kF => k_asm); (case ka => rfl); (case kb => rfl); (case kv => rfl); (case kd => decide); k_whole))
  k_with "K_UPDF" => first | with_reducible assumption | (refine' updF_cons ?kua ?kub; (case kua => assumption); (case kub => k_updF)) | (refine' updF_allLt ?kua ?kub; (case kua => assumption); (case kub => k_updF)) | (refine' updF_ne ?kua ?kub; (case kua => assumption); (case kub => k_updF)) | (refine' updF_app ?kua ?kub; (case kua => assumption); (case kub => k_updF)) | (refine' updF_old ?kua ?kuc ?kub; (case kua => assumption); (case kuc => k_mem); (case kub => k_updF)) | (refine' updF_im ?kua ?kuc ?kub; (case kuc => assumption); (case kua => assumption); (case kub => k_updF))
  k_with "getMethod ref" => (k_here; (with_reducible show wpAny _ _ (getMethod (Value.ref _) (Str.ofString "get") _) _ _ _); k_dflt (refine' wd_method ?k1 ?k2 ?k3 ?_; (case k1 => k_asm); (case k2 => k_mem); (case k3 => assumption)))
  k_with "getMethod ref" => (k_here; (with_reducible show wpAny _ _ (getMethod (Value.ref _) (Str.ofString "pop") _) _ _ _); k_dflt (refine' wd_methodP ?k1 ?k2 ?k3 ?_; (case k1 => k_asm); (case k2 => k_mem); (case k3 => assumption)))
  k_with "call builtin:dict.get" => (k_here; k_dflt (refine' wd_get ?k1 ?k2 ?k3 ?k4 ?_; (case k1 => k_asm); (case k2 => k_mem); (case k3 => assumption); (case k4 => assumption)); intro t'Z)
  k_with "call builtin:dict.pop" => (k_here; k_dflt (refine' wd_pop ?k1 ?k2 ?k3 ?k4 ?k5 ?_; (case k1 => k_asm); (case k2 => k_asm); (case k3 => assumption); (case k4 => assumption); (case k5 => assumption)); intro h'Z o'Z x'Z F'Z N'Z hw'Z)
  k_with "setItem ref int" => (k_here; k_dflt (refine' wd_set ?k1 ?k2 ?k3 ?k4 ?k5 ?_; (case k1 => k_asm); (case k2 => k_asm); (case k3 => assumption); (case k4 => assumption); (case k5 => assumption)); intro h'Z o'Z F'Z N'Z hw'Z)
  k_with "binaryOp LShift int int" => (k_here; (refine' lshift_int_small ?k1 ?k2 ?k3 ?_; (case k1 => decide); (case k2 => decide); (case k3 => k_extra "H7")))
  k_with "call ref" => (k_here; (with_reducible show wpAny _ _ (call (Value.ref 480) _) _ _ _); k_dflt (refine' word_spec ?k1 ?k2 ?k3 ?k4 ?k5 ?k6 ?k7 ?k8 ?k9 ?k10 ?k11 ?k12 ?k13 ?k14 ?k15 ?_; k_extra "HA"; (case k8 => assumption); (case k9 => k_extra "H1"); (case k10 => k_mem); (case k11 => assumption); (case k12 => k_extra "H10"); (case k13 => k_extra "H10"); (case k14 => k_extra "H10"); (case k15 => k_extra "H13")); intro t'Z h'Z tk'Z F'Z N'Z; (try dsimp only at N'Z); (try k_lt lts); (try k_sweep))
  k_with "call ref" => (k_here; (with_reducible show wpAny _ _ (call (Value.ref 487) _) _ _ _); k_dflt (refine' put_spec ?k1 ?k2 ?k3 ?k4 ?k5 ?k6 ?k7 ?k8 ?k9 ?k10 ?k11 ?k12 ?k13 ?k14 ?k15 ?_; k_extra "HA"; (case k8 => assumption); (case k9 => k_extra "H1"); (case k10 => k_updF); (case k11 => assumption); (case k12 => k_extra "H10"); (case k13 => k_extra "H10"); (case k14 => k_extra "H10"); (case k15 => k_extra "H10")); intro o'Z h'Z tk'Z F'Z N'Z hw'Z; (try dsimp only at N'Z); (try k_lt lts); (try k_sweep))
  k_with "call ref" => (k_here; (with_reducible show wpAny _ _ (call (Value.ref 129) _) _ _ _); k_dflt (refine' parts_spec ?k1 ?k2 ?k3 ?k4 ?k5 ?k6 ?k7 ?k8 ?k9 ?k10 ?k11 ?_; k_extra "HA"; (case k8 => assumption); (case k9 => k_extra "H1"); (case k10 => k_extra "H10"); (case k11 => k_extra "H10")); intro D'Z t1Z t2Z t3Z h'Z tk'Z F'Z ltsZ N'Z; k_extra "HE")
  k_with "call ref" => (k_here; (with_reducible show wpAny _ _ (call (Value.ref 137) _) _ _ _); k_dflt (refine' address_spec ?k1 ?k2 ?k3 ?k4 ?k5 ?k6 ?k7 ?k8 ?k9 ?k10 ?k11 ?_; k_extra "HA"; (case k8 => assumption); (case k9 => k_extra "H1"); (case k10 => k_extra "H10"); (case k11 => k_extra "H10")); intro t'Z h'Z tk'Z F'Z N'Z; (try dsimp only at N'Z); (try k_lt lts); (try k_sweep))
  k_with "call ref" => (k_here; (with_reducible show wpAny _ _ (call (Value.ref 144) _) _ _ _); k_dflt (refine' down_spec ?k1 ?k2 ?k3 ?k4 ?k5 ?k6 ?k7 ?k8 ?k9 ?k10 ?_; k_extra "HA"; (case k8 => assumption); (case k9 => k_extra "H1"); (case k10 => k_extra "H10")); intro t'Z h'Z tk'Z F'Z N'Z; (try dsimp only at N'Z); (try k_lt lts); (try k_sweep))
  k_with "call ref" => (k_here; (with_reducible show wpAny _ _ (call (Value.ref 158) _) _ _ _); k_dflt (refine' begin_spec ?k1 ?k2 ?k3 ?k4 ?k5 ?k6 ?k7 ?k8 ?k9 ?k10 ?_; k_extra "HA"; (case k8 => assumption); (case k9 => k_extra "H1"); (case k10 => k_extra "H10")); intro h'Z tk'Z F'Z N'Z; (try dsimp only at N'Z); (try k_lt lts); (try k_sweep))
  k_with "call ref" => (k_here; (with_reducible show wpAny _ _ (call (Value.ref 172) _) _ _ _); k_dflt (refine' entry_spec ?k1 ?k2 ?k3 ?k4 ?k5 ?k6 ?k7 ?k8 ?k9 ?k10 ?k11 ?k12 ?k13 ?_; k_extra "HA"; (case k8 => assumption); (case k9 => k_extra "H1"); (case k10 => k_extra "H10"); (case k11 => k_extra "H10"); (case k12 => k_extra "H10"); (case k13 => k_extra "H10")); intro t'Z h'Z tk'Z F'Z N'Z; (try dsimp only at N'Z); (try k_lt lts); (try k_sweep))
  k_with "call ref" => (k_here; (with_reducible show wpAny _ _ (call (Value.ref 179) _) _ _ _); k_dflt (refine' physical_spec ?k1 ?k2 ?k3 ?k4 ?k5 ?k6 ?k7 ?k8 ?k9 ?k10 ?k11 ?_; k_extra "HA"; (case k8 => assumption); (case k9 => k_extra "H1"); (case k10 => k_extra "H10"); (case k11 => k_extra "H13")); intro t'Z h'Z tk'Z F'Z N'Z; (try dsimp only at N'Z); (try k_lt lts); (try k_sweep))
  k_with "compareOp In ref ref" => (k_here; k_dflt (refine' ow_in ?k1 ?k2 ?k3 ?k4 ?k5 ?k6 ?k7 ?_; (case k2 => k_asm); (case k3 => k_mem); (case k4 => assumption); (case k6 => assumption); (case k5 => k_extra "H0"); (case k7 => k_mem); (case k1 => k_extra "H2")))
  k_with "compareOp In ref ref" => (k_here; k_dflt (refine' ow_in_eq ?k0 ?k1 ?k2 ?k3 ?k4 ?k5 ?k6 ?k7 ?_; (case k2 => k_asm); (case k6 => assumption); (case k7 => k_mem); (case k0 => assumption); (case k3 => k_mem); (case k4 => assumption); (case k5 => k_extra "H0"); (case k1 => k_extra "H2")))
  k_with "subscriptTail" => (k_here; (with_reducible show wpAny _ _ (subscriptTail _ _ (Value.ref _) (Value.ref _)) _ _ _); k_dflt (with_unfolding_all refine' ow_item ?k1 ?k2 ?k3 ?k4 ?k5 ?k6 ?k7 ?_ ?k8 ?k9; (case k2 => k_asm); (case k3 => k_mem); (case k5 => assumption); (case k4 => k_extra "H0"); (case k6 => k_mem); (case k7 => assumption); (case k1 => k_extra "H2"); (case k8 => with_unfolding_all rfl); (case k9 => (intro _; with_unfolding_all rfl))); intro b'Z tp'Z tf'Z n'Z hb'Z hne'Z N'Z)
  k_with "getMethod ref" => (k_here; (with_reducible show wpAny _ _ (getMethod (Value.ref _) (Str.ofString "get") _) _ _ _); k_dflt (refine' ow_method PySem.F.slot_dict_get PySem.F.type_dict_get ?k1 ?k2 ?k3 ?k4 ?_; (case k1 => k_asm); (case k2 => k_mem); (case k4 => assumption); (case k3 => k_extra "H0")))
  k_with "getMethod ref" => (k_here; (with_reducible show wpAny _ _ (getMethod (Value.ref _) (Str.ofString "pop") _) _ _ _); k_dflt (refine' ow_method PySem.F.slot_dict_pop PySem.F.type_dict_pop ?k1 ?k2 ?k3 ?k4 ?_; (case k1 => k_asm); (case k2 => k_mem); (case k4 => assumption); (case k3 => k_extra "H0")))
  k_with "call builtin:dict.get" => (k_here; k_dflt (refine' ow_get2 ?k1 ?k2 ?k3 ?k4 ?k5 ?k6 ?k7 (fun hl'Z => ?_) (fun p'Z fl'Z b'Z tp'Z tf'Z n'Z hl'Z hb'Z hne'Z N'Z => ?_); (case k2 => k_asm); (case k3 => k_mem); (case k4 => assumption); (case k6 => assumption); (case k5 => k_extra "H0"); (case k7 => k_mem); (case k1 => k_extra "H2")))
  k_with "call builtin:dict.get" => (k_here; k_dflt (refine' ow_getN ?k0 ?k1 ?k2 ?k3 ?k4 ?k5 ?k6 ?k7 ?_; (case k2 => k_asm); (case k6 => assumption); (case k7 => k_mem); (case k0 => assumption); (case k3 => k_mem); (case k4 => assumption); (case k5 => k_extra "H0"); (case k1 => k_extra "H2")))
  k_with "call builtin:dict.get" => (k_here; k_dflt (refine' ow_getS ?k0 ?k1 ?k2 ?k3 ?k4 ?k5 ?k6 ?k7 ?_; (case k2 => k_asm); (case k6 => assumption); (case k7 => k_mem); (case k0 => assumption); (case k3 => k_mem); (case k4 => assumption); (case k5 => k_extra "H0"); (case k1 => k_extra "H2")); intro b'Z tp'Z tf'Z n'Z hb'Z hne'Z N'Z)
  k_with "setItem ref ref" => (k_here; k_dflt (refine' ow_set ?k1 ?k2 ?k3 ?k4 ?k5 ?k6 ?k7 ?k8 ?k9 ?_; (case k2 => k_asm); (case k3 => k_asm); (case k4 => k_updF); (case k6 => assumption); (case k5 => k_extra "H0"); (case k7 => k_mem); (case k8 => k_mem); (case k9 => assumption); (case k1 => k_extra "H2")); intro h'Z o'Z F'Z N'Z hw'Z; (try dsimp only at N'Z))
  k_with "call builtin:dict.pop" => (k_here; k_dflt (refine' ow_pop ?k1 ?k2 ?k3 ?k4 ?k5 ?k6 ?k7 ?k8 ?k9 ?_; (case k2 => k_asm); (case k3 => k_asm); (case k4 => k_updF); (case k6 => assumption); (case k5 => k_extra "H0"); (case k7 => k_mem); (case k8 => assumption); (case k9 => assumption); (case k1 => k_extra "H2")); intro x'Z h'Z o'Z F'Z N'Z hw'Z; (try dsimp only at N'Z))
  k_with "eval Subscript" => (k_here; (with_reducible show wpAny _ _ (eval (Expr.Subscript (Expr.Name (Str.ofString "goals") _) _ _) _) _ _ _); refine PyProof.Rows.Subscript_ ?_)
  k_with "subscriptTail" => (k_here; (with_reducible show wpAny _ _ (subscriptTail _ _ (Value.ref _) (Value.int _ _)) _ _ _); k_dflt (with_unfolding_all refine' goal_item ?k1 ?k2 ?k3 ?_ ?k4; (case k1 => k_asm); (case k2 => k_mem); (case k3 => assumption); (case k4 => with_unfolding_all rfl)); intro t'Z)
  k_with "call ref" => (k_here; (with_reducible show wpAny _ _ (call (Value.ref 384) _) _ _ _); k_dflt (refine' rows_spec ?k1 ?k2 ?k3 ?k4 ?k5 ?k6 ?k7 ?k8 ?k9 ?k10 ?k11 ?k12 ?k13 ?k14 ?_; k_extra "HA"; (case k8 => assumption); (case k9 => k_extra "H5"); (case k10 => k_mem); (case k11 => assumption); (case k12 => assumption); (case k13 => assumption); (case k14 => assumption)); intro F1Z vs1Z nn1Z tl1Z h'Z tk'Z F'Z N'Z lts1Z ne1Z fr1Z hD1Z; (try dsimp only at N'Z); (try k_lt lts); (try k_sweep))
  k_with "call ref" => (k_here; (with_reducible show wpAny _ _ (call (Value.ref 880) _) _ _ _); k_dflt (refine' lawrows_spec ?k1 ?k2 ?k3 ?k4 ?k5 ?k6 ?k7 ?k8 ?k9 ?k10 ?k11 ?k12 ?k13 ?k14 ?k15 ?k16 ?_; (case k11 => assumption); k_extra "HA"; (case k8 => first | assumption | ((try simp (config := {zetaDelta := true}) only [units_deeper, units_in1]); (try dsimp only [ktrTop]); (first | (refine' room0 ?rh; (case rh => assumption)) | (refine' room1 ?rh ?rk; (case rh => assumption); (case rk => exact Nat.le_of_ble_eq_true rfl)) | (refine' room2 ?rh ?rk; (case rh => assumption); (case rk => exact Nat.le_of_ble_eq_true rfl)) | (refine' room3 ?rh ?rk; (case rh => assumption); (case rk => exact Nat.le_of_ble_eq_true rfl)) | omega))); (case k9 => k_extra "H5"); (case k10 => k_mem); (case k12 => assumption); (case k13 => first | assumption | omega); (case k14 => k_mem); (case k15 => assumption); (case k16 => assumption)); intro F2Z vs2Z nn2Z tl2Z ds2Z h'Z tk'Z F'Z N'Z lts2Z fr2Z hD2Z pm2Z pw2Z; (try dsimp only at N'Z); (try k_lt lts); (try k_sweep))
  k_with "call ref" => (k_here; (with_reducible show wpAny _ _ (call (Value.ref 313) _) _ _ _); k_dflt (refine' tentry_spec ?k1 ?k2 ?k3 ?k4 ?k5 ?k6 ?k7 ?k8 ?k9 ?k10 ?k11 ?k12 ?k13 ?k14 ?k15 ?k16 ?k17 ?k18 ?_; k_extra "HA"; (case k8 => assumption); (case k9 => k_extra "H5"); (case k10 => k_mem); (case k11 => assumption); (case k12 => assumption); (case k13 => k_extra "H10"); (case k14 => k_extra "H10"); (case k15 => assumption); (case k16 => assumption); (case k17 => assumption); (case k18 => assumption)); intro t'Z h'Z tk'Z F'Z N'Z; (try dsimp only at N'Z); (try k_lt lts); (try k_sweep))
  k_with "call ref" => (k_here; (with_reducible show wpAny _ _ (call (Value.ref 320) _) _ _ _); k_dflt (refine' tphys_none ?k1 ?k2 ?k3 ?k4 ?k5 ?k6 ?k7 ?k8 ?k9 ?k10 ?k11 ?k12 ?k13 ?k14 ?k15 ?k16 ?k17 ?k18 ?k19 ?k20 ?_; k_extra "HA"; (case k8 => assumption); (case k9 => k_extra "H5"); (case k10 => k_mem); (case k11 => assumption); (case k12 => assumption); (case k13 => k_extra "H10"); (case k14 => k_extra "H10"); (case k15 => assumption); (case k16 => assumption); (case k17 => assumption); (case k18 => assumption); (case k19 => assumption); (case k20 => assumption)); intro h'Z tk'Z F'Z N'Z; (try dsimp only at N'Z); (try k_lt lts); (try k_sweep))
  k_with "call ref" => (k_here; (with_reducible show wpAny _ _ (call (Value.ref 320) _) _ _ _); k_dflt (refine' tphys_some ?k1 ?k2 ?k3 ?k4 ?k5 ?k6 ?k7 ?k8 ?k9 ?k10 ?k11 ?k12 ?k13 ?k14 ?k15 ?k16 ?k17 ?k18 ?k19 ?k20 ?_; k_extra "HA"; (case k8 => assumption); (case k9 => k_extra "H5"); (case k10 => k_mem); (case k11 => assumption); (case k12 => assumption); (case k13 => k_extra "H10"); (case k14 => k_extra "H10"); (case k15 => assumption); (case k16 => assumption); (case k17 => assumption); (case k18 => assumption); (case k19 => assumption); (case k20 => assumption)); intro t'Z h'Z tk'Z F'Z N'Z; (try dsimp only at N'Z); (try k_lt lts); (try k_sweep))
  k_with "compareOp NotEq ref ref" => (k_here; k_dflt (refine' ne_rows ?k1 ?k2 ?k3 ?k4 ?k5 ?k6 ?_; (case k1 => k_asm); (case k2 => assumption); (case k3 => assumption); (case k4 => (apply sorted_uniq_of; assumption; assumption; assumption; assumption)); (case k5 => exact tabD_row); (case k6 => (simp (config := {zetaDelta := true}) only [units_deeper, units_in1]; (try dsimp only [ktrTop]); (first | exact unle2 (Nat.le_of_ble_eq_true rfl) | exact unle1 (Nat.le_of_ble_eq_true rfl) | omega)))); intro N'Z)
  k_with "subscriptTail Subscript Name Name Subscript ref int" => (k_here; (with_reducible show wpAny _ _ (subscriptTail _ _ (Value.ref _) (Value.int _ _)) _ _ _); k_dflt (with_unfolding_all refine' goal_item ?k1 ?k2 ?k3 ?_ ?k4; (case k1 => k_asm); (case k2 => k_mem); (case k3 => assumption); (case k4 => with_unfolding_all rfl)); intro t'Z)
  k_with "subscriptTail Name Name ref int" => (k_here; (with_reducible show wpAny _ _ (subscriptTail _ _ (Value.ref _) (Value.int _ _)) _ _ _); k_dflt (with_unfolding_all refine' pick_item ?k1 ?k2 ?k3 ?k5 ?_ ?k4; (case k1 => k_asm); (case k2 => k_mem); (case k3 => first | assumption | decide); (case k5 => first | assumption | exact rfl); (case k4 => with_unfolding_all rfl)))
  k_with "subscriptTail Name Constant ref int" => (k_here; (with_reducible show wpAny _ _ (subscriptTail (Expr.Name _ _) _ (Value.ref _) (Value.int _ _)) _ _ _); k_dflt (with_unfolding_all refine' tup_item ?k1 ?k2 ?k3 ?k6 ?k7 ?k5 ?_ ?k4 ?k8; (case k1 => k_asm); (case k2 => k_mem); (case k3 => rfl); (case k6 => decide); (case k7 => decide); (case k5 => rfl); (case k4 => with_unfolding_all rfl); (case k8 => (intro _; with_unfolding_all rfl))))
  k_with "UnrEnd" => (refine' unrEnd_sub ?k1 ?k2 ?k3 ?k4 ?_; (case k1 => assumption); (case k3 => assumption); (case k2 => assumption); (case k4 => repeat' (first | exact (fun _ hZ => hZ) | refine sub_cons ?_)))
  trivial
theorem alike_none {RT GT G0 G1 ka : Addr} {f u g0 g1 q : Int} {r0 r1 y0 y1 y2 y3 z0 z1 : Tok} {n0 n1 n2 n3 n4 : Nat}
  (B : Below A₀ base outer h₀) (F : Fr h₀ L s.heap m) (X : (KF w.params).In h₀) (N : News h₀ L s.heap news) (T : Top p loose mean mg mb h₀) (hk : cs.kind = .function) (hd : dp + 24 < recursionLimit) (hun : un + 400 < cLine)
  (S : Std c rest) (hs : ∀ x ∈ rest, x ∈ news) (hwm : (c.w, oW) ∈ news) (hw : Wd w oW M)
  (hi : ∀ x ∈ im, x ∈ news) (hDm : (D, oD) ∈ news) (W : Ow w im oD ds) (lo : (D == sysModules) = false) (hz : ds.length ≤ 60)
  (hRT : (RT, listOf (List.toArray [.int 896 r0, .int 912 r1]) n0) ∈ news) (hGT : (GT, listOf (List.toArray [.ref G0, .ref G1]) n1) ∈ news)
  (hG0 : (G0, listOf (List.toArray [.int 0 y0, .int 1 y1]) n2) ∈ news) (hG1 : (G1, listOf (List.toArray [.int g0 y2, .int g1 y3]) n3) ∈ news)
  (hka : (ka, tupO [.int f z0, .int u z1] n4) ∈ news) (hP : PoolIn c 4 news)
  (S0 : SideOk M ds 896 0 1) (S1 : SideOk M ds 912 g0 g1) (LM : LeafOk M) (h01 : ∀ d ∈ ds, d.1.1 = 0 ∨ d.1.1 = 1)
  (hf : f = 0 ∨ f = 1) (hu : 0 ≤ u ∧ u < 4) (hq : q = 58 ∨ q = 59) (hq2 : q = 58 + f)
  (hl : look ds (f, u) = none) (hM : M (4 * q + u) = 0)
  (hret : ∀ tk' h', Fr h₀ L h' m → News h₀ L h' news → Q (.bool true) { s with heap := h', toks := tk' }) :
  wpAny (model pw w) (ktrTop dp un gd cn cs L a ccd cl outer) (call (.ref 887) [.ref c.t, .ref RT, .ref GT, .ref D, .ref ka, .ref c.p]) Q E s := by
  have lo := S.low
  have hm1 := MemIn.a (S.mem) hs
  have hm2 := MemIn.b (S.mem) hs
  have hl1 := LayIn.a (S.lay) hs
  have hl2 := LayIn.b (S.lay) hs
  have ht1 := TabIn.a (S.tab) hs
  have ht2 := TabIn.b (S.tab) hs
  have k0 := S0.keys
  have k1 := S1.keys
  have se0 := S0.ents
  have se1 := S1.ents
  have sp0 := S0.perm
  have sp1 := S1.perm
  have ss0 := S0.sorted
  have ss1 := S1.sorted
  have sr0 := S0.root
  have sr1 := S1.root
  have b0 := S1.b0
  have b1 := S1.b1
  obtain ⟨pu4, pg1, hp1, hp2, hp3⟩ := hP
  have E0 : M (896 / 4 + (if f = 0 then 0 else 1)) = 1024 * q + 1 := by
    rcases hf with rfl | rfl
    · rw [hq2]; exact S0.ent0
    · rw [hq2]; exact S0.ent1
  have E1 : M (912 / 4 + (if f = 0 then g0 else g1)) = 1024 * q + 1 := by
    rcases hf with rfl | rfl
    · rw [hq2]; exact S1.ent0
    · rw [hq2]; exact S1.ent1
  have bA : 0 ≤ (if f = 0 then (0 : Int) else 1) ∧ (if f = 0 then (0 : Int) else 1) < 4 := by split <;> decide
  have bB : 0 ≤ (if f = 0 then g0 else g1) ∧ (if f = 0 then g0 else g1) < 4 := by
    split
    · exact b0
    · exact b1
  have xa := adr_ bA hu
  have xa1 := xa.1
  have xa2 := xa.2
  have xb := adr_ bB hu
  have xb1 := xb.1
  have xb2 := xb.2
  have d64 : ∀ x : Int, (64 * x + 16 * u + 5) / 64 = x := fun x => adr64 hu
  have d16 : ∀ x : Int, (64 * x + 16 * u + 5) / 16 % 4 = u := fun x => adr16 hu
  have Ea0 : M (896 / 4 + (64 * (if f = 0 then 0 else 1) + 16 * u + 5) / 64) = 1024 * q + 1 := by rw [d64]; exact E0
  have Ea1 : M (912 / 4 + (64 * (if f = 0 then g0 else g1) + 16 * u + 5) / 64) = 1024 * q + 1 := by rw [d64]; exact E1
  have Va0 : M (4 * q + (64 * (if f = 0 then 0 else 1) + 16 * u + 5) / 16 % 4) = 0 := by rw [d16]; exact hM
  have Va1 : M (4 * q + (64 * (if f = 0 then g0 else g1) + 16 * u + 5) / 16 % 4) = 0 := by rw [d16]; exact hM
  have vz : (0 : Int) = 0 ∨ Builtin.bitAnd 0 1 = 1 := .inl rfl
  have vb : (0 : Int) ≤ 0 ∧ (0 : Int) < 1099511627776 := by decide
  have vz2 : (0 : Int) = 0 := rfl
  clear S0 S1 d64 d16
  k_steps
  all_goals exact hret _ _ (by assumption) (by assumption)
end
end Mine

namespace Mine
section
variable {w : World} {p : Program} {loose : List Str} {mean : ExcName → Option Value} {mg mb : Str → Option Value}
  {dp un : Nat} {gd : Option (List Code)} {cn : Str} {cs : Scope} {a : Addr} {ccd : Value} {cl : List (Str × Addr)} {outer : List Env} {A₀ : Around} {base h₀ : Heap} {L : Addr} {m : Str → Option Value} {s : Shared} {Q E : Value → Shared → Prop} {news : List (Addr × Obj)}
variable {c : Ads} {oW oD : Obj} {M : Int → Int} {rest im : Ledger} {D : Addr} {ds : Own}
theorem alike_some {RT GT G0 G1 ka : Addr} {f u g0 g1 q pg fl : Int} {r0 r1 y0 y1 y2 y3 z0 z1 : Tok} {n0 n1 n2 n3 n4 : Nat}
  (B : Below A₀ base outer h₀) (F : Fr h₀ L s.heap m) (X : (KF w.params).In h₀) (N : News h₀ L s.heap news) (T : Top p loose mean mg mb h₀) (hk : cs.kind = .function) (hd : dp + 24 < recursionLimit) (hun : un + 400 < cLine)
  (S : Std c rest) (hs : ∀ x ∈ rest, x ∈ news) (hwm : (c.w, oW) ∈ news) (hw : Wd w oW M)
  (hi : ∀ x ∈ im, x ∈ news) (hDm : (D, oD) ∈ news) (W : Ow w im oD ds) (lo : (D == sysModules) = false) (hz : ds.length ≤ 60)
  (hRT : (RT, listOf (List.toArray [.int 896 r0, .int 912 r1]) n0) ∈ news) (hGT : (GT, listOf (List.toArray [.ref G0, .ref G1]) n1) ∈ news)
  (hG0 : (G0, listOf (List.toArray [.int 0 y0, .int 1 y1]) n2) ∈ news) (hG1 : (G1, listOf (List.toArray [.int g0 y2, .int g1 y3]) n3) ∈ news)
  (hka : (ka, tupO [.int f z0, .int u z1] n4) ∈ news) (hP : PoolIn c 4 news)
  (S0 : SideOk M ds 896 0 1) (S1 : SideOk M ds 912 g0 g1) (LM : LeafOk M) (h01 : ∀ d ∈ ds, d.1.1 = 0 ∨ d.1.1 = 1)
  (hf : f = 0 ∨ f = 1) (hu : 0 ≤ u ∧ u < 4) (hq : q = 58 ∨ q = 59) (hq2 : q = 58 + f)
  (hl : look ds (f, u) = some (pg, fl)) (hM : M (4 * q + u) = pg * 64 + fl) (vz : pg * 64 + fl = 0 ∨ Builtin.bitAnd (pg * 64 + fl) 1 = 1) (vb : 0 ≤ pg * 64 + fl ∧ pg * 64 + fl < 1099511627776) (vz2 : pg * 64 + fl ≠ 0) (hpp : 16 * ((pg * 64 + fl) / 1024) = pg)
  (hret : ∀ tk' h', Fr h₀ L h' m → News h₀ L h' news → Q (.bool true) { s with heap := h', toks := tk' }) :
  wpAny (model pw w) (ktrTop dp un gd cn cs L a ccd cl outer) (call (.ref 887) [.ref c.t, .ref RT, .ref GT, .ref D, .ref ka, .ref c.p]) Q E s := by
  have lo := S.low
  have hm1 := MemIn.a (S.mem) hs
  have hm2 := MemIn.b (S.mem) hs
  have hl1 := LayIn.a (S.lay) hs
  have hl2 := LayIn.b (S.lay) hs
  have ht1 := TabIn.a (S.tab) hs
  have ht2 := TabIn.b (S.tab) hs
  have k0 := S0.keys
  have k1 := S1.keys
  have se0 := S0.ents
  have se1 := S1.ents
  have sp0 := S0.perm
  have sp1 := S1.perm
  have ss0 := S0.sorted
  have ss1 := S1.sorted
  have sr0 := S0.root
  have sr1 := S1.root
  have b0 := S1.b0
  have b1 := S1.b1
  obtain ⟨pu4, pg1, hp1, hp2, hp3⟩ := hP
  have E0 : M (896 / 4 + (if f = 0 then 0 else 1)) = 1024 * q + 1 := by
    rcases hf with rfl | rfl
    · rw [hq2]; exact S0.ent0
    · rw [hq2]; exact S0.ent1
  have E1 : M (912 / 4 + (if f = 0 then g0 else g1)) = 1024 * q + 1 := by
    rcases hf with rfl | rfl
    · rw [hq2]; exact S1.ent0
    · rw [hq2]; exact S1.ent1
  have bA : 0 ≤ (if f = 0 then (0 : Int) else 1) ∧ (if f = 0 then (0 : Int) else 1) < 4 := by split <;> decide
  have bB : 0 ≤ (if f = 0 then g0 else g1) ∧ (if f = 0 then g0 else g1) < 4 := by
    split
    · exact b0
    · exact b1
  have xa := adr_ bA hu
  have xa1 := xa.1
  have xa2 := xa.2
  have xb := adr_ bB hu
  have xb1 := xb.1
  have xb2 := xb.2
  have px := pg64 hpp vb
  have px1 := px.1
  have px2 := px.2
  have d64 : ∀ x : Int, (64 * x + 16 * u + 5) / 64 = x := fun x => adr64 hu
  have d16 : ∀ x : Int, (64 * x + 16 * u + 5) / 16 % 4 = u := fun x => adr16 hu
  have Ea0 : M (896 / 4 + (64 * (if f = 0 then 0 else 1) + 16 * u + 5) / 64) = 1024 * q + 1 := by rw [d64]; exact E0
  have Ea1 : M (912 / 4 + (64 * (if f = 0 then g0 else g1) + 16 * u + 5) / 64) = 1024 * q + 1 := by rw [d64]; exact E1
  have Va0 : M (4 * q + (64 * (if f = 0 then 0 else 1) + 16 * u + 5) / 16 % 4) = pg * 64 + fl := by rw [d16]; exact hM
  have Va1 : M (4 * q + (64 * (if f = 0 then g0 else g1) + 16 * u + 5) / 16 % 4) = pg * 64 + fl := by rw [d16]; exact hM
  have ne0 : (pg * 64 + fl != pg * 64 + fl) = false := by simp
  have ne1 : (16 * ((pg * 64 + fl) / 1024) + (64 * (if f = 0 then 0 else 1) + 16 * u + 5) % 16 != pg + 5) = false := by
    rw [hpp, show (64 * (if f = 0 then (0 : Int) else 1) + 16 * u + 5) % 16 = 5 from adr5]; simp
  have ne2 : (16 * ((pg * 64 + fl) / 1024) + (64 * (if f = 0 then g0 else g1) + 16 * u + 5) % 16 != pg + 5) = false := by
    rw [hpp, show (64 * (if f = 0 then g0 else g1) + 16 * u + 5) % 16 = 5 from adr5]; simp
  clear S0 S1 d64 d16
  k_steps
  all_goals exact hret _ _ (by assumption) (by assumption)
end
end Mine

namespace Mine
/-- what is told and what is due: the same -/
inductive OutR (l : Ledger) : Value → Value → Prop
  | none : OutR l .none .none
  | yes : OutR l (.bool true) (.bool true)
  | int {x : Int} {t t' : Tok} : OutR l (.int x t) (.int x t')
  | tup {P P' : Addr} {x y : Int} {t1 t2 t3 t4 : Tok} {n n' : Nat} : (P, tupO [.int x t1, .int y t2] n) ∈ l → (P', tupO [.int x t3, .int y t4] n') ∈ l → OutR l (.ref P) (.ref P')
section
variable {w : World} {A : Around} {E : Value → Shared → Prop} {s : Shared} {h₀ : Heap} {L : Addr} {l : Ledger} {V V' : Value} {Q : Value → Shared → Prop}
theorem out_ne (N : News h₀ L s.heap l) (O : OutR l V V') (hu : A.units + 64 < cLine) (h : Q (.bool false) s) : wpAny (model pw w) A (compareOp .NotEq V V') Q E s := by
  cases O with
  | none => exact ne_dataH Reads.none Reads.none rfl rfl hu h
  | yes => exact ne_dataH (Reads.bool true) (Reads.bool true) rfl rfl hu h
  | @int x t t' =>
    refine ne_dataH (Reads.int x t) (Reads.int x t') rfl rfl hu ?_
    have : PyData.eqv (.int x) (.int x) = true := by simp [PyData.eqv]
    rw [this]; exact h
  | @tup P P' x y t1 t2 t3 t4 n n' h1 h2 =>
    obtain ⟨as, ra⟩ := kqd_in N (d := Dat.tuple [.int x, .int y]) 8 (.tuple h1 (.cons (.int _ _) (.cons (.int _ _) .nil))) rfl
    obtain ⟨bs, rb⟩ := kqd_in N (d := Dat.tuple [.int x, .int y]) 8 (.tuple h2 (.cons (.int _ _) (.cons (.int _ _) .nil))) rfl
    have la := kqd_lay 9 (Dat.tuple [.int x, .int y]) rfl
    have sh : SeqAt.shaped (kqdP (Dat.tuple [.int x, .int y])) = true := by
      unfold SeqAt.shaped; rw [la.1, Bool.true_and]; exact decide_eq_true (Nat.le_trans la.2 (by decide))
    refine ne_dataH ra rb sh sh hu ?_
    rw [(kqd_eqv 9 (Dat.tuple [.int x, .int y]) (Dat.tuple [.int x, .int y]) 9 rfl rfl).mpr rfl]
    exact h
end
section
variable {w : World} {p : Program} {loose : List Str} {mean : ExcName → Option Value} {mg mb : Str → Option Value}
  {dp un : Nat} {gd : Option (List Code)} {cn : Str} {cs : Scope} {a : Addr} {ccd : Value} {cl : List (Str × Addr)} {outer : List Env} {A₀ : Around} {base h₀ : Heap} {L : Addr} {m : Str → Option Value} {s : Shared} {Q E : Value → Shared → Prop} {news : List (Addr × Obj)}
variable {c : Ads} {oW oD : Obj} {M : Int → Int} {rest im : Ledger} {D : Addr} {ds : Own}
theorem alike_spec {RT GT G0 G1 ka : Addr} {f u g0 g1 : Int} {r0 r1 y0 y1 y2 y3 z0 z1 : Tok} {n0 n1 n2 n3 n4 : Nat}
  (B : Below A₀ base outer h₀) (F : Fr h₀ L s.heap m) (X : (KF w.params).In h₀) (N : News h₀ L s.heap news) (T : Top p loose mean mg mb h₀) (hk : cs.kind = .function) (hd : dp + 24 < recursionLimit) (hun : un + 400 < cLine)
  (S : Std c rest) (hs : ∀ x ∈ rest, x ∈ news) (hwm : (c.w, oW) ∈ news) (hw : Wd w oW M)
  (hi : ∀ x ∈ im, x ∈ news) (hDm : (D, oD) ∈ news) (W : Ow w im oD ds) (lo : (D == sysModules) = false)
  (hRT : (RT, listOf (List.toArray [.int 896 r0, .int 912 r1]) n0) ∈ news) (hGT : (GT, listOf (List.toArray [.ref G0, .ref G1]) n1) ∈ news)
  (hG0 : (G0, listOf (List.toArray [.int 0 y0, .int 1 y1]) n2) ∈ news) (hG1 : (G1, listOf (List.toArray [.int g0 y2, .int g1 y3]) n3) ∈ news)
  (hka : (ka, tupO [.int f z0, .int u z1] n4) ∈ news) (hP : PoolIn c 4 news) (R : Rel M ds g0 g1) (hf : f = 0 ∨ f = 1) (hu : 0 ≤ u ∧ u < 4)
  (hret : ∀ tk' h', Fr h₀ L h' m → News h₀ L h' news → Q (.bool true) { s with heap := h', toks := tk' }) :
  wpAny (model pw w) (ktrTop dp un gd cn cs L a ccd cl outer) (call (.ref 887) [.ref c.t, .ref RT, .ref GT, .ref D, .ref ka, .ref c.p]) Q E s := by
  have hl := R.leaf f u hf hu.1 hu.2
  have h01 : ∀ d ∈ ds, d.1.1 = 0 ∨ d.1.1 = 1 := fun d hd => (R.keys d hd).1
  have hz : ds.length ≤ 60 := Nat.le_trans R.len (by decide)
  cases hlk : look ds (f, u) with
  | none =>
    rw [hlk] at hl
    exact alike_none (q := 58 + f) B F X N T hk hd hun S hs hwm hw hi hDm W lo hz hRT hGT hG0 hG1 hka hP R.side0 R.side1 R.leafOk h01 hf hu (by lia) rfl hlk hl hret
  | some v =>
    obtain ⟨pg, fl⟩ := v
    rw [hlk] at hl
    obtain ⟨hp, hfl⟩ := R.look_ok hlk
    obtain ⟨r1, r2, r3, r4, r5, r6, r7, r8⟩ := row_val hp hfl
    exact alike_some (q := 58 + f) B F X N T hk hd hun S hs hwm hw hi hDm W lo hz hRT hGT hG0 hG1 hka hP R.side0 R.side1 R.leafOk h01 hf hu (by lia) rfl hlk hl (.inr r4) ⟨r7, by lia⟩ r3 r1 hret
end
end Mine

namespace Mine
inductive Res
  | none
  | yes
  | int (x : Int)
inductive ResV : Res → Value → Prop
  | none : ResV .none .none
  | yes : ResV .yes (.bool true)
  | int {x : Int} {t : Tok} : ResV (.int x) (.int x t)
theorem ResV.out {r : Res} {V V' : Value} {l : Ledger} (h : ResV r V) (h' : ResV r V') : OutR l V V' := by
  cases h <;> cases h'
  · exact .none
  · exact .yes
  · exact .int
noncomputable def TupAll (l : Ledger) : Prop := ∀ p ∈ l, ∃ vs n, p.2 = tupO vs n
theorem TupAll.nil : TupAll [] := fun p h => by cases h
theorem TupAll.cons {a : Addr} {vs : List Value} {n : Nat} {l : Ledger} (h : TupAll l) : TupAll ((a, tupO vs n) :: l) := fun p hp => by
  rcases List.mem_cons.mp hp with rfl | hp
  · exact ⟨vs, n, rfl⟩
  · exact h p hp
theorem TupAll.app {l l' : Ledger} (h : TupAll l) (h' : TupAll l') : TupAll (l ++ l') := fun p hp => (List.mem_append.mp hp).elim (h p) (h' p)
/-- the deed in the plain dict: what is due, and the dict behind it -/
noncomputable def dueF (ds : Own) (way : Int) (k : Int × Int) (fr fl : Int) : Res × Own :=
  match look ds k with
  | none => if way = 0 then (.yes, put ds k (fr, fl + 1)) else (.none, ds)
  | some (pg, old) => if way = 0 then (.none, ds) else if way = 1 then (.int pg, drp ds k) else if way = 2 then (.int pg, put ds k (fr, fl + 1)) else
      if Builtin.bitAnd (turnF old fl) 6 = 4 then (.none, ds) else (.int (pg * 64 + turnF old fl), put ds k (pg, turnF old fl))
theorem gg_bound {gg f a b : Int} (h : gg = if f = 0 then a else b) (ha : 0 ≤ a ∧ a < 4) (hb : 0 ≤ b ∧ b < 4) : 0 ≤ gg ∧ gg < 4 := by
  rw [h]; split
  · exact ha
  · exact hb
theorem ad_facts {ad gg u : Int} (had : ad = 64 * gg + 16 * u) (hg : 0 ≤ gg ∧ gg < 4) (hu : 0 ≤ u ∧ u < 4) : ad / 64 = gg ∧ ad / 16 % 4 = u ∧ 0 ≤ ad ∧ ad < 256 ∧ ad % 16 = 0 := by lia
theorem q_of {f : Int} (hf : f = 0 ∨ f = 1) : 58 + f = 58 ∨ 58 + f = 59 := hf.imp (fun e => by rw [e]; rfl) fun e => by rw [e]; rfl
theorem pg_lt {fr : Int} (h0 : 0 ≤ fr) (h1 : fr < 1000) : 0 ≤ fr ∧ fr < 1048576 := ⟨h0, Int.lt_trans h1 (by decide)⟩
theorem pg_mul {pg fl : Int} (h : pg % 16 = 0) : pg * 64 + fl = 1024 * (pg / 16) + fl := by lia
theorem pg_div {pg : Int} (h0 : 0 ≤ pg) (h1 : pg < 1000) : 0 ≤ pg / 16 ∧ pg / 16 < 1000 := by lia
section
variable {w : World} {p : Program} {loose : List Str} {mean : ExcName → Option Value} {mg mb : Str → Option Value}
  {dp un : Nat} {gd : Option (List Code)} {cn : Str} {cs : Scope} {a : Addr} {ccd : Value} {cl : List (Str × Addr)} {outer : List Env} {A₀ : Around} {base h₀ : Heap} {L : Addr} {m : Str → Option Value} {s : Shared} {Q E : Value → Shared → Prop} {news : List (Addr × Obj)}
variable {D : Addr} {oD : Obj} {ds : Own} {im : Ledger} {g : Obj → Ledger}
theorem duex_spec {way f u fr fl : Int} {ka : Addr} {t t' t1 t2 t3 : Tok} {n : Nat}
  (B : Below A₀ base outer h₀) (F : Fr h₀ L s.heap m) (X : (KF w.params).In h₀) (N : News h₀ L s.heap news) (T : Top p loose mean mg mb h₀) (hk : cs.kind = .function) (hd : dp + 4 < recursionLimit) (hun : un + 60 < cLine)
  (U : UpdF D oD news g) (hi : ∀ x ∈ im, x ∈ news) (W : Ow w im oD ds) (hkm : (ka, tupO [.int f t, .int u t'] n) ∈ news) (lo : (D == sysModules) = false) (hz : ds.length ≤ 1000)
  (hway : way = 0 ∨ way = 1 ∨ way = 2 ∨ way = 3)
  (hret : ∀ V ex im2 oD' h' tk', Fr h₀ L h' m → News h₀ L h' (ex ++ g oD') → TupAll ex → (∀ x ∈ im2, x = (ka, tupO [.int f t, .int u t'] n) ∨ x ∈ ex ∨ x ∈ im) → ResV (dueF ds way (f, u) fr fl).1 V → Ow w im2 oD' (dueF ds way (f, u) fr fl).2 → Q V { s with heap := h', toks := tk' }) :
  wpAny (model pw w) (ktrTop dp un gd cn cs L a ccd cl outer) (call (.ref 859) [.ref D, .ref ka, .int way t1, .int fr t2, .int fl t3]) Q E s := by
  have gD := upd_self U
  have stay : ∀ V h' tk', Fr h₀ L h' m → News h₀ L h' news → ResV (dueF ds way (f, u) fr fl).1 V → (dueF ds way (f, u) fr fl).2 = ds → Q V { s with heap := h', toks := tk' } := fun V h' tk' F' N' hv hd' =>
    hret V [] im oD h' tk' F' (by rw [gD]; exact N') .nil (fun x hx => .inr (.inr hx)) hv (by rw [hd']; exact W)
  cases hl : look ds (f, u) with
  | none =>
    rcases hway with rfl | rfl | rfl | rfl
    · have e : dueF ds 0 (f, u) fr fl = (.yes, put ds (f, u) (fr, fl + 1)) := by unfold dueF; rw [hl]; rfl
      refine due0_spec B F X N T hk hd hun U hi W hkm lo hz (fun h' tk' q => ?_) fun V tp tf n' o' h' tk' _ F' N' W' => ?_
      · rw [hl] at q; cases q
      · refine hret _ [(V, tupO [.int fr tp, .int (fl + 1) tf] n')] _ o' h' tk' F' N' (.cons .nil) (fun x hx => ?_) (by rw [e]; exact .yes) (by rw [e]; exact W')
        rcases List.mem_cons.mp hx with h | hx
        · exact .inl h
        · rcases List.mem_cons.mp hx with h | hx
          · rw [h]; exact .inr (.inl (.head _))
          · exact .inr (.inr hx)
    · have e : dueF ds 1 (f, u) fr fl = (.none, ds) := by unfold dueF; rw [hl]; rfl
      exact due1_none B F X N T hk hd hun U hi W hkm lo hz hl fun h' tk' F' N' => stay _ h' tk' F' N' (by rw [e]; exact .none) (by rw [e])
    · have e : dueF ds 2 (f, u) fr fl = (.none, ds) := by unfold dueF; rw [hl]; rfl
      exact due2_none B F X N T hk hd hun U hi W hkm lo hz hl fun h' tk' F' N' => stay _ h' tk' F' N' (by rw [e]; exact .none) (by rw [e])
    · have e : dueF ds 3 (f, u) fr fl = (.none, ds) := by unfold dueF; rw [hl]; rfl
      exact due3_none B F X N T hk hd hun U hi W hkm lo hz hl fun h' tk' F' N' => stay _ h' tk' F' N' (by rw [e]; exact .none) (by rw [e])
  | some v =>
    obtain ⟨pg, old⟩ := v
    rcases hway with rfl | rfl | rfl | rfl
    · have e : dueF ds 0 (f, u) fr fl = (.none, ds) := by unfold dueF; rw [hl]; rfl
      refine due0_spec B F X N T hk hd hun U hi W hkm lo hz (fun h' tk' _ F' N' => stay _ h' tk' F' N' (by rw [e]; exact .none) (by rw [e])) fun V tp tf n' o' h' tk' q => ?_
      rw [hl] at q; cases q
    · have e : dueF ds 1 (f, u) fr fl = (.int pg, drp ds (f, u)) := by unfold dueF; rw [hl]; rfl
      exact due1_some B F X N T hk hd hun U hi W hkm lo hz hl fun tv o' h' tk' F' N' W' => hret _ [] im o' h' tk' F' N' .nil (fun x hx => .inr (.inr hx)) (by rw [e]; exact .int) (by rw [e]; exact W')
    · have e : dueF ds 2 (f, u) fr fl = (.int pg, put ds (f, u) (fr, fl + 1)) := by unfold dueF; rw [hl]; rfl
      refine due2_some B F X N T hk hd hun U hi W hkm lo hz hl fun tv V tp tf n' o' h' tk' F' N' W' => ?_
      refine hret _ [(V, tupO [.int fr tp, .int (fl + 1) tf] n')] _ o' h' tk' F' N' (.cons .nil) (fun x hx => ?_) (by rw [e]; exact .int) (by rw [e]; exact W')
      rcases List.mem_cons.mp hx with h | hx
      · exact .inl h
      · rcases List.mem_cons.mp hx with h | hx
        · rw [h]; exact .inr (.inl (.head _))
        · exact .inr (.inr hx)
    · have e : dueF ds 3 (f, u) fr fl = if Builtin.bitAnd (turnF old fl) 6 = 4 then (.none, ds) else (.int (pg * 64 + turnF old fl), put ds (f, u) (pg, turnF old fl)) := by unfold dueF; rw [hl]; rfl
      refine due3_some B F X N T hk hd hun U hi W hkm lo hz hl (fun h' tk' q F' N' => ?_) fun tv V tp tf n' o' h' tk' q F' N' W' => ?_
      · rw [if_pos (show Builtin.bitAnd (turnF old fl) 6 = 4 from q)] at e
        exact stay _ h' tk' F' N' (by rw [e]; exact .none) (by rw [e])
      · rw [if_neg (show ¬ Builtin.bitAnd (turnF old fl) 6 = 4 from q)] at e
        refine hret _ [(V, tupO [.int pg tp, .int (turnF old fl) tf] n')] _ o' h' tk' F' N' (.cons .nil) (fun x hx => ?_) (by rw [e]; exact .int) (by rw [e]; exact W')
        rcases List.mem_cons.mp hx with h | hx
        · exact .inl h
        · rcases List.mem_cons.mp hx with h | hx
          · rw [h]; exact .inr (.inl (.head _))
          · exact .inr (.inr hx)
end
section
variable {w : World} {p : Program} {loose : List Str} {mean : ExcName → Option Value} {mg mb : Str → Option Value}
  {dp un : Nat} {gd : Option (List Code)} {cn : Str} {cs : Scope} {a : Addr} {ccd : Value} {A₀ : Around} {base h₀ : Heap} {L : Addr} {m : Str → Option Value} {s : Shared} {Q E : Value → Shared → Prop} {news : List (Addr × Obj)}
variable {c : Ads} {oW : Obj} {M : Int → Int} {rest : Ledger} {g : Obj → Ledger} {ds : Own} {g0 g1 : Int}
theorem donex_spec {root ad gg f u fr fl n way : Int} {tr ta t1 t2 t3 : Tok}
  (B : Below A₀ base [] h₀) (F : Fr h₀ L s.heap m) (X : (KF w.params).In h₀) (N : News h₀ L s.heap news) (T : Top p loose mean mg mb h₀) (hk : cs.kind = .function) (hd : dp + 20 < recursionLimit) (XB : (KF w.params).In base) (TB : Top p loose mean mg mb base)
  (S : Std c rest) (hs : ∀ x ∈ rest, x ∈ news) (U : UpdF c.w oW news g) (hw : Wd w oW M) (R : Rel M ds g0 g1) (hf : f = 0 ∨ f = 1) (hu : 0 ≤ u ∧ u < 4)
  (hroot : (root = 896 ∧ gg = if f = 0 then 0 else 1) ∨ (root = 912 ∧ gg = if f = 0 then g0 else g1)) (had : ad = 64 * gg + 16 * u)
  (hfr : PG fr) (hfl : fl = lawFl n)
  (hway : way = 0 ∨ way = 1 ∨ way = 2 ∨ way = 3)
  (hret : ∀ V oW' M' h' tk', Fr h₀ L h' m → News h₀ L h' (g oW') → Wd w oW' M' → ResV (dueF ds way (f, u) fr fl).1 V → Rel M' (dueF ds way (f, u) fr fl).2 g0 g1 → Q V { s with heap := h', toks := tk' }) :
  wpAny (model pw w) (ktrTop dp un gd cn cs L a ccd [] []) (call (.ref 852) [.ref c.t, .int root tr, .int ad ta, .int way t1, .int fr t2, .int fl t3]) Q E s := by
  have gW := upd_self U
  have b0 := R.b0
  have b1 := R.b1
  have hgg : 0 ≤ gg ∧ gg < 4 := hroot.elim (fun h => gg_bound h.2 (by decide) (by decide)) fun h => gg_bound h.2 b0 b1
  have hr : root = 896 ∨ root = 912 := hroot.imp And.left And.left
  have hq := q_of hf
  obtain ⟨e64, e16, ha0, ha1, ha2⟩ := ad_facts had hgg hu
  have he : M (root / 4 + ad / 64) = 1024 * (58 + f) + 1 := by
    rw [e64]
    rcases hroot with ⟨e1, e2⟩ | ⟨e1, e2⟩
    · subst e1
      rcases hf with rfl | rfl
      · rw [e2]; exact R.side0.ent0
      · rw [e2]; exact R.side0.ent1
    · subst e1
      rcases hf with rfl | rfl
      · rw [e2]; exact R.side1.ent0
      · rw [e2]; exact R.side1.ent1
  have hleaf := R.leaf f u hf hu.1 hu.2
  obtain ⟨fo, fo1, fo2, fo3⟩ := flags_law n
  rw [← hfl] at fo fo1 fo2 fo3
  have hp0 := pg_lt hfr.1 hfr.2.1
  have stay : ∀ V h' tk', Fr h₀ L h' m → News h₀ L h' news → ResV (dueF ds way (f, u) fr fl).1 V → (dueF ds way (f, u) fr fl).2 = ds → Q V { s with heap := h', toks := tk' } := fun V h' tk' F' N' hv hd' =>
    hret V oW M h' tk' F' (by rw [gW]; exact N') hw hv (by rw [hd']; exact R)
  cases hl : look ds (f, u) with
  | none =>
    rw [hl] at hleaf
    have hv : M (4 * (58 + f) + ad / 16 % 4) = 0 := by rw [e16]; exact hleaf
    have vz : (0 : Int) = 0 ∨ Builtin.bitAnd 0 1 = 1 := .inl rfl
    rcases hway with rfl | rfl | rfl | rfl
    · have e : dueF ds 0 (f, u) fr fl = (.yes, put ds (f, u) (fr, fl + 1)) := by unfold dueF; rw [hl]; rfl
      refine done0_spec B F X N T hk hd XB TB S hs U hw hr ha0 ha1 hq he hv vz ha2 (by decide) hp0 hfr.2.2 fo fo1 fo2 rfl (fun o' h' tk' _ F' N' W' => ?_) fun h' tk' q => absurd rfl q
      refine hret _ o' _ h' tk' F' N' W' (by rw [e]; exact .yes) ?_
      rw [e, e16, show 64 * fr + (fl + 1) = fr * 64 + (fl + 1) by lia]
      exact R.put hf hu hfr fo3
    · have e : dueF ds 1 (f, u) fr fl = (.none, ds) := by unfold dueF; rw [hl]; rfl
      refine done1_spec B F X N T hk hd XB TB S hs U hw hr ha0 ha1 hq he hv vz ha2 (by decide) rfl (fun t o' h' tk' q => ?_) fun h' tk' _ F' N' => stay _ h' tk' F' N' (by rw [e]; exact .none) (by rw [e])
      exact absurd q (by decide)
    · have e : dueF ds 2 (f, u) fr fl = (.none, ds) := by unfold dueF; rw [hl]; rfl
      refine done2_spec B F X N T hk hd XB TB S hs U hw hr ha0 ha1 hq he hv vz ha2 (by decide) hp0 hfr.2.2 fo fo1 fo2 rfl (fun t o' h' tk' q => ?_) fun h' tk' _ F' N' => stay _ h' tk' F' N' (by rw [e]; exact .none) (by rw [e])
      exact absurd q (by decide)
    · have e : dueF ds 3 (f, u) fr fl = (.none, ds) := by unfold dueF; rw [hl]; rfl
      have hnv : 0 ≤ Builtin.bitOr (Builtin.bitOr (Builtin.bitAnd 0 (Builtin.bitNot (Builtin.bitAnd (takeOf fl) 1023))) (Builtin.bitAnd (addOf fl) 1023)) 1 ∧ Builtin.bitOr (Builtin.bitOr (Builtin.bitAnd 0 (Builtin.bitNot (Builtin.bitAnd (takeOf fl) 1023))) (Builtin.bitAnd (addOf fl) 1023)) 1 < 4294967296 := by
        obtain ⟨a1, a2, a3, a4, a5, a6⟩ := addK_r _ (idx3 fl)
        rw [addOf_eq, takeOf_eq, a5, a6]
        have := idx3 fl
        generalize (fl.fmod 3).toNat = j at *
        rcases (by lia : j = 0 ∨ j = 1 ∨ j = 2) with rfl | rfl | rfl <;> decide
      refine done3_spec B F X N T hk hd XB TB S hs U hw hr ha0 ha1 hq he hv vz ha2 (by decide) rfl rfl hnv (fun t o' h' tk' q => ?_) fun h' tk' _ F' N' => stay _ h' tk' F' N' (by rw [e]; exact .none) (by rw [e])
      exact absurd q (by decide)
  | some v =>
    obtain ⟨pg, old⟩ := v
    rw [hl] at hleaf
    obtain ⟨hpg, hold⟩ := R.look_ok hl
    obtain ⟨r1, r2, r3, r4, r5, r6, r7, r8⟩ := row_val hpg hold
    have hv : M (4 * (58 + f) + ad / 16 % 4) = pg * 64 + old := by rw [e16]; exact hleaf
    have vz : pg * 64 + old = 0 ∨ Builtin.bitAnd (pg * 64 + old) 1 = 1 := .inr r4
    have vb : 0 ≤ pg * 64 + old ∧ pg * 64 + old < 1099511627776 := ⟨r7, by lia⟩
    rcases hway with rfl | rfl | rfl | rfl
    · have e : dueF ds 0 (f, u) fr fl = (.none, ds) := by unfold dueF; rw [hl]; rfl
      exact done0_spec B F X N T hk hd XB TB S hs U hw hr ha0 ha1 hq he hv vz ha2 vb hp0 hfr.2.2 fo fo1 fo2 rfl (fun o' h' tk' q => absurd q r3) fun h' tk' _ F' N' => stay _ h' tk' F' N' (by rw [e]; exact .none) (by rw [e])
    · have e : dueF ds 1 (f, u) fr fl = (.int pg, drp ds (f, u)) := by unfold dueF; rw [hl]; rfl
      refine done1_spec B F X N T hk hd XB TB S hs U hw hr ha0 ha1 hq he hv vz ha2 vb rfl (fun t o' h' tk' _ F' N' W' => ?_) fun h' tk' q => absurd q r3
      refine hret _ o' _ h' tk' F' N' W' (by rw [e, r1]; exact .int) ?_
      rw [e, e16]
      exact R.drp hf hu
    · have e : dueF ds 2 (f, u) fr fl = (.int pg, put ds (f, u) (fr, fl + 1)) := by unfold dueF; rw [hl]; rfl
      refine done2_spec B F X N T hk hd XB TB S hs U hw hr ha0 ha1 hq he hv vz ha2 vb hp0 hfr.2.2 fo fo1 fo2 rfl (fun t o' h' tk' _ F' N' W' => ?_) fun h' tk' q => absurd q r3
      refine hret _ o' _ h' tk' F' N' W' (by rw [e, r1]; exact .int) ?_
      rw [e, e16, show 64 * fr + (fl + 1) = fr * 64 + (fl + 1) by lia]
      exact R.put hf hu hfr fo3
    · have e : dueF ds 3 (f, u) fr fl = if Builtin.bitAnd (turnF old fl) 6 = 4 then (.none, ds) else (.int (pg * 64 + turnF old fl), put ds (f, u) (pg, turnF old fl)) := by unfold dueF; rw [hl]; rfl
      have hk16 : 0 ≤ pg / 16 ∧ pg / 16 < 1000 := pg_div hpg.1 hpg.2.1
      have ev : pg * 64 + old = 1024 * (pg / 16) + old := pg_mul hpg.2.2
      obtain ⟨c1, c2, c3, c4, c5, c6⟩ := change_law (n := fl) hk16 hold
      rw [← ev] at c1
      have et : 1024 * (pg / 16) + turnF old fl = pg * 64 + turnF old fl := (pg_mul hpg.2.2).symm
      refine done3_spec B F X N T hk hd XB TB S hs U hw hr ha0 ha1 hq he hv vz ha2 vb rfl c1 (by rw [c2]; lia) (fun t o' h' tk' _ q F' N' W' => ?_) fun h' tk' q F' N' => ?_
      · have q' := c6.mp q
        rw [if_neg q'] at e
        rw [c2] at W' ⊢
        rw [et] at W' ⊢
        refine hret _ o' _ h' tk' F' N' W' (by rw [e]; exact .int) ?_
        rw [e, e16]
        exact R.put hf hu hpg (c5 q')
      · rcases q with q | q
        · exact absurd q r3
        · have q' : Builtin.bitAnd (turnF old fl) 6 = 4 := by
            by_cases z : Builtin.bitAnd (turnF old fl) 6 = 4
            · exact z
            · exact absurd (c6.mpr z) q
          rw [if_pos q'] at e
          exact stay _ h' tk' F' N' (by rw [e]; exact .none) (by rw [e])
end
end Mine

namespace Mine
open Classical in
/-- an access in the plain dict: the page and the dict behind it, or nothing -/
noncomputable def accF (ds : Own) (ks : Str) (k : Int × Int) : Option (Int × Own) :=
  match look ds k with
  | none => none
  | some (pg, fl) => if mayB ks fl then some (pg, put ds k (pg, dueOf ks fl)) else none
theorem accF_none {ds : Own} {ks : Str} {k : Int × Int} (h : look ds k = none) : accF ds ks k = none := by unfold accF; rw [h]
theorem accF_no {ds : Own} {ks : Str} {k : Int × Int} {pg fl : Int} (h : look ds k = some (pg, fl)) (hm : ¬ mayB ks fl) : accF ds ks k = none := by unfold accF; rw [h]; exact if_neg hm
theorem accF_yes {ds : Own} {ks : Str} {k : Int × Int} {pg fl : Int} (h : look ds k = some (pg, fl)) (hm : mayB ks fl) : accF ds ks k = some (pg, put ds k (pg, dueOf ks fl)) := by unfold accF; rw [h]; exact if_pos hm
/-- what an access gives -/
inductive AccV (l : Ledger) (ca ad : Int) : Option (Int × Own) → Value → Prop
  | no {P : Addr} {t t' : Tok} {n : Nat} : (P, tupO [.int ca t, .int ad t'] n) ∈ l → AccV l ca ad none (.ref P)
  | yes {pg : Int} {d : Own} {t : Tok} : AccV l ca ad (some (pg, d)) (.int (pg + ad % 16) t)
theorem AccV.mono {l l' : Ledger} {ca ad : Int} {o : Option (Int × Own)} {V : Value} (h : AccV l ca ad o V) (hs : ∀ x ∈ l, x ∈ l') : AccV l' ca ad o V := by
  cases h with
  | no h => exact .no (hs _ h)
  | yes => exact .yes
theorem AccV.out {l l' ll : Ledger} {ca ad : Int} {o : Option (Int × Own)} {V V' : Value} (h : AccV l ca ad o V) (h' : AccV l' ca ad o V') (hs : ∀ x ∈ l, x ∈ ll) (hs' : ∀ x ∈ l', x ∈ ll) : OutR ll V V' := by
  cases h with
  | no h =>
    cases h' with
    | no h' => exact .tup (hs _ h) (hs' _ h')
  | yes =>
    cases h' with
    | yes => exact .int
noncomputable def accD (ds : Own) : Option (Int × Own) → Own
  | none => ds
  | some (_, d) => d
section
variable {w : World} {p : Program} {loose : List Str} {mean : ExcName → Option Value} {mg mb : Str → Option Value}
  {dp un : Nat} {gd : Option (List Code)} {cn : Str} {cs : Scope} {a : Addr} {ccd : Value} {cl : List (Str × Addr)} {outer : List Env} {A₀ : Around} {base h₀ : Heap} {L : Addr} {m : Str → Option Value} {s : Shared} {Q E : Value → Shared → Prop} {news : List (Addr × Obj)}
variable {D : Addr} {oD : Obj} {ds : Own} {im : Ledger} {g : Obj → Ledger}
theorem adux_spec {f u ad kd ca : Int} {ks : Str} {ka : Addr} {t t' t1 t2 : Tok} {n : Nat}
  (B : Below A₀ base outer h₀) (F : Fr h₀ L s.heap m) (X : (KF w.params).In h₀) (N : News h₀ L s.heap news) (T : Top p loose mean mg mb h₀) (hk : cs.kind = .function) (hd : dp + 4 < recursionLimit) (hun : un + 60 < cLine)
  (U : UpdF D oD news g) (hi : ∀ x ∈ im, x ∈ news) (W : Ow w im oD ds) (hkm : (ka, tupO [.int f t, .int u t'] n) ∈ news) (lo : (D == sysModules) = false) (hz : ds.length ≤ 1000)
  (hkd : (kd = 0 ∧ ks = "fetch" ∧ ca = 12) ∨ (kd = 1 ∧ ks = "load" ∧ ca = 13) ∨ (kd = 2 ∧ ks = "store" ∧ ca = 15))
  (hret : ∀ V ex im2 oD' h' tk', Fr h₀ L h' m → News h₀ L h' (ex ++ g oD') → TupAll ex → (∀ x ∈ im2, x = (ka, tupO [.int f t, .int u t'] n) ∨ x ∈ ex ∨ x ∈ im) → AccV ex ca ad (accF ds ks (f, u)) V → Ow w im2 oD' (accD ds (accF ds ks (f, u))) → Q V { s with heap := h', toks := tk' }) :
  wpAny (model pw w) (ktrTop dp un gd cn cs L a ccd cl outer) (call (.ref 873) [.ref D, .ref ka, .int ad t1, .int kd t2]) Q E s := by
  have gD := upd_self U
  have stay : accF ds ks (f, u) = none → ∀ P ta tb n' h' tk', Fr h₀ L h' m → News h₀ L h' ((P, tupO [.int ca ta, .int ad tb] n') :: news) → Q (.ref P) { s with heap := h', toks := tk' } := fun e P ta tb n' h' tk' F' N' =>
    hret _ [(P, tupO [.int ca ta, .int ad tb] n')] im oD h' tk' F' (by rw [gD]; exact N') (.cons .nil) (fun x hx => .inr (.inr hx)) (by rw [e]; exact .no (.head _)) (by rw [e]; exact W)
  cases hl : look ds (f, u) with
  | none => exact adue_none B F X N T hk hd hun U hi W hkm lo hz hkd hl fun P ta tb n' h' tk' F' N' => stay (accF_none hl) P ta tb n' h' tk' F' N'
  | some v =>
    obtain ⟨pg, fl⟩ := v
    refine adue_some B F X N T hk hd hun U hi W hkm lo hz hkd hl rfl (fun P ta tb n' h' tk' q F' N' => stay (accF_no hl q) P ta tb n' h' tk' F' N') fun tv V tp tf n' o' h' tk' q F' N' W' => ?_
    have e := accF_yes (ks := ks) hl q
    refine hret _ [(V, tupO [.int pg tp, .int (dueOf ks fl) tf] n')] _ o' h' tk' F' N' (.cons .nil) (fun x hx => ?_) (by rw [e]; exact .yes) (by rw [e]; exact W')
    rcases List.mem_cons.mp hx with h | hx
    · exact .inl h
    · rcases List.mem_cons.mp hx with h | hx
      · rw [h]; exact .inr (.inl (.head _))
      · exact .inr (.inr hx)
end
section
variable {w : World} {p : Program} {loose : List Str} {mean : ExcName → Option Value} {mg mb : Str → Option Value}
  {dp un : Nat} {gd : Option (List Code)} {cn : Str} {cs : Scope} {a : Addr} {ccd : Value} {A₀ : Around} {base h₀ : Heap} {L : Addr} {m : Str → Option Value} {s : Shared} {Q E : Value → Shared → Prop} {news : List (Addr × Obj)}
variable {c : Ads} {oW : Obj} {M : Int → Int} {rest : Ledger} {g : Obj → Ledger} {ds : Own} {g0 g1 : Int}
theorem ad_facts2 {ad gg u r : Int} (had : ad = 64 * gg + 16 * u + r) (hg : 0 ≤ gg ∧ gg < 4) (hu : 0 ≤ u ∧ u < 4) (hr : 0 ≤ r ∧ r < 16) : ad / 64 = gg ∧ ad / 16 % 4 = u ∧ 0 ≤ ad ∧ ad < 256 := by omega
theorem pgdue {pg x : Int} (h0 : 0 ≤ pg) (h1 : pg < 1000) (x0 : 0 ≤ x) (x1 : x < 256) : 0 ≤ pg * 64 + x ∧ pg * 64 + x < 4294967296 := by lia
theorem accx_spec {root ad gg f u r kd ca : Int} {ks : Str} {tr ta t1 : Tok}
  (B : Below A₀ base [] h₀) (F : Fr h₀ L s.heap m) (X : (KF w.params).In h₀) (N : News h₀ L s.heap news) (T : Top p loose mean mg mb h₀) (hk : cs.kind = .function) (hd : dp + 24 < recursionLimit) (XB : (KF w.params).In base) (TB : Top p loose mean mg mb base)
  (S : Std c rest) (hs : ∀ x ∈ rest, x ∈ news) (U : UpdF c.w oW news g) (hs' : AllG rest g) (hw : Wd w oW M) (R : Rel M ds g0 g1) (hf : f = 0 ∨ f = 1) (hu : 0 ≤ u ∧ u < 4)
  (hroot : (root = 896 ∧ gg = if f = 0 then 0 else 1) ∨ (root = 912 ∧ gg = if f = 0 then g0 else g1)) (had : ad = 64 * gg + 16 * u + r) (hr0 : 0 ≤ r ∧ r < 16)
  (hkd : (kd = 0 ∧ ks = "fetch" ∧ ca = 12) ∨ (kd = 1 ∧ ks = "load" ∧ ca = 13) ∨ (kd = 2 ∧ ks = "store" ∧ ca = 15))
  (hret : ∀ V ex oW' M' h' tk', Fr h₀ L h' m → News h₀ L h' (ex ++ g oW') → TupAll ex → Wd w oW' M' → AccV ex ca ad (accF ds ks (f, u)) V → Rel M' (accD ds (accF ds ks (f, u))) g0 g1 → Q V { s with heap := h', toks := tk' }) :
  wpAny (model pw w) (ktrTop dp un gd cn cs L a ccd [] []) (call (.ref 866) [.ref c.k, .int root tr, .int ad ta, .int kd t1]) Q E s := by
  have gW := upd_self U
  have b0 := R.b0
  have b1 := R.b1
  have hgg : 0 ≤ gg ∧ gg < 4 := hroot.elim (fun h => gg_bound h.2 (by decide) (by decide)) fun h => gg_bound h.2 b0 b1
  have hr : root = 896 ∨ root = 912 := hroot.imp And.left And.left
  have hq := q_of hf
  obtain ⟨e64, e16, ha0, ha1⟩ := ad_facts2 had hgg hu hr0
  have he : M (root / 4 + ad / 64) = 1024 * (58 + f) + 1 := by
    rw [e64]
    rcases hroot with ⟨e1, e2⟩ | ⟨e1, e2⟩
    · subst e1
      rcases hf with rfl | rfl
      · rw [e2]; exact R.side0.ent0
      · rw [e2]; exact R.side0.ent1
    · subst e1
      rcases hf with rfl | rfl
      · rw [e2]; exact R.side1.ent0
      · rw [e2]; exact R.side1.ent1
  have hleaf := R.leaf f u hf hu.1 hu.2
  have stay : accF ds ks (f, u) = none → ∀ P ta tb n' h' tk', Fr h₀ L h' m → News h₀ L h' ((P, tupO [.int ca ta, .int ad tb] n') :: news) → Q (.ref P) { s with heap := h', toks := tk' } := fun e P ta tb n' h' tk' F' N' =>
    hret _ [(P, tupO [.int ca ta, .int ad tb] n')] oW M h' tk' F' (by rw [gW]; exact N') (.cons .nil) hw (by rw [e]; exact .no (.head _)) (by rw [e]; exact R)
  cases hl : look ds (f, u) with
  | none =>
    rw [hl] at hleaf
    have hv : M (4 * (58 + f) + ad / 16 % 4) = 0 := by rw [e16]; exact hleaf
    refine accessed_spec B F X N T hk hd XB TB S hs U hs' hw hr ha0 ha1 hq he hv (.inl rfl) (by decide) (by unfold dueOf; split <;> decide) hkd (fun t o' h' tk' q => absurd rfl q) fun P ta tb n' h' tk' _ F' N' => stay (accF_none hl) P ta tb n' h' tk' F' N'
  | some v =>
    obtain ⟨pg, fl⟩ := v
    rw [hl] at hleaf
    obtain ⟨hpg, hfl⟩ := R.look_ok hl
    obtain ⟨r1, r2, r3, r4, r5, r6, r7, r8⟩ := row_val hpg hfl
    have hv : M (4 * (58 + f) + ad / 16 % 4) = pg * 64 + fl := by rw [e16]; exact hleaf
    have hk16 : 0 ≤ pg / 16 ∧ pg / 16 < 1000 := pg_div hpg.1 hpg.2.1
    have ev : pg * 64 + fl = 1024 * (pg / 16) + fl := pg_mul hpg.2.2
    obtain ⟨d1, d2⟩ := due_law (ks := ks) hk16 hfl
    have hm := may_law (ks := ks) hk16 hfl
    rw [← ev] at d1 hm
    have ed : 1024 * (pg / 16) + dueOf ks fl = pg * 64 + dueOf ks fl := (pg_mul hpg.2.2).symm
    rw [ed] at d1
    refine accessed_spec B F X N T hk hd XB TB S hs U hs' hw hr ha0 ha1 hq he hv (.inr ⟨r6, r5⟩) ⟨r7, by lia⟩ (by rw [d1]; exact pgdue hpg.1 hpg.2.1 d2.1 d2.2.1) hkd (fun t o' h' tk' _ q F' N' W' => ?_) fun P ta tb n' h' tk' q F' N' => ?_
    · have e := accF_yes (ks := ks) hl (hm.mp q)
      rw [d1] at W'
      refine hret _ [] o' _ h' tk' F' N' .nil W' (by rw [e, r1]; exact .yes) ?_
      rw [e, e16]
      exact R.put hf hu hpg d2
    · rcases q with q | q
      · exact absurd q r3
      · exact stay (accF_no hl fun z => q (hm.mpr z)) P ta tb n' h' tk' F' N'
end
end Mine

namespace Mine
theorem wd_dict {w : World} {o : Obj} {M : Int → Int} (W : Wd w o M) : o.cls = .type "dict" := by
  obtain ⟨kvs, ⟨es, ep, hc, _⟩, _⟩ := W
  exact hc.1
theorem tup_off {h₀ h : Heap} {L d : Addr} {o : Obj} {ex l : Ledger} (N : News h₀ L h (ex ++ l)) (ht : TupAll ex) (hm : (d, o) ∈ l) (hc : o.cls ≠ .type "tuple") : ∀ p ∈ ex, p.1 ≠ d := by
  intro p hp e
  obtain ⟨vs, n, hv⟩ := ht p hp
  have h1 := (N _ (List.mem_append_left _ hp)).1
  have h2 := (N _ (List.mem_append_right _ hm)).1
  rw [e] at h1
  have h3 : p.2 = o := Option.some.inj (h1.symm.trans h2)
  rw [hv] at h3
  exact hc (by rw [← h3])
theorem updF_pre {d : Addr} {o : Obj} {l : Ledger} {g : Obj → Ledger} (U : UpdF d o l g) : ∀ {ex : Ledger}, (∀ p ∈ ex, p.1 ≠ d) → UpdF d o (ex ++ l) (fun o' => ex ++ g o')
  | [], _ => U
  | p :: ex, h => .tail (h p (.head _)) (updF_pre U fun q hq => h q (.tail _ hq))
theorem updF_ex {w : World} {h₀ h : Heap} {L d : Addr} {o : Obj} {M : Int → Int} {ex l : Ledger} {g : Obj → Ledger} (N : News h₀ L h (ex ++ l)) (ht : TupAll ex) (W : Wd w o M) (U : UpdF d o l g) : UpdF d o (ex ++ l) (fun o' => ex ++ g o') :=
  updF_pre U (tup_off N ht (updF_mem U) (by rw [wd_dict W]; decide))
theorem fr_ins {h₀ h : Heap} {L : Addr} {m : Str → Option Value} {x : Str} {v : Option Value} (F : Fr h₀ L h m) (e : m x = v) : Fr h₀ L h (fun y => if y = x then v else m y) := by
  have : (fun y => if y = x then v else m y) = m := by
    funext y
    by_cases h : y = x
    · rw [if_pos h, h, e]
    · rw [if_neg h]
  rw [this]; exact F
theorem ins1 {h₀ h : Heap} {L : Addr} {K : Str → Option Value} (_F : Fr h₀ L h K) {x y : Str} {v R : Option Value} (e : K x = v) (hr : R = K y) : (if y = x then v else R) = K y := by
  by_cases h : y = x
  · rw [if_pos h, h, e]
  · rw [if_neg h, hr]
theorem not_in {y x : Str} {l : List Str} (hy : y ∉ l) (hx : x ∈ l) : y ≠ x := fun e => hy (e ▸ hx)
theorem news_app {h₀ h : Heap} {L : Addr} {a b l l' : Ledger} (N : News h₀ L h (a ++ (b ++ l))) (hs : ∀ x ∈ l', x ∈ l) : News h₀ L h ((a ++ b) ++ l') := fun q hq => N q (by
  rcases List.mem_append.mp hq with hq | hq
  · rcases List.mem_append.mp hq with hq | hq
    · exact List.mem_append_left _ hq
    · exact List.mem_append_right _ (List.mem_append_left _ hq)
  · exact List.mem_append_right _ (List.mem_append_right _ (hs _ hq)))
theorem poolIn_mono {c : Ads} {u : Int} {l l' : Ledger} (P : PoolIn c u l) (h : ∀ x ∈ l, x ∈ l') : PoolIn c u l' :=
  let ⟨a, b, x, y, z⟩ := P; ⟨a, b, h _ x, h _ y, h _ z⟩
end Mine

namespace Mine
noncomputable def Mz (M : Int → Int) (g0 g1 : Int) : Nat → Int → Int
  | 0 => M
  | i + 1 => upM (Mz M g0 g1 i) (228 + (if (i : Int) = 0 then g0 else g1)) 0
theorem mz_out {M : Int → Int} {g0 g1 : Int} (h0 : 0 ≤ g0 ∧ g0 < 4) (h1 : 0 ≤ g1 ∧ g1 < 4) : ∀ k, (k < 228 ∨ 232 ≤ k) → Mz M g0 g1 2 k = M k := by
  intro k hk
  show (if k = 228 + g1 then (0 : Int) else if k = 228 + g0 then 0 else M k) = M k
  rw [if_neg (by lia), if_neg (by lia)]
theorem mz_in {M : Int → Int} {ds : Own} {g0 g1 : Int} (R : Rel M ds g0 g1) : ∀ j, 0 ≤ j → j < 4 → Mz M g0 g1 2 (228 + j) = 0 := by
  intro j a b
  have := R.r1 j a b
  show (if 228 + j = 228 + g1 then (0 : Int) else if 228 + j = 228 + g0 then 0 else M (228 + j)) = 0
  by_cases e1 : j = g1
  · rw [if_pos (by lia)]
  · rw [if_neg (by lia)]
    by_cases e0 : j = g0
    · rw [if_pos (by lia)]
    · rw [if_neg (by lia), this, if_neg e0, if_neg e1]
theorem rowsD_congr {M M' : Int → Int} {q fi : Int} {k : Nat} (h : ∀ u : Nat, u < k → M' (4 * q + (u : Int)) = M (4 * q + (u : Int))) : rowsD M' q fi k = rowsD M q fi k := by
  induction k with
  | zero => rfl
  | succ k ih =>
    have hk := h k (Nat.lt_succ_self k)
    have ih' := ih fun u hu => h u (Nat.lt_succ_of_lt hu)
    by_cases z : M (4 * q + (k : Int)) = 0
    · rw [rowsD_zero z, rowsD_zero (hk.trans z), ih']
    · rw [rowsD_more z, rowsD_more (by rw [hk]; exact z), ih', hk]
theorem tab_congr {M M' : Int → Int} {r : Int} : ∀ k : Nat, (∀ f : Nat, f < k → M' (r / 4 + (f : Int)) = M (r / 4 + (f : Int))) → (∀ f : Nat, f < k → M (r / 4 + (f : Int)) ≠ 0 → rowsD M' (M (r / 4 + (f : Int)) / 1024) f 4 = rowsD M (M (r / 4 + (f : Int)) / 1024) f 4) → tabD M' r k = tabD M r k
  | 0, _, _ => rfl
  | k + 1, h1, h2 => by
    have e : ∀ M : Int → Int, tabD M r (k + 1) = tabD M r k ++ (if M (r / 4 + (k : Int)) = 0 then [] else rowsD M (M (r / 4 + (k : Int)) / 1024) (k : Int) 4) := by
      intro M
      unfold tabD
      rw [List.range_succ, List.flatMap_append]
      simp
    rw [e, e, tab_congr k (fun f hf => h1 f (Nat.lt_succ_of_lt hf)) (fun f hf => h2 f (Nat.lt_succ_of_lt hf)), h1 k (Nat.lt_succ_self k)]
    congr 1
    by_cases z : M (r / 4 + (k : Int)) = 0
    · rw [if_pos z, if_pos z]
    · rw [if_neg z, if_neg z]; exact h2 k (Nat.lt_succ_self k) z
section
variable {M : Int → Int} {ds : Own} {g0 g1 : Int}
theorem last_tab (R : Rel M ds g0 g1) : tabD (Mz M g0 g1 2) 896 4 = tabD M 896 4 := by
  refine tab_congr 4 (fun f hf => mz_out R.b0 R.b1 _ (by lia)) fun f hf hz => ?_
  have hw := R.r0 (f : Int) (by lia) (by lia)
  have hw' : M (896 / 4 + (f : Int)) = if (f : Int) = 0 then 59393 else if (f : Int) = 1 then 60417 else 0 := hw
  refine rowsD_congr fun u hu => mz_out R.b0 R.b1 _ (.inr ?_)
  rw [hw'] at hz ⊢
  by_cases z0 : (f : Int) = 0
  · rw [if_pos z0]; lia
  · rw [if_neg z0] at hz ⊢
    by_cases z1 : (f : Int) = 1
    · rw [if_pos z1]; lia
    · rw [if_neg z1] at hz; exact absurd rfl hz
theorem last_none (R : Rel M ds g0 g1) : tabD (Mz M g0 g1 2) 912 4 = [] := by
  unfold tabD
  rw [List.flatMap_eq_nil_iff]
  intro f hf
  rw [List.mem_range] at hf
  have := mz_in R (f : Int) (by lia) (by lia)
  rw [if_pos (show Mz M g0 g1 2 (912 / 4 + (f : Int)) = 0 from this)]
theorem last_leaf (R : Rel M ds g0 g1) : LeafOk (Mz M g0 g1 2) := by
  intro q hq u a b
  have := R.leafOk q hq u a b
  rw [mz_out R.b0 R.b1 _ (by lia)]
  exact this
theorem last_ents (R : Rel M ds g0 g1) : ∀ f, 0 ≤ f → f < 4 → Mz M g0 g1 2 (896 / 4 + f) = 0 ∨ ∃ q, (q = 58 ∨ q = 59) ∧ Mz M g0 g1 2 (896 / 4 + f) = 1024 * q + 1 := by
  intro f a b
  rw [mz_out R.b0 R.b1 _ (by omega)]
  exact R.side0.ents f a b
theorem last_ents1 (R : Rel M ds g0 g1) : ∀ f, 0 ≤ f → f < 4 → Mz M g0 g1 2 (912 / 4 + f) = 0 ∨ ∃ q, (q = 58 ∨ q = 59) ∧ Mz M g0 g1 2 (912 / 4 + f) = 1024 * q + 1 := by
  intro f a b
  exact .inl (mz_in R f a b)
end
section
variable {w : World} {A : Around} {E : Value → Shared → Prop} {s : Shared} {h₀ : Heap} {L P P' : Addr} {l : Ledger} {Q : Value → Shared → Prop}
theorem tup_eq {x y : Int} {t1 t2 t3 t4 : Tok} {n n' : Nat} (N : News h₀ L s.heap l) (h1 : (P, tupO [.int x t1, .int y t2] n) ∈ l) (h2 : (P', tupO [.int x t3, .int y t4] n') ∈ l) (hu : A.units + 64 < cLine) (h : Q (.bool true) s) :
    wpAny (model pw w) A (compareOp .Eq (.ref P) (.ref P')) Q E s := by
  obtain ⟨as, ra⟩ := kqd_in N (d := Dat.tuple [.int x, .int y]) 8 (.tuple h1 (.cons (.int _ _) (.cons (.int _ _) .nil))) rfl
  obtain ⟨bs, rb⟩ := kqd_in N (d := Dat.tuple [.int x, .int y]) 8 (.tuple h2 (.cons (.int _ _) (.cons (.int _ _) .nil))) rfl
  have la := kqd_lay 9 (Dat.tuple [.int x, .int y]) rfl
  have sh : SeqAt.shaped (kqdP (Dat.tuple [.int x, .int y])) = true := by
    unfold SeqAt.shaped; rw [la.1, Bool.true_and]; exact decide_eq_true (Nat.le_trans la.2 (by decide))
  refine eq_dataH ra rb sh sh hu ?_
  rw [(kqd_eqv 9 (Dat.tuple [.int x, .int y]) (Dat.tuple [.int x, .int y]) 9 rfl rfl).mpr rfl]
  exact h
theorem eq_rows {F1 F2 : Addr} {vs1 vs2 : List Value} {n1 n2 : Nat} {tl1 tl2 : Ledger} {ds1 ds2 : List Dat} (N : News h₀ L s.heap l) (m1 : (F1, listOf (List.toArray vs1) n1) ∈ l) (D1 : DatAll tl1 vs1 ds1) (s1 : ∀ p ∈ tl1, p ∈ l) (m2 : (F2, listOf (List.toArray vs2) n2) ∈ l) (D2 : DatAll tl2 vs2 ds2) (s2 : ∀ p ∈ tl2, p ∈ l)
    (e : ds1 = ds2) (hr : ∀ d ∈ ds1, ∃ k a b c, d = rowT k a b c) (hu : A.units + 64 < cLine) (h : Q (.bool true) s) : wpAny (model pw w) A (compareOp .Eq (.ref F1) (.ref F2)) Q E s := by
  subst e
  have hok : ∀ d ∈ ds1, kqdOk 8 d = true := fun d hd => by
    obtain ⟨k, a, b, c, rfl⟩ := hr d hd
    rfl
  refine kqd_eq N m1 rfl rfl D1 s1 m2 rfl rfl D2 s2 hok hok hu ?_
  simpa using h
theorem eq_nil {F1 F2 : Addr} {vs1 : List Value} {n1 n2 : Nat} {tl1 : Ledger} {ds1 : List Dat} (N : News h₀ L s.heap l) (m2 : (F2, listOf (List.toArray []) n2) ∈ l) (m1 : (F1, listOf (List.toArray vs1) n1) ∈ l) (D1 : DatAll tl1 vs1 ds1) (s1 : ∀ p ∈ tl1, p ∈ l)
    (e : ds1 = []) (hu : A.units + 64 < cLine) (h : Q (.bool true) s) : wpAny (model pw w) A (compareOp .Eq (.ref F1) (.ref F2)) Q E s :=
  eq_rows (tl2 := []) N m1 D1 s1 m2 .nil (fun p hp => by cases hp) e (fun d hd => by rw [e] at hd; cases hd) hu h
end
end Mine

namespace Mine
theorem lt_of_and {a b : Addr} {P : Prop} (h : @LT.lt Nat _ a b ∧ P) : @LT.lt Nat _ a b := h.1
section
variable {w : World} {p : Program} {loose : List Str} {mean : ExcName → Option Value} {mg mb : Str → Option Value}
  {dp un : Nat} {gd : Option (List Code)} {cn : Str} {cs : Scope} {a : Addr} {ccd : Value} {cl : List (Str × Addr)} {outer : List Env} {A₀ : Around} {base h₀ : Heap} {L : Addr} {m : Str → Option Value} {s : Shared} {Q E : Value → Shared → Prop} {news : List (Addr × Obj)}
theorem rulesN10 : True := by
  k_with "H11" => exact News.isTup (by assumption) (List.Mem.head _)
  k_with "call ref" => (k_here; refine wpAny_call ?_; k_dflt (refine' code_defL ?k1 ?k2 ?k3 ?k4 ?k5 ?kA ?kF ?kK ?k6 ?k7 ?k8 ?k9 ?kB ?_ ?c2 ?c3 ?c4 ?c5; (case kA => exact rfl); (case kF => exact rfl); (case kK => first | assumption | exact rfl); k_extra "HB"; (case k6 => k_is); (case k7 => k_is); (case k8 => k_room); (case k9 => k_extra "H8"); (case c5 => decide); (case kB => exact locs rfl); (case c2 => exact rfl); (case c3 => exact rfl); (case c4 => exact rfl); k_whole; intro g'Z L'Z h'Z kEZ kAZ kMZ kQZ kXZ FG'Z F'Z N'Z B'Z X'Z T'Z; (try dsimp only); (try k_lift B'Z)))
  k_with "eval Dict nil nil" => (k_here; k_dflt (refine' newDict_K ?k1 ?k2 (TopRead.nolimit ?k3) ?_; (case k1 => k_asm); (case k2 => k_asm); (case k3 => k_asm); k_whole); intro d'Z h'Z o'Z F'Z N'Z l1Z lo'Z hs'Z fs'Z hi'Z fi'Z; (try k_lt l1Z); (try k_sweep))
  k_with "call ref" => (k_here; k_dflt (refine' call_cls ?k1 ?k2 ?k3 ?k4 ?k5 ?k6 ?_; (case k1 => k_asm); (case k2 => k_asm); (case k3 => k_asm); (case k4 => k_is); (case k5 => k_is); (case k6 => k_is); k_whole; intro x'Z d'Z h'Z F'Z N'Z l1Z l2Z; (try k_lt l1Z); (try k_lt2 l2Z); (try k_sweep); refine' code_def ?k1 ?k2 ?k3 ?k4 ?k5 ?kA ?kF ?kK ?k6 ?k7 ?k8 ?k9 ?kB ?_ ?c2 ?c3 ?c4 ?c5; (case kA => exact rfl); (case kF => exact rfl); (case kK => assumption); k_extra "HB"; (case k6 => k_is); (case k7 => k_is); (case k8 => k_room); (case k9 => k_extra "H8"); (case c5 => decide); (case kB => exact locs rfl); (case c2 => exact rfl); (case c3 => exact rfl); (case c4 => exact rfl); k_whole; intro g'Z L'Z h'Z FG'Z F'Z N'Z B'Z X'Z T'Z; (try dsimp only); (try k_lift B'Z); (try k_fold)))
  k_with "unpackItems ref none" => focus (rw [fm_names]; rotate_left; (focus kernel_rfl); (dsimp only [List.filterMap, nmO, List.length]))
  k_with "unpackItems ref" => (k_here; k_dflt (refine' unpackItemsN_ ?k1 ?k2 ?k3 ?k4 ?k5 ?_; (case k1 => k_asm); (case k2 => k_asm); (case k3 => k_extra "H11"); (case k4 => exact rfl); (case k5 => exact rfl); k_whole); intro h'Z F'Z N'Z; (try k_sweep))
  trivial
theorem memory_new {t0 : Tok}
  (B : Below A₀ base outer h₀) (F : Fr h₀ L s.heap m) (X : (KF w.params).In h₀) (N : News h₀ L s.heap news) (T : Top p loose mean mg mb h₀) (hk : cs.kind = .function) (hd : dp + 6 < recursionLimit)
  (hret : ∀ x d W oW h1 h2 h3 h4 t1 t2 t3 t4 u1 u2 u3 h' tk', Fr h₀ L h' m → (∀ p ∈ news, p.1 < d) → @LT.lt Nat _ d x → @LT.lt Nat _ x W →
    News h₀ L h' ((W, oW) :: (x, instObj 607 d) :: (d, dictOf [⟨h1, .str (Str.ofString "size") t1, .int 1024 u1⟩, ⟨h2, .str (Str.ofString "begin") t2, .int 0 u2⟩, ⟨h3, .str (Str.ofString "end") t3, .int 1024 u3⟩, ⟨h4, .str (Str.ofString "words") t4, .ref W⟩] 4) :: news) → (W == sysModules) = false → Wd w oW (fun _ => 0) → Q (.ref x) { s with heap := h', toks := tk' }) :
  wpAny (model pw w) (ktrTop dp un gd cn cs L a ccd cl outer) (call (.ref 607) [.int 1024 t0]) Q E s := by
  k_steps
  all_goals exact hret _ _ _ _ _ _ _ _ _ _ _ _ _ _ _ _ _ (by assumption) (by assumption) (by assumption) (lt_of_and (by assumption)) (by assumption) (by assumption) (wd_of_nil (by assumption))
theorem layout_new {t0 : Tok}
  (B : Below A₀ base outer h₀) (F : Fr h₀ L s.heap m) (X : (KF w.params).In h₀) (N : News h₀ L s.heap news) (T : Top p loose mean mg mb h₀) (hk : cs.kind = .function) (hd : dp + 6 < recursionLimit)
  (hret : ∀ x d  h1 h2 h3 h4 h5 h6 t1 t2 t3 t4 t5 t6 u1 u2 u3 u4 u5 u6 h' tk', Fr h₀ L h' m → (∀ p ∈ news, p.1 < d) → @LT.lt Nat _ d x →
    News h₀ L h' ((x, instObj 182 d) :: (d, dictOf [⟨h1, .str (Str.ofString "page_bits") t1, .int 4 u1⟩, ⟨h2, .str (Str.ofString "level_bits") t2, .int 2 u2⟩, ⟨h3, .str (Str.ofString "page") t3, .int 16 u3⟩, ⟨h4, .str (Str.ofString "entries") t4, .int 4 u4⟩, ⟨h5, .str (Str.ofString "large") t5, .int 64 u5⟩, ⟨h6, .str (Str.ofString "end") t6, .int 256 u6⟩] 6) :: news) → Q (.ref x) { s with heap := h', toks := tk' }) :
  wpAny (model pw w) (ktrTop dp un gd cn cs L a ccd cl outer) (call (.ref 182) [.int 4 t0]) Q E s := by
  k_steps
  all_goals exact hret _ _ _ _ _ _ _ _ _ _ _ _ _ _ _ _ _ _ _ _ _ _ (by assumption) (by assumption) (by assumption) (by assumption)
theorem tables_new {mA lA pA : Addr}
  (B : Below A₀ base outer h₀) (F : Fr h₀ L s.heap m) (X : (KF w.params).In h₀) (N : News h₀ L s.heap news) (T : Top p loose mean mg mb h₀) (hk : cs.kind = .function) (hd : dp + 6 < recursionLimit)
  (hret : ∀ x d  h1 h2 h3 t1 t2 t3  h' tk', Fr h₀ L h' m → (∀ p ∈ news, p.1 < d) → @LT.lt Nat _ d x →
    News h₀ L h' ((x, instObj 418 d) :: (d, dictOf [⟨h1, .str (Str.ofString "memory") t1, .ref mA⟩, ⟨h2, .str (Str.ofString "layout") t2, .ref lA⟩, ⟨h3, .str (Str.ofString "pages") t3, .ref pA⟩] 3) :: news) → Q (.ref x) { s with heap := h', toks := tk' }) :
  wpAny (model pw w) (ktrTop dp un gd cn cs L a ccd cl outer) (call (.ref 418) [.ref mA, .ref lA, .ref pA]) Q E s := by
  k_steps
  all_goals exact hret _ _ _ _ _ _ _ _ _ _ (by assumption) (by assumption) (by assumption) (by assumption)
theorem bus_new {mA : Addr}
  (B : Below A₀ base outer h₀) (F : Fr h₀ L s.heap m) (X : (KF w.params).In h₀) (N : News h₀ L s.heap news) (T : Top p loose mean mg mb h₀) (hk : cs.kind = .function) (hd : dp + 6 < recursionLimit)
  (hret : ∀ x d SL h1 h2 t1 t2  h' tk', Fr h₀ L h' m → (∀ p ∈ news, p.1 < d) → @LT.lt Nat _ d x → @LT.lt Nat _ x SL →
    News h₀ L h' ((SL, listOf #[] 0) :: (x, instObj 714 d) :: (d, dictOf [⟨h1, .str (Str.ofString "memory") t1, .ref mA⟩, ⟨h2, .str (Str.ofString "stretches") t2, .ref SL⟩] 2) :: news) → Q (.ref x) { s with heap := h', toks := tk' }) :
  wpAny (model pw w) (ktrTop dp un gd cn cs L a ccd cl outer) (call (.ref 714) [.ref mA]) Q E s := by
  k_steps
  all_goals exact hret _ _ _ _ _ _ _ _ _ (by assumption) (by assumption) (by assumption) (lt_of_and (by assumption)) (by assumption)
theorem walker_new {bA lA : Addr}
  (B : Below A₀ base outer h₀) (F : Fr h₀ L s.heap m) (X : (KF w.params).In h₀) (N : News h₀ L s.heap news) (T : Top p loose mean mg mb h₀) (hk : cs.kind = .function) (hd : dp + 6 < recursionLimit)
  (hret : ∀ x d  h1 h2 t1 t2  h' tk', Fr h₀ L h' m → (∀ p ∈ news, p.1 < d) → @LT.lt Nat _ d x →
    News h₀ L h' ((x, instObj 266 d) :: (d, dictOf [⟨h1, .str (Str.ofString "bus") t1, .ref bA⟩, ⟨h2, .str (Str.ofString "layout") t2, .ref lA⟩] 2) :: news) → Q (.ref x) { s with heap := h', toks := tk' }) :
  wpAny (model pw w) (ktrTop dp un gd cn cs L a ccd cl outer) (call (.ref 266) [.ref bA, .ref lA]) Q E s := by
  k_steps
  all_goals exact hret _ _ _ _ _ _ _ _ (by assumption) (by assumption) (by assumption) (by assumption)
theorem pages_new {mA : Addr} {t0 t00 t000 : Tok}
  (B : Below A₀ base outer h₀) (F : Fr h₀ L s.heap m) (X : (KF w.params).In h₀) (N : News h₀ L s.heap news) (T : Top p loose mean mg mb h₀) (hk : cs.kind = .function) (hd : dp + 6 < recursionLimit)
  (hret : ∀ x d G H oH h1 h2 h3 h4 h5 h6 h7 h8 t1 t2 t3 t4 t5 t6 t7 t8 u1 u2 u3 u4 h' tk', Fr h₀ L h' m → (∀ p ∈ news, p.1 < d) → @LT.lt Nat _ d x → @LT.lt Nat _ x G → @LT.lt Nat _ G H →
    News h₀ L h' ((H, oH) :: (G, listOf #[] 0) :: (x, instObj 834 d) :: (d, dictOf [⟨h1, .str (Str.ofString "memory") t1, .ref mA⟩, ⟨h2, .str (Str.ofString "begin") t2, .int 896 u1⟩, ⟨h3, .str (Str.ofString "count") t3, .int 8 u2⟩, ⟨h4, .str (Str.ofString "size") t4, .int 16 u3⟩, ⟨h5, .str (Str.ofString "fill") t5, .bool true⟩, ⟨h6, .str (Str.ofString "untouched") t6, .int 0 u4⟩, ⟨h7, .str (Str.ofString "given") t7, .ref G⟩, ⟨h8, .str (Str.ofString "held") t8, .ref H⟩] 8) :: news) → (H == sysModules) = false → Hd w oH 0 → Q (.ref x) { s with heap := h', toks := tk' }) :
  wpAny (model pw w) (ktrTop dp un gd cn cs L a ccd cl outer) (call (.ref 834) [.ref mA, .int 896 t0, .int 8 t00, .int 16 t000]) Q E s := by
  k_steps
  all_goals exact hret _ _ _ _ _ _ _ _ _ _ _ _ _ _ _ _ _ _ _ _ _ _ _ _ _ _ _ (by assumption) (by assumption) (by assumption) (lt_of_and (by assumption)) (lt_of_and (by assumption)) (by assumption) (by assumption) (hd_of_nil (by assumption))
end
end Mine

namespace Mine
section
variable {w : World} {p : Program} {loose : List Str} {mean : ExcName → Option Value} {mg mb : Str → Option Value}
  {dp un : Nat} {gd : Option (List Code)} {cn : Str} {cs : Scope} {a : Addr} {ccd : Value} {cl : List (Str × Addr)} {outer : List Env} {A₀ : Around} {base h₀ : Heap} {L : Addr} {m : Str → Option Value} {s : Shared} {Q E : Value → Shared → Prop} {news : List (Addr × Obj)}
variable {c : Ads} {oW : Obj} {M : Int → Int} {rest : Ledger} {g : Obj → Ledger}
theorem rulesN20 : True := by
  k_with "call ref" => (k_here; refine wpAny_call ?_; k_dflt (refine' code_defL ?k1 ?k2 ?k3 ?k4 ?k5 ?kA ?kF ?kK ?k6 ?k7 ?k8 ?k9 ?kB ?_ ?c2 ?c3 ?c4 ?c5; (case kA => exact rfl); (case kF => exact rfl); (case kK => first | assumption | exact rfl); k_extra "HB"; (case k6 => k_is); (case k7 => k_is); (case k8 => k_room); (case k9 => k_extra "H8"); (case c5 => decide); (case kB => exact locs rfl); (case c2 => exact rfl); (case c3 => exact rfl); (case c4 => exact rfl); k_whole; intro g'Z L'Z h'Z kEZ kAZ kMZ kQZ kXZ FG'Z F'Z N'Z B'Z X'Z T'Z; (try dsimp only); (try k_lift B'Z)))
  k_with "getMethod ref" => (k_here; (with_reducible show wpAny _ _ (getMethod (Value.ref _) (Str.ofString "get") _) _ _ _); k_dflt (refine' wd_method ?k1 ?k2 ?k3 ?_; (case k1 => k_asm); (case k2 => k_mem); (case k3 => assumption)))
  k_with "getMethod ref" => (k_here; (with_reducible show wpAny _ _ (getMethod (Value.ref _) (Str.ofString "pop") _) _ _ _); k_dflt (refine' wd_methodP ?k1 ?k2 ?k3 ?_; (case k1 => k_asm); (case k2 => k_mem); (case k3 => assumption)))
  k_with "call builtin:dict.get" => (k_here; k_dflt (refine' wd_get ?k1 ?k2 ?k3 ?k4 ?_; (case k1 => k_asm); (case k2 => k_mem); (case k3 => assumption); (case k4 => assumption)); intro t'Z)
  k_with "call builtin:dict.pop" => (k_here; k_dflt (refine' wd_pop ?k1 ?k2 ?k3 ?k4 ?k5 ?_; (case k1 => k_asm); (case k2 => k_asm); (case k3 => assumption); (case k4 => assumption); (case k5 => assumption)); intro h'Z o'Z x'Z F'Z N'Z hw'Z)
  trivial
theorem keep_spec {i v : Int} {t1 t2 : Tok}
  (B : Below A₀ base outer h₀) (F : Fr h₀ L s.heap m) (X : (KF w.params).In h₀) (N : News h₀ L s.heap news) (T : Top p loose mean mg mb h₀) (hk : cs.kind = .function) (hd : dp + 4 < recursionLimit)
  (S : MemIn c rest) (lo : (c.w == sysModules) = false) (hs : ∀ x ∈ rest, x ∈ news) (U : UpdF c.w oW news g) (hw : Wd w oW M) (hi : 0 ≤ i ∧ i < 256) (hv : 0 ≤ v ∧ v < 4294967296)
  (hret : ∀ o' h' tk', Fr h₀ L h' m → News h₀ L h' (g o') → Wd w o' (upM M i v) → Q .none { s with heap := h', toks := tk' }) :
  wpAny (model pw w) (ktrTop dp un gd cn cs L a ccd cl outer) (call (.ref 494) [.ref c.m, .int i t1, .int v t2]) Q E s := by
  have hwm : (c.w, oW) ∈ news := by
    obtain ⟨pre, post, rfl, _⟩ := U.split
    exact List.mem_append_right _ (.head _)
  have hm1 := MemIn.a (S) hs
  have hm2 := MemIn.b (S) hs
  clear hs
  have hret0 : v = 0 → ∀ o' h' tk', Fr h₀ L h' m → News h₀ L h' (g o') → Wd w o' (upM M i 0) → Q .none { s with heap := h', toks := tk' } := by
    rintro rfl
    exact hret
  k_steps
  all_goals first
    | exact hret _ _ _ (by assumption) (by assumption) (by assumption)
    | exact hret0 (by assumption) _ _ _ (by assumption) (by assumption) (by assumption)
end
end Mine

namespace Mine
open KBy PySem.Builtin
noncomputable def b5 : Array UInt8 := #[5, 5, 5, 5]
theorem meets_rev (t : Tok) (a : Addr) {st : Tok} :
    Meets («bytes.__getitem__» ⟨[.bytes #[5, 5, 5, 5] t, .ref a], []⟩) (fun _ R s => s.heap.IsSliceOf a .none .none (.int (-1) st) ∧ ∀ t' k, R (.ok (.ret (.bytes #[5, 5, 5, 5] t'))) { s with toks := k }) := by
  refine .of_wp fun prog w A R s hS => ?_
  obtain ⟨⟨o, ho, hc, hd⟩, h⟩ := hS
  have hT : s.TypeIs (.ref a) "slice" := ⟨o, ho, hc⟩
  show wpAny _ _ (Bytes.payload (.bytes #[5, 5, 5, 5] t) >>= fun r => _) _ _ s
  refine wpAny_bind (wpAny_of_eq (a := #[5, 5, 5, 5]) rfl ?_)
  show wpAny _ _ (Bytes.subscript? (.ref a) >>= fun r => _) _ _ s
  refine wpAny_bind ?_
  unfold Bytes.subscript?
  refine wpAny_bind (wpAny_specialOf hT slice_no_index (wpAny_pure ?_))
  refine wpAny_bind (wpAny_typeOf hT ?_)
  show wpAny _ _ (Bytes.sliceParts (.ref a) >>= fun r => _) _ _ s
  refine wpAny_bind ?_
  unfold Bytes.sliceParts
  refine wpAny_bind (wpAny_field (x := .int (-1) st) ho hd rfl ?_)
  kby_int
  refine wpAny_ite (ite_no (by decide) ?_)
  refine wpAny_bind (wpAny_field (x := .none) ho hd rfl ?_)
  kby_none
  refine wpAny_bind (wpAny_field (x := .none) ho hd rfl ?_)
  kby_none
  refine wpAny_pure ?_
  have go : wpAny (model prog w) A.in1 (sliceIndices (rawPart none) (rawPart none) (rawPart (some (-1))) 4) (fun r s' => r = sliceBounds none none (some (-1)) 4 ∧ s' = s) (fun _ _ => False) s :=
    wpAny_of_eq (sliceIndices_raw none none (some (-1)) 4 (by decide)) ⟨rfl, rfl⟩
  refine wpAny_bind (wpAny_mono go (fun r s' hr => ?_) fun _ _ e => e.elim)
  obtain ⟨hr1, hr2⟩ := hr
  subst hr1 hr2
  refine wpAny_ite (ite_no (by decide) ?_)
  refine wpAny_bind (wpAny_mkBytes (wpAny_pure ⟨_, rfl, ?_⟩) (by decide +kernel))
  have e : Bytes.sliced #[5, 5, 5, 5] (sliceBounds none none (some (-1)) 4).1 (sliceBounds none none (some (-1)) 4).2.1 (sliceBounds none none (some (-1)) 4).2.2 = #[5, 5, 5, 5] := by decide +kernel
  have e2 := h s'.toks (s'.toks + 1)
  rw [← e] at e2
  exact e2
section
variable {prog : Program} {w : World} {A : Around} {E : Value → Shared → Prop} {s : Shared} {value slice : PySem.Expr} {b : Array UInt8} {t st : Tok} {h₀ : Heap} {L : Addr} {m : PySem.Str → Option Value} {news : List (Addr × Obj)} {Q : Value → Shared → Prop}
theorem rev5 (hF : Fr h₀ L s.heap m) (hN : News h₀ L s.heap news) (hb : b = #[5, 5, 5, 5])
    (h : ∀ h' t' k, Fr h₀ L h' m → News h₀ L h' news → Q (.bytes #[5, 5, 5, 5] t') { s with heap := h', toks := k })
    (hs : subscripted slice false (.bytes b t) (.ref s.heap.objs.size) = operate [.ref s.heap.objs.size, .bytes b t] (getItem (.bytes b t) (.ref s.heap.objs.size)))
    (ht : ∀ r, letTemporaryGo value (.bytes b t) r = pure ()) :
    wpAny (model prog w) A (subscriptTail value slice (.bytes b t) (.ref s.heap.objs.size)) Q E { s with heap := s.heap.push { cls := .type "slice", data := .fields #[.none, .none, .int (-1) st] } } := by
  subst hb
  exact tail_of_ItemOn ⟨"bytes", _, FB.slot_bytes_getitem.lookup, typeIs_bytes _ _ _, getItem_meets (typeIs_bytes _ _ _) (by decide) FB.slot_bytes_getitem FB.entry_bytes_getitem (FB.args_bytes_getitem_2 _ _) (meets_rev t _)
    ⟨Heap.IsSliceOf.new _ _ _ _, fun t' k => h _ t' k (hF.push _) (News.pushKeep hN _)⟩⟩ hs ht
end
section
variable {prog : Program} {w : World} {A : Around} {E : Value → Shared → Prop} {s : Shared} {value slice : PySem.Expr} {b : Array UInt8} {t : Tok} {h₀ : Heap} {L : Addr} {m : Str → Option Value} {news : List (Addr × Obj)} {Q : Value → Shared → Prop} {l u : Value} {lo hi : Option Int}
theorem cut5 (hF : Fr h₀ L s.heap m) (hN : News h₀ L s.heap news) (hl : IsPart l lo) (hu : IsPart u hi) (hb : KBy.picked b lo hi = #[5, 5, 5, 5])
    (h : ∀ h' t' k, Fr h₀ L h' m → News h₀ L h' news → Q (.bytes #[5, 5, 5, 5] t') { s with heap := h', toks := k })
    (hs : subscripted slice false (.bytes b t) (.ref s.heap.objs.size) = operate [.ref s.heap.objs.size, .bytes b t] (getItem (.bytes b t) (.ref s.heap.objs.size)))
    (ht : ∀ r, letTemporaryGo value (.bytes b t) r = pure ()) :
    wpAny (model prog w) A (subscriptTail value slice (.bytes b t) (.ref s.heap.objs.size)) Q E { s with heap := s.heap.push { cls := .type "slice", data := .fields #[l, u, .none] } } :=
  tail_of_ItemOn ⟨"bytes", _, FB.slot_bytes_getitem.lookup, typeIs_bytes _ _ _, getItem_meets (typeIs_bytes _ _ _) (by decide) FB.slot_bytes_getitem FB.entry_bytes_getitem (FB.args_bytes_getitem_2 _ _) (KBc.meets_slice2 b t _ hl hu)
    ⟨Heap.IsSliceOf.new _ _ _ _, (by rw [hb]; decide +kernel), fun t' k => by rw [hb]; exact h _ t' k (hF.push _) (News.pushKeep hN _)⟩⟩ hs ht
end
theorem unrEnd_lt {h₀ : Heap} {L I : Addr} {it : Obj} {rest : (Str → Option Value) → List (Addr × Obj) → Prop} {s₁ : Shared} {h' : Heap} {tk : Nat} {m' : Str → Option Value} {nx : List (Addr × Obj)} (F : Fr h₀ L h' m') (N : News h₀ L h' ((I, it) :: nx))
    (off : AllLt I nx) (r : rest m' nx) : UnrEnd h₀ L s₁ I it rest { s₁ with heap := h', toks := tk } :=
  UnrEnd.intro F N nx (fun p hp => hp) (fun p hp => Nat.ne_of_lt (allLt_all off p hp)) r
theorem updF_next {d : Addr} {o : Obj} {l : List (Addr × Obj)} {g : Obj → List (Addr × Obj)} (U : UpdF d o l g) (o' : Obj) : UpdF d o' (g o') g := by
  induction U with
  | head h => exact .head h
  | tail h _ ih => exact .tail h ih
section
variable {prog : Program} {w : World} {A : Around} {E : Value → Shared → Prop} {s : Shared} {h₀ : Heap} {L : Addr} {m : Str → Option Value} {news : List (Addr × Obj)} {Q : Value → Shared → Prop} {a b : Int} {ta tb : Tok}
theorem min4 (hh : A.handled = none) (h4 : ¬ b < a ∧ a = 4) (F : Fr h₀ L s.heap m) (N : News h₀ L s.heap news)
    (h : ∀ t h' tk, Fr h₀ L h' m → News h₀ L h' news → Q (.int 4 t) { s with heap := h', toks := tk }) : wpAny (model prog w) A (call (.builtin "min") [.int a ta, .int b tb]) Q E s := by
  obtain ⟨h1, rfl⟩ := h4
  refine min_two_N hh F N fun h' tk F' N' => ?_
  rw [if_neg h1, if_neg h1]
  exact h _ _ _ F' N'
end
end Mine

namespace Mine
section
variable {prog : Program} {w : World} {A : Around} {E : Value → Shared → Prop} {env : Env} {test : PySem.Expr} {body orelse : List Stmt} {Q : Flow → Shared → Prop}
theorem whl_four {P : Nat → Shared → Prop} {s : Shared} (h0 : P 0 s)
    (turn : ∀ i n s', i < 4 → i + n = 4 → P i s' → (∀ s'', P (i + 1) s'' → WhlRest prog w A E env test body orelse Q n s'') → WhlRest prog w A E env test body orelse Q (n + 1) s')
    (last : ∀ s', P 4 s' → WhlRest prog w A E env test body orelse Q 1 s') : WhlRest prog w A E env test body orelse Q 5 s := by
  have go : ∀ n i s', i + n = 4 → P i s' → WhlRest prog w A E env test body orelse Q (n + 1) s' := by
    intro n
    induction n with
    | zero => intro i s' e hp; have : i = 4 := e; subst this; exact last s' hp
    | succ n ih => intro i s' e hp; exact turn i (n + 1) s' (by lia) e hp fun s'' hp' => ih (i + 1) s'' (by lia) hp'
  exact go 4 0 s rfl h0
theorem up_eq {d : Addr} {o : Obj} {l : Ledger} {g : Obj → Ledger} (U : UpdF d o l g) : g o = l := by
  obtain ⟨pre, post, rfl, h, _⟩ := U.split
  exact h o
/-- the words from a on have been written up to the i-th; the others are as they were -/
noncomputable def KeptW (M : Int → Int) (a : Int) (i : Nat) (M' : Int → Int) : Prop := ∀ k, (k < a ∨ a + (i : Int) ≤ k) → M' k = M k
noncomputable def ZeroW (a : Int) (i : Nat) (M' : Int → Int) : Prop := ∀ k, a ≤ k → k < a + (i : Int) → M' k = 0
theorem keptW_next {M M' : Int → Int} {a j v : Int} {i : Nat} (h : KeptW M a i M') (e : j = a + (i : Int)) : KeptW M a (i + 1) (upM M' j v) := fun k hk => by
  have hk' : (k < a ∨ a + (i : Int) + 1 ≤ k) := by omega
  unfold upM
  rw [if_neg (by omega)]
  exact h k (by omega)
theorem zeroW_next {M' : Int → Int} {a j : Int} {i : Nat} (h : ZeroW a i M') (e : j = a + (i : Int)) : ZeroW a (i + 1) (upM M' j 0) := fun k h1 h2 => by
  unfold upM
  by_cases hk : k = j
  · rw [if_pos hk]
  · rw [if_neg hk]; exact h k h1 (by lia)
theorem zero_four {M M' : Int → Int} {a : Int} (h : KeptW M a 4 M') (z : ZeroW a 4 M') : M' = upM (upM (upM (upM M a 0) (a + 1) 0) (a + 2) 0) (a + 3) 0 := by
  funext k
  unfold upM
  by_cases h3 : k = a + 3
  · rw [if_pos h3]; exact z k (by lia) (by lia)
  · rw [if_neg h3]
    by_cases h2 : k = a + 2
    · rw [if_pos h2]; exact z k (by lia) (by lia)
    · rw [if_neg h2]
      by_cases h1 : k = a + 1
      · rw [if_pos h1]; exact z k (by lia) (by lia)
      · rw [if_neg h1]
        by_cases h0 : k = a
        · rw [if_pos h0]; exact z k (by lia) (by lia)
        · rw [if_neg h0]; exact h k (by lia)
theorem form_z {m mm : Str → Option Value} {n1 n2 : Str} {v : Option Value} (hp : m n2 = v) (h : ∀ y, y ≠ n1 → y ≠ n2 → m y = mm y) : m = fun y => if y = n1 then m n1 else if y = n2 then v else mm y := by
  funext y
  by_cases h1 : y = n1
  · rw [if_pos h1, h1]
  · rw [if_neg h1]
    by_cases h2 : y = n2
    · rw [if_pos h2, h2]; exact hp
    · rw [if_neg h2]; exact h y h1 h2
theorem form_s {m mm : Str → Option Value} {n1 n2 n3 n4 n5 : Str} {v u : Option Value} (hp : m n4 = v) (hq : m n5 = u) (h : ∀ y, y ≠ n1 → y ≠ n2 → y ≠ n3 → y ≠ n4 → y ≠ n5 → m y = mm y) :
    m = fun y => if y = n1 then m n1 else if y = n2 then m n2 else if y = n3 then m n3 else if y = n4 then v else if y = n5 then u else mm y := by
  funext y
  by_cases h1 : y = n1
  · rw [if_pos h1, h1]
  · rw [if_neg h1]
    by_cases h2 : y = n2
    · rw [if_pos h2, h2]
    · rw [if_neg h2]
      by_cases h3 : y = n3
      · rw [if_pos h3, h3]
      · rw [if_neg h3]
        by_cases h4 : y = n4
        · rw [if_pos h4, h4]; exact hp
        · rw [if_neg h4]
          by_cases h5 : y = n5
          · rw [if_pos h5, h5]; exact hq
          · rw [if_neg h5]; exact h y h1 h2 h3 h4 h5
inductive ZInv (w : World) (c : Ads) (g : Obj → Ledger) (ad : Int) (M : Int → Int) (g₀ : Heap) (L : Addr) (mm : Str → Option Value) (n1 n2 : Str) (s : Shared) (i : Nat) (s' : Shared) : Prop
  | mk (pl : Int) (h : Heap) (tk : Nat) (o : Obj) (M' : Int → Int) (u : Option Value) (t : Tok) (e : s' = { s with heap := h, toks := tk }) (hp : pl = ad + 4 * (i : Int))
    (F : Fr g₀ L h (fun y => if y = n1 then u else if y = n2 then some (.int pl t) else mm y)) (N : News g₀ L h (g o)) (hw : Wd w o M') (k : KeptW M (ad / 4) i M') (z : ZeroW (ad / 4) i M')
inductive SInv (w : World) (c : Ads) (g : Obj → Ledger) (ad : Int) (M : Int → Int) (g₀ : Heap) (L : Addr) (mm : Str → Option Value) (n1 n2 n3 n4 n5 : Str) (s : Shared) (i : Nat) (s' : Shared) : Prop
  | mk (pl at' : Int) (h : Heap) (tk : Nat) (o : Obj) (M' : Int → Int) (u1 u2 u3 : Option Value) (t t' : Tok) (e : s' = { s with heap := h, toks := tk }) (hp : pl = ad + 4 * (i : Int)) (ha : at' = 4 * (i : Int))
    (F : Fr g₀ L h (fun y => if y = n1 then u1 else if y = n2 then u2 else if y = n3 then u3 else if y = n4 then some (.int pl t) else if y = n5 then some (.int at' t') else mm y)) (N : News g₀ L h (g o)) (hw : Wd w o M') (k : KeptW M (ad / 4) i M')
/-- the loop of Memory.zero over four words -/
theorem zero_loop {n1 n2 : Str} {g₀ : Heap} {L : Addr} {s : Shared} {mm : Str → Option Value} {news : Ledger} {c : Ads} {oW : Obj} {M : Int → Int} {g : Obj → Ledger} {ad : Int} {tp : Tok}
    (F : Fr g₀ L s.heap mm) (N : News g₀ L s.heap news) (U : UpdF c.w oW news g) (hw : Wd w oW M) (hp : mm n2 = some (.int ad tp))
    (turn : ∀ (i n : Nat) (pl : Int) h tk o M' u t, i < 4 → pl = ad + 4 * (i : Int) → Fr g₀ L h (fun y => if y = n1 then u else if y = n2 then some (.int pl t) else mm y) → News g₀ L h (g o) → UpdF c.w o (g o) g → Wd w o M' →
      KeptW M (ad / 4) i M' → ZeroW (ad / 4) i M' →
      (∀ (pl' : Int) h' tk' o' M'' m' t', pl' = ad + 4 * (i : Int) + 4 → Fr g₀ L h' m' → m' n2 = some (.int pl' t') → (∀ y, y ≠ n1 → y ≠ n2 → m' y = mm y) → News g₀ L h' (g o') → Wd w o' M'' → KeptW M (ad / 4) (i + 1) M'' → ZeroW (ad / 4) (i + 1) M'' → WhlRest prog w A E env test body orelse Q n { s with heap := h', toks := tk' }) →
      WhlRest prog w A E env test body orelse Q (n + 1) { s with heap := h, toks := tk })
    (last : ∀ (pl : Int) h tk o M' u t, pl = ad + 16 → Fr g₀ L h (fun y => if y = n1 then u else if y = n2 then some (.int pl t) else mm y) → News g₀ L h (g o) → Wd w o M' → KeptW M (ad / 4) 4 M' → ZeroW (ad / 4) 4 M' → WhlRest prog w A E env test body orelse Q 1 { s with heap := h, toks := tk }) :
    WhlRest prog w A E env test body orelse Q 5 s := by
  refine whl_four (P := ZInv w c g ad M g₀ L mm n1 n2 s)
    ⟨ad, _, s.toks, oW, M, _, tp, rfl, by simp, (form_z (n1 := n1) hp (fun _ _ _ => rfl)) ▸ F, (up_eq U).symm ▸ N, hw, fun _ _ => rfl, fun k a b => absurd (Int.lt_of_le_of_lt a b) (by simp)⟩ ?_ ?_
  · rintro i n s' hi _ ⟨pl, h, tk, o, M', u, t, rfl, e, F', N', hw', k', z'⟩ ih
    refine turn i n pl h tk o M' u t hi e F' N' ?_ hw' k' z' fun pl' h' tk' o' M'' m' t' e' F2 hp2 hm2 N2 w2 k2 z2 => ih _ ⟨pl', h', tk', o', M'', m' n1, t', rfl, by lia, form_z (n1 := n1) hp2 hm2 ▸ F2, N2, w2, k2, z2⟩
    exact updF_next U o
  · rintro s' ⟨pl, h, tk, o, M', u, t, rfl, e, F', N', hw', k', z'⟩
    exact last pl h tk o M' u t e F' N' hw' k' z'
/-- the loop of Memory.store over four words -/
theorem store_loop {n1 n2 n3 n4 n5 : Str} {g₀ : Heap} {L : Addr} {s : Shared} {mm : Str → Option Value} {news : Ledger} {c : Ads} {oW : Obj} {M : Int → Int} {g : Obj → Ledger} {ad : Int} {tp tq : Tok}
    (F : Fr g₀ L s.heap mm) (N : News g₀ L s.heap news) (U : UpdF c.w oW news g) (hw : Wd w oW M) (hp : mm n4 = some (.int ad tp)) (hq : mm n5 = some (.int 0 tq))
    (turn : ∀ (i n : Nat) (pl at' : Int) h tk o M' u1 u2 u3 t t', i < 4 → pl = ad + 4 * (i : Int) → at' = 4 * (i : Int) → Fr g₀ L h (fun y => if y = n1 then u1 else if y = n2 then u2 else if y = n3 then u3 else if y = n4 then some (.int pl t) else if y = n5 then some (.int at' t') else mm y) → News g₀ L h (g o) → UpdF c.w o (g o) g → Wd w o M' →
      KeptW M (ad / 4) i M' →
      (∀ (pl' at2 : Int) h' tk' o' M'' m' t2 t2', pl' = ad + 4 * (i : Int) + 4 → at2 = 4 * (i : Int) + 4 → Fr g₀ L h' m' → m' n4 = some (.int pl' t2) → m' n5 = some (.int at2 t2') → (∀ y, y ≠ n1 → y ≠ n2 → y ≠ n3 → y ≠ n4 → y ≠ n5 → m' y = mm y) → News g₀ L h' (g o') → Wd w o' M'' → KeptW M (ad / 4) (i + 1) M'' → WhlRest prog w A E env test body orelse Q n { s with heap := h', toks := tk' }) →
      WhlRest prog w A E env test body orelse Q (n + 1) { s with heap := h, toks := tk })
    (last : ∀ (at' : Int) h tk o M' u1 u2 u3 u4 t, at' = 16 → Fr g₀ L h (fun y => if y = n1 then u1 else if y = n2 then u2 else if y = n3 then u3 else if y = n4 then u4 else if y = n5 then some (.int at' t) else mm y) → News g₀ L h (g o) → Wd w o M' → KeptW M (ad / 4) 4 M' → WhlRest prog w A E env test body orelse Q 1 { s with heap := h, toks := tk }) :
    WhlRest prog w A E env test body orelse Q 5 s := by
  refine whl_four (P := SInv w c g ad M g₀ L mm n1 n2 n3 n4 n5 s)
    ⟨ad, 0, _, s.toks, oW, M, _, _, _, tp, tq, rfl, by simp, by simp, (form_s (n1 := n1) (n2 := n2) (n3 := n3) hp hq (fun _ _ _ _ _ _ => rfl)) ▸ F, (up_eq U).symm ▸ N, hw, fun _ _ => rfl⟩ ?_ ?_
  · rintro i n s' hi _ ⟨pl, at', h, tk, o, M', u1, u2, u3, t, t', rfl, e, e2, F', N', hw', k'⟩ ih
    refine turn i n pl at' h tk o M' u1 u2 u3 t t' hi e e2 F' N' ?_ hw' k' fun pl' at2 h' tk' o' M'' m' t2 t2' e' e2' F2 hp2 hq2 hm2 N2 w2 k2 => ih _ ⟨pl', at2, h', tk', o', M'', _, _, _, t2, t2', rfl, by lia, by lia, form_s (n1 := n1) (n2 := n2) (n3 := n3) hp2 hq2 hm2 ▸ F2, N2, w2, k2⟩
    exact updF_next U o
  · rintro s' ⟨pl, at', h, tk, o, M', u1, u2, u3, t, t', rfl, e, e2, F', N', hw', k'⟩
    exact last at' h tk o M' u1 u2 u3 _ t' (by lia) F' N' hw' k'
end
end Mine

namespace Mine
section
variable {w : World} {p : Program} {loose : List Str} {mean : ExcName → Option Value} {mg mb : Str → Option Value}
  {dp un : Nat} {gd : Option (List Code)} {cn : Str} {cs : Scope} {a : Addr} {ccd : Value} {cl : List (Str × Addr)} {outer : List Env} {A₀ : Around} {base h₀ : Heap} {L : Addr} {m : Str → Option Value} {s : Shared} {Q E : Value → Shared → Prop} {news : List (Addr × Obj)}
variable {c : Ads} {oW : Obj} {M : Int → Int} {rest : Ledger} {g : Obj → Ledger}
theorem rulesN30 : True := by
  k_with "H3" => repeat' (first | with_reducible assumption | exact (fun _ hZ => hZ) | (refine AllG.at ?_ _; with_reducible assumption) | refine sub_cons ?_ | refine sub_app ?_)
  k_with "call ref" => (k_here; (with_reducible show wpAny _ _ (call (Value.ref 494) _) _ _ _); k_dflt (refine' keep_spec ?k1 ?k2 ?k3 ?k4 ?k5 ?k6 ?k7 ?k8 ?k9 ?k10 ?k11 ?k12 ?k13 ?k14 ?_; k_extra "HA"; (case k8 => assumption); (case k9 => assumption); (case k10 => k_extra "H3"); (case k11 => k_updF); (case k12 => assumption); (case k13 => exact ⟨by first | assumption | omega | decide | (rw [sh2]; omega), by first | assumption | omega | decide | (rw [sh2]; omega)⟩); (case k14 => exact ⟨by first | assumption | omega | decide, by first | assumption | omega | decide⟩)); intro o'Z h'Z tk'Z F'Z N'Z hw'Z; (try dsimp only at N'Z); k_dflt ((rename MemIn _ _ => kS'Z); (rename AllG _ _ => kG'Z); (rename UpdF _ _ _ _ => kU'Z); (have km1'Z := MemIn.a kS'Z (kG'Z o'Z)); (have km2'Z := MemIn.b kS'Z (kG'Z o'Z)); (have kU2'Z := updF_next kU'Z o'Z)); (try k_sweep))
  k_with "subscriptTail" => (k_here; (with_reducible show wpAny _ _ (subscriptTail _ (Expr.Slice none none (some _) _) (Value.bytes _ _) (Value.ref _)) _ _ _); (with_reducible rename Fr _ _ _ _ => F'Z); (with_reducible rename News _ _ _ _ => N'Z); (refine' rev5 (s := ⟨_, _, _, _, _⟩) F'Z N'Z ?hb ?_ ?hs ?ht; (case hb => first | rfl | decide +kernel); (case hs => with_unfolding_all rfl); (case ht => (intro _; with_unfolding_all rfl))); intro _ _ _ _ _)
  k_with "exec For Name Subscript cons nil" => (k_here; (rename Fr _ _ _ _ => lF'Z); (with_unfolding_all refine' For_invVF lF'Z ?k1 ?k2 ?_; (case k1 => exact rfl); (case k2 => exact rfl); k_whole))
  k_with "UnrEnd" => (refine' unrEnd_lt ?k1 ?k2 ?k3 ?_; (case k1 => assumption); (case k2 => assumption); (case k3 => first | assumption | (unfold AllLt; assumption) | (refine allLt_of ?_; assumption)))
  k_with "call builtin:min" => (k_here; (refine' min4 rfl ?h4 ?F ?N ?_; (case h4 => (simp only [bitAnd_m2]; first | omega | decide)); (case F => k_asm); (case N => k_asm)); intro t'Z h'Z tk'Z F'Z N'Z)
  k_with "subscriptTail" => (k_here; (with_reducible show wpAny _ _ (subscriptTail _ (Expr.Slice _ _ none _) (Value.bytes _ _) (Value.ref _)) _ _ _); (with_reducible rename Fr _ _ _ _ => F'Z); (with_reducible rename News _ _ _ _ => N'Z); (refine' cut5 (s := ⟨_, _, _, _, _⟩) F'Z N'Z ?hl ?hu ?hb ?_ ?hs ?ht; (case hs => with_unfolding_all rfl); (case ht => (intro _; with_unfolding_all rfl)); (case hl => constructor); (case hu => constructor); (case hb => first | assumption | decide +kernel)); intro _ _ _ _ _)
  k_with "WhlIf" => first | (refine WhlIf.yes (decide_eq_true (by first | decide | omega)) ?_) | (refine WhlIf.no (decide_eq_false (by first | decide | omega)) ?_)
  k_with "exec While Compare" => (k_here; k_dflt (refine whl_start 5 ?_); refine stop_here ?_)
  k_with "WhlPost" => refine stop_here ?_
  trivial
theorem store16_spec {ad : Int} {t1 t2 : Tok}
  (B : Below A₀ base outer h₀) (F : Fr h₀ L s.heap m) (X : (KF w.params).In h₀) (N : News h₀ L s.heap news) (T : Top p loose mean mg mb h₀) (hk : cs.kind = .function) (hd : dp + 8 < recursionLimit)
  (S : MemIn c rest) (lo : (c.w == sysModules) = false) (hs : ∀ x ∈ rest, x ∈ news) (hs' : AllG rest g) (U : UpdF c.w oW news g) (hw : Wd w oW M) (h0 : 0 ≤ ad) (hh : ad ≤ 1008) (hz : ad % 16 = 0)
  (hret : ∀ o' M' h' tk', Fr h₀ L h' m → News h₀ L h' (g o') → Wd w o' M' → (∀ k, (k < ad / 4 ∨ ad / 4 + 4 ≤ k) → M' k = M k) → Q .none { s with heap := h', toks := tk' }) :
  wpAny (model pw w) (ktrTop dp un gd cn cs L a ccd cl outer) (call (.ref 557) [.ref c.m, .int ad t1, .bytes #[5, 5, 5, 5, 5, 5, 5, 5, 5, 5, 5, 5, 5, 5, 5, 5] t2]) Q E s := by
  have hwm : (c.w, oW) ∈ news := by
    obtain ⟨pre, post, rfl, _⟩ := U.split
    exact List.mem_append_right _ (.head _)
  have hm1 := MemIn.a (S) hs
  have hm2 := MemIn.b (S) hs
  have hsz : (((#[5, 5, 5, 5, 5, 5, 5, 5, 5, 5, 5, 5, 5, 5, 5, 5] : Array UInt8).size : Nat) : Int) = 16 := rfl
  k_steps
  unfold StopHere
  rename Fr _ _ _ _ => FL
  rename News _ _ _ _ => NL
  refine store_loop (n1 := Str.ofString "size") (n2 := Str.ofString "value") (n3 := Str.ofString "octet") (n4 := Str.ofString "place") (n5 := Str.ofString "at") (M := M) (ad := ad) FL (news_drop NL) U hw rfl rfl ?_ ?_
  · intro i n pl at' h3 tk3 o3 M3 u1 u2 u3 t3 t3' hi hpl hat F3 N3 U3 hw3 k3 ih
    have km1 := MemIn.a S (hs' o3)
    have km2 := MemIn.b S (hs' o3)
    have hx := hs' o3
    clear hs hret
    have b1 : 0 ≤ pl.fdiv (2 ^ Int.toNat 2) ∧ pl.fdiv (2 ^ Int.toNat 2) < 256 := by rw [sh2]; lia
    have hpick : KBy.picked #[5, 5, 5, 5, 5, 5, 5, 5, 5, 5, 5, 5, 5, 5, 5, 5] (some at') (some (at' + 4)) = #[5, 5, 5, 5] := by
      rcases (by lia : at' = 0 ∨ at' = 4 ∨ at' = 8 ∨ at' = 12) with rfl | rfl | rfl | rfl <;> decide +kernel
    k_steps
    all_goals
      unfold StopHere
      dsimp only [WhlPost]
      rename Wd _ _ _ => hw4
      refine ih _ _ _ _ _ _ _ _ _ ?_ ?_ (by assumption) rfl rfl (fun y a b c d e => by (repeat (first | with_reducible rfl | (refine' (if_neg ?hn).trans ?_; (case hn => assumption))))) (by first | assumption | exact news_drop (by assumption)) hw4 (keptW_next k3 (by rw [sh2]; lia))
      all_goals lia
  · intro at' h3 tk3 o3 M3 u1 u2 u3 u4 t3 hat F3 N3 hw3 k3
    subst hat
    k_steps
    all_goals exact hret _ _ _ _ (by assumption) (by assumption) hw3 (fun k hk => k3 k (by lia))
theorem store16_any {ad : Int} {bs : Array UInt8} {t1 t2 : Tok}
  (B : Below A₀ base outer h₀) (F : Fr h₀ L s.heap m) (X : (KF w.params).In h₀) (N : News h₀ L s.heap news) (T : Top p loose mean mg mb h₀) (hk : cs.kind = .function) (hd : dp + 8 < recursionLimit)
  (S : MemIn c rest) (lo : (c.w == sysModules) = false) (hs : ∀ x ∈ rest, x ∈ news) (hs' : AllG rest g) (U : UpdF c.w oW news g) (hw : Wd w oW M) (h0 : 0 ≤ ad) (hh : ad ≤ 1008) (hz : ad % 16 = 0) (hb : bs = #[5, 5, 5, 5, 5, 5, 5, 5, 5, 5, 5, 5, 5, 5, 5, 5])
  (hret : ∀ o' M' h' tk', Fr h₀ L h' m → News h₀ L h' (g o') → Wd w o' M' → (∀ k, (k < ad / 4 ∨ ad / 4 + 4 ≤ k) → M' k = M k) → Q .none { s with heap := h', toks := tk' }) :
  wpAny (model pw w) (ktrTop dp un gd cn cs L a ccd cl outer) (call (.ref 557) [.ref c.m, .int ad t1, .bytes bs t2]) Q E s := by
  subst hb
  exact store16_spec B F X N T hk hd S lo hs hs' U hw h0 hh hz hret
end
end Mine

namespace Mine
section
variable {w : World} {p : Program} {loose : List Str} {mean : ExcName → Option Value} {mg mb : Str → Option Value}
  {dp un : Nat} {gd : Option (List Code)} {cn : Str} {cs : Scope} {a : Addr} {ccd : Value} {cl : List (Str × Addr)} {outer : List Env} {A₀ : Around} {base h₀ : Heap} {L : Addr} {m : Str → Option Value} {s : Shared} {Q E : Value → Shared → Prop} {news : List (Addr × Obj)}
variable {c : Ads} {oW : Obj} {M : Int → Int} {rest : Ledger} {g : Obj → Ledger}
theorem rulesN50 : True := by
  k_with_none
  k_with "H3" => repeat' (first | with_reducible assumption | exact (fun _ hZ => hZ) | (refine AllG.at ?_ _; with_reducible assumption) | refine sub_cons ?_ | refine sub_app ?_)
  k_with "H7" => first | omega | (rw [sh4]; omega) | (rw [sh10]; omega) | (rw [or_4 (by omega) (by omega)]; omega)
  k_with "H8" => first | exact binds_K (by k_in) rfl (by k_is) rfl rfl rfl | exact BindsTo.of_eq rfl
  k_with "HA" => (case k1 => k_asm); (case k2 => k_asm); (case k3 => k_asm); (case k4 => k_asm); (case k5 => k_asm); (case k6 => first | with_reducible assumption | exact rfl); (case k7 => k_room)
  k_with "HB" => (case k1 => k_asm); (case k2 => k_asm); (case k3 => k_asm); (case k4 => k_asm); (case k5 => k_asm)
  k_with "K_MEM" => first | with_reducible assumption | ktr_member | exact List.Mem.head _ | (refine List.mem_cons_of_mem _ ?_; k_mem) | (refine List.mem_append_right _ ?_; k_mem) | (refine List.mem_append_left _ ?_; with_reducible assumption)
  k_with "K_IN" => first | k_in_fast | with_reducible assumption | exact Frag.In.keeps (by with_reducible assumption) (Fr.keep (by with_reducible assumption))
  k_with "K_ROOM" => ((try simp (config := {zetaDelta := true}) only [depth_under_make, depth_under_kw, depth_in1, depth_deeper, depth_caller]); (try dsimp only [ktrTop]); (first | (refine' room0 ?rh; (case rh => assumption)) | (refine' room1 ?rh ?rk; (case rh => assumption); (case rk => exact Nat.le_of_ble_eq_true rfl)) | (refine' room2 ?rh ?rk; (case rh => assumption); (case rk => exact Nat.le_of_ble_eq_true rfl)) | (refine' room3 ?rh ?rk; (case rh => assumption); (case rk => exact Nat.le_of_ble_eq_true rfl)) | (refine' room4 ?rh ?rk; (case rh => assumption); (case rk => exact Nat.le_of_ble_eq_true rfl)) | omega))
  k_with "testChain" => first | refine test_link ?_ | refine test_last ?_
  k_with "K_ALL" => first | with_reducible assumption | (refine lt_ne ?_; with_reducible assumption)
  k_with "call ref" => (k_here; refine wpAny_call ?_; k_dflt (refine' code_defL ?k1 ?k2 ?k3 ?k4 ?k5 ?kA ?kF ?kK ?k6 ?k7 ?k8 ?k9 ?kB ?_ ?c2 ?c3 ?c4 ?c5; (case kA => exact rfl); (case kF => exact rfl); (case kK => first | assumption | exact rfl); k_extra "HB"; (case k6 => k_is); (case k7 => k_is); (case k8 => k_room); (case k9 => k_extra "H8"); (case c5 => decide); (case kB => exact locs rfl); (case c2 => exact rfl); (case c3 => exact rfl); (case c4 => exact rfl); k_whole; intro g'Z L'Z h'Z kEZ kAZ kMZ kQZ kXZ FG'Z F'Z N'Z B'Z X'Z T'Z; (try dsimp only); (try k_lift B'Z)))
  k_with "LeaveK" => (k_dflt (refine' leaveK_ ?k1 ?k2 ?_; (case k1 => k_asm); (case k2 => k_asm); k_whole); intro kFZ kNZ; (try (have kXZ := kFor kFZ (by k_asm))); (try dsimp only [PySem.W.InitBack, PySem.W.CmpBack, PySem.W.LenBack, PySem.W.StrBack, PySem.W.BoolBack]); (try refine ⟨rfl, ?_⟩); (try dsimp only [PySem.W.CmpBack, PySem.W.LenBack, PySem.W.StrBack, PySem.W.BoolBack]); (try (refine ⟨⟨by omega, by omega⟩, ?_⟩)); (try (refine handed_on rfl ?_; try dsimp only)))
  k_with "storeName" => (k_here; k_dflt ((refine' storeL ?F ?N ?_ ?a ?b; (case F => k_asm); (case N => k_asm); (case a => rfl); (case b => rfl); k_whole; intro h'Z kMZ F'Z N'Z; (try k_sweep))))
  k_with "eval Attribute Name" => (k_here; k_dflt (refine' selfAttr ?kF ?ka ?kb ?kv ?k2 ?k3 ?k4 ?k5 ?k6 ?k7 ?k8 ?k9 ?_ ?kd; (case kF => k_asm); (case ka => rfl); (case kb => rfl); (case kv => rfl); (case k2 => k_asm); (case k3 => k_inst); (case k4 => k_is); (case k5 => k_is); (case k6 => k_is); (case k7 => k_is); (case k8 => k_get); (case k9 => k_handed); (case kd => decide); k_whole))
  k_with "spliced" => (k_here; (with_reducible show wpAny _ _ (spliced (backTo _ (starEach [Expr.Name _ _] _))) _ _ _); k_dflt (refine' argN1 ?kF ?ka ?kb ?kv ?_ ?kd; (case kF => k_asm); (case ka => rfl); (case kb => rfl); (case kv => rfl); (case kd => decide); k_whole))
  k_with "spliced" => (k_here; (with_reducible show wpAny _ _ (spliced (backTo _ (starEach (Expr.Name _ _ :: _ :: _) _))) _ _ _); k_dflt (refine' argN ?kF ?ka ?kb ?kv ?_ ?kd; (case kF => k_asm); (case ka => rfl); (case kb => rfl); (case kv => rfl); (case kd => decide); k_whole))
  k_with "K_UPDF" => first | with_reducible assumption | (refine' updF_cons ?kua ?kub; (case kua => assumption); (case kub => k_updF)) | (refine' updF_allLt ?kua ?kub; (case kua => assumption); (case kub => k_updF)) | (refine' updF_ne ?kua ?kub; (case kua => assumption); (case kub => k_updF)) | (refine' updF_app ?kua ?kub; (case kua => assumption); (case kub => k_updF)) | (refine' updF_old ?kua ?kuc ?kub; (case kua => assumption); (case kuc => k_mem); (case kub => k_updF)) | (refine' updF_im ?kua ?kuc ?kub; (case kuc => assumption); (case kua => assumption); (case kub => k_updF))
  k_with "getMethod ref" => (k_here; (with_reducible show wpAny _ _ (getMethod (Value.ref _) (Str.ofString "get") _) _ _ _); k_dflt (refine' wd_method ?k1 ?k2 ?k3 ?_; (case k1 => k_asm); (case k2 => k_mem); (case k3 => assumption)))
  k_with "getMethod ref" => (k_here; (with_reducible show wpAny _ _ (getMethod (Value.ref _) (Str.ofString "pop") _) _ _ _); k_dflt (refine' wd_methodP ?k1 ?k2 ?k3 ?_; (case k1 => k_asm); (case k2 => k_mem); (case k3 => assumption)))
  k_with "call builtin:dict.get" => (k_here; k_dflt (refine' wd_get ?k1 ?k2 ?k3 ?k4 ?_; (case k1 => k_asm); (case k2 => k_mem); (case k3 => assumption); (case k4 => assumption)); intro t'Z)
  k_with "call builtin:dict.pop" => (k_here; k_dflt (refine' wd_pop ?k1 ?k2 ?k3 ?k4 ?k5 ?_; (case k1 => k_asm); (case k2 => k_asm); (case k3 => assumption); (case k4 => assumption); (case k5 => assumption)); intro h'Z o'Z x'Z F'Z N'Z hw'Z)
  k_with "setItem ref int" => (k_here; k_dflt (refine' wd_set ?k1 ?k2 ?k3 ?k4 ?k5 ?_; (case k1 => k_asm); (case k2 => k_asm); (case k3 => assumption); (case k4 => assumption); (case k5 => assumption)); intro h'Z o'Z F'Z N'Z hw'Z)
  k_with "binaryOp LShift int int" => (k_here; (refine' lshift_int_small ?k1 ?k2 ?k3 ?_; (case k1 => decide); (case k2 => decide); (case k3 => k_extra "H7")))
  k_with "call ref" => (k_here; (with_reducible show wpAny _ _ (call (Value.ref 494) _) _ _ _); k_dflt (refine' keep_spec ?k1 ?k2 ?k3 ?k4 ?k5 ?k6 ?k7 ?k8 ?k9 ?k10 ?k11 ?k12 ?k13 ?k14 ?_; k_extra "HA"; (case k8 => assumption); (case k9 => assumption); (case k10 => k_extra "H3"); (case k11 => k_updF); (case k12 => assumption); (case k13 => exact ⟨by first | assumption | omega | decide | (rw [sh2]; omega), by first | assumption | omega | decide | (rw [sh2]; omega)⟩); (case k14 => exact ⟨by first | assumption | omega | decide, by first | assumption | omega | decide⟩)); intro o'Z h'Z tk'Z F'Z N'Z hw'Z; (try dsimp only at N'Z); k_dflt ((rename MemIn _ _ => kS'Z); (rename AllG _ _ => kG'Z); (rename UpdF _ _ _ _ => kU'Z); (have km1'Z := MemIn.a kS'Z (kG'Z o'Z)); (have km2'Z := MemIn.b kS'Z (kG'Z o'Z)); (have kU2'Z := updF_next kU'Z o'Z)); (try k_sweep))
  k_with "subscriptTail" => (k_here; (with_reducible show wpAny _ _ (subscriptTail _ (Expr.Slice none none (some _) _) (Value.bytes _ _) (Value.ref _)) _ _ _); (with_reducible rename Fr _ _ _ _ => F'Z); (with_reducible rename News _ _ _ _ => N'Z); (refine' rev5 (s := ⟨_, _, _, _, _⟩) F'Z N'Z ?hb ?_ ?hs ?ht; (case hb => first | rfl | decide +kernel); (case hs => with_unfolding_all rfl); (case ht => (intro _; with_unfolding_all rfl))); intro _ _ _ _ _)
  k_with "exec For Name Subscript cons nil" => (k_here; (rename Fr _ _ _ _ => lF'Z); (with_unfolding_all refine' For_invVF lF'Z ?k1 ?k2 ?_; (case k1 => exact rfl); (case k2 => exact rfl); k_whole))
  k_with "UnrEnd" => (refine' unrEnd_lt ?k1 ?k2 ?k3 ?_; (case k1 => assumption); (case k2 => assumption); (case k3 => first | assumption | (unfold AllLt; assumption) | (refine allLt_of ?_; assumption)))
  k_with "call builtin:min" => (k_here; (refine' min4 rfl ?h4 ?F ?N ?_; (case h4 => (simp only [bitAnd_m2]; first | omega | decide)); (case F => k_asm); (case N => k_asm)); intro t'Z h'Z tk'Z F'Z N'Z)
  k_with "subscriptTail" => (k_here; (with_reducible show wpAny _ _ (subscriptTail _ (Expr.Slice _ _ none _) (Value.bytes _ _) (Value.ref _)) _ _ _); (with_reducible rename Fr _ _ _ _ => F'Z); (with_reducible rename News _ _ _ _ => N'Z); (refine' cut5 (s := ⟨_, _, _, _, _⟩) F'Z N'Z ?hl ?hu ?hb ?_ ?hs ?ht; (case hs => with_unfolding_all rfl); (case ht => (intro _; with_unfolding_all rfl)); (case hl => constructor); (case hu => constructor); (case hb => first | assumption | decide +kernel)); intro _ _ _ _ _)
  k_with "WhlIf" => first | (refine WhlIf.yes (decide_eq_true (by first | decide | omega)) ?_) | (refine WhlIf.no (decide_eq_false (by first | decide | omega)) ?_)
  k_with "exec While Compare" => (k_here; k_dflt (refine whl_start 5 ?_); refine stop_here ?_)
  k_with "WhlPost" => refine stop_here ?_
  trivial
theorem zero16_spec {ad : Int} {t1 t2 : Tok}
  (B : Below A₀ base outer h₀) (F : Fr h₀ L s.heap m) (X : (KF w.params).In h₀) (N : News h₀ L s.heap news) (T : Top p loose mean mg mb h₀) (hk : cs.kind = .function) (hd : dp + 8 < recursionLimit)
  (S : MemIn c rest) (lo : (c.w == sysModules) = false) (hs : ∀ x ∈ rest, x ∈ news) (hs' : AllG rest g) (U : UpdF c.w oW news g) (hw : Wd w oW M) (h0 : 0 ≤ ad) (hh : ad ≤ 1008) (hz : ad % 16 = 0)
  (hret : ∀ o' h' tk', Fr h₀ L h' m → News h₀ L h' (g o') → Wd w o' (upM (upM (upM (upM M (ad / 4) 0) (ad / 4 + 1) 0) (ad / 4 + 2) 0) (ad / 4 + 3) 0) → Q .none { s with heap := h', toks := tk' }) :
  wpAny (model pw w) (ktrTop dp un gd cn cs L a ccd cl outer) (call (.ref 564) [.ref c.m, .int ad t1, .int 16 t2]) Q E s := by
  have hwm : (c.w, oW) ∈ news := by
    obtain ⟨pre, post, rfl, _⟩ := U.split
    exact List.mem_append_right _ (.head _)
  have hm1 := MemIn.a (S) hs
  have hm2 := MemIn.b (S) hs
  have hsz : ad.fdiv (2 ^ Int.toNat 2) = ad / 4 := sh2 _
  k_steps
  unfold StopHere
  rename Fr _ _ _ _ => FL
  rename News _ _ _ _ => NL
  refine zero_loop (n1 := Str.ofString "size") (n2 := Str.ofString "place") (M := M) (ad := ad) FL (news_drop NL) U hw rfl ?_ ?_
  · intro i n pl h3 tk3 o3 M3 u3 t3 hi hpl F3 N3 U3 hw3 k3 z3 ih
    have km1 := MemIn.a S (hs' o3)
    have km2 := MemIn.b S (hs' o3)
    have hx := hs' o3
    clear hs hret
    have b1 : 0 ≤ pl.fdiv (2 ^ Int.toNat 2) ∧ pl.fdiv (2 ^ Int.toNat 2) < 256 := by rw [sh2]; lia
    k_steps
    all_goals
      unfold StopHere
      dsimp only [WhlPost]
      rename Wd _ _ _ => hw4
      refine ih _ _ _ _ _ _ _ ?_ (by assumption) rfl (fun y a b => by (repeat (first | with_reducible rfl | (refine' (if_neg ?hn).trans ?_; (case hn => assumption))))) (by first | assumption | exact news_drop (by assumption)) hw4 (keptW_next k3 (by rw [sh2]; lia)) (zeroW_next z3 (by rw [sh2]; lia))
      lia
  · intro pl h3 tk3 o3 M3 u3 t3 hpl F3 N3 hw3 k3 z3
    have e := zero_four k3 z3
    subst e
    k_steps
    all_goals exact hret _ _ _ (by assumption) (by assumption) hw3
end
end Mine

namespace Mine
theorem zero_same {M : Int → Int} {a : Int} (h : ∀ j, 0 ≤ j → j < 4 → M (a + j) = 0) {M' : Int → Int} (hs : ∀ k, (k < a ∨ a + 4 ≤ k) → M' k = M k) : upM (upM (upM (upM M' a 0) (a + 1) 0) (a + 2) 0) (a + 3) 0 = M := by
  funext k
  unfold upM
  by_cases h3 : k = a + 3
  · rw [if_pos h3, h3]; exact (h 3 (by decide) (by decide)).symm
  · rw [if_neg h3]
    by_cases h2 : k = a + 2
    · rw [if_pos h2, h2]; exact (h 2 (by decide) (by decide)).symm
    · rw [if_neg h2]
      by_cases h1 : k = a + 1
      · rw [if_pos h1, h1]; exact (h 1 (by decide) (by decide)).symm
      · rw [if_neg h1]
        by_cases h0 : k = a
        · rw [if_pos h0, h0]; have := (h 0 (by decide) (by decide)).symm; rwa [Int.add_zero] at this
        · rw [if_neg h0]; exact hs k (by lia)
end Mine

namespace Mine
section
variable {w : World} {p : Program} {loose : List Str} {mean : ExcName → Option Value} {mg mb : Str → Option Value}
  {dp un : Nat} {gd : Option (List Code)} {cn : Str} {cs : Scope} {a : Addr} {ccd : Value} {cl : List (Str × Addr)} {outer : List Env} {A₀ : Around} {base h₀ : Heap} {L : Addr} {m : Str → Option Value} {s : Shared} {Q E : Value → Shared → Prop} {news : List (Addr × Obj)}
theorem rulesN70 : True := by
  k_with_none
  k_with "H10" => first | with_reducible assumption | assumption | omega
  k_with "H3" => repeat' (first | with_reducible assumption | exact (fun _ hZ => hZ) | (refine AllG.at ?_ _; with_reducible assumption) | refine sub_cons ?_ | refine sub_app ?_)
  k_with "H4" => first | assumption | (intro o''Z x''Z hx''Z; (repeat (first | exact hx''Z | refine List.mem_cons_of_mem _ ?_)))
  k_with "H7" => first | omega | (rw [sh4]; omega) | (rw [sh10]; omega) | (rw [or_4 (by omega) (by omega)]; omega)
  k_with "H8" => first | exact binds_K (by k_in) rfl (by k_is) rfl rfl rfl | exact BindsTo.of_eq rfl
  k_with "HA" => (case k1 => k_asm); (case k2 => k_asm); (case k3 => k_asm); (case k4 => k_asm); (case k5 => k_asm); (case k6 => first | with_reducible assumption | exact rfl); (case k7 => k_room)
  k_with "HB" => (case k1 => k_asm); (case k2 => k_asm); (case k3 => k_asm); (case k4 => k_asm); (case k5 => k_asm)
  k_with "K_MEM" => first | with_reducible assumption | ktr_member | exact List.Mem.head _ | (refine List.mem_cons_of_mem _ ?_; k_mem) | (refine List.mem_append_right _ ?_; k_mem) | (refine List.mem_append_left _ ?_; with_reducible assumption)
  k_with "K_IN" => first | k_in_fast | with_reducible assumption | exact Frag.In.keeps (by with_reducible assumption) (Fr.keep (by with_reducible assumption))
  k_with "K_ROOM" => ((try simp (config := {zetaDelta := true}) only [depth_under_make, depth_under_kw, depth_in1, depth_deeper, depth_caller]); (try dsimp only [ktrTop]); (first | (refine' room0 ?rh; (case rh => assumption)) | (refine' room1 ?rh ?rk; (case rh => assumption); (case rk => exact Nat.le_of_ble_eq_true rfl)) | (refine' room2 ?rh ?rk; (case rh => assumption); (case rk => exact Nat.le_of_ble_eq_true rfl)) | (refine' room3 ?rh ?rk; (case rh => assumption); (case rk => exact Nat.le_of_ble_eq_true rfl)) | (refine' room4 ?rh ?rk; (case rh => assumption); (case rk => exact Nat.le_of_ble_eq_true rfl)) | omega))
  k_with "testChain" => first | refine test_link ?_ | refine test_last ?_
  k_with "K_ALL" => first | with_reducible assumption | (refine lt_ne ?_; with_reducible assumption)
  k_with "call ref" => (k_here; refine wpAny_call ?_; k_dflt (refine' code_defL ?k1 ?k2 ?k3 ?k4 ?k5 ?kA ?kF ?kK ?k6 ?k7 ?k8 ?k9 ?kB ?_ ?c2 ?c3 ?c4 ?c5; (case kA => exact rfl); (case kF => exact rfl); (case kK => first | assumption | exact rfl); k_extra "HB"; (case k6 => k_is); (case k7 => k_is); (case k8 => k_room); (case k9 => k_extra "H8"); (case c5 => decide); (case kB => exact locs rfl); (case c2 => exact rfl); (case c3 => exact rfl); (case c4 => exact rfl); k_whole; intro g'Z L'Z h'Z kEZ kAZ kMZ kQZ kXZ FG'Z F'Z N'Z B'Z X'Z T'Z; (try dsimp only); (try k_lift B'Z)))
  k_with "LeaveK" => (k_dflt (refine' leaveK_ ?k1 ?k2 ?_; (case k1 => k_asm); (case k2 => k_asm); k_whole); intro kFZ kNZ; (try (have kXZ := kFor kFZ (by k_asm))); (try dsimp only [PySem.W.InitBack, PySem.W.CmpBack, PySem.W.LenBack, PySem.W.StrBack, PySem.W.BoolBack]); (try refine ⟨rfl, ?_⟩); (try dsimp only [PySem.W.CmpBack, PySem.W.LenBack, PySem.W.StrBack, PySem.W.BoolBack]); (try (refine ⟨⟨by omega, by omega⟩, ?_⟩)); (try (refine handed_on rfl ?_; try dsimp only)))
  k_with "storeName" => (k_here; k_dflt ((refine' storeL ?F ?N ?_ ?a ?b; (case F => k_asm); (case N => k_asm); (case a => rfl); (case b => rfl); k_whole; intro h'Z kMZ F'Z N'Z; (try k_sweep))))
  k_with "eval Attribute Name" => (k_here; k_dflt (refine' selfAttr ?kF ?ka ?kb ?kv ?k2 ?k3 ?k4 ?k5 ?k6 ?k7 ?k8 ?k9 ?_ ?kd; (case kF => k_asm); (case ka => rfl); (case kb => rfl); (case kv => rfl); (case k2 => k_asm); (case k3 => k_inst); (case k4 => k_is); (case k5 => k_is); (case k6 => k_is); (case k7 => k_is); (case k8 => k_get); (case k9 => k_handed); (case kd => decide); k_whole))
  k_with "spliced" => (k_here; (with_reducible show wpAny _ _ (spliced (backTo _ (starEach [Expr.Name _ _] _))) _ _ _); k_dflt (refine' argN1 ?kF ?ka ?kb ?kv ?_ ?kd; (case kF => k_asm); (case ka => rfl); (case kb => rfl); (case kv => rfl); (case kd => decide); k_whole))
  k_with "spliced" => (k_here; (with_reducible show wpAny _ _ (spliced (backTo _ (starEach (Expr.Name _ _ :: _ :: _) _))) _ _ _); k_dflt (refine' argN ?kF ?ka ?kb ?kv ?_ ?kd; (case kF => k_asm); (case ka => rfl); (case kb => rfl); (case kv => rfl); (case kd => decide); k_whole))
  k_with "K_UPDF" => first | with_reducible assumption | (refine' updF_cons ?kua ?kub; (case kua => assumption); (case kub => k_updF)) | (refine' updF_allLt ?kua ?kub; (case kua => assumption); (case kub => k_updF)) | (refine' updF_ne ?kua ?kub; (case kua => assumption); (case kub => k_updF)) | (refine' updF_app ?kua ?kub; (case kua => assumption); (case kub => k_updF)) | (refine' updF_old ?kua ?kuc ?kub; (case kua => assumption); (case kuc => k_mem); (case kub => k_updF)) | (refine' updF_im ?kua ?kuc ?kub; (case kuc => assumption); (case kua => assumption); (case kub => k_updF))
  k_with "getMethod ref" => (k_here; (with_reducible show wpAny _ _ (getMethod (Value.ref _) (Str.ofString "get") _) _ _ _); k_dflt (refine' wd_method ?k1 ?k2 ?k3 ?_; (case k1 => k_asm); (case k2 => k_mem); (case k3 => assumption)))
  k_with "getMethod ref" => (k_here; (with_reducible show wpAny _ _ (getMethod (Value.ref _) (Str.ofString "pop") _) _ _ _); k_dflt (refine' wd_methodP ?k1 ?k2 ?k3 ?_; (case k1 => k_asm); (case k2 => k_mem); (case k3 => assumption)))
  k_with "call builtin:dict.get" => (k_here; k_dflt (refine' wd_get ?k1 ?k2 ?k3 ?k4 ?_; (case k1 => k_asm); (case k2 => k_mem); (case k3 => assumption); (case k4 => assumption)); intro t'Z)
  k_with "call builtin:dict.pop" => (k_here; k_dflt (refine' wd_pop ?k1 ?k2 ?k3 ?k4 ?k5 ?_; (case k1 => k_asm); (case k2 => k_asm); (case k3 => assumption); (case k4 => assumption); (case k5 => assumption)); intro h'Z o'Z x'Z F'Z N'Z hw'Z)
  k_with "setItem ref int" => (k_here; k_dflt (refine' wd_set ?k1 ?k2 ?k3 ?k4 ?k5 ?_; (case k1 => k_asm); (case k2 => k_asm); (case k3 => assumption); (case k4 => assumption); (case k5 => assumption)); intro h'Z o'Z F'Z N'Z hw'Z)
  k_with "binaryOp LShift int int" => (k_here; (refine' lshift_int_small ?k1 ?k2 ?k3 ?_; (case k1 => decide); (case k2 => decide); (case k3 => k_extra "H7")))
  k_with "call ref" => (k_here; (with_reducible show wpAny _ _ (call (Value.ref 557) _) _ _ _); k_dflt (refine' store16_any ?k1 ?k2 ?k3 ?k4 ?k5 ?k6 ?k7 ?k8 ?k9 ?k10 ?k11 ?k12 ?k13 ?k14 ?k15 ?k16 ?k17 ?_; k_extra "HA"; (case k12 => k_updF); (case k8 => assumption); (case k9 => assumption); (case k10 => k_extra "H3"); (case k11 => k_extra "H4"); (case k13 => assumption); (case k14 => k_extra "H10"); (case k15 => k_extra "H10"); (case k16 => k_extra "H10"); (case k17 => first | rfl | decide +kernel)); intro oW2Z M2Z h'Z tk'Z F'Z N'Z hw2Z hM2Z; (try dsimp only at N'Z); (try k_lt lts); (try k_sweep))
  k_with "call ref" => (k_here; (with_reducible show wpAny _ _ (call (Value.ref 564) _) _ _ _); k_dflt (refine' zero16_spec ?k1 ?k2 ?k3 ?k4 ?k5 ?k6 ?k7 ?k8 ?k9 ?k10 ?k11 ?k12 ?k13 ?k14 ?k15 ?k16 ?_; k_extra "HA"; (case k12 => k_updF); (case k8 => assumption); (case k9 => assumption); (case k10 => k_extra "H3"); (case k11 => k_extra "H4"); (case k13 => assumption); (case k14 => k_extra "H10"); (case k15 => k_extra "H10"); (case k16 => k_extra "H10")); intro oW2Z h'Z tk'Z F'Z N'Z hw2Z; (try dsimp only at N'Z); (try k_lt lts); (try k_sweep))
  k_with "setItem ref int" => (k_here; k_dflt (refine' hd_set ?k1 ?k2 ?k3 ?k4 ?k5 ?_; (case k1 => k_asm); (case k2 => k_asm); (case k4 => assumption); (case k3 => k_updF); (case k5 => assumption)); intro h'Z o'Z F'Z N'Z hH'Z)
  trivial
theorem pool_set {A : Around} {c : Ads} {x : Nat} {u v : Int} {tv : Tok} {Q : Unit → Shared → Prop} {news' : List (Addr × Obj)} (F : Fr h₀ L s.heap m) (X : (KF w.params).In h₀) (N : News h₀ L s.heap news) (hp : (c.p, instObj 834 c.pD) ∈ news) (hm : (c.pD, dictOf (poolE c x u) 8) ∈ news)
    (U : Upd c.pD (dictOf (poolE c x u) 8) (dictOf (poolE c tv v) 8) news news') (h : ∀ h', Fr h₀ L h' m → News h₀ L h' news' → Q () { s with heap := h', toks := s.toks + 2 }) :
    wpAny (model pw w) A (setAttr (.ref c.p) (Str.ofString "untouched") (.int v tv)) Q E s :=
  set_dict (es' := poolE c tv v) (n' := 8) F X N (InstAt.of_news N hp hm) rfl (by k_is) (by k_is) (by k_is) (by k_is) rfl rfl U (by show 8 ≤ 1000; decide) h
variable {c : Ads} {oW oH oPD : Obj} {M : Int → Int} {rest : Ledger} {g : Obj → Ledger}
theorem rulesN71 : True := by
  k_with "setAttr ref" => (k_here; k_dflt (refine' pool_set ?k1 ?k2 ?k3 ?k4 ?k5 ?k6 ?_; (case k1 => k_asm); (case k2 => k_asm); (case k3 => k_asm); (case k4 => k_mem); (case k5 => k_mem); (case k6 => k_upd)); intro h'Z F'Z N'Z)
  trivial
theorem take_spec {u : Int} {u4 g1 : Nat} {n : Nat}
  (B : Below A₀ base outer h₀) (F : Fr h₀ L s.heap m) (X : (KF w.params).In h₀) (T : Top p loose mean mg mb h₀) (hk : cs.kind = .function) (hd : dp + 14 < recursionLimit)
  (N : News h₀ L s.heap ((c.w, oW) :: (c.hd, oH) :: (c.pD, dictOf (poolE c u4 u) 8) :: rest))
  (S : MemIn c rest) (lo : (c.w == sysModules) = false) (lo2 : (c.hd == sysModules) = false)
  (hp : (c.p, instObj 834 c.pD) ∈ rest) (hg : (c.g, listOf (List.toArray []) g1) ∈ rest) (hw : Wd w oW M) (hH : Hd w oH n) (hn : n ≤ 100) (hu : 0 ≤ u ∧ u < 4)
  (o1 : ∀ p ∈ rest, p.1 ≠ c.w) (o2 : ∀ p ∈ rest, p.1 ≠ c.hd) (o3 : ∀ p ∈ rest, p.1 ≠ c.pD) (o4 : @LT.lt Nat _ c.w c.pD) (o5 : @LT.lt Nat _ c.pD c.hd) (o6 : @LT.lt Nat _ c.w c.hd)
  (hret : ∀ oW' oH' M' t h' tk' u4', Fr h₀ L h' m → News h₀ L h' ((c.w, oW') :: (c.hd, oH') :: (c.pD, dictOf (poolE c u4' (u + 1)) 8) :: rest) → Wd w oW' M' → (∀ k, (k < 224 + 4 * u ∨ 224 + 4 * u + 4 ≤ k) → M' k = M k) → Hd w oH' (n + 1) → Q (.int (896 + u * 16) t) { s with heap := h', toks := tk' }) :
  wpAny (model pw w) (ktrTop dp un gd cn cs L a ccd cl outer) (call (.ref 789) [.ref c.p]) Q E s := by
  have S' := S
  have hm1 := MemIn.a (S') (fun _ h => h)
  have hm2 := MemIn.b (S') (fun _ h => h)
  k_steps
  all_goals
    have hM2 := ‹∀ k : Int, (k < (896 + u * 16) / 4 ∨ (896 + u * 16) / 4 + 4 ≤ k) → _ = M k›
    refine' hret _ _ _ _ _ _ _ ?F ?N ?W ?K ?H
    case F => assumption
    case W => assumption
    case K => exact (fun k hk => hM2 k (by lia))
    case N =>
      first
        | assumption
        | exact news_drop (by assumption)
        | exact news_drop (news_drop (by assumption))
    case H => assumption
end
end Mine

namespace Mine
section
variable {w : World} {p : Program} {loose : List Str} {mean : ExcName → Option Value} {mg mb : Str → Option Value}
  {dp un : Nat} {gd : Option (List Code)} {cn : Str} {cs : Scope} {a : Addr} {ccd : Value} {cl : List (Str × Addr)} {outer : List Env} {A₀ : Around} {base h₀ : Heap} {L : Addr} {m : Str → Option Value} {s : Shared} {Q E : Value → Shared → Prop} {news : List (Addr × Obj)}
variable {c : Ads} {oW oH oPD : Obj} {M : Int → Int} {rest : Ledger} {g : Obj → Ledger}
theorem rulesN80 : True := by
  k_with "H13" => first | with_reducible assumption | exact rfl
  k_with "call ref" => (k_here; (with_reducible show wpAny _ _ (call (Value.ref 789) _) _ _ _); k_dflt (refine' take_spec ?k1 ?k2 ?k3 ?k4 ?k5 ?k6 ?k7 ?k8 ?k9 ?k10 ?k11 ?k12 ?k13 ?k14 ?k15 ?k16 ?k17 ?k18 ?k19 ?k20 ?k21 ?k22 ?_; (case k1 => k_asm); (case k2 => k_asm); (case k3 => k_asm); (case k4 => k_asm); (case k5 => k_extra "H13"); (case k6 => k_room); (case k7 => k_asm); (case k8 => assumption); (case k9 => assumption); (case k10 => assumption); (case k11 => assumption); (case k12 => assumption); (case k13 => assumption); (case k14 => assumption); (case k15 => first | assumption | omega); (case k16 => first | (exact ⟨by omega, by omega⟩) | assumption | omega); (case k17 => assumption); (case k18 => assumption); (case k19 => assumption); (case k20 => assumption); (case k21 => assumption); (case k22 => assumption)); intro oW2Z oH2Z M2Z t'Z h'Z tk'Z u4'Z F'Z N'Z hw2Z hM2Z hH2Z; (try k_sweep))
  trivial
theorem newtable_spec {u : Int} {u4 g1 : Nat} {n : Nat}
  (B : Below A₀ base outer h₀) (F : Fr h₀ L s.heap m) (X : (KF w.params).In h₀) (T : Top p loose mean mg mb h₀) (hk : cs.kind = .function) (hd : dp + 16 < recursionLimit)
  (N : News h₀ L s.heap ((c.w, oW) :: (c.hd, oH) :: (c.pD, dictOf (poolE c u4 u) 8) :: rest))
  (S : MemIn c rest) (SL : LayIn c rest) (ST : TabIn c rest) (lo : (c.w == sysModules) = false) (lo2 : (c.hd == sysModules) = false)
  (hp : (c.p, instObj 834 c.pD) ∈ rest) (hg : (c.g, listOf (List.toArray []) g1) ∈ rest) (hw : Wd w oW M) (hH : Hd w oH n) (hn : n ≤ 100) (hu : 0 ≤ u ∧ u < 4)
  (o1 : ∀ p ∈ rest, p.1 ≠ c.w) (o2 : ∀ p ∈ rest, p.1 ≠ c.hd) (o3 : ∀ p ∈ rest, p.1 ≠ c.pD) (o4 : @LT.lt Nat _ c.w c.pD) (o5 : @LT.lt Nat _ c.pD c.hd) (o6 : @LT.lt Nat _ c.w c.hd)
  (hM : ∀ j, 0 ≤ j → j < 4 → M (224 + 4 * u + j) = 0)
  (hret : ∀ oW' oH' t h' tk' u4', Fr h₀ L h' m → News h₀ L h' ((c.w, oW') :: (c.hd, oH') :: (c.pD, dictOf (poolE c u4' (u + 1)) 8) :: rest) → Wd w oW' M → Hd w oH' (n + 1) → Q (.int (896 + u * 16) t) { s with heap := h', toks := tk' }) :
  wpAny (model pw w) (ktrTop dp un gd cn cs L a ccd cl outer) (call (.ref 291) [.ref c.t]) Q E s := by
  have S' := S
  have hm1 := MemIn.a (S') (fun _ h => h)
  have hm2 := MemIn.b (S') (fun _ h => h)
  have hl1 := LayIn.a (SL) (fun _ h => h)
  have hl2 := LayIn.b (SL) (fun _ h => h)
  have ht1 := TabIn.a (ST) (fun _ h => h)
  have ht2 := TabIn.b (ST) (fun _ h => h)
  k_steps
  all_goals
    have hM2 := ‹∀ k : Int, (k < 224 + 4 * u ∨ 224 + 4 * u + 4 ≤ k) → _ = M k›
    have e := zero_same (M := M) (a := (896 + u * 16) / 4) (fun j a b => by rw [show (896 + u * 16) / 4 + j = 224 + 4 * u + j by lia]; exact hM j a b) (fun k hk => hM2 k (by lia))
    refine' hret _ _ _ _ _ _ ?F ?N ?W ?H
    case F => assumption
    case N => assumption
    case W => exact e ▸ ‹Wd w _ (upM _ _ _)›
    case H => assumption
theorem newtable1_spec {u : Int} {u4 g1 : Nat} {n : Nat} {T' : Addr} {oT : Obj}
  (B : Below A₀ base outer h₀) (F : Fr h₀ L s.heap m) (X : (KF w.params).In h₀) (T : Top p loose mean mg mb h₀) (hk : cs.kind = .function) (hd : dp + 16 < recursionLimit)
  (N : News h₀ L s.heap ((T', oT) :: (c.w, oW) :: (c.hd, oH) :: (c.pD, dictOf (poolE c u4 u) 8) :: rest))
  (lT : @LT.lt Nat _ c.w T' ∧ @LT.lt Nat _ c.hd T' ∧ @LT.lt Nat _ c.pD T' ∧ AllLt T' rest) (S : MemIn c rest) (SL : LayIn c rest) (ST : TabIn c rest) (lo : (c.w == sysModules) = false) (lo2 : (c.hd == sysModules) = false)
  (hp : (c.p, instObj 834 c.pD) ∈ rest) (hg : (c.g, listOf (List.toArray []) g1) ∈ rest) (hw : Wd w oW M) (hH : Hd w oH n) (hn : n ≤ 100) (hu : 0 ≤ u ∧ u < 4)
  (o1 : ∀ p ∈ rest, p.1 ≠ c.w) (o2 : ∀ p ∈ rest, p.1 ≠ c.hd) (o3 : ∀ p ∈ rest, p.1 ≠ c.pD) (o4 : @LT.lt Nat _ c.w c.pD) (o5 : @LT.lt Nat _ c.pD c.hd) (o6 : @LT.lt Nat _ c.w c.hd)
  (hM : ∀ j, 0 ≤ j → j < 4 → M (224 + 4 * u + j) = 0)
  (hret : ∀ oW' oH' t h' tk' u4', Fr h₀ L h' m → News h₀ L h' ((T', oT) :: (c.w, oW') :: (c.hd, oH') :: (c.pD, dictOf (poolE c u4' (u + 1)) 8) :: rest) → Wd w oW' M → Hd w oH' (n + 1) → Q (.int (896 + u * 16) t) { s with heap := h', toks := tk' }) :
  wpAny (model pw w) (ktrTop dp un gd cn cs L a ccd cl outer) (call (.ref 291) [.ref c.t]) Q E s := by
  have hin : ∀ {a b d e : Addr × Obj} {h : Heap}, News h₀ L h (a :: b :: d :: e :: rest) → News h₀ L h (b :: d :: e :: a :: rest) := fun N q hq => N q (by
    rcases List.mem_cons.mp hq with e | hq
    · rw [e]; exact .tail _ (.head _)
    · rcases List.mem_cons.mp hq with e | hq
      · rw [e]; exact .tail _ (.tail _ (.head _))
      · rcases List.mem_cons.mp hq with e | hq
        · rw [e]; exact .tail _ (.tail _ (.tail _ (.head _)))
        · rcases List.mem_cons.mp hq with e | hq
          · rw [e]; exact .head _
          · exact .tail _ (.tail _ (.tail _ (.tail _ hq))))
  have hout : ∀ {a b d e : Addr × Obj} {h : Heap}, News h₀ L h (b :: d :: e :: a :: rest) → News h₀ L h (a :: b :: d :: e :: rest) := fun N q hq => N q (by
    rcases List.mem_cons.mp hq with e | hq
    · rw [e]; exact .tail _ (.tail _ (.tail _ (.head _)))
    · rcases List.mem_cons.mp hq with e | hq
      · rw [e]; exact .head _
      · rcases List.mem_cons.mp hq with e | hq
        · rw [e]; exact .tail _ (.head _)
        · rcases List.mem_cons.mp hq with e | hq
          · rw [e]; exact .tail _ (.tail _ (.head _))
          · exact .tail _ (.tail _ (.tail _ (.tail _ hq))))
  have sub : ∀ x ∈ rest, x ∈ (T', oT) :: rest := fun x hx => .tail _ hx
  refine newtable_spec (rest := (T', oT) :: rest) B F X T hk hd (hin N) (S.mono sub) (SL.mono sub) (ST.mono sub) lo lo2 (sub _ hp) (sub _ hg) hw hH hn hu ?_ ?_ ?_ o4 o5 o6 hM ?_
  · exact List.forall_mem_cons.mpr ⟨Nat.ne_of_gt lT.1, o1⟩
  · exact List.forall_mem_cons.mpr ⟨Nat.ne_of_gt lT.2.1, o2⟩
  · exact List.forall_mem_cons.mpr ⟨Nat.ne_of_gt lT.2.2.1, o3⟩
  · intro oW' oH' t h' tk' u4' F' N' W' H'
    exact hret oW' oH' t h' tk' u4' F' (hout N') W' H'
end
end Mine

namespace Mine
section
variable {w : World} {p : Program} {loose : List Str} {mean : ExcName → Option Value} {mg mb : Str → Option Value}
  {dp un : Nat} {gd : Option (List Code)} {cn : Str} {cs : Scope} {a : Addr} {ccd : Value} {cl : List (Str × Addr)} {outer : List Env} {A₀ : Around} {base h₀ : Heap} {L : Addr} {m : Str → Option Value} {s : Shared} {Q E : Value → Shared → Prop} {news : List (Addr × Obj)}
variable {c : Ads} {oW : Obj} {M : Int → Int} {rest : Ledger} {g : Obj → Ledger}
theorem rulesN90 : True := by
  k_with "H1" => (intro xZ hxZ; repeat (first | with_reducible assumption | (with_reducible apply_assumption; with_reducible assumption) | (with_reducible refine List.mem_append_right _ ?_) | (with_reducible refine List.mem_cons_of_mem _ ?_)))
  k_with "HE" => (try dsimp only at N'Z); (try k_lt ltsZ); (try k_sweep)
  k_with "setItem ref int" => (k_here; k_dflt (refine' wd_set ?k1 ?k2 ?k3 ?k4 ?k5 ?_; (case k1 => k_asm); (case k2 => k_asm); (case k3 => assumption); (case k4 => assumption); (case k5 => assumption)); intro h'Z o'Z F'Z N'Z hw'Z)
  k_with "call ref" => (k_here; (with_reducible show wpAny _ _ (call (Value.ref 480) _) _ _ _); k_dflt (refine' word_spec ?k1 ?k2 ?k3 ?k4 ?k5 ?k6 ?k7 ?k8 ?k9 ?k10 ?k11 ?k12 ?k13 ?k14 ?k15 ?_; k_extra "HA"; (case k8 => assumption); (case k9 => k_extra "H1"); (case k10 => k_mem); (case k11 => assumption); (case k12 => k_extra "H10"); (case k13 => k_extra "H10"); (case k14 => k_extra "H10"); (case k15 => k_extra "H13")); intro t'Z h'Z tk'Z F'Z N'Z; (try dsimp only at N'Z); (try k_lt lts); (try k_sweep))
  k_with "call ref" => (k_here; (with_reducible show wpAny _ _ (call (Value.ref 487) _) _ _ _); k_dflt (refine' put_spec ?k1 ?k2 ?k3 ?k4 ?k5 ?k6 ?k7 ?k8 ?k9 ?k10 ?k11 ?k12 ?k13 ?k14 ?k15 ?_; k_extra "HA"; (case k8 => assumption); (case k9 => k_extra "H1"); (case k10 => k_updF); (case k11 => assumption); (case k12 => k_extra "H10"); (case k13 => k_extra "H10"); (case k14 => k_extra "H10"); (case k15 => k_extra "H10")); intro o'Z h'Z tk'Z F'Z N'Z hw'Z; (try dsimp only at N'Z); (try k_lt lts); (try k_sweep))
  k_with "call ref" => (k_here; (with_reducible show wpAny _ _ (call (Value.ref 129) _) _ _ _); k_dflt (refine' parts_spec ?k1 ?k2 ?k3 ?k4 ?k5 ?k6 ?k7 ?k8 ?k9 ?k10 ?k11 ?_; k_extra "HA"; (case k8 => assumption); (case k9 => k_extra "H1"); (case k10 => k_extra "H10"); (case k11 => k_extra "H10")); intro D'Z t1Z t2Z t3Z h'Z tk'Z F'Z ltsZ N'Z; k_extra "HE")
  k_with "call ref" => (k_here; (with_reducible show wpAny _ _ (call (Value.ref 137) _) _ _ _); k_dflt (refine' address_spec ?k1 ?k2 ?k3 ?k4 ?k5 ?k6 ?k7 ?k8 ?k9 ?k10 ?k11 ?_; k_extra "HA"; (case k8 => assumption); (case k9 => k_extra "H1"); (case k10 => k_extra "H10"); (case k11 => k_extra "H10")); intro t'Z h'Z tk'Z F'Z N'Z; (try dsimp only at N'Z); (try k_lt lts); (try k_sweep))
  k_with "call ref" => (k_here; (with_reducible show wpAny _ _ (call (Value.ref 144) _) _ _ _); k_dflt (refine' down_spec ?k1 ?k2 ?k3 ?k4 ?k5 ?k6 ?k7 ?k8 ?k9 ?k10 ?_; k_extra "HA"; (case k8 => assumption); (case k9 => k_extra "H1"); (case k10 => k_extra "H10")); intro t'Z h'Z tk'Z F'Z N'Z; (try dsimp only at N'Z); (try k_lt lts); (try k_sweep))
  k_with "call ref" => (k_here; (with_reducible show wpAny _ _ (call (Value.ref 158) _) _ _ _); k_dflt (refine' begin_spec ?k1 ?k2 ?k3 ?k4 ?k5 ?k6 ?k7 ?k8 ?k9 ?k10 ?_; k_extra "HA"; (case k8 => assumption); (case k9 => k_extra "H1"); (case k10 => k_extra "H10")); intro h'Z tk'Z F'Z N'Z; (try dsimp only at N'Z); (try k_lt lts); (try k_sweep))
  k_with "call ref" => (k_here; (with_reducible show wpAny _ _ (call (Value.ref 172) _) _ _ _); k_dflt (refine' entry_spec ?k1 ?k2 ?k3 ?k4 ?k5 ?k6 ?k7 ?k8 ?k9 ?k10 ?k11 ?k12 ?k13 ?_; k_extra "HA"; (case k8 => assumption); (case k9 => k_extra "H1"); (case k10 => k_extra "H10"); (case k11 => k_extra "H10"); (case k12 => k_extra "H10"); (case k13 => k_extra "H10")); intro t'Z h'Z tk'Z F'Z N'Z; (try dsimp only at N'Z); (try k_lt lts); (try k_sweep))
  k_with "call ref" => (k_here; (with_reducible show wpAny _ _ (call (Value.ref 179) _) _ _ _); k_dflt (refine' physical_spec ?k1 ?k2 ?k3 ?k4 ?k5 ?k6 ?k7 ?k8 ?k9 ?k10 ?k11 ?_; k_extra "HA"; (case k8 => assumption); (case k9 => k_extra "H1"); (case k10 => k_extra "H10"); (case k11 => k_extra "H13")); intro t'Z h'Z tk'Z F'Z N'Z; (try dsimp only at N'Z); (try k_lt lts); (try k_sweep))
  trivial
theorem tentry0_spec {root ad : Int} {tr ta : Tok}
  (B : Below A₀ base outer h₀) (F : Fr h₀ L s.heap m) (X : (KF w.params).In h₀) (N : News h₀ L s.heap news) (T : Top p loose mean mg mb h₀) (hk : cs.kind = .function) (hd : dp + 8 < recursionLimit)
  (S : Std c rest) (hs : ∀ x ∈ rest, x ∈ news) (hwm : (c.w, oW) ∈ news) (hw : Wd w oW M) (hr : root = 896 ∨ root = 912) (h0 : 0 ≤ ad) (hh : ad < 256)
  (he : M (root / 4 + ad / 64) = 0)
  (hret : ∀ t h' tk', Fr h₀ L h' m → News h₀ L h' news → Q (.int 0 t) { s with heap := h', toks := tk' }) :
  wpAny (model pw w) (ktrTop dp un gd cn cs L a ccd cl outer) (call (.ref 313) [.ref c.t, .int root tr, .int ad ta]) Q E s := by
  have lo := S.low
  have hm1 := MemIn.a (S.mem) hs
  have hm2 := MemIn.b (S.mem) hs
  have hl1 := LayIn.a (S.lay) hs
  have hl2 := LayIn.b (S.lay) hs
  have ht1 := TabIn.a (S.tab) hs
  have ht2 := TabIn.b (S.tab) hs
  have e1 : M ((root + 4 * (ad / 64)) / 4) = 0 := by rw [ad1e hr]; exact he
  have r1 : 896 ≤ root ∧ root ≤ 912 ∧ root % 16 = 0 := by rcases hr with rfl | rfl <;> decide
  have w0 := ad1 hr h0 hh
  have w1 := w0.1
  have w2 := w0.2.1
  have w3 := w0.2.2
  have hb0 : (Builtin.bitAnd 0 1 == 0) = true := by decide
  k_steps
  all_goals first
    | exact hret _ _ _ (by assumption) (news_drop (by assumption))
end
end Mine

namespace Mine
section
variable {w : World} {p : Program} {loose : List Str} {mean : ExcName → Option Value} {mg mb : Str → Option Value}
  {dp un : Nat} {gd : Option (List Code)} {cn : Str} {cs : Scope} {a : Addr} {ccd : Value} {cl : List (Str × Addr)} {outer : List Env} {A₀ : Around} {base h₀ : Heap} {L : Addr} {m : Str → Option Value} {s : Shared} {Q E : Value → Shared → Prop} {news : List (Addr × Obj)}

variable {c : Ads} {oW oH oPD : Obj} {M : Int → Int} {rest : Ledger} {g : Obj → Ledger}
theorem rulesNA0 : True := by
  k_with "H12" => first | assumption | exact ⟨by omega, by omega⟩
  k_with "H9" => first | assumption | exact ⟨by omega, by omega⟩ | decide
  k_with "call ref" => (k_here; (with_reducible show wpAny _ _ (call (Value.ref 291) _) _ _ _); k_dflt (refine' newtable1_spec ?k1 ?k2 ?k3 ?k4 ?k5 ?k6 ?k7 ?k8 ?k9 ?k10 ?k11 ?k12 ?k13 ?k14 ?k15 ?k16 ?k17 ?k18 ?k19 ?k20 ?k21 ?k22 ?k23 ?k24 ?k25 ?k26 ?_; (case k1 => k_asm); (case k2 => k_asm); (case k3 => k_asm); (case k4 => k_asm); (case k5 => k_extra "H13"); (case k6 => k_room); (case k7 => k_asm); (case k8 => assumption); (case k9 => assumption); (case k10 => assumption); (case k11 => assumption); (case k12 => assumption); (case k13 => assumption); (case k14 => assumption); (case k15 => assumption); (case k16 => assumption); (case k17 => assumption); (case k18 => first | assumption | omega); (case k19 => k_extra "H12"); (case k20 => assumption); (case k21 => assumption); (case k22 => assumption); (case k23 => assumption); (case k24 => assumption); (case k25 => assumption); (case k26 => first | assumption | (intro jZ hj0Z hj4Z; omega))); intro oW2Z oH2Z t'Z h'Z tk'Z u4'Z F'Z N'Z hw2Z hH2Z; (try k_sweep))
  k_with "call ref" => (k_here; (with_reducible show wpAny _ _ (call (Value.ref 480) _) _ _ _); k_dflt (refine' word_spec ?k1 ?k2 ?k3 ?k4 ?k5 ?k6 ?k7 ?k8 ?k9 ?k10 ?k11 ?k12 ?k13 ?k14 ?k15 ?_; k_extra "HA"; (case k8 => assumption); (case k9 => k_extra "H3"); (case k10 => k_mem); (case k11 => assumption); (case k12 => k_extra "H10"); (case k13 => k_extra "H10"); (case k14 => k_extra "H10"); (case k15 => k_extra "H13")); intro t'Z h'Z tk'Z F'Z N'Z; (try dsimp only at N'Z); (try k_lt lts); (try k_sweep))
  k_with "call ref" => (k_here; (with_reducible show wpAny _ _ (call (Value.ref 487) _) _ _ _); k_dflt (refine' put_spec ?k1 ?k2 ?k3 ?k4 ?k5 ?k6 ?k7 ?k8 ?k9 ?k10 ?k11 ?k12 ?k13 ?k14 ?k15 ?_; k_extra "HA"; (case k8 => assumption); (case k9 => k_extra "H3"); (case k10 => k_updF); (case k11 => assumption); (case k12 => k_extra "H10"); (case k13 => k_extra "H10"); (case k14 => k_extra "H10"); (case k15 => k_extra "H12")); intro o'Z h'Z tk'Z F'Z N'Z hw'Z; (try dsimp only at N'Z); (try k_lt lts); (try k_sweep))
  k_with "call ref" => (k_here; (with_reducible show wpAny _ _ (call (Value.ref 129) _) _ _ _); k_dflt (refine' parts_spec ?k1 ?k2 ?k3 ?k4 ?k5 ?k6 ?k7 ?k8 ?k9 ?k10 ?k11 ?_; k_extra "HA"; (case k8 => assumption); (case k9 => k_extra "H3"); (case k10 => k_extra "H10"); (case k11 => k_extra "H10")); intro D'Z t1Z t2Z t3Z h'Z tk'Z F'Z ltsZ N'Z; k_extra "HE")
  k_with "call ref" => (k_here; (with_reducible show wpAny _ _ (call (Value.ref 158) _) _ _ _); k_dflt (refine' begin_spec ?k1 ?k2 ?k3 ?k4 ?k5 ?k6 ?k7 ?k8 ?k9 ?k10 ?_; k_extra "HA"; (case k8 => assumption); (case k9 => k_extra "H3"); (case k10 => k_extra "H10")); intro h'Z tk'Z F'Z N'Z; (try dsimp only at N'Z); (try k_lt lts); (try k_sweep))
  k_with "call ref" => (k_here; (with_reducible show wpAny _ _ (call (Value.ref 172) _) _ _ _); k_dflt (refine' entry_spec ?k1 ?k2 ?k3 ?k4 ?k5 ?k6 ?k7 ?k8 ?k9 ?k10 ?k11 ?k12 ?k13 ?_; k_extra "HA"; (case k8 => assumption); (case k9 => k_extra "H3"); (case k10 => k_extra "H10"); (case k11 => k_extra "H10"); (case k12 => k_extra "H10"); (case k13 => k_extra "H9")); intro t'Z h'Z tk'Z F'Z N'Z; (try dsimp only at N'Z); (try k_lt lts); (try k_sweep))
  k_with "call ref" => (k_here; (with_reducible show wpAny _ _ (call (Value.ref 179) _) _ _ _); k_dflt (refine' physical_spec ?k1 ?k2 ?k3 ?k4 ?k5 ?k6 ?k7 ?k8 ?k9 ?k10 ?k11 ?_; k_extra "HA"; (case k8 => assumption); (case k9 => k_extra "H3"); (case k10 => k_extra "H12"); (case k11 => k_extra "H13")); intro t'Z h'Z tk'Z F'Z N'Z; (try dsimp only at N'Z); (try k_lt lts); (try k_sweep))
  trivial
theorem walkmake_spec {u f ad : Int} {ta tr : Tok} {u4 g1 : Nat} {n : Nat}
  (B : Below A₀ base outer h₀) (F : Fr h₀ L s.heap m) (X : (KF w.params).In h₀) (T : Top p loose mean mg mb h₀) (hk : cs.kind = .function) (hd : dp + 20 < recursionLimit)
  (N : News h₀ L s.heap ((c.w, oW) :: (c.hd, oH) :: (c.pD, dictOf (poolE c u4 u) 8) :: rest))
  (S : Std c rest) (lo2 : (c.hd == sysModules) = false)
  (hp : (c.p, instObj 834 c.pD) ∈ rest) (hg : (c.g, listOf (List.toArray []) g1) ∈ rest) (hw : Wd w oW M) (hH : Hd w oH n) (hn : n ≤ 100) (hu : 0 ≤ u ∧ u < 4)
  (o1 : ∀ p ∈ rest, p.1 ≠ c.w) (o2 : ∀ p ∈ rest, p.1 ≠ c.hd) (o3 : ∀ p ∈ rest, p.1 ≠ c.pD) (o4 : @LT.lt Nat _ c.w c.pD) (o5 : @LT.lt Nat _ c.pD c.hd) (o6 : @LT.lt Nat _ c.w c.hd)
  (hM : ∀ j, 0 ≤ j → j < 4 → M (224 + 4 * u + j) = 0) (had : ad = 64 * f) (hf : 0 ≤ f ∧ f < 4) (hr : M (224 + f) = 0)
  (hret : ∀ oW' oH' t h' tk' u4', Fr h₀ L h' m → News h₀ L h' ((c.w, oW') :: (c.hd, oH') :: (c.pD, dictOf (poolE c u4' (u + 1)) 8) :: rest) → Wd w oW' (upM M (224 + f) (64 * (896 + u * 16) + 1)) → Hd w oH' (n + 1) → Q (.int (896 + u * 16) t) { s with heap := h', toks := tk' }) :
  wpAny (model pw w) (ktrTop dp un gd cn cs L a ccd cl outer) (call (.ref 306) [.ref c.t, .int 896 tr, .int ad ta, .bool true]) Q E s := by
  have SM := S.mem
  have SL := S.lay
  have ST := S.tab
  have lo := S.low
  have hm1 := MemIn.a (S.mem) (fun _ h => h)
  have hm2 := MemIn.b (S.mem) (fun _ h => h)
  have hl1 := LayIn.a (S.lay) (fun _ h => h)
  have hl2 := LayIn.b (S.lay) (fun _ h => h)
  have ht1 := TabIn.a (S.tab) (fun _ h => h)
  have ht2 := TabIn.b (S.tab) (fun _ h => h)
  have e0 : (896 + 4 * (ad / 64)) / 4 = 224 + f := na2 had
  have p0 := na1 had hf
  have p1 := p0.1
  have p2 := p0.2
  have p3 := ad1 (root := 896) (.inl rfl) p1 p2
  have p4 := p3.1
  have p5 := p3.2.1
  have p6 := p3.2.2
  have q0 := na4 hu
  have q1 := q0.1
  have q2 := q0.2.1
  have q3 := q0.2.2
  have q4 := na5 hu
  have q5 := q4.1
  have q6 := q4.2
  have q7 := Int.lt_trans q6 (show (4294967296 : Int) < 1099511627776 by decide)
  have q8 : (0 : Int) ≤ 1 := by decide
  have q9 : (1 : Int) < 1024 := by decide
  have e1 : M ((896 + 4 * (ad / 64)) / 4) = 0 := by rw [e0]; exact hr
  have hb0 : (Builtin.bitAnd 0 1 == 0) = true := by decide
  have hph : 16 * ((64 * (896 + u * 16) + 1) / 1024) = 896 + u * 16 := na6
  have e2 : 896 + u * 16 + 4 * (ad / 16 % 4) = 896 + u * 16 := na3 had
  k_steps
  all_goals
    rw [e2]
    refine' hret _ _ _ _ _ _ ?F ?N ?W ?H
    case F => assumption
    case N => exact news_drop (by assumption)
    case W => rw [← e0]; assumption
    case H => assumption
end
end Mine

namespace Mine
section
variable {w : World} {p : Program} {loose : List Str} {mean : ExcName → Option Value} {mg mb : Str → Option Value}
  {dp un : Nat} {gd : Option (List Code)} {cn : Str} {cs : Scope} {a : Addr} {ccd : Value} {cl : List (Str × Addr)} {outer : List Env} {A₀ : Around} {base h₀ : Heap} {L : Addr} {m : Str → Option Value} {s : Shared} {Q E : Value → Shared → Prop} {news : List (Addr × Obj)}
variable {c : Ads} {oW oH oPD : Obj} {M : Int → Int} {rest : Ledger} {g : Obj → Ledger}
theorem rulesNB0 : True := by
  k_with "H14" => first | exact .tail _ (.head _) | k_mem
  k_with "H15" => first | exact kts52 _ | exact kts103 _
  k_with "getMethod type:ValueError" => (k_here; refine' method_type ?F ?X ?m (by decide +kernel) ?e ?h ?_; (case F => k_asm); (case X => k_asm); (case m => exact meta_vErr); (case e => k_dflt k_is); (case h => k_handed))
  k_with "call builtin:ValueError.__init__" => (k_here; k_dflt (refine' xc_init (D := 39) ?k1 ?k2 ?k3 ?k4 ?k5 ?k6 ?k7 ?k8 ?_; (case k1 => k_asm); (case k2 => k_asm); (case k3 => k_asm); (case k4 => k_all); (case k5 => k_is); (case k6 => exact rfl); (case k7 => exact rfl); (case k8 => exact Nat.le_of_ble_eq_true rfl)); intro h'Z t'Z F'Z N'Z; (try k_sweep))
  k_with "setAttr ref" => (k_here; k_dflt (refine' xc_set_new (D := 39) ?k1 ?k2 ?k3 ?k4 ?k5 ?k6 ?k7 ?k8 ?k9 ?_; (case k1 => k_asm); (case k2 => k_asm); (case k3 => k_asm); (case k4 => k_all); (case k5 => k_is); (case k6 => k_is); (case k7 => exact rfl); (case k8 => exact rfl); (case k9 => k_is)); intro h'Z d'Z F'Z l1Z l2Z N'Z; (try k_sweep))
  k_with "setAttr ref" => (k_here; k_dflt (refine' xc_set_more (D := 39) ?k1 ?k2 ?k3 ?k4 ?k5 ?k6 ?k7 ?k8 ?k9 ?k10 ?k11 ?k12 ?k13 ?k14 ?_; (case k1 => k_asm); (case k2 => k_asm); (case k3 => k_asm); (case k4 => k_extra "H14"); (case k5 => first | exact .head _ | k_mem); (case k6 => k_is); (case k7 => k_is); (case k8 => exact rfl); (case k9 => exact rfl); (case k10 => k_is); (case k11 => exact rfl); (case k12 => k_put); (case k13 => k_upd); (case k14 => exact Nat.le_of_ble_eq_true rfl)); intro h'Z F'Z N'Z; (try k_sweep))
  k_with "exec Raise some none" => (k_here; (with_reducible show wpAny _ _ (exec (Stmt.Raise (some (Expr.Call (Expr.Name ("BadArgument" : Str) _) _ _ _)) none _) _) _ _ _); refine raise_thr 52 rfl ?_)
  k_with "exec Raise some none" => (k_here; (with_reducible show wpAny _ _ (exec (Stmt.Raise (some (Expr.Call (Expr.Name ("Trap" : Str) _) _ _ _)) none _) _) _ _ _); refine raise_thr 103 rfl ?_)
  k_with "call ref" => (k_here; (with_reducible show wpAny _ _ (call (Value.ref 52) _) _ _ _); k_dflt (refine' bad_spec ?k1 ?k2 ?k3 ?k4 ?k5 ?k6 ?k7 ?_; k_extra "HB"; (case k6 => first | assumption | exact rfl); (case k7 => k_room)); intro e'Z d'Z t'Z u'Z h'Z tk'Z F'Z l1Z l2Z l3Z N'Z; (try k_sweep))
  k_with "call ref" => (k_here; (with_reducible show wpAny _ _ (call (Value.ref 103) _) _ _ _); k_dflt (refine' trap_spec ?k1 ?k2 ?k3 ?k4 ?k5 ?k6 ?k7 ?k8 ?k9 ?k10 ?k11 ?_; k_extra "HB"; (case k6 => first | assumption | exact rfl); (case k7 => k_room); (case k8 => first | assumption | decide); (case k9 => first | assumption | decide); (case k10 => assumption); (case k11 => assumption)); intro e'Z d'Z t'Z es'Z h'Z tk'Z F'Z l1Z l2Z l3Z N'Z g1Z g2Z; (try k_sweep))
  k_with "Thr ref" => (k_here; k_dflt (refine' thr_in ?k1 ?k2 ?k3 ?k4 ?k5 ?_; (case k1 => k_asm); (case k2 => k_asm); (case k3 => k_asm); (case k4 => exact .head _); (case k5 => k_extra "H15")))
  k_with "leaving ref" => (k_here; k_dflt (refine' leave_raiseD ?k1 ?k2 ?k3 ?k4 ?k5 ?_; (case k1 => k_asm); (case k2 => k_asm); (case k3 => k_asm); (case k4 => k_all); (case k5 => exact rfl)); intro h'Z rDZ smZ)
  k_with "leaving ref" => (k_here; k_dflt (refine' leave_onD ?k1 ?k2 ?k3 ?k4 ?_; (case k1 => k_asm); (case k3 => assumption); (case k2 => assumption); (case k4 => assumption)); intro h'Z rDZ smZ)
  k_with "call ref" => (k_here; (with_reducible show wpAny _ _ (call (Value.ref 327) _) _ _ _); k_dflt (refine' need_flags_spec ?k1 ?k2 ?k3 ?k4 ?k5 ?k6 ?k7 (fun h'Z tk'Z hcZ F'Z N'Z => ?_) (fun GZ e'Z d'Z es'Z h'Z tk'Z hcZ FGZ smZ rDZ => ?_); k_extra "HA"); all_goals (try k_sweep))
  k_with "call ref" => (k_here; (with_reducible show wpAny _ _ (call (Value.ref 313) _) _ _ _); k_dflt (refine' tentry0_spec ?k1 ?k2 ?k3 ?k4 ?k5 ?k6 ?k7 ?k8 ?k9 ?k10 ?k11 ?k12 ?k13 ?k14 ?k15 ?_; k_extra "HA"; (case k8 => assumption); (case k9 => k_extra "H3"); (case k10 => k_mem); (case k11 => assumption); (case k12 => first | assumption | exact .inl rfl); (case k13 => k_extra "H10"); (case k14 => k_extra "H10"); (case k15 => assumption)); intro t'Z h'Z tk'Z F'Z N'Z; (try dsimp only at N'Z); (try k_lt lts); (try k_sweep))
  k_with "call ref" => (k_here; (with_reducible show wpAny _ _ (call (Value.ref 306) _) _ _ _); k_dflt (refine' walkmake_spec ?k1 ?k2 ?k3 ?k4 ?k5 ?k6 ?k7 ?k8 ?k9 ?k10 ?k11 ?k12 ?k13 ?k14 ?k15 ?k16 ?k17 ?k18 ?k19 ?k20 ?k21 ?k22 ?k23 ?k24 ?k25 ?_; (case k1 => k_asm); (case k2 => k_asm); (case k3 => k_asm); (case k4 => k_asm); (case k5 => k_extra "H13"); (case k6 => k_room); (case k7 => k_asm); (case k8 => assumption); (case k9 => assumption); (case k10 => assumption); (case k11 => assumption); (case k12 => assumption); (case k13 => assumption); (case k14 => first | assumption | omega); (case k15 => k_extra "H12"); (case k16 => assumption); (case k17 => assumption); (case k18 => assumption); (case k19 => assumption); (case k20 => assumption); (case k21 => assumption); (case k22 => first | assumption | (intro jZ hj0Z hj4Z; omega)); (case k23 => assumption); (case k24 => assumption); (case k25 => assumption)); intro oW2Z oH2Z t'Z h'Z tk'Z u4'Z F'Z N'Z hw2Z hH2Z; (try k_sweep))
  trivial
theorem map0_spec {u f ad ph : Int} {ta tr ta1 ta2 : Tok} {u4 g1 : Nat} {n : Nat}
  (B : Below A₀ base outer h₀) (F : Fr h₀ L s.heap m) (X : (KF w.params).In h₀) (T : Top p loose mean mg mb h₀) (hk : cs.kind = .function) (hd : dp + 24 < recursionLimit)
  (N : News h₀ L s.heap ((c.w, oW) :: (c.hd, oH) :: (c.pD, dictOf (poolE c u4 u) 8) :: rest))
  (S : Std c rest) (lo2 : (c.hd == sysModules) = false)
  (hp : (c.p, instObj 834 c.pD) ∈ rest) (hg : (c.g, listOf (List.toArray []) g1) ∈ rest) (hw : Wd w oW M) (hH : Hd w oH n) (hn : n ≤ 100) (hu : 0 ≤ u ∧ u < 4)
  (o1 : ∀ p ∈ rest, p.1 ≠ c.w) (o2 : ∀ p ∈ rest, p.1 ≠ c.hd) (o3 : ∀ p ∈ rest, p.1 ≠ c.pD) (o4 : @LT.lt Nat _ c.w c.pD) (o5 : @LT.lt Nat _ c.pD c.hd) (o6 : @LT.lt Nat _ c.w c.hd)
  (hM : ∀ j, 0 ≤ j → j < 4 → M (224 + 4 * u + j) = 0) (had : ad = 64 * f) (hf : 0 ≤ f ∧ f < 4) (hr : M (224 + f) = 0) (hph0 : 0 ≤ ph ∧ ph < 1000) (hphz : ph % 16 = 0)
  (hret : ∀ oW' oH' h' tk' u4', Fr h₀ L h' m → News h₀ L h' ((c.w, oW') :: (c.hd, oH') :: (c.pD, dictOf (poolE c u4' (u + 1)) 8) :: rest) → Wd w oW' (upM (upM M (224 + f) (64 * (896 + u * 16) + 1)) (224 + 4 * u) (64 * ph + 23)) → Hd w oH' (n + 1) → Q .none { s with heap := h', toks := tk' }) :
  wpAny (model pw w) (ktrTop dp un gd cn cs L a ccd cl outer) (call (.ref 334) [.ref c.t, .int 896 tr, .int ad ta, .int ph ta1, .int 22 ta2]) Q E s := by
  have lo := S.low
  have hm1 := MemIn.a (S.mem) (fun _ h => h)
  have hm2 := MemIn.b (S.mem) (fun _ h => h)
  have hl1 := LayIn.a (S.lay) (fun _ h => h)
  have hl2 := LayIn.b (S.lay) (fun _ h => h)
  have ht1 := TabIn.a (S.tab) (fun _ h => h)
  have ht2 := TabIn.b (S.tab) (fun _ h => h)
  have hfl : flOk 22 := ⟨by decide, by decide, by decide⟩
  have e1 : M (896 / 4 + ad / 64) = 0 := by rw [show 896 / 4 + ad / 64 = 224 + f by lia]; exact hr
  have hz : ad % 16 = 0 := by lia
  have hb : 0 ≤ Builtin.bitOr 22 1 ∧ Builtin.bitOr 22 1 < 1024 := by decide
  have hb2 : 0 ≤ 64 * ph + Builtin.bitOr 22 1 ∧ 64 * ph + Builtin.bitOr 22 1 < 4294967296 := by
    rw [show Builtin.bitOr 22 1 = 23 by decide]; lia
  k_steps
  all_goals first
    | exact absurd hfl (by assumption)
    | (refine' hret _ _ _ _ _ ?F ?N ?W ?H
       case F => assumption
       case N => assumption
       case W =>
         have z1 : (896 + u * 16) / 4 = 224 + 4 * u := by lia
         have z2 : Builtin.bitOr 22 1 = 23 := by decide
         rw [← z1, ← z2]
         assumption
       case H => assumption)
end
end Mine

namespace Mine
noncomputable def fnB : Stmt → List Stmt
  | .FunctionDef _ _ b _ _ _ _ _ _ _ => b
  | _ => []
noncomputable def fnS : Stmt → Scope
  | .FunctionDef _ _ _ _ _ _ sc _ _ _ => sc
  | _ => default
noncomputable def forB : Option Stmt → List Stmt
  | some (.For _ _ b _ _) => b
  | _ => []
noncomputable abbrev envL (L a : Addr) (cd : Value) : Env := envOf (Str.ofString "law") (fnS (st 56)) L a cd
/-- the words behind the first loop's turns -/
noncomputable def Mst (g0 g1 : Int) : Nat → Int → Int
  | 0 => fun _ => 0
  | i + 1 => upM (upM (upM (Mst g0 g1 i) (224 + (i : Int)) (1024 * (58 + (i : Int)) + 1)) (232 + 4 * (i : Int)) (1024 * (i : Int) + 23)) (228 + (if (i : Int) = 0 then g0 else g1)) (1024 * (58 + (i : Int)) + 1)
noncomputable def dst : Nat → Own
  | 0 => []
  | 1 => [((0, 0), (0, 23))]
  | _ => [((0, 0), (0, 23)), ((1, 0), (16, 23))]
theorem mst_root {g0 g1 : Int} {i : Nat} (hi : i < 2) (h0 : 0 ≤ g0 ∧ g0 < 4) (h1 : 0 ≤ g1 ∧ g1 < 4) : Mst g0 g1 i (224 + (i : Int)) = 0 := by
  rcases (by lia : i = 0 ∨ i = 1) with rfl | rfl
  · rfl
  · show (if _ = 228 + g0 then _ else if _ = (232 : Int) + 4 * 0 then _ else if _ = (224 : Int) + 0 then _ else (0 : Int)) = 0
    have z1 : ((1 : Nat) : Int) = 1 := rfl
    rw [if_neg (by lia), if_neg (by lia), if_neg (by lia)]
theorem mst_tab {g0 g1 : Int} {i : Nat} (hi : i < 2) (h0 : 0 ≤ g0 ∧ g0 < 4) (h1 : 0 ≤ g1 ∧ g1 < 4) : ∀ j, 0 ≤ j → j < 4 → Mst g0 g1 i (224 + 4 * (2 + (i : Int)) + j) = 0 := by
  intro j j0 j1
  rcases (by lia : i = 0 ∨ i = 1) with rfl | rfl
  · rfl
  · show (if _ = 228 + g0 then _ else if _ = (232 : Int) + 4 * 0 then _ else if _ = (224 : Int) + 0 then _ else (0 : Int)) = 0
    have z1 : ((1 : Nat) : Int) = 1 := rfl
    rw [if_neg (by lia), if_neg (by lia), if_neg (by lia)]
theorem mst_word {M : Int → Int} {i : Nat} (hi : i < 2) : upM (upM M (224 + (i : Int)) (64 * (896 + (2 + (i : Int)) * 16) + 1)) (224 + 4 * (2 + (i : Int))) (64 * (16 * (i : Int)) + 23) ((896 + 4 * (i : Int)) / 4) = 1024 * (58 + (i : Int)) + 1 := by
  unfold upM
  rw [if_neg (by lia), if_pos (by lia)]
  lia
theorem mst_next {g0 g1 : Int} {i : Nat} : upM (upM (upM (Mst g0 g1 i) (224 + (i : Int)) (64 * (896 + (2 + (i : Int)) * 16) + 1)) (224 + 4 * (2 + (i : Int))) (64 * (16 * (i : Int)) + 23)) ((912 + 4 * (if (i : Int) = 0 then g0 else g1)) / 4) (1024 * (58 + (i : Int)) + 1) = Mst g0 g1 (i + 1) := by
  show _ = upM (upM (upM (Mst g0 g1 i) (224 + (i : Int)) (1024 * (58 + (i : Int)) + 1)) (232 + 4 * (i : Int)) (1024 * (i : Int) + 23)) (228 + (if (i : Int) = 0 then g0 else g1)) (1024 * (58 + (i : Int)) + 1)
  rw [show 64 * (896 + (2 + (i : Int)) * 16) + 1 = 1024 * (58 + (i : Int)) + 1 by lia, show 224 + 4 * (2 + (i : Int)) = 232 + 4 * (i : Int) by lia, show 64 * (16 * (i : Int)) + 23 = 1024 * (i : Int) + 23 by lia, show (912 + 4 * (if (i : Int) = 0 then g0 else g1)) / 4 = 228 + (if (i : Int) = 0 then g0 else g1) by lia]
theorem dst_next {i : Nat} (hi : i < 2) : put (dst i) ((i : Int), 0) (16 * (i : Int), 23) = dst (i + 1) := by
  rcases (by lia : i = 0 ∨ i = 1) with rfl | rfl
  · rfl
  · decide
theorem dst_len {i : Nat} : (dst i).length ≤ 2 := by
  match i with
  | 0 => decide
  | 1 => decide
  | _ + 2 => exact Nat.le_refl 2
theorem form1 {m m₀ : Str → Option Value} {x : Str} {v : Option Value} (h : ∀ y, y ≠ x → m y = m₀ y) : (fun y => if y = x then v else m y) = fun y => if y = x then v else m₀ y := by
  funext y
  by_cases h1 : y = x
  · simp [h1]
  · simp [h1, h y h1]
theorem form1' {m m₀ : Str → Option Value} {x : Str} (h : ∀ y, y ≠ x → m y = m₀ y) : m = fun y => if y = x then m x else m₀ y := by
  funext y
  by_cases h1 : y = x
  · simp [h1]
  · simp [h1, h y h1]
end Mine

namespace Mine
/-- what holds ahead of each turn of the first loop -/
inductive Inv3 (w : World) (c : Ads) (D : Addr) (rest : Ledger) (g0 g1 : Int) (m₀ : Str → Option Value) (i : Nat) (m : Str → Option Value) (nx : Ledger) : Prop
  | mk (oW oH : Obj) (u4 : Nat) (oD : Obj) (tl : Ledger) (e : nx = (c.w, oW) :: (c.hd, oH) :: (c.pD, dictOf (poolE c u4 (2 + (i : Int))) 8) :: (D, oD) :: (tl ++ rest)) (ht : ∀ p ∈ tl, @LT.lt Nat _ D p.1) (hta : TupAll tl)
    (hw : Wd w oW (Mst g0 g1 i)) (hH : Hd w oH (2 + i)) (W : Ow w tl oD (dst i)) (hm : ∀ y, y ≠ Str.ofString "first" → m y = m₀ y)
theorem ow_app {w : World} {a b : Addr × Obj} {tl : Ledger} {o : Obj} {ds : Own} (W : Ow w (a :: b :: tl) o ds) : Ow w (a :: b :: tl) o ds := W
section
variable {w : World} {p : Program} {loose : List Str} {mean : ExcName → Option Value} {mg mb : Str → Option Value}
  {dp un : Nat} {gd : Option (List Code)} {cn : Str} {cs : Scope} {a : Addr} {ccd : Value} {cl : List (Str × Addr)} {outer : List Env} {A₀ : Around} {base h₀ : Heap} {L : Addr} {m : Str → Option Value} {s : Shared} {Q E : Value → Shared → Prop} {news : List (Addr × Obj)}
variable {c : Ads} {oW oH oD : Obj} {rest : Ledger} {cd : Value} {mk RT GT G0 G1 D : Addr} {ws : List Value} {ns : List Int} {nn : Nat} {mm : Str → Option Value}
theorem rulesZ30 : True := by
  k_with "H0" => first | with_reducible assumption | exact (fun _ hZ => hZ) | (refine AllG.at ?_ _; with_reducible assumption) | (refine sub_cons ?_; first | with_reducible assumption | exact (fun _ hZ => hZ) | (refine AllG.at ?_ _; with_reducible assumption) | (refine sub_cons ?_; first | with_reducible assumption | exact (fun _ hZ => hZ) | (refine AllG.at ?_ _; with_reducible assumption) | (refine sub_cons ?_; first | with_reducible assumption | exact (fun _ hZ => hZ) | (refine AllG.at ?_ _; with_reducible assumption) | (refine sub_cons ?_; first | with_reducible assumption | exact (fun _ hZ => hZ) | (refine AllG.at ?_ _; with_reducible assumption) | (refine sub_cons ?_; first | with_reducible assumption | exact (fun _ hZ => hZ) | (refine AllG.at ?_ _; with_reducible assumption))))))
  k_with "H11" => exact News.isTup (by assumption) (List.Mem.head _)
  k_with "H2" => (refine room_un (by assumption) ?_; simp (config := {zetaDelta := true}) only [units_deeper, units_in1]; (first | exact unle2 (Nat.le_of_ble_eq_true rfl) | exact unle1 (Nat.le_of_ble_eq_true rfl) | omega))
  k_with "call ref" => (k_here; refine wpAny_call ?_; k_dflt (refine' code_defL ?k1 ?k2 ?k3 ?k4 ?k5 ?kA ?kF ?kK ?k6 ?k7 ?k8 ?k9 ?kB ?_ ?c2 ?c3 ?c4 ?c5; (case kA => exact rfl); (case kF => exact rfl); (case kK => first | assumption | exact rfl); k_extra "HB"; (case k6 => k_is); (case k7 => k_is); (case k8 => k_room); (case k9 => k_extra "H8"); (case c5 => decide); (case kB => exact locs rfl); (case c2 => exact rfl); (case c3 => exact rfl); (case c4 => exact rfl); k_whole; intro g'Z L'Z h'Z kEZ kAZ kMZ kQZ kXZ FG'Z F'Z N'Z B'Z X'Z T'Z; (try dsimp only); (try k_lift B'Z)))
  k_with "eval Dict nil nil" => (k_here; k_dflt (refine' newDict_K ?k1 ?k2 (TopRead.nolimit ?k3) ?_; (case k1 => k_asm); (case k2 => k_asm); (case k3 => k_asm); k_whole); intro d'Z h'Z o'Z F'Z N'Z l1Z lo'Z hs'Z fs'Z hi'Z fi'Z; (try k_lt l1Z); (try k_sweep))
  k_with "call ref" => (k_here; k_dflt (refine' call_cls ?k1 ?k2 ?k3 ?k4 ?k5 ?k6 ?_; (case k1 => k_asm); (case k2 => k_asm); (case k3 => k_asm); (case k4 => k_is); (case k5 => k_is); (case k6 => k_is); k_whole; intro x'Z d'Z h'Z F'Z N'Z l1Z l2Z; (try k_lt l1Z); (try k_lt2 l2Z); (try k_sweep); refine' code_def ?k1 ?k2 ?k3 ?k4 ?k5 ?kA ?kF ?kK ?k6 ?k7 ?k8 ?k9 ?kB ?_ ?c2 ?c3 ?c4 ?c5; (case kA => exact rfl); (case kF => exact rfl); (case kK => assumption); k_extra "HB"; (case k6 => k_is); (case k7 => k_is); (case k8 => k_room); (case k9 => k_extra "H8"); (case c5 => decide); (case kB => exact locs rfl); (case c2 => exact rfl); (case c3 => exact rfl); (case c4 => exact rfl); k_whole; intro g'Z L'Z h'Z FG'Z F'Z N'Z B'Z X'Z T'Z; (try dsimp only); (try k_lift B'Z); (try k_fold)))
  k_with "unpackItems ref none" => focus (rw [fm_names]; rotate_left; (focus kernel_rfl); (dsimp only [List.filterMap, nmO, List.length]))
  k_with "unpackItems ref" => (k_here; k_dflt (refine' unpackItemsN_ ?k1 ?k2 ?k3 ?k4 ?k5 ?_; (case k1 => k_asm); (case k2 => k_asm); (case k3 => k_extra "H11"); (case k4 => exact rfl); (case k5 => exact rfl); k_whole); intro h'Z F'Z N'Z; (try k_sweep))
  k_with "compareOp In ref ref" => (k_here; k_dflt (refine' ow_in ?k1 ?k2 ?k3 ?k4 ?k5 ?k6 ?k7 ?_; (case k2 => k_asm); (case k3 => k_mem); (case k4 => assumption); (case k6 => assumption); (case k5 => k_extra "H0"); (case k7 => k_mem); (case k1 => k_extra "H2")))
  k_with "compareOp In ref ref" => (k_here; k_dflt (refine' ow_in_eq ?k0 ?k1 ?k2 ?k3 ?k4 ?k5 ?k6 ?k7 ?_; (case k2 => k_asm); (case k6 => assumption); (case k7 => k_mem); (case k0 => assumption); (case k3 => k_mem); (case k4 => assumption); (case k5 => k_extra "H0"); (case k1 => k_extra "H2")))
  k_with "subscriptTail" => (k_here; (with_reducible show wpAny _ _ (subscriptTail _ _ (Value.ref _) (Value.ref _)) _ _ _); k_dflt (with_unfolding_all refine' ow_item ?k1 ?k2 ?k3 ?k4 ?k5 ?k6 ?k7 ?_ ?k8 ?k9; (case k2 => k_asm); (case k3 => k_mem); (case k5 => assumption); (case k4 => k_extra "H0"); (case k6 => k_mem); (case k7 => assumption); (case k1 => k_extra "H2"); (case k8 => with_unfolding_all rfl); (case k9 => (intro _; with_unfolding_all rfl))); intro b'Z tp'Z tf'Z n'Z hb'Z hne'Z N'Z)
  k_with "getMethod ref" => (k_here; (with_reducible show wpAny _ _ (getMethod (Value.ref _) (Str.ofString "get") _) _ _ _); k_dflt (refine' ow_method PySem.F.slot_dict_get PySem.F.type_dict_get ?k1 ?k2 ?k3 ?k4 ?_; (case k1 => k_asm); (case k2 => k_mem); (case k4 => assumption); (case k3 => k_extra "H0")))
  k_with "getMethod ref" => (k_here; (with_reducible show wpAny _ _ (getMethod (Value.ref _) (Str.ofString "pop") _) _ _ _); k_dflt (refine' ow_method PySem.F.slot_dict_pop PySem.F.type_dict_pop ?k1 ?k2 ?k3 ?k4 ?_; (case k1 => k_asm); (case k2 => k_mem); (case k4 => assumption); (case k3 => k_extra "H0")))
  k_with "call builtin:dict.get" => (k_here; k_dflt (refine' ow_get2 ?k1 ?k2 ?k3 ?k4 ?k5 ?k6 ?k7 (fun hl'Z => ?_) (fun p'Z fl'Z b'Z tp'Z tf'Z n'Z hl'Z hb'Z hne'Z N'Z => ?_); (case k2 => k_asm); (case k3 => k_mem); (case k4 => assumption); (case k6 => assumption); (case k5 => k_extra "H0"); (case k7 => k_mem); (case k1 => k_extra "H2")))
  k_with "call builtin:dict.get" => (k_here; k_dflt (refine' ow_getN ?k0 ?k1 ?k2 ?k3 ?k4 ?k5 ?k6 ?k7 ?_; (case k2 => k_asm); (case k6 => assumption); (case k7 => k_mem); (case k0 => assumption); (case k3 => k_mem); (case k4 => assumption); (case k5 => k_extra "H0"); (case k1 => k_extra "H2")))
  k_with "call builtin:dict.get" => (k_here; k_dflt (refine' ow_getS ?k0 ?k1 ?k2 ?k3 ?k4 ?k5 ?k6 ?k7 ?_; (case k2 => k_asm); (case k6 => assumption); (case k7 => k_mem); (case k0 => assumption); (case k3 => k_mem); (case k4 => assumption); (case k5 => k_extra "H0"); (case k1 => k_extra "H2")); intro b'Z tp'Z tf'Z n'Z hb'Z hne'Z N'Z)
  k_with "setItem ref ref" => (k_here; k_dflt (refine' ow_set ?k1 ?k2 ?k3 ?k4 ?k5 ?k6 ?k7 ?k8 ?k9 ?_; (case k2 => k_asm); (case k3 => k_asm); (case k4 => k_updF); (case k6 => assumption); (case k5 => k_extra "H0"); (case k7 => k_mem); (case k8 => k_mem); (case k9 => assumption); (case k1 => k_extra "H2")); intro h'Z o'Z F'Z N'Z hw'Z; (try dsimp only at N'Z))
  k_with "call builtin:dict.pop" => (k_here; k_dflt (refine' ow_pop ?k1 ?k2 ?k3 ?k4 ?k5 ?k6 ?k7 ?k8 ?k9 ?_; (case k2 => k_asm); (case k3 => k_asm); (case k4 => k_updF); (case k6 => assumption); (case k5 => k_extra "H0"); (case k7 => k_mem); (case k8 => assumption); (case k9 => assumption); (case k1 => k_extra "H2")); intro x'Z h'Z o'Z F'Z N'Z hw'Z; (try dsimp only at N'Z))
  k_with "call ref" => (k_here; (with_reducible show wpAny _ _ (call (Value.ref 480) _) _ _ _); refine stop_here ?_)
  k_with "call ref" => (k_here; (with_reducible show wpAny _ _ (call (Value.ref 487) _) _ _ _); refine stop_here ?_)
  k_with "call ref" => (k_here; (with_reducible show wpAny _ _ (call (Value.ref 334) _) _ _ _); refine stop_here ?_)
  k_with "call ref" => (k_here; (with_reducible show wpAny _ _ (call (Value.ref 480) _) _ _ _); k_dflt (refine' word_spec ?k1 ?k2 ?k3 ?k4 ?k5 ?k6 ?k7 ?k8 ?k9 ?k10 ?k11 ?k12 ?k13 ?k14 ?k15 ?_; k_extra "HA"; (case k8 => assumption); (case k9 => k_extra "H3"); (case k10 => k_mem); (case k11 => assumption); (case k12 => k_extra "H10"); (case k13 => k_extra "H10"); (case k14 => k_extra "H10"); (case k15 => k_extra "H13")); intro t'Z h'Z tk'Z F'Z N'Z; (try dsimp only at N'Z); (try k_lt lts); (try k_sweep))
  k_with "call ref" => (k_here; (with_reducible show wpAny _ _ (call (Value.ref 487) _) _ _ _); k_dflt (refine' put_spec ?k1 ?k2 ?k3 ?k4 ?k5 ?k6 ?k7 ?k8 ?k9 ?k10 ?k11 ?k12 ?k13 ?k14 ?k15 ?_; k_extra "HA"; (case k8 => assumption); (case k9 => k_extra "H3"); (case k10 => k_updF); (case k11 => assumption); (case k12 => k_extra "H10"); (case k13 => k_extra "H10"); (case k14 => k_extra "H10"); (case k15 => k_extra "H12")); intro o'Z h'Z tk'Z F'Z N'Z hw'Z; (try dsimp only at N'Z); (try k_lt lts); (try k_sweep))
  k_with "call ref" => (k_here; (with_reducible show wpAny _ _ (call (Value.ref 334) _) _ _ _); k_dflt (refine' map0_spec ?k1 ?k2 ?k3 ?k4 ?k5 ?k6 ?k7 ?k8 ?k9 ?k10 ?k11 ?k12 ?k13 ?k14 ?k15 ?k16 ?k17 ?k18 ?k19 ?k20 ?k21 ?k22 ?k23 ?k24 ?k25 ?k26 ?k27 ?_; (case k1 => k_asm); (case k2 => k_asm); (case k3 => k_asm); (case k4 => k_asm); (case k5 => k_extra "H13"); (case k6 => k_room); (case k7 => k_asm); (case k8 => first | assumption | exact Std.mono (by assumption) (fun xZ hxZ => List.Mem.tail _ (List.Mem.tail _ (List.mem_append_right _ hxZ)))); (case k9 => assumption); (case k10 => assumption); (case k11 => assumption); (case k12 => assumption); (case k13 => assumption); (case k14 => first | assumption | omega); (case k15 => k_extra "H12"); (case k16 => assumption); (case k17 => assumption); (case k18 => assumption); (case k19 => assumption); (case k20 => assumption); (case k21 => assumption); (case k22 => first | assumption | (intro jZ hj0Z hj4Z; omega)); (case k23 => exact rfl); (case k24 => k_extra "H12"); (case k25 => assumption); (case k26 => k_extra "H12"); (case k27 => first | assumption | omega)); intro oW2Z oH2Z h'Z tk'Z u4'Z F'Z N'Z hw2Z hH2Z; (try k_sweep))
  k_with "subscriptTail Name Constant ref int" => (k_here; (with_reducible show wpAny _ _ (subscriptTail _ _ (Value.ref _) (Value.int _ _)) _ _ _); k_dflt (with_unfolding_all refine' pick_item ?k1 ?k2 ?k3 ?k5 ?_ ?k4; (case k1 => k_asm); (case k2 => k_mem); (case k3 => first | assumption | decide); (case k5 => first | assumption | exact rfl); (case k4 => with_unfolding_all rfl)))
  k_with "subscriptTail Name Name ref int" => (k_here; (with_reducible show wpAny _ _ (subscriptTail _ _ (Value.ref _) (Value.int _ _)) _ _ _); k_dflt (with_unfolding_all refine' pick_item ?k1 ?k2 ?k3 ?k5 ?_ ?k4; (case k1 => k_asm); (case k2 => k_mem); (case k3 => first | assumption | decide); (case k5 => first | assumption | exact rfl); (case k4 => with_unfolding_all rfl)))
  k_with "subscriptTail Subscript Name Constant Name ref int" => (k_here; (with_reducible show wpAny _ _ (subscriptTail _ _ (Value.ref _) (Value.int _ _)) _ _ _); k_dflt (with_unfolding_all refine' goal_item ?k1 ?k2 ?k3 ?_ ?k4; (case k1 => k_asm); (case k2 => k_mem); (case k3 => assumption); (case k4 => with_unfolding_all rfl)); intro t'Z)
  k_with "setItem ref ref" => (k_here; k_dflt (refine' ow_set ?k1 ?k2 ?k3 (UpdF.tail ?a1 (UpdF.tail ?a2 (UpdF.tail ?a3 (UpdF.tail ?a4 (UpdF.tail ?a5 (UpdF.head ?a6)))))) ?k5 ?k6 ?k7 ?k8 ?k9 ?_; (case k2 => k_asm); (case k3 => k_asm); (case a1 => k_ne); (case a2 => k_ne); (case a3 => k_ne); (case a4 => k_ne); (case a5 => k_ne); (case a6 => exact List.forall_mem_cons.mpr ⟨by assumption, by assumption⟩); (case k6 => assumption); (case k5 => repeat' (first | with_reducible assumption | refine sub_cons ?_)); (case k7 => k_mem); (case k8 => k_mem); (case k9 => assumption); (case k1 => (first | decide | (simp (config := {zetaDelta := true}) only [units_deeper, units_caller]; decide) | (simp (config := {zetaDelta := true}) only [units_deeper, units_caller, cLine]; omega)))); intro h'Z o'Z F'Z N'Z W'Z)
  k_with "call ref" => (k_here; (with_reducible show wpAny _ _ (call (Value.ref 487) _) _ _ _); k_dflt (refine' put_spec ?k1 ?k2 ?k3 ?k4 ?k5 ?k6 ?k7 ?k8 ?k9 ?k10 ?k11 ?k12 ?k13 ?k14 ?k15 ?_; k_extra "HA"; (case k8 => assumption); (case k9 => k_extra "H3"); (case k10 => (refine' UpdF.tail ?a1 (UpdF.tail ?a2 (UpdF.head ?a3)); (case a1 => k_ne); (case a2 => k_ne); (case a3 => exact List.forall_mem_cons.mpr ⟨by k_ne, List.forall_mem_cons.mpr ⟨by k_ne, List.forall_mem_cons.mpr ⟨by k_ne, List.forall_mem_cons.mpr ⟨by assumption, by assumption⟩⟩⟩⟩))); (case k11 => assumption); (case k12 => k_extra "H10"); (case k13 => k_extra "H10"); (case k14 => k_extra "H10"); (case k15 => k_extra "H12")); intro o'Z h'Z tk'Z F'Z N'Z hw'Z; (try dsimp only at N'Z); (try k_lt lts); (try k_sweep))
  k_with "call builtin:list.append" => (k_here; (with_reducible show wpAny _ _ (call (Value.builtin _) [Value.ref _, _]) _ _ _); k_dflt (refine' app_U ?k1 ?k2 ?k3 ?k4 ?_; (case k1 => k_asm); (case k2 => k_asm); (case k3 => k_updF); (case k4 => first | assumption | omega)); intro h'Z F'Z N'Z; (try dsimp only at N'Z))
  k_with "call builtin:list.extend" => (k_here; (with_reducible show wpAny _ _ (call (Value.builtin _) [Value.ref _, Value.ref _]) _ _ _); k_dflt (refine' ext_U ?k1 ?k2 ?k3 ?k4 ?k5 ?_; (case k1 => k_asm); (case k2 => k_asm); (case k3 => k_mem); (case k4 => k_updF); (case k5 => first | assumption | omega)); intro h'Z n'Z F'Z N'Z; (try dsimp only at N'Z))
  k_with "exec For Name Call cons nil" => (k_here; (rename Fr _ _ _ _ => lF'Z); (with_unfolding_all refine' For_invVF lF'Z ?k1 ?k2 ?_; (case k1 => exact rfl); (case k2 => exact rfl); k_whole))
  k_with "pyIter ref" => (refine stop_here ?_)
  k_with "execs cons" => (k_here; (with_reducible show wpAny _ _ (execs (Stmt.For (Expr.Name (Str.ofString "n") _) _ _ _ _ :: _) _) _ _ _); refine stop_here ?_)
  trivial
theorem turn1 {u4 gg : Nat} {g0 g1 : Int} {r0 r1 y2 y3 : Tok} {n0 n1 n3 : Nat} {i : Nat} {I : Addr} {oI : Obj} {tl : Ledger} {t : Tok} {tv : Option Value} {R : Flow → Shared → Prop}
  (B : Below callerA base [] h₀) (X : (KF w.params).In h₀) (T : Top p loose mean mg mb h₀) (hi : i < 2)
  (F : Fr h₀ L s.heap (fun y => if y = Str.ofString "first" then some (.int (i : Int) t) else if y = Str.ofString "goals" then some (.ref GT) else if y = Str.ofString "roots" then some (.ref RT) else if y = Str.ofString "own" then some (.ref D) else if y = Str.ofString "turn" then tv else if y = Str.ofString "table" then some (.ref c.t) else if y = Str.ofString "walker" then some (.ref c.k) else if y = Str.ofString "pool" then some (.ref c.p) else if y = Str.ofString "memory" then some (.ref c.m) else if y = Str.ofString "layout" then some (.ref c.l) else if y = Str.ofString "marks" then some (.ref mk) else mm y))
  (N : News h₀ L s.heap ((c.w, oW) :: (c.hd, oH) :: (c.pD, dictOf (poolE c u4 (2 + (i : Int))) 8) :: (D, oD) :: (I, oI) :: (tl ++ rest)))
  (S : Std c rest) (lo2 : (c.hd == sysModules) = false) (loD : (D == sysModules) = false) (hp : (c.p, instObj 834 c.pD) ∈ rest) (hg : (c.g, listOf (List.toArray []) gg) ∈ rest)
  (hRT : (RT, listOf (List.toArray [.int 896 r0, .int 912 r1]) n0) ∈ rest) (hGT : (GT, listOf (List.toArray [.ref G0, .ref G1]) n1) ∈ rest)
  (hG1 : (G1, listOf (List.toArray [.int g0 y2, .int g1 y3]) n3) ∈ rest)
  (b0 : 0 ≤ g0 ∧ g0 < 4) (b1 : 0 ≤ g1 ∧ g1 < 4)
  (hw : Wd w oW (Mst g0 g1 i)) (hH : Hd w oH (2 + i)) (W : Ow w tl oD (dst i)) (o1 : ∀ p ∈ tl ++ rest, p.1 ≠ c.w) (o2 : ∀ p ∈ tl ++ rest, p.1 ≠ c.hd) (o3 : ∀ p ∈ tl ++ rest, p.1 ≠ c.pD) (oD' : ∀ p ∈ tl ++ rest, p.1 ≠ D)
  (oI1 : ∀ p ∈ (c.w, oW) :: (c.hd, oH) :: (c.pD, dictOf (poolE c u4 (2 + (i : Int))) 8) :: (D, oD) :: (tl ++ rest), p.1 ≠ I)
  (o4 : @LT.lt Nat _ c.w c.pD) (o5 : @LT.lt Nat _ c.pD c.hd) (o6 : @LT.lt Nat _ c.w c.hd) (o7 : @LT.lt Nat _ c.hd D)
  (hret : ∀ oW' oH' u4' oD' K V oK oV m' h' tk', Fr h₀ L h' m' → (∀ y, y ≠ Str.ofString "first" → m' y = (fun y => if y = Str.ofString "goals" then some (.ref GT) else if y = Str.ofString "roots" then some (.ref RT) else if y = Str.ofString "own" then some (.ref D) else if y = Str.ofString "turn" then tv else if y = Str.ofString "table" then some (.ref c.t) else if y = Str.ofString "walker" then some (.ref c.k) else if y = Str.ofString "pool" then some (.ref c.p) else if y = Str.ofString "memory" then some (.ref c.m) else if y = Str.ofString "layout" then some (.ref c.l) else if y = Str.ofString "marks" then some (.ref mk) else mm y) y) →
    News h₀ L h' ((K, oK) :: (V, oV) :: (c.w, oW') :: (c.hd, oH') :: (c.pD, dictOf (poolE c u4' (2 + (i : Int) + 1)) 8) :: (D, oD') :: (I, oI) :: (tl ++ rest)) →
    @LT.lt Nat _ D V ∧ @LT.lt Nat _ D K ∧ I ≠ V ∧ I ≠ K → Wd w oW' (Mst g0 g1 (i + 1)) → Hd w oH' (2 + i + 1) → Ow w ((K, oK) :: (V, oV) :: tl) oD' (dst (i + 1)) → TupAll [(K, oK), (V, oV)] → R .next { s with heap := h', toks := tk' }) :
  wpAny (model pw w) (callerA.deeper (envL L a cd)) (execs (forB (fnB (st 56))[6]?) (envL L a cd)) R E s := by
  have hp' : (c.p, instObj 834 c.pD) ∈ (D, oD) :: (I, oI) :: (tl ++ rest) := .tail _ (.tail _ (List.mem_append_right _ hp))
  have hg' : (c.g, listOf (List.toArray []) gg) ∈ (D, oD) :: (I, oI) :: (tl ++ rest) := .tail _ (.tail _ (List.mem_append_right _ hg))
  have iw : @Ne Nat I c.w := fun e => oI1 _ (.head _) e.symm
  have ih : @Ne Nat I c.hd := fun e => oI1 _ (.tail _ (.head _)) e.symm
  have ip : @Ne Nat I c.pD := fun e => oI1 _ (.tail _ (.tail _ (.head _))) e.symm
  have iD : @Ne Nat I D := fun e => oI1 _ (.tail _ (.tail _ (.tail _ (.head _)))) e.symm
  have q1 : ∀ p ∈ (D, oD) :: (I, oI) :: (tl ++ rest), p.1 ≠ c.w := List.forall_mem_cons.mpr ⟨Nat.ne_of_gt (Nat.lt_trans o6 o7), List.forall_mem_cons.mpr ⟨iw, o1⟩⟩
  have q2 : ∀ p ∈ (D, oD) :: (I, oI) :: (tl ++ rest), p.1 ≠ c.hd := List.forall_mem_cons.mpr ⟨Nat.ne_of_gt o7, List.forall_mem_cons.mpr ⟨ih, o2⟩⟩
  have q3 : ∀ p ∈ (D, oD) :: (I, oI) :: (tl ++ rest), p.1 ≠ c.pD := List.forall_mem_cons.mpr ⟨Nat.ne_of_gt (Nat.lt_trans o5 o7), List.forall_mem_cons.mpr ⟨ip, o3⟩⟩
  have hM := mst_tab hi b0 b1
  have hr := mst_root hi b0 b1
  have hE := mst_word (M := Mst g0 g1 i) hi
  have hEb : 0 ≤ 1024 * (58 + (i : Int)) + 1 ∧ 1024 * (58 + (i : Int)) + 1 < 4294967296 := by omega
  have i01 : (i : Int) = 0 ∨ (i : Int) = 1 := by omega
  have gb : 0 ≤ (if (i : Int) = 0 then g0 else g1) ∧ (if (i : Int) = 0 then g0 else g1) < 4 := by split <;> omega
  have hn2 : 2 + i ≤ 100 := by omega
  have hdl : (dst i).length ≤ 1000 := Nat.le_trans dst_len (by decide)
  have hsub : ∀ x ∈ tl, x ∈ tl ++ rest := fun x hx => List.mem_append_left _ hx
  have hun : (4 : Nat) + 60 < cLine := by decide
  have hm1 := MemIn.a (S.mem) (fun _ h => h)
  have hm2 := MemIn.b (S.mem) (fun _ h => h)
  have ht1 := TabIn.a (S.tab) (fun _ h => h)
  have ht2 := TabIn.b (S.tab) (fun _ h => h)
  clear oI1
  show wpAny _ _ (execs (_ :: _) _) _ _ _
  k_steps
  all_goals
    refine' hret _ _ _ _ _ _ _ _ _ _ _ ?F ?m ?N ?lt ?W ?H ?O ?TA
    case F => assumption
    case m => intro y hy; ((repeat (refine' (if_neg ?hn).trans ?_; (case hn => assumption))); rfl)
    case N => assumption
    case lt => exact ⟨by omega, by omega, Nat.ne_of_lt (by omega), Nat.ne_of_lt (by omega)⟩
    case W => rw [← mst_next]; assumption
    case H => assumption
    case O => rw [← dst_next hi]; assumption
    case TA => exact TupAll.cons (TupAll.cons TupAll.nil)
theorem law3 {Q : Flow → Shared → Prop} {u4 gg : Nat} {g0 g1 : Int} {r0 r1 y2 y3 : Tok} {n0 n1 n3 : Nat} {tv : Option Value}
  (hE : PassesOwn (model pw w) (callerA.deeper (envL L a cd)) (envL L a cd) E) (B : Below callerA base [] h₀) (X : (KF w.params).In h₀) (T : Top p loose mean mg mb h₀)
  (F : Fr h₀ L s.heap (fun y => if y = Str.ofString "goals" then some (.ref GT) else if y = Str.ofString "roots" then some (.ref RT) else if y = Str.ofString "own" then some (.ref D) else if y = Str.ofString "turn" then tv else if y = Str.ofString "table" then some (.ref c.t) else if y = Str.ofString "walker" then some (.ref c.k) else if y = Str.ofString "pool" then some (.ref c.p) else if y = Str.ofString "memory" then some (.ref c.m) else if y = Str.ofString "layout" then some (.ref c.l) else if y = Str.ofString "marks" then some (.ref mk) else mm y))
  (N : News h₀ L s.heap ((c.w, oW) :: (c.hd, oH) :: (c.pD, dictOf (poolE c u4 2) 8) :: (D, oD) :: rest))
  (S : Std c rest) (lo2 : (c.hd == sysModules) = false) (loD : (D == sysModules) = false) (hp : (c.p, instObj 834 c.pD) ∈ rest) (hg : (c.g, listOf (List.toArray []) gg) ∈ rest)
  (hRT : (RT, listOf (List.toArray [.int 896 r0, .int 912 r1]) n0) ∈ rest) (hGT : (GT, listOf (List.toArray [.ref G0, .ref G1]) n1) ∈ rest)
  (hG1 : (G1, listOf (List.toArray [.int g0 y2, .int g1 y3]) n3) ∈ rest)
  (b0 : 0 ≤ g0 ∧ g0 < 4) (b1 : 0 ≤ g1 ∧ g1 < 4)
  (hw : Wd w oW (fun _ => 0)) (hH : Hd w oH 2) (W : Ow w [] oD []) (o1 : ∀ p ∈ rest, p.1 ≠ c.w) (o2 : ∀ p ∈ rest, p.1 ≠ c.hd) (o3 : ∀ p ∈ rest, p.1 ≠ c.pD) (oD' : ∀ p ∈ rest, p.1 ≠ D)
  (o4 : @LT.lt Nat _ c.w c.pD) (o5 : @LT.lt Nat _ c.pD c.hd) (o6 : @LT.lt Nat _ c.w c.hd) (o7 : @LT.lt Nat _ c.hd D)
  (hnext : ∀ oW' oH' u4' oD' tl (u : Str → Option Value) h' tk', Fr h₀ L h' (fun y => if y = Str.ofString "first" then u y else if y = Str.ofString "goals" then some (.ref GT) else if y = Str.ofString "roots" then some (.ref RT) else if y = Str.ofString "own" then some (.ref D) else if y = Str.ofString "turn" then tv else if y = Str.ofString "table" then some (.ref c.t) else if y = Str.ofString "walker" then some (.ref c.k) else if y = Str.ofString "pool" then some (.ref c.p) else if y = Str.ofString "memory" then some (.ref c.m) else if y = Str.ofString "layout" then some (.ref c.l) else if y = Str.ofString "marks" then some (.ref mk) else mm y) →
    News h₀ L h' ((c.w, oW') :: (c.hd, oH') :: (c.pD, dictOf (poolE c u4' 4) 8) :: (D, oD') :: (tl ++ rest)) →
    (∀ p ∈ tl, @LT.lt Nat _ D p.1) → TupAll tl → Wd w oW' (Mst g0 g1 2) → Ow w tl oD' (dst 2) → wpAny (model pw w) (callerA.deeper (envL L a cd)) (execs ((fnB (st 56)).drop 7) (envL L a cd)) Q E { s with heap := h', toks := tk' }) :
  wpAny (model pw w) (callerA.deeper (envL L a cd)) (execs ((fnB (st 56)).drop 6) (envL L a cd)) Q E s := by
  show wpAny _ _ (execs (_ :: _) _) _ _ _
  k_steps
  unfold StopHere
  refine range_grow (n := 2) (fun i m nx => Inv3 w c D rest g0 g1 (fun y => if y = Str.ofString "goals" then some (.ref GT) else if y = Str.ofString "roots" then some (.ref RT) else if y = Str.ofString "own" then some (.ref D) else if y = Str.ofString "turn" then tv else if y = Str.ofString "table" then some (.ref c.t) else if y = Str.ofString "walker" then some (.ref c.k) else if y = Str.ofString "pool" then some (.ref c.p) else if y = Str.ofString "memory" then some (.ref c.m) else if y = Str.ofString "layout" then some (.ref c.l) else if y = Str.ofString "marks" then some (.ref mk) else mm y) i m nx)
    rfl (by assumption) (by decide) (by decide) (by assumption) (by assumption) ⟨_, _, _, _, [], rfl, (fun p hp => by cases hp), TupAll.nil, hw, hH, W, fun _ _ => rfl⟩ ?_ ?_
  · rintro I oI i m₁ nx h2' tk2 t hi hoff ⟨oW2, oH2, u42, oD2, tl, rfl, ht, hta, hw2, hH2, W2, hm⟩ F₁ N₁
    rw [form1 hm, Int.zero_add] at F₁
    have nin : ∀ {p : Addr × Obj}, p ∈ tl → @LT.lt Nat _ D p.1 := fun hp => ht _ hp
    refine turn1 (s := { s with heap := h2', toks := tk2 }) (oI := oI) (I := I) (gg := gg) (G0 := G0) (G1 := G1) (RT := RT) (GT := GT) (n0 := n0) (n1 := n1) (n3 := n3) (tl := tl) B X T hi F₁ (fun q hq => N₁ q (by
      rcases List.mem_cons.mp hq with e | hq
      · rw [e]; exact .tail _ (.head _)
      · rcases List.mem_cons.mp hq with e | hq
        · rw [e]; exact .tail _ (.tail _ (.head _))
        · rcases List.mem_cons.mp hq with e | hq
          · rw [e]; exact .tail _ (.tail _ (.tail _ (.head _)))
          · rcases List.mem_cons.mp hq with e | hq
            · rw [e]; exact .tail _ (.tail _ (.tail _ (.tail _ (.head _))))
            · rcases List.mem_cons.mp hq with e | hq
              · rw [e]; exact .head _
              · exact .tail _ (.tail _ (.tail _ (.tail _ (.tail _ hq)))))) S lo2 loD hp hg hRT hGT hG1 b0 b1 hw2 hH2 W2 ?_ ?_ ?_ ?_ hoff o4 o5 o6 o7 ?_
    · intro p hp; rcases List.mem_append.mp hp with hp | hp
      · exact Nat.ne_of_gt (Nat.lt_trans (Nat.lt_trans o6 o7) (nin hp))
      · exact o1 p hp
    · intro p hp; rcases List.mem_append.mp hp with hp | hp
      · exact Nat.ne_of_gt (Nat.lt_trans o7 (nin hp))
      · exact o2 p hp
    · intro p hp; rcases List.mem_append.mp hp with hp | hp
      · exact Nat.ne_of_gt (Nat.lt_trans (Nat.lt_trans o5 o7) (nin hp))
      · exact o3 p hp
    · intro p hp; rcases List.mem_append.mp hp with hp | hp
      · exact Nat.ne_of_gt (nin hp)
      · exact oD' p hp
    · rintro oW3 oH3 u43 oD3 K V oK oV m3 h3' tk3 F3 hm3 N3 ⟨l1, l2, l3, l4⟩ hw3 hH3 W3 tA3
      refine ⟨h3', tk3, m3, (c.w, oW3) :: (c.hd, oH3) :: (c.pD, dictOf (poolE c u43 (2 + ((i + 1 : Nat) : Int))) 8) :: (D, oD3) :: ((K, oK) :: (V, oV) :: tl ++ rest), rfl, F3, fun q hq => N3 q ?_, ?_, oW3, oH3, u43, oD3, (K, oK) :: (V, oV) :: tl, rfl, ?_, TupAll.app tA3 hta, hw3, hH3, W3, hm3⟩
      · rw [show (2 + ((i + 1 : Nat) : Int)) = 2 + (i : Int) + 1 by lia] at hq
        simp only [List.cons_append, List.mem_cons, List.mem_append] at hq ⊢
        rcases hq with e | e | e | e | e | e | e | e | e
        · exact .inr (.inr (.inr (.inr (.inr (.inr (.inl e))))))
        · exact .inr (.inr (.inl e))
        · exact .inr (.inr (.inr (.inl e)))
        · exact .inr (.inr (.inr (.inr (.inl e))))
        · exact .inr (.inr (.inr (.inr (.inr (.inl e)))))
        · exact .inl e
        · exact .inr (.inl e)
        · exact .inr (.inr (.inr (.inr (.inr (.inr (.inr (.inl e)))))))
        · exact .inr (.inr (.inr (.inr (.inr (.inr (.inr (.inr e)))))))
      · intro p hp
        simp only [List.cons_append, List.mem_cons, List.mem_append] at hp
        rcases hp with e | e | e | e | e | e | e | e
        · rw [e]; exact hoff (c.w, oW2) (.head _)
        · rw [e]; exact hoff (c.hd, oH2) (.tail _ (.head _))
        · rw [e]
          have hpD : @Ne Nat c.pD I := hoff (c.pD, dictOf (poolE c u42 (2 + (i : Int))) 8) (.tail _ (.tail _ (.head _)))
          exact hpD
        · rw [e]; exact hoff (D, oD2) (.tail _ (.tail _ (.tail _ (.head _))))
        · rw [e]; exact l4.symm
        · rw [e]; exact l3.symm
        · exact hoff _ (.tail _ (.tail _ (.tail _ (.tail _ (List.mem_append_left _ e)))))
        · exact hoff _ (.tail _ (.tail _ (.tail _ (.tail _ (List.mem_append_right _ e)))))
      · intro p hp
        rcases List.mem_cons.mp hp with e | hp
        · rw [e]; exact l2
        · rcases List.mem_cons.mp hp with e | hp
          · rw [e]; exact l1
          · exact nin hp
  · rintro h2' tk2 m₁ nx ⟨oW2, oH2, u42, oD2, tl, rfl, ht, hta, hw2, hH2, W2, hm⟩ F₁ N₁
    rw [form1' hm] at F₁
    exact hnext oW2 oH2 u42 oD2 tl (fun _ => m₁ (Str.ofString "first")) h2' tk2 F₁ N₁ ht hta hw2 W2
end
end Mine

namespace Mine
section
variable {w : World} {p : Program} {loose : List Str} {mean : ExcName → Option Value} {mg mb : Str → Option Value}
  {dp un : Nat} {gd : Option (List Code)} {cn : Str} {cs : Scope} {a : Addr} {ccd : Value} {cl : List (Str × Addr)} {outer : List Env} {A₀ : Around} {base h₀ : Heap} {L : Addr} {m : Str → Option Value} {s : Shared} {Q E : Value → Shared → Prop} {news : List (Addr × Obj)}

variable {c : Ads} {oW oD : Obj} {M : Int → Int} {rest im : Ledger} {D RT GT G0 G1 ka : Addr} {ds : Own} {cd : Value} {mm : Str → Option Value}
theorem rulesX20 : True := by
  k_with_none
  k_with "H11" => exact News.isTup (by assumption) (List.Mem.head _)
  k_with "H8" => first | exact binds_K (by k_in) rfl (by k_is) rfl rfl rfl | exact BindsTo.of_eq rfl
  k_with "HA" => (case k1 => k_asm); (case k2 => k_asm); (case k3 => k_asm); (case k4 => k_asm); (case k5 => k_asm); (case k6 => first | with_reducible assumption | exact rfl); (case k7 => k_room)
  k_with "HB" => (case k1 => k_asm); (case k2 => k_asm); (case k3 => k_asm); (case k4 => k_asm); (case k5 => k_asm)
  k_with "K_MEM" => first | with_reducible assumption | ktr_member | exact List.Mem.head _ | (refine List.mem_cons_of_mem _ ?_; k_mem) | (refine List.mem_append_right _ ?_; k_mem) | (refine List.mem_append_left _ ?_; with_reducible assumption)
  k_with "K_IN" => first | k_in_fast | with_reducible assumption | exact Frag.In.keeps (by with_reducible assumption) (Fr.keep (by with_reducible assumption))
  k_with "K_ROOM" => ((try simp (config := {zetaDelta := true}) only [depth_under_make, depth_under_kw, depth_in1, depth_deeper, depth_caller]); (try dsimp only [ktrTop]); (first | (refine' room0 ?rh; (case rh => assumption)) | (refine' room1 ?rh ?rk; (case rh => assumption); (case rk => exact Nat.le_of_ble_eq_true rfl)) | (refine' room2 ?rh ?rk; (case rh => assumption); (case rk => exact Nat.le_of_ble_eq_true rfl)) | (refine' room3 ?rh ?rk; (case rh => assumption); (case rk => exact Nat.le_of_ble_eq_true rfl)) | (refine' room4 ?rh ?rk; (case rh => assumption); (case rk => exact Nat.le_of_ble_eq_true rfl)) | omega))
  k_with "testChain" => first | refine test_link ?_ | refine test_last ?_
  k_with "K_ALL" => first | with_reducible assumption | (refine lt_ne ?_; with_reducible assumption)
  k_with "call ref" => (k_here; refine wpAny_call ?_; k_dflt (refine' code_defL ?k1 ?k2 ?k3 ?k4 ?k5 ?kA ?kF ?kK ?k6 ?k7 ?k8 ?k9 ?kB ?_ ?c2 ?c3 ?c4 ?c5; (case kA => exact rfl); (case kF => exact rfl); (case kK => first | assumption | exact rfl); k_extra "HB"; (case k6 => k_is); (case k7 => k_is); (case k8 => k_room); (case k9 => k_extra "H8"); (case c5 => decide); (case kB => exact locs rfl); (case c2 => exact rfl); (case c3 => exact rfl); (case c4 => exact rfl); k_whole; intro g'Z L'Z h'Z kEZ kAZ kMZ kQZ kXZ FG'Z F'Z N'Z B'Z X'Z T'Z; (try dsimp only); (try k_lift B'Z)))
  k_with "LeaveK" => (k_dflt (refine' leaveK_ ?k1 ?k2 ?_; (case k1 => k_asm); (case k2 => k_asm); k_whole); intro kFZ kNZ; (try (have kXZ := kFor kFZ (by k_asm))); (try dsimp only [PySem.W.InitBack, PySem.W.CmpBack, PySem.W.LenBack, PySem.W.StrBack, PySem.W.BoolBack]); (try refine ⟨rfl, ?_⟩); (try dsimp only [PySem.W.CmpBack, PySem.W.LenBack, PySem.W.StrBack, PySem.W.BoolBack]); (try (refine ⟨⟨by omega, by omega⟩, ?_⟩)); (try (refine handed_on rfl ?_; try dsimp only)))
  k_with "storeName" => (k_here; k_dflt ((refine' storeL ?F ?N ?_ ?a ?b; (case F => k_asm); (case N => k_asm); (case a => rfl); (case b => rfl); k_whole; intro h'Z kMZ F'Z N'Z; (try k_sweep))))
  k_with "eval Attribute Name" => (k_here; k_dflt (refine' selfAttr ?kF ?ka ?kb ?kv ?k2 ?k3 ?k4 ?k5 ?k6 ?k7 ?k8 ?k9 ?_ ?kd; (case kF => k_asm); (case ka => rfl); (case kb => rfl); (case kv => rfl); (case k2 => k_asm); (case k3 => k_inst); (case k4 => k_is); (case k5 => k_is); (case k6 => k_is); (case k7 => k_is); (case k8 => k_get); (case k9 => k_handed); (case kd => decide); k_whole))
  k_with "spliced" => (k_here; (with_reducible show wpAny _ _ (spliced (backTo _ (starEach [Expr.Name _ _] _))) _ _ _); k_dflt (refine' argN1 ?kF ?ka ?kb ?kv ?_ ?kd; (case kF => k_asm); (case ka => rfl); (case kb => rfl); (case kv => rfl); (case kd => decide); k_whole))
  k_with "spliced" => (k_here; (with_reducible show wpAny _ _ (spliced (backTo _ (starEach (Expr.Name _ _ :: _ :: _) _))) _ _ _); k_dflt (refine' argN ?kF ?ka ?kb ?kv ?_ ?kd; (case kF => k_asm); (case ka => rfl); (case kb => rfl); (case kv => rfl); (case kd => decide); k_whole))
  k_with "eval Dict nil nil" => (k_here; k_dflt (refine' newDict_K ?k1 ?k2 (TopRead.nolimit ?k3) ?_; (case k1 => k_asm); (case k2 => k_asm); (case k3 => k_asm); k_whole); intro d'Z h'Z o'Z F'Z N'Z l1Z lo'Z hs'Z fs'Z hi'Z fi'Z; (try k_lt l1Z); (try k_sweep))
  k_with "call ref" => (k_here; k_dflt (refine' call_cls ?k1 ?k2 ?k3 ?k4 ?k5 ?k6 ?_; (case k1 => k_asm); (case k2 => k_asm); (case k3 => k_asm); (case k4 => k_is); (case k5 => k_is); (case k6 => k_is); k_whole; intro x'Z d'Z h'Z F'Z N'Z l1Z l2Z; (try k_lt l1Z); (try k_lt2 l2Z); (try k_sweep); refine' code_def ?k1 ?k2 ?k3 ?k4 ?k5 ?kA ?kF ?kK ?k6 ?k7 ?k8 ?k9 ?kB ?_ ?c2 ?c3 ?c4 ?c5; (case kA => exact rfl); (case kF => exact rfl); (case kK => assumption); k_extra "HB"; (case k6 => k_is); (case k7 => k_is); (case k8 => k_room); (case k9 => k_extra "H8"); (case c5 => decide); (case kB => exact locs rfl); (case c2 => exact rfl); (case c3 => exact rfl); (case c4 => exact rfl); k_whole; intro g'Z L'Z h'Z FG'Z F'Z N'Z B'Z X'Z T'Z; (try dsimp only); (try k_lift B'Z); (try k_fold)))
  k_with "unpackItems ref none" => focus (rw [fm_names]; rotate_left; (focus kernel_rfl); (dsimp only [List.filterMap, nmO, List.length]))
  k_with "unpackItems ref" => (k_here; k_dflt (refine' unpackItemsN_ ?k1 ?k2 ?k3 ?k4 ?k5 ?_; (case k1 => k_asm); (case k2 => k_asm); (case k3 => k_extra "H11"); (case k4 => exact rfl); (case k5 => exact rfl); k_whole); intro h'Z F'Z N'Z; (try k_sweep))
  k_with "call ref" => (k_here; (with_reducible show wpAny _ _ (call (Value.ref 887) _) _ _ _); refine stop_here ?_)
  k_with "call ref" => (k_here; (with_reducible show wpAny _ _ (call (Value.ref 887) _) _ _ _); k_dflt (refine' alike_spec ?k1 ?k2 ?k3 ?k4 ?k5 ?k6 ?k7 ?k8 ?k9 ?k10 ?k11 ?k12 ?k13 ?k14 ?k15 ?k16 ?k17 ?k18 ?k19 ?k20 ?k21 ?k22 ?k23 ?k24 ?k25 ?_; k_extra "HA"; (case k8 => first | assumption | (simp (config := {zetaDelta := true}) only [units_deeper, units_caller]; decide) | decide | (simp (config := {zetaDelta := true}) only [units_deeper, units_caller, cLine]; omega)); (case k9 => assumption); (case k10 => assumption); (case k11 => assumption); (case k12 => assumption); (case k13 => assumption); (case k14 => assumption); (case k15 => assumption); (case k16 => assumption); (case k17 => assumption); (case k18 => assumption); (case k19 => assumption); (case k20 => assumption); (case k21 => assumption); (case k22 => assumption); (case k23 => assumption); (case k24 => assumption); (case k25 => assumption)); intro tk'Z h'Z F'Z N'Z; (try k_sweep))
  k_with "compareOp NotEq" => (k_here; k_dflt (refine' out_ne ?k1 ?k2 ?k3 ?_; (case k1 => k_asm); (case k2 => assumption); (case k3 => (first | (simp (config := {zetaDelta := true}) only [units_deeper, units_caller]; decide) | decide))))
  trivial
theorem segC {R : Flow → Shared → Prop} {f u g0 g1 : Int} {r0 r1 y0 y1 y2 y3 z0 z1 : Tok} {n0 n1 n2 n3 n4 : Nat} {V V' : Value}
  (B : Below callerA base [] h₀) (X : (KF w.params).In h₀) (T : Top p loose mean mg mb h₀)
  (F : Fr h₀ L s.heap (fun y => if y = Str.ofString "told" then some V' else if y = Str.ofString "due" then some V else if y = Str.ofString "spot" then some (.ref ka) else if y = Str.ofString "goals" then some (.ref GT) else if y = Str.ofString "roots" then some (.ref RT) else if y = Str.ofString "own" then some (.ref D) else if y = Str.ofString "table" then some (.ref c.t) else if y = Str.ofString "pool" then some (.ref c.p) else mm y))
  (N : News h₀ L s.heap news) (S : Std c rest) (hs : ∀ x ∈ rest, x ∈ news) (hwm : (c.w, oW) ∈ news) (hw : Wd w oW M)
  (hi : ∀ x ∈ im, x ∈ news) (hDm : (D, oD) ∈ news) (W : Ow w im oD ds) (lo : (D == sysModules) = false)
  (hRT : (RT, listOf (List.toArray [.int 896 r0, .int 912 r1]) n0) ∈ news) (hGT : (GT, listOf (List.toArray [.ref G0, .ref G1]) n1) ∈ news)
  (hG0 : (G0, listOf (List.toArray [.int 0 y0, .int 1 y1]) n2) ∈ news) (hG1 : (G1, listOf (List.toArray [.int g0 y2, .int g1 y3]) n3) ∈ news)
  (hka : (ka, tupO [.int f z0, .int u z1] n4) ∈ news) (hP : PoolIn c 4 news) (RR : Rel M ds g0 g1) (hf : f = 0 ∨ f = 1) (hu : 0 ≤ u ∧ u < 4) (O : OutR news V' V)
  (hret : ∀ m' h' tk', Fr h₀ L h' m' → m' = (fun y => if y = Str.ofString "told" then some V' else if y = Str.ofString "due" then some V else if y = Str.ofString "spot" then some (.ref ka) else if y = Str.ofString "goals" then some (.ref GT) else if y = Str.ofString "roots" then some (.ref RT) else if y = Str.ofString "own" then some (.ref D) else if y = Str.ofString "table" then some (.ref c.t) else if y = Str.ofString "pool" then some (.ref c.p) else mm y) → News h₀ L h' news → R .next { s with heap := h', toks := tk' }) :
  wpAny (model pw w) (callerA.deeper (envL L a cd)) (execs ((forB (fnB (st 56))[7]?).drop 4) (envL L a cd)) R E s := by
  show wpAny _ _ (execs (_ :: _) _) _ _ _
  k_steps
  all_goals first
    | exact hret _ _ _ (by assumption) rfl (by assumption)
end
end Mine

namespace Mine
theorem two_of {x : Int} (h : 0 ≤ x ∧ x < 2) : x = 0 ∨ x = 1 := by lia
theorem four_of {x : Int} (h : 0 ≤ x) (h' : x < 4) : x = 0 ∨ x = 1 ∨ x = 2 ∨ x = 3 := by lia
theorem fm_bd (n : Int) {k : Int} (hk : 0 < k) : 0 ≤ n.fmod k ∧ n.fmod k < k := ⟨fmod_lo n hk, fmod_hi n hk⟩
theorem pg_fm (n : Int) : PG (16 * n.fmod 50) := by
  have h := fm_bd n (k := 50) (by decide)
  unfold PG
  generalize n.fmod 50 = x at h
  exact ⟨by lia, by lia, by lia⟩
theorem ga_bd {root ga gb g0 g1 : Int} (h : (root = 896 ∧ ga = 0 ∧ gb = 1) ∨ (root = 912 ∧ ga = g0 ∧ gb = g1)) (b0 : 0 ≤ g0 ∧ g0 < 4) (b1 : 0 ≤ g1 ∧ g1 < 4) : (0 ≤ ga ∧ ga < 4) ∧ (0 ≤ gb ∧ gb < 4) := by
  rcases h with ⟨_, rfl, rfl⟩ | ⟨_, rfl, rfl⟩
  · decide
  · exact ⟨b0, b1⟩
section
variable {w : World} {p : Program} {loose : List Str} {mean : ExcName → Option Value} {mg mb : Str → Option Value}
  {dp un : Nat} {gd : Option (List Code)} {cn : Str} {cs : Scope} {a : Addr} {ccd : Value} {cl : List (Str × Addr)} {outer : List Env} {A₀ : Around} {base h₀ : Heap} {L : Addr} {m : Str → Option Value} {s : Shared} {Q E : Value → Shared → Prop} {news : List (Addr × Obj)}
variable {c : Ads} {oW oD : Obj} {M : Int → Int} {rest im tl : Ledger} {D RT GT G0 G1 Gs : Addr} {ds : Own} {cd : Value} {mm : Str → Option Value}
theorem rulesX30 : True := by
  k_with_none
  k_with "H11" => exact News.isTup (by assumption) (List.Mem.head _)
  k_with "H12" => first | assumption | exact ⟨by omega, by omega⟩
  k_with "H5" => repeat' (first | with_reducible assumption | exact (fun _ hZ => hZ) | refine sub_cons ?_ | refine sub_app ?_)
  k_with "H8" => first | exact binds_K (by k_in) rfl (by k_is) rfl rfl rfl | exact BindsTo.of_eq rfl
  k_with "HA" => (case k1 => k_asm); (case k2 => k_asm); (case k3 => k_asm); (case k4 => k_asm); (case k5 => k_asm); (case k6 => first | with_reducible assumption | exact rfl); (case k7 => k_room)
  k_with "HB" => (case k1 => k_asm); (case k2 => k_asm); (case k3 => k_asm); (case k4 => k_asm); (case k5 => k_asm)
  k_with "K_MEM" => first | with_reducible assumption | ktr_member | exact List.Mem.head _ | (refine List.mem_cons_of_mem _ ?_; k_mem) | (refine List.mem_append_right _ ?_; k_mem) | (refine List.mem_append_left _ ?_; with_reducible assumption)
  k_with "K_IN" => first | k_in_fast | with_reducible assumption | exact Frag.In.keeps (by with_reducible assumption) (Fr.keep (by with_reducible assumption))
  k_with "K_ROOM" => ((try simp (config := {zetaDelta := true}) only [depth_under_make, depth_under_kw, depth_in1, depth_deeper, depth_caller]); (try dsimp only [ktrTop]); (first | (refine' room0 ?rh; (case rh => assumption)) | (refine' room1 ?rh ?rk; (case rh => assumption); (case rk => exact Nat.le_of_ble_eq_true rfl)) | (refine' room2 ?rh ?rk; (case rh => assumption); (case rk => exact Nat.le_of_ble_eq_true rfl)) | (refine' room3 ?rh ?rk; (case rh => assumption); (case rk => exact Nat.le_of_ble_eq_true rfl)) | (refine' room4 ?rh ?rk; (case rh => assumption); (case rk => exact Nat.le_of_ble_eq_true rfl)) | omega))
  k_with "testChain" => first | refine test_link ?_ | refine test_last ?_
  k_with "K_ALL" => first | with_reducible assumption | (refine lt_ne ?_; with_reducible assumption)
  k_with "call ref" => (k_here; refine wpAny_call ?_; k_dflt (refine' code_defL ?k1 ?k2 ?k3 ?k4 ?k5 ?kA ?kF ?kK ?k6 ?k7 ?k8 ?k9 ?kB ?_ ?c2 ?c3 ?c4 ?c5; (case kA => exact rfl); (case kF => exact rfl); (case kK => first | assumption | exact rfl); k_extra "HB"; (case k6 => k_is); (case k7 => k_is); (case k8 => k_room); (case k9 => k_extra "H8"); (case c5 => decide); (case kB => exact locs rfl); (case c2 => exact rfl); (case c3 => exact rfl); (case c4 => exact rfl); k_whole; intro g'Z L'Z h'Z kEZ kAZ kMZ kQZ kXZ FG'Z F'Z N'Z B'Z X'Z T'Z; (try dsimp only); (try k_lift B'Z)))
  k_with "LeaveK" => (k_dflt (refine' leaveK_ ?k1 ?k2 ?_; (case k1 => k_asm); (case k2 => k_asm); k_whole); intro kFZ kNZ; (try (have kXZ := kFor kFZ (by k_asm))); (try dsimp only [PySem.W.InitBack, PySem.W.CmpBack, PySem.W.LenBack, PySem.W.StrBack, PySem.W.BoolBack]); (try refine ⟨rfl, ?_⟩); (try dsimp only [PySem.W.CmpBack, PySem.W.LenBack, PySem.W.StrBack, PySem.W.BoolBack]); (try (refine ⟨⟨by omega, by omega⟩, ?_⟩)); (try (refine handed_on rfl ?_; try dsimp only)))
  k_with "storeName" => (k_here; k_dflt ((refine' storeL ?F ?N ?_ ?a ?b; (case F => k_asm); (case N => k_asm); (case a => rfl); (case b => rfl); k_whole; intro h'Z kMZ F'Z N'Z; (try k_sweep))))
  k_with "eval Attribute Name" => (k_here; k_dflt (refine' selfAttr ?kF ?ka ?kb ?kv ?k2 ?k3 ?k4 ?k5 ?k6 ?k7 ?k8 ?k9 ?_ ?kd; (case kF => k_asm); (case ka => rfl); (case kb => rfl); (case kv => rfl); (case k2 => k_asm); (case k3 => k_inst); (case k4 => k_is); (case k5 => k_is); (case k6 => k_is); (case k7 => k_is); (case k8 => k_get); (case k9 => k_handed); (case kd => decide); k_whole))
  k_with "spliced" => (k_here; (with_reducible show wpAny _ _ (spliced (backTo _ (starEach [Expr.Name _ _] _))) _ _ _); k_dflt (refine' argN1 ?kF ?ka ?kb ?kv ?_ ?kd; (case kF => k_asm); (case ka => rfl); (case kb => rfl); (case kv => rfl); (case kd => decide); k_whole))
  k_with "spliced" => (k_here; (with_reducible show wpAny _ _ (spliced (backTo _ (starEach (Expr.Name _ _ :: _ :: _) _))) _ _ _); k_dflt (refine' argN ?kF ?ka ?kb ?kv ?_ ?kd; (case kF => k_asm); (case ka => rfl); (case kb => rfl); (case kv => rfl); (case kd => decide); k_whole))
  k_with "eval Dict nil nil" => (k_here; k_dflt (refine' newDict_K ?k1 ?k2 (TopRead.nolimit ?k3) ?_; (case k1 => k_asm); (case k2 => k_asm); (case k3 => k_asm); k_whole); intro d'Z h'Z o'Z F'Z N'Z l1Z lo'Z hs'Z fs'Z hi'Z fi'Z; (try k_lt l1Z); (try k_sweep))
  k_with "call ref" => (k_here; k_dflt (refine' call_cls ?k1 ?k2 ?k3 ?k4 ?k5 ?k6 ?_; (case k1 => k_asm); (case k2 => k_asm); (case k3 => k_asm); (case k4 => k_is); (case k5 => k_is); (case k6 => k_is); k_whole; intro x'Z d'Z h'Z F'Z N'Z l1Z l2Z; (try k_lt l1Z); (try k_lt2 l2Z); (try k_sweep); refine' code_def ?k1 ?k2 ?k3 ?k4 ?k5 ?kA ?kF ?kK ?k6 ?k7 ?k8 ?k9 ?kB ?_ ?c2 ?c3 ?c4 ?c5; (case kA => exact rfl); (case kF => exact rfl); (case kK => assumption); k_extra "HB"; (case k6 => k_is); (case k7 => k_is); (case k8 => k_room); (case k9 => k_extra "H8"); (case c5 => decide); (case kB => exact locs rfl); (case c2 => exact rfl); (case c3 => exact rfl); (case c4 => exact rfl); k_whole; intro g'Z L'Z h'Z FG'Z F'Z N'Z B'Z X'Z T'Z; (try dsimp only); (try k_lift B'Z); (try k_fold)))
  k_with "unpackItems ref none" => focus (rw [fm_names]; rotate_left; (focus kernel_rfl); (dsimp only [List.filterMap, nmO, List.length]))
  k_with "unpackItems ref" => (k_here; k_dflt (refine' unpackItemsN_ ?k1 ?k2 ?k3 ?k4 ?k5 ?_; (case k1 => k_asm); (case k2 => k_asm); (case k3 => k_extra "H11"); (case k4 => exact rfl); (case k5 => exact rfl); k_whole); intro h'Z F'Z N'Z; (try k_sweep))
  k_with "call ref" => (k_here; (with_reducible show wpAny _ _ (call (Value.ref 859) _) _ _ _); refine stop_here ?_)
  k_with "call ref" => (k_here; (with_reducible show wpAny _ _ (call (Value.ref 852) _) _ _ _); refine stop_here ?_)
  k_with "call ref" => (k_here; (with_reducible show wpAny _ _ (call (Value.ref 873) _) _ _ _); refine stop_here ?_)
  k_with "call ref" => (k_here; (with_reducible show wpAny _ _ (call (Value.ref 866) _) _ _ _); refine stop_here ?_)
  k_with "call ref" => (k_here; (with_reducible show wpAny _ _ (call (Value.ref 845) _) _ _ _); refine stop_here ?_)
  k_with "call ref" => (k_here; (with_reducible show wpAny _ _ (call (Value.ref 845) _) _ _ _); k_dflt (refine' flags_spec ?k1 ?k2 ?k3 ?k4 ?k5 ?k6 ?k7 ?_; k_extra "HA"); intro t'Z h'Z tk'Z F'Z N'Z; (try dsimp only at N'Z); (try k_lt lts); (try k_sweep))
  k_with "call ref" => (k_here; (with_reducible show wpAny _ _ (call (Value.ref 859) _) _ _ _); k_dflt (refine' duex_spec ?k1 ?k2 ?k3 ?k4 ?k5 ?k6 ?k7 ?k8 ?k9 ?k10 ?k11 ?k12 ?k13 ?k14 ?k15 ?_; k_extra "HA"; (case k8 => first | assumption | (simp (config := {zetaDelta := true}) only [units_deeper, units_caller]; decide) | decide | (simp (config := {zetaDelta := true}) only [units_deeper, units_caller, cLine]; omega)); (case k9 => (refine' UpdF.tail ?a1 (UpdF.tail ?a2 (UpdF.tail ?a3 (UpdF.tail ?a4 (UpdF.head ?a5)))); (case a1 => k_ne); (case a2 => k_ne); (case a3 => k_ne); (case a4 => k_ne); (case a5 => exact List.forall_mem_cons.mpr ⟨by assumption, by assumption⟩))); (case k11 => assumption); (case k10 => k_extra "H5"); (case k12 => k_mem); (case k13 => assumption); (case k14 => assumption); (case k15 => first | assumption | omega)); intro V'Z ex'Z im'Z oD'Z h'Z tk'Z F'Z N'Z tA'Z iM'Z rV'Z W'Z; (try dsimp only at N'Z); (try k_sweep))
  k_with "call ref" => (k_here; (with_reducible show wpAny _ _ (call (Value.ref 852) _) _ _ _); k_dflt (refine' donex_spec ?k1 ?k2 ?k3 ?k4 ?k5 ?k6 ?k7 ?k8 ?k9 ?k10 ?k11 ?k12 ?k13 ?k14 ?k15 ?k16 ?k17 ?k18 ?k19 ?k20 ?k21 ?_; k_extra "HA"; (case k18 => exact rfl); (case k17 => assumption); (case k8 => assumption); (case k9 => assumption); (case k10 => assumption); (case k11 => k_extra "H5"); (case k12 => (refine' updF_ex ?e1 ?e2 ?e3 (UpdF.tail ?a1 (UpdF.tail ?a2 (UpdF.tail ?a3 (UpdF.head ?a5)))); (case e1 => assumption); (case e2 => assumption); (case e3 => assumption); (case a1 => k_ne); (case a2 => k_ne); (case a3 => k_ne); (case a5 => exact List.forall_mem_cons.mpr ⟨by k_ne, List.forall_mem_cons.mpr ⟨by assumption, by assumption⟩⟩))); (case k13 => assumption); (case k14 => assumption); (case k15 => assumption); (case k16 => k_extra "H12"); (case k19 => assumption); (case k20 => exact rfl); (case k21 => first | assumption | omega)); intro V2'Z oW'Z M2'Z h'Z tk'Z F'Z N'Z hW2'Z rV2'Z RR'Z; (try dsimp only at N'Z); (try k_sweep))
  k_with "call ref" => (k_here; (with_reducible show wpAny _ _ (call (Value.ref 873) _) _ _ _); k_dflt (refine' adux_spec ?k1 ?k2 ?k3 ?k4 ?k5 ?k6 ?k7 ?k8 ?k9 ?k10 ?k11 ?k12 ?k13 ?k14 ?k15 ?_; k_extra "HA"; (case k8 => first | assumption | (simp (config := {zetaDelta := true}) only [units_deeper, units_caller]; decide) | decide | (simp (config := {zetaDelta := true}) only [units_deeper, units_caller, cLine]; omega)); (case k9 => (refine' UpdF.tail ?a1 (UpdF.tail ?a2 (UpdF.tail ?a3 (UpdF.tail ?a4 (UpdF.head ?a5)))); (case a1 => k_ne); (case a2 => k_ne); (case a3 => k_ne); (case a4 => k_ne); (case a5 => exact List.forall_mem_cons.mpr ⟨by assumption, by assumption⟩))); (case k11 => assumption); (case k10 => k_extra "H5"); (case k12 => k_mem); (case k13 => assumption); (case k14 => assumption); (case k15 => assumption)); intro V'Z ex'Z im'Z oD'Z h'Z tk'Z F'Z N'Z tA'Z iM'Z rV'Z W'Z; (try dsimp only at N'Z); (try k_sweep))
  k_with "call ref" => (k_here; (with_reducible show wpAny _ _ (call (Value.ref 866) _) _ _ _); k_dflt (refine' accx_spec ?k1 ?k2 ?k3 ?k4 ?k5 ?k6 ?k7 ?k8 ?k9 ?k10 ?k11 ?k12 ?k13 ?k14 ?k15 ?k16 ?k17 ?k18 ?k19 ?k20 ?k21 ?_; k_extra "HA"; (case k19 => exact rfl); (case k8 => assumption); (case k9 => assumption); (case k10 => assumption); (case k11 => k_extra "H5"); (case k12 => (refine' updF_ex ?e1 ?e2 ?e3 (UpdF.tail ?a1 (UpdF.tail ?a2 (UpdF.tail ?a3 (UpdF.head ?a5)))); (case e1 => assumption); (case e2 => assumption); (case e3 => assumption); (case a1 => k_ne); (case a2 => k_ne); (case a3 => k_ne); (case a5 => exact List.forall_mem_cons.mpr ⟨by k_ne, List.forall_mem_cons.mpr ⟨by assumption, by assumption⟩⟩))); (case k13 => (intro o''Z x''Z hx''Z; (repeat (first | exact hx''Z | refine List.mem_cons_of_mem _ ?_ | refine List.mem_append_right _ ?_)))); (case k14 => assumption); (case k15 => assumption); (case k16 => assumption); (case k17 => k_extra "H12"); (case k18 => assumption); (case k20 => k_extra "H12"); (case k21 => assumption)); intro V2'Z ex2'Z oW'Z M2'Z h'Z tk'Z F'Z N'Z tA2'Z hW2'Z rV2'Z RR'Z; (try dsimp only at N'Z); (try k_sweep))
  k_with "subscriptTail Name Constant ref int" => (k_here; (with_reducible show wpAny _ _ (subscriptTail _ _ (Value.ref _) (Value.int _ _)) _ _ _); k_dflt (with_unfolding_all refine' pick_item ?k1 ?k2 ?k3 ?k5 ?_ ?k4; (case k1 => k_asm); (case k2 => k_mem); (case k3 => first | assumption | decide); (case k5 => first | assumption | exact rfl); (case k4 => with_unfolding_all rfl)))
  k_with "subscriptTail Name Name ref int" => (k_here; (with_reducible show wpAny _ _ (subscriptTail _ _ (Value.ref _) (Value.int _ _)) _ _ _); k_dflt (with_unfolding_all refine' pick_item ?k1 ?k2 ?k3 ?k5 ?_ ?k4; (case k1 => k_asm); (case k2 => k_mem); (case k3 => first | assumption | decide); (case k5 => first | assumption | exact rfl); (case k4 => with_unfolding_all rfl)))
  k_with "subscriptTail Subscript Name Name Name ref int" => (k_here; (with_reducible show wpAny _ _ (subscriptTail _ _ (Value.ref _) (Value.int _ _)) _ _ _); k_dflt (with_unfolding_all refine' goal_item ?k1 ?k2 ?k3 ?_ ?k4; (case k1 => k_asm); (case k2 => k_mem); (case k3 => assumption); (case k4 => with_unfolding_all rfl)); intro t'Z)
  k_with "execs cons" => (k_here; (with_reducible show wpAny _ _ (execs (Stmt.If (Expr.BoolOp _ _ _) _ _ _ :: _) _) _ _ _); refine stop_here ?_)
  trivial
theorem turn2 {R : Flow → Shared → Prop} {n g0 g1 ga gb root : Int} {r0 r1 rt y0 y1 y2 y3 ya yb : Tok} {n0 n1 n2 n3 nq : Nat} {I : Addr} {oI : Obj} {t : Tok}
  (B : Below callerA base [] h₀) (X : (KF w.params).In h₀) (T : Top p loose mean mg mb h₀) (XB : (KF w.params).In base) (TB : Top p loose mean mg mb base)
  (F : Fr h₀ L s.heap (fun y => if y = Str.ofString "n" then some (.int n t) else if y = Str.ofString "goals" then some (.ref GT) else if y = Str.ofString "roots" then some (.ref RT) else if y = Str.ofString "own" then some (.ref D) else if y = Str.ofString "table" then some (.ref c.t) else if y = Str.ofString "walker" then some (.ref c.k) else if y = Str.ofString "pool" then some (.ref c.p) else mm y))
  (N : News h₀ L s.heap ((c.w, oW) :: (D, oD) :: (I, oI) :: (tl ++ rest))) (S : Std c rest) (hw : Wd w oW M)
  (hi : ∀ x ∈ im, x ∈ tl) (W : Ow w im oD ds) (lo : (D == sysModules) = false) (hz : ds.length ≤ 1000)
  (hRT : (RT, listOf (List.toArray [.int 896 r0, .int 912 r1]) n0) ∈ rest) (hGT : (GT, listOf (List.toArray [.ref G0, .ref G1]) n1) ∈ rest)
  (hG0 : (G0, listOf (List.toArray [.int 0 y0, .int 1 y1]) n2) ∈ rest) (hG1 : (G1, listOf (List.toArray [.int g0 y2, .int g1 y3]) n3) ∈ rest)
  (hGs : [Value.ref G0, Value.ref G1][((n.fdiv 6).fmod 2).toNat]? = some (.ref Gs)) (hRs : [Value.int 896 r0, Value.int 912 r1][((n.fdiv 6).fmod 2).toNat]? = some (.int root rt))
  (hGm : (Gs, listOf (List.toArray [.int ga ya, .int gb yb]) nq) ∈ rest)
  (hrt : (root = 896 ∧ ga = 0 ∧ gb = 1) ∨ (root = 912 ∧ ga = g0 ∧ gb = g1)) (hn : 0 ≤ n)
  (hP : PoolIn c 4 rest) (RR : Rel M ds g0 g1) (oo : @LT.lt Nat _ c.w D) (o1 : ∀ p ∈ tl ++ rest, p.1 ≠ c.w) (o2 : ∀ p ∈ tl ++ rest, p.1 ≠ D) (iw : @Ne Nat I c.w) (iD : @Ne Nat I D)
  (hret : ∀ oW' oD' ex M' ds' im' m' h' tk', Fr h₀ L h' m' → (∀ y, y ∉ [Str.ofString "told", Str.ofString "due", Str.ofString "address", Str.ofString "spot", Str.ofString "rest", Str.ofString "way", Str.ofString "side", Str.ofString "first", Str.ofString "second", Str.ofString "n"] → m' y = (fun y => if y = Str.ofString "goals" then some (.ref GT) else if y = Str.ofString "roots" then some (.ref RT) else if y = Str.ofString "own" then some (.ref D) else if y = Str.ofString "table" then some (.ref c.t) else if y = Str.ofString "walker" then some (.ref c.k) else if y = Str.ofString "pool" then some (.ref c.p) else mm y) y) →
    News h₀ L h' (ex ++ ((c.w, oW') :: (D, oD') :: (I, oI) :: (tl ++ rest))) → TupAll ex → Wd w oW' M' → Ow w im' oD' ds' → (∀ x ∈ im', x ∈ ex ++ tl) → Rel M' ds' g0 g1 → R .next { s with heap := h', toks := tk' }) :
  wpAny (model pw w) (callerA.deeper (envL L a cd)) (execs (forB (fnB (st 56))[7]?) (envL L a cd)) R E s := by
  have sb : 0 ≤ (n.fdiv 6).fmod 2 ∧ (n.fdiv 6).fmod 2 < 2 := fm_bd _ (by decide)
  have hf : (n.fdiv 12).fmod 2 = 0 ∨ (n.fdiv 12).fmod 2 = 1 := two_of (fm_bd _ (by decide))
  have hu : 0 ≤ (n.fdiv 24).fmod 4 ∧ (n.fdiv 24).fmod 4 < 4 := fm_bd _ (by decide)
  have hwb : 0 ≤ n.fmod 6 ∧ n.fmod 6 < 6 := fm_bd _ (by decide)
  have hrb : 0 ≤ (n.fdiv 96).fmod 16 ∧ (n.fdiv 96).fmod 16 < 16 := fm_bd _ (by decide)
  have hPG : PG (16 * (n.fdiv 96).fmod 50) := pg_fm _
  have b0 := RR.b0
  have b1 := RR.b1
  have hgb : 0 ≤ (if (n.fdiv 12).fmod 2 = 0 then ga else gb) ∧ (if (n.fdiv 12).fmod 2 = 0 then ga else gb) < 4 := by
    split
    · exact (ga_bd hrt b0 b1).1
    · exact (ga_bd hrt b0 b1).2
  have hroot : (root = 896 ∧ (if (n.fdiv 12).fmod 2 = 0 then ga else gb) = if (n.fdiv 12).fmod 2 = 0 then 0 else 1) ∨ (root = 912 ∧ (if (n.fdiv 12).fmod 2 = 0 then ga else gb) = if (n.fdiv 12).fmod 2 = 0 then g0 else g1) := by
    rcases hrt with ⟨e, rfl, rfl⟩ | ⟨e, rfl, rfl⟩
    · exact .inl ⟨e, rfl⟩
    · exact .inr ⟨e, rfl⟩
  obtain ⟨ks, ca, hkd⟩ : ∃ (ks : Str) (ca : Int), ((n.fdiv 96).fmod 3 = 0 ∧ ks = "fetch" ∧ ca = 12) ∨ ((n.fdiv 96).fmod 3 = 1 ∧ ks = "load" ∧ ca = 13) ∨ ((n.fdiv 96).fmod 3 = 2 ∧ ks = "store" ∧ ca = 15) := by
    rcases tri (n := n.fdiv 96) with e | e | e
    · exact ⟨"fetch", 12, .inl ⟨e, rfl, rfl⟩⟩
    · exact ⟨"load", 13, .inr (.inl ⟨e, rfl, rfl⟩)⟩
    · exact ⟨"store", 15, .inr (.inr ⟨e, rfl, rfl⟩)⟩
  have hi' : ∀ x ∈ im, x ∈ tl ++ rest := fun x hx => List.mem_append_left _ (hi x hx)
  show wpAny _ _ (execs (_ :: _) _) _ _ _
  k_steps
  · unfold StopHere
    have iM := ‹∀ x ∈ _, x = _ ∨ x ∈ _ ∨ x ∈ im›
    rename Fr _ _ _ _ => FL
    refine' segC (c := c) (rest := rest) (G0 := G0) (G1 := G1) (g0 := g0) (g1 := g1) (f := (n.fdiv 12).fmod 2) (u := (n.fdiv 24).fmod 4) B X T (fr_ins (fr_ins (fr_ins (fr_ins (fr_ins (fr_ins (fr_ins (fr_ins FL rfl) rfl) rfl) rfl) rfl) rfl) rfl) rfl) (by assumption) S ?hs ?hwm (by assumption) ?hi ?hDm (by assumption) lo ?h1 ?h2 ?h3 ?h4 ?h5 ?hP (by assumption) hf hu ?hO ?fin
    case hO => exact ResV.out (by assumption) (by assumption)
    case hs => repeat' (first | with_reducible assumption | exact (fun _ h => h) | refine sub_cons ?_ | refine sub_app ?_)
    case hwm => k_mem
    case hDm => k_mem
    case h1 => k_mem
    case h2 => k_mem
    case h3 => k_mem
    case h4 => k_mem
    case h5 => k_mem
    case hP => exact poolIn_mono hP (by repeat' (first | with_reducible assumption | exact (fun _ h => h) | refine sub_cons ?_ | refine sub_app ?_))
    case hi =>
      intro x hx
      rcases iM x hx with e | e | e
      · rw [e]; k_mem
      · exact List.mem_append_left _ e
      · have e' := hi' x e
        k_mem
    case fin =>
      intro m' h' tk' F3 em N3
      refine' hret _ _ (_ ++ [_, _, _]) _ _ _ m' h' tk' F3 ?em ?N ?T (by assumption) (by assumption) ?im (by assumption)
      case N => rw [List.append_assoc]; exact N3
      case T => exact TupAll.app (by assumption) (.cons (.cons (.cons .nil)))
      case em =>
        intro y hy
        subst em
        refine (ins1 FL rfl (ins1 FL rfl (ins1 FL rfl (ins1 FL rfl (ins1 FL rfl (ins1 FL rfl (ins1 FL rfl (ins1 FL rfl rfl)))))))).trans ?_
        repeat (refine' (if_neg (not_in hy ?hm)).trans ?_; (case hm => ((repeat (first | with_reducible exact List.mem_cons_self | with_reducible refine List.mem_cons_of_mem _ ?_)); done)))
        rfl
      case im =>
        intro x hx
        rcases iM x hx with e | e | e
        · rw [e]; exact List.mem_append_left _ (List.mem_append_right _ (.tail _ (.head _)))
        · exact List.mem_append_left _ (List.mem_append_left _ e)
        · exact List.mem_append_right _ (hi x e)
  · unfold StopHere
    have iM := ‹∀ x ∈ _, x = _ ∨ x ∈ _ ∨ x ∈ im›
    rename Fr _ _ _ _ => FL
    refine' segC (c := c) (rest := rest) (G0 := G0) (G1 := G1) (g0 := g0) (g1 := g1) (f := (n.fdiv 12).fmod 2) (u := (n.fdiv 24).fmod 4) B X T (fr_ins (fr_ins (fr_ins (fr_ins (fr_ins (fr_ins (fr_ins (fr_ins FL rfl) rfl) rfl) rfl) rfl) rfl) rfl) rfl) (by assumption) S ?hs ?hwm (by assumption) ?hi ?hDm (by assumption) lo ?h1 ?h2 ?h3 ?h4 ?h5 ?hP (by assumption) hf hu ?hO ?fin
    case hO => exact AccV.out (by assumption) (by assumption) (fun x hx => List.mem_append_left _ hx) (fun x hx => List.mem_append_right _ (List.mem_append_left _ hx))
    case hs => repeat' (first | with_reducible assumption | exact (fun _ h => h) | refine sub_cons ?_ | refine sub_app ?_)
    case hwm => k_mem
    case hDm => k_mem
    case h1 => k_mem
    case h2 => k_mem
    case h3 => k_mem
    case h4 => k_mem
    case h5 => k_mem
    case hP => exact poolIn_mono hP (by repeat' (first | with_reducible assumption | exact (fun _ h => h) | refine sub_cons ?_ | refine sub_app ?_))
    case hi =>
      intro x hx
      rcases iM x hx with e | e | e
      · rw [e]; k_mem
      · exact List.mem_append_right _ (List.mem_append_left _ e)
      · have e' := hi' x e
        k_mem
    case fin =>
      intro m' h' tk' F3 em N3
      refine' hret _ _ (_ ++ (_ ++ [_, _, _])) _ _ _ m' h' tk' F3 ?em ?N ?T (by assumption) (by assumption) ?im (by assumption)
      case N => rw [List.append_assoc, List.append_assoc]; exact N3
      case T => exact TupAll.app (by assumption) (TupAll.app (by assumption) (.cons (.cons (.cons .nil))))
      case em =>
        intro y hy
        subst em
        refine (ins1 FL rfl (ins1 FL rfl (ins1 FL rfl (ins1 FL rfl (ins1 FL rfl (ins1 FL rfl (ins1 FL rfl (ins1 FL rfl rfl)))))))).trans ?_
        repeat (refine' (if_neg (not_in hy ?hm)).trans ?_; (case hm => ((repeat (first | with_reducible exact List.mem_cons_self | with_reducible refine List.mem_cons_of_mem _ ?_)); done)))
        rfl
      case im =>
        intro x hx
        rcases iM x hx with e | e | e
        · rw [e]; exact List.mem_append_left _ (List.mem_append_right _ (List.mem_append_right _ (.tail _ (.head _))))
        · exact List.mem_append_left _ (List.mem_append_right _ (List.mem_append_left _ e))
        · exact List.mem_append_right _ (hi x e)
end
end Mine

namespace Mine
/-- what holds ahead of each turn of the main loop -/
inductive Inv4 (w : World) (c : Ads) (D : Addr) (rest : Ledger) (g0 g1 : Int) (m₀ m : Str → Option Value) (nx : Ledger) : Prop
  | mk (oW oD : Obj) (M : Int → Int) (ds : Own) (im tl : Ledger) (e : nx = (c.w, oW) :: (D, oD) :: (tl ++ rest)) (ht : TupAll tl) (hi : ∀ x ∈ im, x ∈ tl) (hw : Wd w oW M) (W : Ow w im oD ds) (R : Rel M ds g0 g1)
    (hm : ∀ y, y ∉ [Str.ofString "told", Str.ofString "due", Str.ofString "address", Str.ofString "spot", Str.ofString "rest", Str.ofString "way", Str.ofString "side", Str.ofString "first", Str.ofString "second", Str.ofString "n"] → m y = m₀ y)
section
variable {w : World} {p : Program} {loose : List Str} {mean : ExcName → Option Value} {mg mb : Str → Option Value}
  {dp un : Nat} {gd : Option (List Code)} {cn : Str} {cs : Scope} {a : Addr} {ccd : Value} {cl : List (Str × Addr)} {outer : List Env} {A₀ : Around} {base h₀ : Heap} {L : Addr} {m : Str → Option Value} {s : Shared} {Q E : Value → Shared → Prop} {news : List (Addr × Obj)}
variable {c : Ads} {oW oD : Obj} {M : Int → Int} {rest im tl : Ledger} {D RT GT G0 G1 mk : Addr} {ds : Own} {cd : Value} {ws : List Value} {ns : List Int} {nn : Nat} {mm : Str → Option Value}
theorem rulesX40 : True := by
  k_with_none
  k_with "H11" => exact News.isTup (by assumption) (List.Mem.head _)
  k_with "H8" => first | exact binds_K (by k_in) rfl (by k_is) rfl rfl rfl | exact BindsTo.of_eq rfl
  k_with "HB" => (case k1 => k_asm); (case k2 => k_asm); (case k3 => k_asm); (case k4 => k_asm); (case k5 => k_asm)
  k_with "K_MEM" => first | with_reducible assumption | ktr_member | exact List.Mem.head _ | (refine List.mem_cons_of_mem _ ?_; k_mem) | (refine List.mem_append_right _ ?_; k_mem) | (refine List.mem_append_left _ ?_; with_reducible assumption)
  k_with "K_IN" => first | k_in_fast | with_reducible assumption | exact Frag.In.keeps (by with_reducible assumption) (Fr.keep (by with_reducible assumption))
  k_with "K_ROOM" => ((try simp (config := {zetaDelta := true}) only [depth_under_make, depth_under_kw, depth_in1, depth_deeper, depth_caller]); (try dsimp only [ktrTop]); (first | (refine' room0 ?rh; (case rh => assumption)) | (refine' room1 ?rh ?rk; (case rh => assumption); (case rk => exact Nat.le_of_ble_eq_true rfl)) | (refine' room2 ?rh ?rk; (case rh => assumption); (case rk => exact Nat.le_of_ble_eq_true rfl)) | (refine' room3 ?rh ?rk; (case rh => assumption); (case rk => exact Nat.le_of_ble_eq_true rfl)) | (refine' room4 ?rh ?rk; (case rh => assumption); (case rk => exact Nat.le_of_ble_eq_true rfl)) | omega))
  k_with "testChain" => first | refine test_link ?_ | refine test_last ?_
  k_with "K_ALL" => first | with_reducible assumption | (refine lt_ne ?_; with_reducible assumption)
  k_with "call ref" => (k_here; refine wpAny_call ?_; k_dflt (refine' code_defL ?k1 ?k2 ?k3 ?k4 ?k5 ?kA ?kF ?kK ?k6 ?k7 ?k8 ?k9 ?kB ?_ ?c2 ?c3 ?c4 ?c5; (case kA => exact rfl); (case kF => exact rfl); (case kK => first | assumption | exact rfl); k_extra "HB"; (case k6 => k_is); (case k7 => k_is); (case k8 => k_room); (case k9 => k_extra "H8"); (case c5 => decide); (case kB => exact locs rfl); (case c2 => exact rfl); (case c3 => exact rfl); (case c4 => exact rfl); k_whole; intro g'Z L'Z h'Z kEZ kAZ kMZ kQZ kXZ FG'Z F'Z N'Z B'Z X'Z T'Z; (try dsimp only); (try k_lift B'Z)))
  k_with "LeaveK" => (k_dflt (refine' leaveK_ ?k1 ?k2 ?_; (case k1 => k_asm); (case k2 => k_asm); k_whole); intro kFZ kNZ; (try (have kXZ := kFor kFZ (by k_asm))); (try dsimp only [PySem.W.InitBack, PySem.W.CmpBack, PySem.W.LenBack, PySem.W.StrBack, PySem.W.BoolBack]); (try refine ⟨rfl, ?_⟩); (try dsimp only [PySem.W.CmpBack, PySem.W.LenBack, PySem.W.StrBack, PySem.W.BoolBack]); (try (refine ⟨⟨by omega, by omega⟩, ?_⟩)); (try (refine handed_on rfl ?_; try dsimp only)))
  k_with "storeName" => (k_here; k_dflt ((refine' storeL ?F ?N ?_ ?a ?b; (case F => k_asm); (case N => k_asm); (case a => rfl); (case b => rfl); k_whole; intro h'Z kMZ F'Z N'Z; (try k_sweep))))
  k_with "eval Attribute Name" => (k_here; k_dflt (refine' selfAttr ?kF ?ka ?kb ?kv ?k2 ?k3 ?k4 ?k5 ?k6 ?k7 ?k8 ?k9 ?_ ?kd; (case kF => k_asm); (case ka => rfl); (case kb => rfl); (case kv => rfl); (case k2 => k_asm); (case k3 => k_inst); (case k4 => k_is); (case k5 => k_is); (case k6 => k_is); (case k7 => k_is); (case k8 => k_get); (case k9 => k_handed); (case kd => decide); k_whole))
  k_with "spliced" => (k_here; (with_reducible show wpAny _ _ (spliced (backTo _ (starEach [Expr.Name _ _] _))) _ _ _); k_dflt (refine' argN1 ?kF ?ka ?kb ?kv ?_ ?kd; (case kF => k_asm); (case ka => rfl); (case kb => rfl); (case kv => rfl); (case kd => decide); k_whole))
  k_with "spliced" => (k_here; (with_reducible show wpAny _ _ (spliced (backTo _ (starEach (Expr.Name _ _ :: _ :: _) _))) _ _ _); k_dflt (refine' argN ?kF ?ka ?kb ?kv ?_ ?kd; (case kF => k_asm); (case ka => rfl); (case kb => rfl); (case kv => rfl); (case kd => decide); k_whole))
  k_with "eval Dict nil nil" => (k_here; k_dflt (refine' newDict_K ?k1 ?k2 (TopRead.nolimit ?k3) ?_; (case k1 => k_asm); (case k2 => k_asm); (case k3 => k_asm); k_whole); intro d'Z h'Z o'Z F'Z N'Z l1Z lo'Z hs'Z fs'Z hi'Z fi'Z; (try k_lt l1Z); (try k_sweep))
  k_with "call ref" => (k_here; k_dflt (refine' call_cls ?k1 ?k2 ?k3 ?k4 ?k5 ?k6 ?_; (case k1 => k_asm); (case k2 => k_asm); (case k3 => k_asm); (case k4 => k_is); (case k5 => k_is); (case k6 => k_is); k_whole; intro x'Z d'Z h'Z F'Z N'Z l1Z l2Z; (try k_lt l1Z); (try k_lt2 l2Z); (try k_sweep); refine' code_def ?k1 ?k2 ?k3 ?k4 ?k5 ?kA ?kF ?kK ?k6 ?k7 ?k8 ?k9 ?kB ?_ ?c2 ?c3 ?c4 ?c5; (case kA => exact rfl); (case kF => exact rfl); (case kK => assumption); k_extra "HB"; (case k6 => k_is); (case k7 => k_is); (case k8 => k_room); (case k9 => k_extra "H8"); (case c5 => decide); (case kB => exact locs rfl); (case c2 => exact rfl); (case c3 => exact rfl); (case c4 => exact rfl); k_whole; intro g'Z L'Z h'Z FG'Z F'Z N'Z B'Z X'Z T'Z; (try dsimp only); (try k_lift B'Z); (try k_fold)))
  k_with "unpackItems ref none" => focus (rw [fm_names]; rotate_left; (focus kernel_rfl); (dsimp only [List.filterMap, nmO, List.length]))
  k_with "unpackItems ref" => (k_here; k_dflt (refine' unpackItemsN_ ?k1 ?k2 ?k3 ?k4 ?k5 ?_; (case k1 => k_asm); (case k2 => k_asm); (case k3 => k_extra "H11"); (case k4 => exact rfl); (case k5 => exact rfl); k_whole); intro h'Z F'Z N'Z; (try k_sweep))
  k_with "exec For Name Name cons nil" => (k_here; (rename Fr _ _ _ _ => lF'Z); (with_unfolding_all refine' For_invVF lF'Z ?k1 ?k2 ?_; (case k1 => exact rfl); (case k2 => exact rfl); k_whole))
  k_with "pyIter ref" => (refine stop_here ?_)
  trivial
theorem law4 {Q : Flow → Shared → Prop} {g0 g1 : Int} {r0 r1 y0 y1 y2 y3 : Tok} {n0 n1 n2 n3 : Nat} {tv : Option Value} {u : Str → Option Value}
  (hE : PassesOwn (model pw w) (callerA.deeper (envL L a cd)) (envL L a cd) E) (B : Below callerA base [] h₀) (X : (KF w.params).In h₀) (T : Top p loose mean mg mb h₀) (XB : (KF w.params).In base) (TB : Top p loose mean mg mb base)
  (F : Fr h₀ L s.heap (fun y => if y = Str.ofString "first" then u y else if y = Str.ofString "goals" then some (.ref GT) else if y = Str.ofString "roots" then some (.ref RT) else if y = Str.ofString "own" then some (.ref D) else if y = Str.ofString "turn" then tv else if y = Str.ofString "table" then some (.ref c.t) else if y = Str.ofString "walker" then some (.ref c.k) else if y = Str.ofString "pool" then some (.ref c.p) else if y = Str.ofString "memory" then some (.ref c.m) else if y = Str.ofString "layout" then some (.ref c.l) else if y = Str.ofString "marks" then some (.ref mk) else mm y))
  (N : News h₀ L s.heap ((c.w, oW) :: (D, oD) :: (tl ++ rest))) (S : Std c rest) (hP : PoolIn c 4 rest) (loD : (D == sysModules) = false)
  (hRT : (RT, listOf (List.toArray [.int 896 r0, .int 912 r1]) n0) ∈ rest) (hGT : (GT, listOf (List.toArray [.ref G0, .ref G1]) n1) ∈ rest)
  (hG0 : (G0, listOf (List.toArray [.int 0 y0, .int 1 y1]) n2) ∈ rest) (hG1 : (G1, listOf (List.toArray [.int g0 y2, .int g1 y3]) n3) ∈ rest)
  (hmk : (mk, listOf (List.toArray ws) nn) ∈ rest) (hI : IntsAre ws ns) (hns : ∀ n ∈ ns, 0 ≤ n)
  (hw : Wd w oW M) (ht : TupAll tl) (hi : ∀ x ∈ im, x ∈ tl) (W : Ow w im oD ds) (RR : Rel M ds g0 g1) (oo : @LT.lt Nat _ c.w D) (o1 : ∀ p ∈ rest, p.1 ≠ c.w) (o2 : ∀ p ∈ rest, p.1 ≠ D)
  (hnext : ∀ oW' oD' M' ds' im' tl' (v : Str → Option Value) h' tk', Fr h₀ L h' (fun y => if y ∈ [Str.ofString "told", Str.ofString "due", Str.ofString "address", Str.ofString "spot", Str.ofString "rest", Str.ofString "way", Str.ofString "side", Str.ofString "first", Str.ofString "second", Str.ofString "n"] then v y else (fun y => if y = Str.ofString "first" then u y else if y = Str.ofString "goals" then some (.ref GT) else if y = Str.ofString "roots" then some (.ref RT) else if y = Str.ofString "own" then some (.ref D) else if y = Str.ofString "turn" then tv else if y = Str.ofString "table" then some (.ref c.t) else if y = Str.ofString "walker" then some (.ref c.k) else if y = Str.ofString "pool" then some (.ref c.p) else if y = Str.ofString "memory" then some (.ref c.m) else if y = Str.ofString "layout" then some (.ref c.l) else if y = Str.ofString "marks" then some (.ref mk) else mm y) y) →
    News h₀ L h' ((c.w, oW') :: (D, oD') :: (tl' ++ rest)) → TupAll tl' → Wd w oW' M' → Ow w im' oD' ds' → (∀ x ∈ im', x ∈ tl') → Rel M' ds' g0 g1 → wpAny (model pw w) (callerA.deeper (envL L a cd)) (execs ((fnB (st 56)).drop 8) (envL L a cd)) Q E { s with heap := h', toks := tk' }) :
  wpAny (model pw w) (callerA.deeper (envL L a cd)) (execs ((fnB (st 56)).drop 7) (envL L a cd)) Q E s := by
  show wpAny _ _ (execs (_ :: _) _) _ _ _
  k_steps
  unfold StopHere
  refine list_grow (l := mk) (vs := ws) (ns := ns) (nn := nn) (fun _ m nx => Inv4 w c D rest g0 g1 (fun y => if y = Str.ofString "first" then u y else if y = Str.ofString "goals" then some (.ref GT) else if y = Str.ofString "roots" then some (.ref RT) else if y = Str.ofString "own" then some (.ref D) else if y = Str.ofString "turn" then tv else if y = Str.ofString "table" then some (.ref c.t) else if y = Str.ofString "walker" then some (.ref c.k) else if y = Str.ofString "pool" then some (.ref c.p) else if y = Str.ofString "memory" then some (.ref c.m) else if y = Str.ofString "layout" then some (.ref c.l) else if y = Str.ofString "marks" then some (.ref mk) else mm y) m nx)
    rfl (.tail _ (.tail _ (List.mem_append_right _ hmk))) hI (by assumption) (by assumption) ⟨_, _, _, _, _, _, rfl, ht, hi, hw, W, RR, fun _ _ => rfl⟩ ?_ ?_ ?_
  · rintro i m nx ⟨oW, oD, M, ds, im, tl, rfl, _⟩
    exact .tail _ (.tail _ (List.mem_append_right _ hmk))
  · rintro I oI i n m₁ nx h2 tk2 t hc hn hoff ⟨oW, oD, M, ds, im, tl, rfl, ht, hi, hw, W, RR, hm⟩ F₁ N₁
    have hn0 : 0 ≤ n := hns n (List.mem_of_getElem? hn)
    have iw : @Ne Nat I c.w := fun e => hoff (c.w, oW) (.head _) e.symm
    have iD : @Ne Nat I D := fun e => hoff (D, oD) (.tail _ (.head _)) e.symm
    have sb : 0 ≤ (n.fdiv 6).fmod 2 ∧ (n.fdiv 6).fmod 2 < 2 := by rw [Int.fmod_eq_emod_of_nonneg _ (by decide)]; lia
    have N₂ : News h₀ (envL L a cd).locals h2 (tl ++ ((c.w, oW) :: (D, oD) :: (I, oI) :: rest)) := fun q hq => N₁ q (by
      simp only [List.mem_append, List.mem_cons] at hq ⊢
      rcases hq with e | e | e | e | e
      · exact .inr (.inr (.inr (.inl e)))
      · exact .inr (.inl e)
      · exact .inr (.inr (.inl e))
      · exact .inl e
      · exact .inr (.inr (.inr (.inr e))))
    have hDc : oD.cls = .type "dict" := by obtain ⟨_, hc, _⟩ := W; exact hc.1
    have o1' : ∀ p ∈ tl ++ rest, p.1 ≠ c.w := fun p hp => (List.mem_append.mp hp).elim (fun h => tup_off N₂ ht (.head _) (by rw [wd_dict hw]; decide) p h) (o1 p)
    have o2' : ∀ p ∈ tl ++ rest, p.1 ≠ D := fun p hp => (List.mem_append.mp hp).elim (fun h => tup_off N₂ ht (.tail _ (.head _)) (by rw [hDc]; decide) p h) (o2 p)
    have N₃ : News h₀ L h2 ((c.w, oW) :: (D, oD) :: (I, oI) :: (tl ++ rest)) := fun q hq => N₁ q (by
      simp only [List.mem_append, List.mem_cons] at hq ⊢
      rcases hq with e | e | e | e | e
      · exact .inr (.inl e)
      · exact .inr (.inr (.inl e))
      · exact .inl e
      · exact .inr (.inr (.inr (.inl e)))
      · exact .inr (.inr (.inr (.inr e))))
    obtain ⟨Gs, ga, gb, ya, yb, nq, root, rt, e1, e2, e3, e4⟩ : ∃ Gs ga gb ya yb nq root rt, [Value.ref G0, Value.ref G1][((n.fdiv 6).fmod 2).toNat]? = some (.ref Gs) ∧ [Value.int 896 r0, Value.int 912 r1][((n.fdiv 6).fmod 2).toNat]? = some (.int root rt) ∧
        (Gs, listOf (List.toArray [.int ga ya, .int gb yb]) nq) ∈ rest ∧ ((root = 896 ∧ ga = 0 ∧ gb = 1) ∨ (root = 912 ∧ ga = g0 ∧ gb = g1)) := by
      rcases (by lia : (n.fdiv 6).fmod 2 = 0 ∨ (n.fdiv 6).fmod 2 = 1) with e | e
      · rw [e]; exact ⟨G0, 0, 1, y0, y1, n2, 896, r0, rfl, rfl, hG0, .inl ⟨rfl, rfl, rfl⟩⟩
      · rw [e]; exact ⟨G1, g0, g1, y2, y3, n3, 912, r1, rfl, rfl, hG1, .inr ⟨rfl, rfl, rfl⟩⟩
    refine turn2 (s := { s with heap := h2, toks := tk2 }) (G0 := G0) (G1 := G1) (Gs := Gs) (RT := RT) (GT := GT) (im := im) (tl := tl) (c := c) (D := D) (I := I) (oI := oI) (t := t) B X T XB TB
      (fr_ins (fr_ins (fr_ins (fr_ins (fr_ins (fr_ins (fr_ins F₁ (hm (Str.ofString "pool") (by decide))) (hm (Str.ofString "walker") (by decide))) (hm (Str.ofString "table") (by decide))) (hm (Str.ofString "own") (by decide))) (hm (Str.ofString "roots") (by decide))) (hm (Str.ofString "goals") (by decide))) rfl)
      N₃ S hw hi W loD (Nat.le_trans RR.len (by decide)) hRT hGT hG0 hG1 e1 e2 e3 e4 hn0 hP RR oo o1' o2' iw iD ?_
    rintro oW3 oD3 ex M3 ds3 im3 m3 h3 tk3 F3 hm3 N3 tA hw3 W3 iM R3
    refine ⟨h3, tk3, m3, (c.w, oW3) :: (D, oD3) :: ((ex ++ tl) ++ rest), rfl, F3, fun q hq => N3 q ?_, ?_, oW3, oD3, M3, ds3, im3, ex ++ tl, rfl, TupAll.app tA ht, iM, hw3, W3, R3, ?_⟩
    · simp only [List.mem_append, List.mem_cons] at hq ⊢
      rcases hq with e | e | e | (e | e) | e
      · exact .inr (.inr (.inr (.inl e)))
      · exact .inr (.inl e)
      · exact .inr (.inr (.inl e))
      · exact .inl e
      · exact .inr (.inr (.inr (.inr (.inl e))))
      · exact .inr (.inr (.inr (.inr (.inr e))))
    · intro p hp
      simp only [List.mem_append, List.mem_cons] at hp
      rcases hp with e | e | (e | e) | e
      · rw [e]; exact fun z => iw z.symm
      · rw [e]; exact fun z => iD z.symm
      · exact tup_off N3 tA (.tail _ (.tail _ (.head _))) (by rw [hc]; decide) p e
      · exact hoff p (.tail _ (.tail _ (List.mem_append_left _ e)))
      · exact hoff p (.tail _ (.tail _ (List.mem_append_right _ e)))
    · intro y hy
      rw [hm3 y hy]
      have hyn : y ≠ Str.ofString "n" := fun e => hy (by rw [e]; decide)
      by_cases a1 : y = Str.ofString "goals"
      · subst a1; rfl
      by_cases a2 : y = Str.ofString "roots"
      · subst a2; rfl
      by_cases a3 : y = Str.ofString "own"
      · subst a3; rfl
      by_cases a4 : y = Str.ofString "table"
      · subst a4; rfl
      by_cases a5 : y = Str.ofString "walker"
      · subst a5; rfl
      by_cases a6 : y = Str.ofString "pool"
      · subst a6; rfl
      have h0 := hm y hy
      simp only [if_neg a1, if_neg a2, if_neg a3, if_neg a4, if_neg a5, if_neg a6, if_neg hyn] at h0 ⊢
      exact h0
  · rintro h2 tk2 m₁ nx ⟨oW, oD, M, ds, im, tl, rfl, ht, hi, hw, W, RR, hm⟩ F₁ N₁
    refine hnext oW oD M ds im tl m₁ h2 tk2 ?_ N₁ ht hw W hi RR
    have e : m₁ = (fun y => if y ∈ [Str.ofString "told", Str.ofString "due", Str.ofString "address", Str.ofString "spot", Str.ofString "rest", Str.ofString "way", Str.ofString "side", Str.ofString "first", Str.ofString "second", Str.ofString "n"] then m₁ y else (fun y => if y = Str.ofString "first" then u y else if y = Str.ofString "goals" then some (.ref GT) else if y = Str.ofString "roots" then some (.ref RT) else if y = Str.ofString "own" then some (.ref D) else if y = Str.ofString "turn" then tv else if y = Str.ofString "table" then some (.ref c.t) else if y = Str.ofString "walker" then some (.ref c.k) else if y = Str.ofString "pool" then some (.ref c.p) else if y = Str.ofString "memory" then some (.ref c.m) else if y = Str.ofString "layout" then some (.ref c.l) else if y = Str.ofString "marks" then some (.ref mk) else mm y) y) := by
      funext y
      by_cases h : y ∈ [Str.ofString "told", Str.ofString "due", Str.ofString "address", Str.ofString "spot", Str.ofString "rest", Str.ofString "way", Str.ofString "side", Str.ofString "first", Str.ofString "second", Str.ofString "n"]
      · rw [if_pos h]
      · rw [if_neg h]; exact hm y h
    rw [← e]; exact F₁
end
end Mine

namespace Mine
section
variable {w : World} {p : Program} {loose : List Str} {mean : ExcName → Option Value} {mg mb : Str → Option Value}
  {dp un : Nat} {gd : Option (List Code)} {cn : Str} {cs : Scope} {a : Addr} {ccd : Value} {cl : List (Str × Addr)} {outer : List Env} {A₀ : Around} {base h₀ : Heap} {L : Addr} {m : Str → Option Value} {s : Shared} {Q E : Value → Shared → Prop} {news : List (Addr × Obj)}
variable {c : Ads} {oW : Obj} {M : Int → Int} {rest : Ledger} {g : Obj → Ledger}
theorem rulesA20 : True := by
  k_with_none
  k_with "H14" => first | exact .tail _ (.head _) | k_mem
  k_with "H15" => first | exact kts52 _ | exact kts103 _
  k_with "H8" => first | exact binds_K (by k_in) rfl (by k_is) rfl rfl rfl | exact BindsTo.of_eq rfl
  k_with "HB" => (case k1 => k_asm); (case k2 => k_asm); (case k3 => k_asm); (case k4 => k_asm); (case k5 => k_asm)
  k_with "K_MEM" => first | with_reducible assumption | ktr_member | exact List.Mem.head _ | (refine List.mem_cons_of_mem _ ?_; k_mem) | (refine List.mem_append_right _ ?_; k_mem) | (refine List.mem_append_left _ ?_; with_reducible assumption)
  k_with "K_IN" => first | k_in_fast | with_reducible assumption | exact Frag.In.keeps (by with_reducible assumption) (Fr.keep (by with_reducible assumption))
  k_with "K_ROOM" => ((try simp (config := {zetaDelta := true}) only [depth_under_make, depth_under_kw, depth_in1, depth_deeper, depth_caller]); (try dsimp only [ktrTop]); (first | (refine' room0 ?rh; (case rh => assumption)) | (refine' room1 ?rh ?rk; (case rh => assumption); (case rk => exact Nat.le_of_ble_eq_true rfl)) | (refine' room2 ?rh ?rk; (case rh => assumption); (case rk => exact Nat.le_of_ble_eq_true rfl)) | (refine' room3 ?rh ?rk; (case rh => assumption); (case rk => exact Nat.le_of_ble_eq_true rfl)) | (refine' room4 ?rh ?rk; (case rh => assumption); (case rk => exact Nat.le_of_ble_eq_true rfl)) | omega))
  k_with "testChain" => first | refine test_link ?_ | refine test_last ?_
  k_with "K_ALL" => first | with_reducible assumption | (refine lt_ne ?_; with_reducible assumption)
  k_with "call ref" => (k_here; refine wpAny_call ?_; k_dflt (refine' code_defL ?k1 ?k2 ?k3 ?k4 ?k5 ?kA ?kF ?kK ?k6 ?k7 ?k8 ?k9 ?kB ?_ ?c2 ?c3 ?c4 ?c5; (case kA => exact rfl); (case kF => exact rfl); (case kK => first | assumption | exact rfl); k_extra "HB"; (case k6 => k_is); (case k7 => k_is); (case k8 => k_room); (case k9 => k_extra "H8"); (case c5 => decide); (case kB => exact locs rfl); (case c2 => exact rfl); (case c3 => exact rfl); (case c4 => exact rfl); k_whole; intro g'Z L'Z h'Z kEZ kAZ kMZ kQZ kXZ FG'Z F'Z N'Z B'Z X'Z T'Z; (try dsimp only); (try k_lift B'Z)))
  k_with "LeaveK" => (k_dflt (refine' leaveK_ ?k1 ?k2 ?_; (case k1 => k_asm); (case k2 => k_asm); k_whole); intro kFZ kNZ; (try (have kXZ := kFor kFZ (by k_asm))); (try dsimp only [PySem.W.InitBack, PySem.W.CmpBack, PySem.W.LenBack, PySem.W.StrBack, PySem.W.BoolBack]); (try refine ⟨rfl, ?_⟩); (try dsimp only [PySem.W.CmpBack, PySem.W.LenBack, PySem.W.StrBack, PySem.W.BoolBack]); (try (refine ⟨⟨by omega, by omega⟩, ?_⟩)); (try (refine handed_on rfl ?_; try dsimp only)))
  k_with "storeName" => (k_here; k_dflt ((refine' storeL ?F ?N ?_ ?a ?b; (case F => k_asm); (case N => k_asm); (case a => rfl); (case b => rfl); k_whole; intro h'Z kMZ F'Z N'Z; (try k_sweep))))
  k_with "eval Attribute Name" => (k_here; k_dflt (refine' selfAttr ?kF ?ka ?kb ?kv ?k2 ?k3 ?k4 ?k5 ?k6 ?k7 ?k8 ?k9 ?_ ?kd; (case kF => k_asm); (case ka => rfl); (case kb => rfl); (case kv => rfl); (case k2 => k_asm); (case k3 => k_inst); (case k4 => k_is); (case k5 => k_is); (case k6 => k_is); (case k7 => k_is); (case k8 => k_get); (case k9 => k_handed); (case kd => decide); k_whole))
  k_with "spliced" => (k_here; (with_reducible show wpAny _ _ (spliced (backTo _ (starEach [Expr.Name _ _] _))) _ _ _); k_dflt (refine' argN1 ?kF ?ka ?kb ?kv ?_ ?kd; (case kF => k_asm); (case ka => rfl); (case kb => rfl); (case kv => rfl); (case kd => decide); k_whole))
  k_with "spliced" => (k_here; (with_reducible show wpAny _ _ (spliced (backTo _ (starEach (Expr.Name _ _ :: _ :: _) _))) _ _ _); k_dflt (refine' argN ?kF ?ka ?kb ?kv ?_ ?kd; (case kF => k_asm); (case ka => rfl); (case kb => rfl); (case kv => rfl); (case kd => decide); k_whole))
  k_with "getMethod type:ValueError" => (k_here; refine' method_type ?F ?X ?m (by decide +kernel) ?e ?h ?_; (case F => k_asm); (case X => k_asm); (case m => exact meta_vErr); (case e => k_dflt k_is); (case h => k_handed))
  k_with "call builtin:ValueError.__init__" => (k_here; k_dflt (refine' xc_init (D := 39) ?k1 ?k2 ?k3 ?k4 ?k5 ?k6 ?k7 ?k8 ?_; (case k1 => k_asm); (case k2 => k_asm); (case k3 => k_asm); (case k4 => k_all); (case k5 => k_is); (case k6 => exact rfl); (case k7 => exact rfl); (case k8 => exact Nat.le_of_ble_eq_true rfl)); intro h'Z t'Z F'Z N'Z; (try k_sweep))
  k_with "setAttr ref" => (k_here; k_dflt (refine' xc_set_new (D := 39) ?k1 ?k2 ?k3 ?k4 ?k5 ?k6 ?k7 ?k8 ?k9 ?_; (case k1 => k_asm); (case k2 => k_asm); (case k3 => k_asm); (case k4 => k_all); (case k5 => k_is); (case k6 => k_is); (case k7 => exact rfl); (case k8 => exact rfl); (case k9 => k_is)); intro h'Z d'Z F'Z l1Z l2Z N'Z; (try k_sweep))
  k_with "setAttr ref" => (k_here; k_dflt (refine' xc_set_more (D := 39) ?k1 ?k2 ?k3 ?k4 ?k5 ?k6 ?k7 ?k8 ?k9 ?k10 ?k11 ?k12 ?k13 ?k14 ?_; (case k1 => k_asm); (case k2 => k_asm); (case k3 => k_asm); (case k4 => k_extra "H14"); (case k5 => first | exact .head _ | k_mem); (case k6 => k_is); (case k7 => k_is); (case k8 => exact rfl); (case k9 => exact rfl); (case k10 => k_is); (case k11 => exact rfl); (case k12 => k_put); (case k13 => k_upd); (case k14 => exact Nat.le_of_ble_eq_true rfl)); intro h'Z F'Z N'Z; (try k_sweep))
  k_with "exec Raise some none" => (k_here; (with_reducible show wpAny _ _ (exec (Stmt.Raise (some (Expr.Call (Expr.Name ("BadArgument" : Str) _) _ _ _)) none _) _) _ _ _); refine raise_thr 52 rfl ?_)
  k_with "exec Raise some none" => (k_here; (with_reducible show wpAny _ _ (exec (Stmt.Raise (some (Expr.Call (Expr.Name ("Trap" : Str) _) _ _ _)) none _) _) _ _ _); refine raise_thr 103 rfl ?_)
  k_with "call ref" => (k_here; (with_reducible show wpAny _ _ (call (Value.ref 52) _) _ _ _); k_dflt (refine' bad_spec ?k1 ?k2 ?k3 ?k4 ?k5 ?k6 ?k7 ?_; k_extra "HB"; (case k6 => first | assumption | exact rfl); (case k7 => k_room)); intro e'Z d'Z t'Z u'Z h'Z tk'Z F'Z l1Z l2Z l3Z N'Z; (try k_sweep))
  k_with "call ref" => (k_here; (with_reducible show wpAny _ _ (call (Value.ref 103) _) _ _ _); k_dflt (refine' trap_spec ?k1 ?k2 ?k3 ?k4 ?k5 ?k6 ?k7 ?k8 ?k9 ?k10 ?k11 ?_; k_extra "HB"; (case k6 => first | assumption | exact rfl); (case k7 => k_room); (case k8 => first | assumption | decide); (case k9 => first | assumption | decide); (case k10 => assumption); (case k11 => assumption)); intro e'Z d'Z t'Z es'Z h'Z tk'Z F'Z l1Z l2Z l3Z N'Z g1Z g2Z; (try k_sweep))
  k_with "Thr ref" => (k_here; k_dflt (refine' thr_in ?k1 ?k2 ?k3 ?k4 ?k5 ?_; (case k1 => k_asm); (case k2 => k_asm); (case k3 => k_asm); (case k4 => exact .head _); (case k5 => k_extra "H15")))
  k_with "leaving ref" => (k_here; k_dflt (refine' leave_raiseD ?k1 ?k2 ?k3 ?k4 ?k5 ?_; (case k1 => k_asm); (case k2 => k_asm); (case k3 => k_asm); (case k4 => k_all); (case k5 => exact rfl)); intro h'Z rDZ smZ)
  k_with "leaving ref" => (k_here; k_dflt (refine' leave_onD ?k1 ?k2 ?k3 ?k4 ?_; (case k1 => k_asm); (case k3 => assumption); (case k2 => assumption); (case k4 => assumption)); intro h'Z rDZ smZ)
  trivial
theorem entryat_no {pl v va ca : Int} {ks : Str} {tp ta tk : Tok}
  (B : Below A₀ base outer h₀) (F : Fr h₀ L s.heap m) (X : (KF w.params).In h₀) (N : News h₀ L s.heap news) (T : Top p loose mean mg mb h₀) (hk : cs.kind = .function) (hd : dp + 14 < recursionLimit)
  (S : Std c rest) (hs : ∀ x ∈ rest, x ∈ news) (hwm : (c.w, oW) ∈ news) (hw : Wd w oW M) (h0 : 0 ≤ pl) (h4 : pl % 4 = 0) (hh : pl + 4 ≤ 1024) (hv : M (pl / 4) = v) (v0 : 0 ≤ va) (v1 : va < 256) (hks : kindOk ks ca) (hno : soundB v = false)
  (hexc : ∀ G e d es tc tv h' tk', getL "cause" es = some (some (.int ca tc)) → getL "value" es = some (some (.int va tv)) → Fr h₀ L G m → G.UpToSlots h' → RaisedD base G (envX cn cs L a ccd cl :: outer) e 103 d ((d, dictOf es 3) :: news) h' → E (.ref e) { s with heap := h', toks := tk' }) :
  wpAny (model pw w) (ktrTop dp un gd cn cs L a ccd cl outer) (call (.ref 241) [.ref c.k, .int pl tp, .int va ta, .str ks tk]) Q E s :=
  entryat_spec B F X N T hk hd S hs hwm hw h0 h4 hh hv v0 v1 hks (fun t h' tk' e => by rw [hno] at e; cases e) fun G e d es tc tv h' tk' _ => hexc G e d es tc tv h' tk'
theorem rulesA21 : True := by
  k_with "H10" => first | with_reducible assumption | assumption | omega
  k_with "H13" => first | with_reducible assumption | exact rfl
  k_with "H5" => repeat' (first | with_reducible assumption | exact (fun _ hZ => hZ) | refine sub_cons ?_ | refine sub_app ?_)
  k_with "H6" => first | assumption | exact .inl ⟨rfl, rfl⟩ | exact .inr (.inl ⟨rfl, rfl⟩) | exact .inr (.inr ⟨rfl, rfl⟩)
  k_with "H7" => first | omega | (rw [sh4]; omega) | (rw [sh10]; omega) | (rw [or_4 (by omega) (by omega)]; omega)
  k_with "HA" => (case k1 => k_asm); (case k2 => k_asm); (case k3 => k_asm); (case k4 => k_asm); (case k5 => k_asm); (case k6 => first | with_reducible assumption | exact rfl); (case k7 => k_room)
  k_with "HE" => (try dsimp only at N'Z); (try k_lt ltsZ); (try k_sweep)
  k_with "K_UPDF" => first | with_reducible assumption | (refine' updF_cons ?kua ?kub; (case kua => assumption); (case kub => k_updF)) | (refine' updF_allLt ?kua ?kub; (case kua => assumption); (case kub => k_updF)) | (refine' updF_ne ?kua ?kub; (case kua => assumption); (case kub => k_updF)) | (refine' updF_app ?kua ?kub; (case kua => assumption); (case kub => k_updF)) | (refine' updF_old ?kua ?kuc ?kub; (case kua => assumption); (case kuc => k_mem); (case kub => k_updF)) | (refine' updF_im ?kua ?kuc ?kub; (case kuc => assumption); (case kua => assumption); (case kub => k_updF))
  k_with "getMethod ref" => (k_here; (with_reducible show wpAny _ _ (getMethod (Value.ref _) (Str.ofString "get") _) _ _ _); k_dflt (refine' wd_method ?k1 ?k2 ?k3 ?_; (case k1 => k_asm); (case k2 => k_mem); (case k3 => assumption)))
  k_with "getMethod ref" => (k_here; (with_reducible show wpAny _ _ (getMethod (Value.ref _) (Str.ofString "pop") _) _ _ _); k_dflt (refine' wd_methodP ?k1 ?k2 ?k3 ?_; (case k1 => k_asm); (case k2 => k_mem); (case k3 => assumption)))
  k_with "call builtin:dict.get" => (k_here; k_dflt (refine' wd_get ?k1 ?k2 ?k3 ?k4 ?_; (case k1 => k_asm); (case k2 => k_mem); (case k3 => assumption); (case k4 => assumption)); intro t'Z)
  k_with "call builtin:dict.pop" => (k_here; k_dflt (refine' wd_pop ?k1 ?k2 ?k3 ?k4 ?k5 ?_; (case k1 => k_asm); (case k2 => k_asm); (case k3 => assumption); (case k4 => assumption); (case k5 => assumption)); intro h'Z o'Z x'Z F'Z N'Z hw'Z)
  k_with "setItem ref int" => (k_here; k_dflt (refine' wd_set ?k1 ?k2 ?k3 ?k4 ?k5 ?_; (case k1 => k_asm); (case k2 => k_asm); (case k3 => assumption); (case k4 => assumption); (case k5 => assumption)); intro h'Z o'Z F'Z N'Z hw'Z)
  k_with "binaryOp LShift int int" => (k_here; (refine' lshift_int_small ?k1 ?k2 ?k3 ?_; (case k1 => decide); (case k2 => decide); (case k3 => k_extra "H7")))
  k_with "call ref" => (k_here; (with_reducible show wpAny _ _ (call (Value.ref 129) _) _ _ _); k_dflt (refine' parts_spec ?k1 ?k2 ?k3 ?k4 ?k5 ?k6 ?k7 ?k8 ?k9 ?k10 ?k11 ?_; k_extra "HA"; (case k8 => assumption); (case k9 => k_extra "H5"); (case k10 => k_extra "H10"); (case k11 => k_extra "H10")); intro D'Z t1Z t2Z t3Z h'Z tk'Z F'Z ltsZ N'Z; k_extra "HE")
  k_with "call ref" => (k_here; (with_reducible show wpAny _ _ (call (Value.ref 241) _) _ _ _); k_dflt (refine' entryat_no ?k1 ?k2 ?k3 ?k4 ?k5 ?k6 ?k7 ?k8 ?k9 ?k10 ?k11 ?k12 ?k13 ?k14 ?k15 ?k16 ?k17 ?k18 ?k19 (fun GZ e'Z d'Z es'Z tc'Z tv'Z h'Z tk'Z g1Z g2Z FGZ smZ rDZ => ?_); k_extra "HA"; (case k8 => assumption); (case k9 => k_extra "H5"); (case k10 => k_mem); (case k11 => assumption); (case k12 => k_extra "H10"); (case k13 => k_extra "H10"); (case k14 => k_extra "H10"); (case k15 => k_extra "H13"); (case k16 => k_extra "H10"); (case k17 => k_extra "H10"); (case k18 => k_extra "H6"); (case k19 => assumption)); all_goals (try k_sweep))
  k_with "eval Call" => (k_here; refine PyProof.Rows.Call_ (he := ?hcl) ?_; (case hcl => with_unfolding_all rfl))
  trivial
theorem translate0_spec {root ad : Int} {tr ta tk tm : Tok}
  (B : Below A₀ base outer h₀) (F : Fr h₀ L s.heap m) (X : (KF w.params).In h₀) (N : News h₀ L s.heap news) (T : Top p loose mean mg mb h₀) (hk : cs.kind = .function) (hd : dp + 18 < recursionLimit)
  (S : Std c rest) (hs : ∀ x ∈ rest, x ∈ news) (hwm : (c.w, oW) ∈ news) (hw : Wd w oW M) (hr : root = 896 ∨ root = 912) (h0 : 0 ≤ ad) (hh : ad < 256)
  (he : M (root / 4 + ad / 64) = 0)
  (hexc : ∀ G e d es tc tv h' tk', getL "cause" es = some (some (.int 13 tc)) → getL "value" es = some (some (.int ad tv)) → Fr h₀ L G m → G.UpToSlots h' → RaisedD base G (envX cn cs L a ccd cl :: outer) e 103 d ((d, dictOf es 3) :: news) h' → E (.ref e) { s with heap := h', toks := tk' }) :
  wpAny (model pw w) (ktrTop dp un gd cn cs L a ccd cl outer) (call (.ref 234) [.ref c.k, .int root tr, .int ad ta, .str "load" tk, .int 0 tm]) Q E s := by
  have lo := S.low
  have hm1 := MemIn.a (S.mem) hs
  have hm2 := MemIn.b (S.mem) hs
  have hl1 := LayIn.a (S.lay) hs
  have hl2 := LayIn.b (S.lay) hs
  have hb1 := BusIn.a (S.bus) hs
  have hb2 := BusIn.b (S.bus) hs
  have hk1 := WalkIn.a (S.walk) hs
  have hk2 := WalkIn.b (S.walk) hs
  have e1 : M ((root + 4 * (ad / 64)) / 4) = 0 := by rw [ad1e hr]; exact he
  have r1 : 896 ≤ root ∧ root ≤ 912 ∧ root % 16 = 0 := by rcases hr with rfl | rfl <;> decide
  have hs0 : soundB 0 = false := by decide
  have hks : kindOk "load" 13 := .inr (.inl ⟨rfl, rfl⟩)
  k_steps
  all_goals first
    | exact hexc _ _ _ _ _ _ _ _ (by assumption) (by assumption) (by assumption) (by assumption) (RaisedD.sub (by assumption) sub_drop2)
end
end Mine

namespace Mine
section
variable {w : World} {p : Program} {loose : List Str} {mean : ExcName → Option Value} {mg mb : Str → Option Value}
  {dp un : Nat} {gd : Option (List Code)} {cn : Str} {cs : Scope} {a : Addr} {ccd : Value} {cl : List (Str × Addr)} {outer : List Env} {A₀ : Around} {base h₀ : Heap} {L : Addr} {m : Str → Option Value} {s : Shared} {Q E : Value → Shared → Prop} {news : List (Addr × Obj)}
variable {c : Ads} {oW : Obj} {M : Int → Int} {rest : Ledger} {g : Obj → Ledger}
theorem rulesA30 : True := by
  k_with "noteFrame ref" => (k_here; k_dflt (refine' caught_DB ?R ?F ?K ?U ?XB ?TB ?D ?ex ?q ?_; (case R => assumption); (case F => assumption); (case K => assumption); (case U => assumption); (case XB => assumption); (case TB => assumption); (case D => assumption); (case ex => k_is); (case q => k_extra "H15")); intro h'Z g'Z fs'Z sl'Z tk'Z T'Z F'Z K'Z X'Z P'Z D'Z N'Z; (try k_lift K'Z); (try k_sweep))
  k_with "getAttr ref" => (k_here; k_dflt (refine' xc_getK (C := 103) (D := 39) ?k1 ?k2 ?k3 ?k4 ?k5 ?k6 ?k7 ?k8 ?k9 ?k10 ?k11 ?k12 ?k13 ?k14 ?_; (case k1 => k_asm); (case k2 => k_asm); (case k3 => k_asm); (case k4 => exact .head _); (case k5 => exact .tail _ (.head _)); (case k6 => k_is); (case k7 => exact rfl); (case k8 => k_is); (case k9 => k_is); (case k10 => exact rfl); (case k11 => k_is); (case k12 => exact rfl); (case k13 => assumption); (case k14 => exact rfl)))
  k_with "call ref" => (k_here; (with_reducible show wpAny _ _ (call (Value.ref 234) _) _ _ _); k_dflt (refine' translate0_spec ?k1 ?k2 ?k3 ?k4 ?k5 ?k6 ?k7 ?k8 ?k9 ?k10 ?k11 ?k12 ?k13 ?k14 ?k15 (fun GZ e'Z d'Z es'Z tc'Z tv'Z h'Z tk'Z g1Z g2Z FGZ smZ rDZ => ?_); k_extra "HA"; (case k8 => assumption); (case k9 => k_extra "H5"); (case k10 => k_mem); (case k11 => assumption); (case k12 => assumption); (case k13 => k_extra "H10"); (case k14 => k_extra "H10"); (case k15 => assumption)); all_goals (try k_sweep))
  trivial
theorem accessed0_spec {root ad : Int} {tr ta t1 : Tok}
  (B : Below A₀ base [] h₀) (F : Fr h₀ L s.heap m) (X : (KF w.params).In h₀) (N : News h₀ L s.heap news) (T : Top p loose mean mg mb h₀) (hk : cs.kind = .function) (hd : dp + 24 < recursionLimit) (XB : (KF w.params).In base) (TB : Top p loose mean mg mb base)
  (S : Std c rest) (hs : ∀ x ∈ rest, x ∈ news) (hwm : (c.w, oW) ∈ news) (hw : Wd w oW M) (hr : root = 896 ∨ root = 912) (h0 : 0 ≤ ad) (hh : ad < 256)
  (he : M (root / 4 + ad / 64) = 0)
  (hno : ∀ P ta tb n h' tk', Fr h₀ L h' m → News h₀ L h' ((P, ({ cls := .type "tuple", data := .seq (List.toArray [.int 13 ta, .int ad tb]) n } : Obj)) :: news) → Q (.ref P) { s with heap := h', toks := tk' }) :
  wpAny (model pw w) (ktrTop dp un gd cn cs L a ccd [] []) (call (.ref 866) [.ref c.k, .int root tr, .int ad ta, .int 1 t1]) Q E s := by
  have lo := S.low
  have hm1 := MemIn.a (S.mem) hs
  have hm2 := MemIn.b (S.mem) hs
  have hl1 := LayIn.a (S.lay) hs
  have hl2 := LayIn.b (S.lay) hs
  have hb1 := BusIn.a (S.bus) hs
  have hb2 := BusIn.b (S.bus) hs
  have hk1 := WalkIn.a (S.walk) hs
  have hk2 := WalkIn.b (S.walk) hs
  all_goals
    refine wpAny_call ?_
    k_dflt (refine' code_defS0 ?k1 ?k2 ?k3 ?k4 ?k5 ?kA ?k6 ?k7 ?k8 ?k9 ?kB ?_ ?c1 ?c2 ?c3 ?c4 ?c5)
    case k1 => k_asm
    case k2 => k_asm
    case k3 => k_asm
    case k4 => k_asm
    case k5 => k_asm
    case kA => exact rfl
    case k6 => k_is
    case k7 => k_is
    case k8 => k_room
    case k9 => exact BindsTo.of_eq rfl
    case kB => exact locs rfl
    case c1 => assumption
    case c2 => exact rfl
    case c3 => exact rfl
    case c4 => exact rfl
    case c5 => decide
    intro g' L' h' FG' F' N' B' X' T' D'
    try dsimp only
    try k_lift B'
    try k_fold
    k_steps
  all_goals first
    | exact hno _ _ _ _ _ _ (by assumption) (news_drop2 (news_drop2 (news_drop2 (by assumption))))
    | exact hno _ _ _ _ _ _ (by assumption) (news_drop2 (news_drop2 (by assumption)))
    | exact hno _ _ _ _ _ _ (by assumption) (news_drop2 (news_drop2 (news_drop2 (news_drop2 (by assumption)))))
end
end Mine

namespace Mine
section
variable {w : World} {p : Program} {loose : List Str} {mean : ExcName → Option Value} {mg mb : Str → Option Value}
  {dp un : Nat} {gd : Option (List Code)} {cn : Str} {cs : Scope} {a : Addr} {ccd : Value} {cl : List (Str × Addr)} {outer : List Env} {A₀ : Around} {base h₀ : Heap} {L : Addr} {m : Str → Option Value} {s : Shared} {Q E : Value → Shared → Prop} {news : List (Addr × Obj)}
variable {c : Ads} {oW oD : Obj} {M : Int → Int} {rest im tl : Ledger} {D RT GT G0 G1 mk : Addr} {ds : Own} {cd : Value} {mm : Str → Option Value}
theorem rulesX50 : True := by
  k_with "H11" => exact News.isTup (by assumption) (List.Mem.head _)
  k_with "H9" => first | assumption | exact ⟨by omega, by omega⟩ | decide
  k_with "call ref" => (k_here; refine wpAny_call ?_; k_dflt (refine' code_defL ?k1 ?k2 ?k3 ?k4 ?k5 ?kA ?kF ?kK ?k6 ?k7 ?k8 ?k9 ?kB ?_ ?c2 ?c3 ?c4 ?c5; (case kA => exact rfl); (case kF => exact rfl); (case kK => first | assumption | exact rfl); k_extra "HB"; (case k6 => k_is); (case k7 => k_is); (case k8 => k_room); (case k9 => k_extra "H8"); (case c5 => decide); (case kB => exact locs rfl); (case c2 => exact rfl); (case c3 => exact rfl); (case c4 => exact rfl); k_whole; intro g'Z L'Z h'Z kEZ kAZ kMZ kQZ kXZ FG'Z F'Z N'Z B'Z X'Z T'Z; (try dsimp only); (try k_lift B'Z)))
  k_with "eval Dict nil nil" => (k_here; k_dflt (refine' newDict_K ?k1 ?k2 (TopRead.nolimit ?k3) ?_; (case k1 => k_asm); (case k2 => k_asm); (case k3 => k_asm); k_whole); intro d'Z h'Z o'Z F'Z N'Z l1Z lo'Z hs'Z fs'Z hi'Z fi'Z; (try k_lt l1Z); (try k_sweep))
  k_with "call ref" => (k_here; k_dflt (refine' call_cls ?k1 ?k2 ?k3 ?k4 ?k5 ?k6 ?_; (case k1 => k_asm); (case k2 => k_asm); (case k3 => k_asm); (case k4 => k_is); (case k5 => k_is); (case k6 => k_is); k_whole; intro x'Z d'Z h'Z F'Z N'Z l1Z l2Z; (try k_lt l1Z); (try k_lt2 l2Z); (try k_sweep); refine' code_def ?k1 ?k2 ?k3 ?k4 ?k5 ?kA ?kF ?kK ?k6 ?k7 ?k8 ?k9 ?kB ?_ ?c2 ?c3 ?c4 ?c5; (case kA => exact rfl); (case kF => exact rfl); (case kK => assumption); k_extra "HB"; (case k6 => k_is); (case k7 => k_is); (case k8 => k_room); (case k9 => k_extra "H8"); (case c5 => decide); (case kB => exact locs rfl); (case c2 => exact rfl); (case c3 => exact rfl); (case c4 => exact rfl); k_whole; intro g'Z L'Z h'Z FG'Z F'Z N'Z B'Z X'Z T'Z; (try dsimp only); (try k_lift B'Z); (try k_fold)))
  k_with "unpackItems ref none" => focus (rw [fm_names]; rotate_left; (focus kernel_rfl); (dsimp only [List.filterMap, nmO, List.length]))
  k_with "unpackItems ref" => (k_here; k_dflt (refine' unpackItemsN_ ?k1 ?k2 ?k3 ?k4 ?k5 ?_; (case k1 => k_asm); (case k2 => k_asm); (case k3 => k_extra "H11"); (case k4 => exact rfl); (case k5 => exact rfl); k_whole); intro h'Z F'Z N'Z; (try k_sweep))
  k_with "exec For Name Call cons nil" => (k_here; (rename Fr _ _ _ _ => lF'Z); (with_unfolding_all refine' For_invVF lF'Z ?k1 ?k2 ?_; (case k1 => exact rfl); (case k2 => exact rfl); k_whole))
  k_with "pyIter ref" => (refine stop_here ?_)
  k_with "call ref" => (k_here; (with_reducible show wpAny _ _ (call (Value.ref 487) _) _ _ _); refine stop_here ?_)
  k_with "call ref" => (k_here; (with_reducible show wpAny _ _ (call (Value.ref 866) _) _ _ _); refine stop_here ?_)
  k_with "call ref" => (k_here; (with_reducible show wpAny _ _ (call (Value.ref 384) _) _ _ _); refine stop_here ?_)
  k_with "call ref" => (k_here; (with_reducible show wpAny _ _ (call (Value.ref 880) _) _ _ _); refine stop_here ?_)
  k_with "compareOp Eq ref ref" => refine stop_here ?_
  k_with "call ref" => (k_here; (with_reducible show wpAny _ _ (call (Value.ref 487) _) _ _ _); k_dflt (refine' put_spec ?k1 ?k2 ?k3 ?k4 ?k5 ?k6 ?k7 ?k8 ?k9 ?k10 ?k11 ?k12 ?k13 ?k14 ?k15 ?_; k_extra "HA"; (case k8 => assumption); (case k9 => k_extra "H5"); (case k10 => (refine' UpdF.tail ?a1 (UpdF.head ?a2); (case a1 => assumption); (case a2 => assumption))); (case k11 => assumption); (case k12 => k_extra "H10"); (case k13 => k_extra "H10"); (case k14 => k_extra "H10"); (case k15 => k_extra "H9")); intro o'Z h'Z tk'Z F'Z N'Z hw'Z; (try dsimp only at N'Z); (try k_lt lts); (try k_sweep))
  k_with "call ref" => (k_here; (with_reducible show wpAny _ _ (call (Value.ref 866) _) _ _ _); k_dflt (refine' accessed0_spec ?k1 ?k2 ?k3 ?k4 ?k5 ?k6 ?k7 ?k8 ?k9 ?k10 ?k11 ?k12 ?k13 ?k14 ?k15 ?k16 ?k17 ?_; k_extra "HA"; (case k8 => assumption); (case k9 => assumption); (case k10 => assumption); (case k11 => k_extra "H5"); (case k12 => k_mem); (case k13 => assumption); (case k14 => first | assumption | exact Or.inr rfl); (case k15 => k_extra "H10"); (case k16 => k_extra "H10"); (case k17 => assumption)); intro P'Z ta'Z tb'Z n'Z h'Z tk'Z F'Z N'Z; (try dsimp only at N'Z); (try k_lt lts); (try k_sweep))
  k_with "call ref" => (k_here; (with_reducible show wpAny _ _ (call (Value.ref 384) _) _ _ _); k_dflt (refine' rows_spec ?k1 ?k2 ?k3 ?k4 ?k5 ?k6 ?k7 ?k8 ?k9 ?k10 ?k11 ?k12 ?k13 ?k14 ?_; k_extra "HA"; (case k8 => assumption); (case k9 => k_extra "H5"); (case k10 => k_mem); (case k11 => assumption); (case k12 => first | exact Or.inl rfl | exact Or.inr rfl); (case k13 => assumption); (case k14 => assumption)); intro F1Z vs1Z nn1Z tl1Z h'Z tk'Z F'Z N'Z lts1Z ne1Z fr1Z hD1Z; (try dsimp only at N'Z); (try k_lt lts); (try k_sweep))
  k_with "call ref" => (k_here; (with_reducible show wpAny _ _ (call (Value.ref 880) _) _ _ _); k_dflt (refine' lawrows_spec ?k1 ?k2 ?k3 ?k4 ?k5 ?k6 ?k7 ?k8 ?k9 ?k10 ?k11 ?k12 ?k13 ?k14 ?k15 ?k16 ?_; (case k11 => assumption); k_extra "HA"; (case k8 => first | (simp (config := {zetaDelta := true}) only [units_deeper, units_caller]; decide) | decide); (case k9 => k_extra "H5"); (case k10 => k_mem); (case k12 => assumption); (case k13 => first | assumption | omega); (case k14 => k_mem); (case k15 => assumption); (case k16 => assumption)); intro F2Z vs2Z nn2Z tl2Z ds2Z h'Z tk'Z F'Z N'Z lts2Z fr2Z hD2Z pm2Z pw2Z; (try dsimp only at N'Z); (try k_lt lts); (try k_sweep))
  k_with "subscriptTail Name Constant ref int" => (k_here; (with_reducible show wpAny _ _ (subscriptTail _ _ (Value.ref _) (Value.int _ _)) _ _ _); k_dflt (with_unfolding_all refine' pick_item ?k1 ?k2 ?k3 ?k5 ?_ ?k4; (case k1 => k_asm); (case k2 => k_mem); (case k3 => first | assumption | decide); (case k5 => first | assumption | exact rfl); (case k4 => with_unfolding_all rfl)))
  k_with "subscriptTail Name Name ref int" => (k_here; (with_reducible show wpAny _ _ (subscriptTail _ _ (Value.ref _) (Value.int _ _)) _ _ _); k_dflt (with_unfolding_all refine' pick_item ?k1 ?k2 ?k3 ?k5 ?_ ?k4; (case k1 => k_asm); (case k2 => k_mem); (case k3 => first | assumption | decide); (case k5 => first | assumption | exact rfl); (case k4 => with_unfolding_all rfl)))
  k_with "subscriptTail Subscript Name Constant Constant ref int" => (k_here; (with_reducible show wpAny _ _ (subscriptTail _ _ (Value.ref _) (Value.int _ _)) _ _ _); k_dflt (with_unfolding_all refine' pick_item ?k1 ?k2 ?k3 ?k5 ?_ ?k4; (case k1 => k_asm); (case k2 => k_mem); (case k3 => first | assumption | decide); (case k5 => first | assumption | exact rfl); (case k4 => with_unfolding_all rfl)))
  k_with "subscriptTail Subscript Name Constant Name ref int" => (k_here; (with_reducible show wpAny _ _ (subscriptTail _ _ (Value.ref _) (Value.int _ _)) _ _ _); k_dflt (with_unfolding_all refine' goal_item ?k1 ?k2 ?k3 ?_ ?k4; (case k1 => k_asm); (case k2 => k_mem); (case k3 => assumption); (case k4 => with_unfolding_all rfl)); intro t'Z)
  trivial
theorem endTurn {R : Flow → Shared → Prop} {g0 g1 : Int} {r0 r1 y2 y3 : Tok} {n0 n1 n3 : Nat} {i : Nat} {I : Addr} {oI : Obj} {t : Tok} {restA : Ledger}
  (B : Below callerA base [] h₀) (X : (KF w.params).In h₀) (T : Top p loose mean mg mb h₀) (hi : i < 2)
  (F : Fr h₀ L s.heap (fun y => if y = Str.ofString "first" then some (.int (i : Int) t) else if y = Str.ofString "goals" then some (.ref GT) else if y = Str.ofString "roots" then some (.ref RT) else if y = Str.ofString "memory" then some (.ref c.m) else mm y))
  (N : News h₀ L s.heap ((I, oI) :: (c.w, oW) :: restA)) (S : Std c rest) (hs : ∀ x ∈ rest, x ∈ restA)
  (hRT : (RT, listOf (List.toArray [.int 896 r0, .int 912 r1]) n0) ∈ restA) (hGT : (GT, listOf (List.toArray [.ref G0, .ref G1]) n1) ∈ restA)
  (hG1 : (G1, listOf (List.toArray [.int g0 y2, .int g1 y3]) n3) ∈ restA) (b0 : 0 ≤ g0 ∧ g0 < 4) (b1 : 0 ≤ g1 ∧ g1 < 4)
  (hw : Wd w oW M) (iw : I ≠ c.w) (o1 : ∀ p ∈ restA, p.1 ≠ c.w)
  (hret : ∀ oW' m' h' tk', Fr h₀ L h' m' → (m' = fun y => if y = Str.ofString "first" then some (.int (i : Int) t) else if y = Str.ofString "goals" then some (.ref GT) else if y = Str.ofString "roots" then some (.ref RT) else if y = Str.ofString "memory" then some (.ref c.m) else mm y) →
    News h₀ L h' ((I, oI) :: (c.w, oW') :: restA) → Wd w oW' (upM M (228 + (if (i : Int) = 0 then g0 else g1)) 0) → R .next { s with heap := h', toks := tk' }) :
  wpAny (model pw w) (callerA.deeper (envL L a cd)) (execs (forB (fnB (st 56))[8]?) (envL L a cd)) R E s := by
  have i01 : (i : Int) = 0 ∨ (i : Int) = 1 := by omega
  have gb : 0 ≤ (if (i : Int) = 0 then g0 else g1) ∧ (if (i : Int) = 0 then g0 else g1) < 4 := by split <;> omega
  have hm1 := MemIn.a (S.mem) hs
  have hm2 := MemIn.b (S.mem) hs
  show wpAny _ _ (execs (_ :: _) _) _ _ _
  k_steps
  all_goals
    refine' hret _ _ _ _ ?F rfl ?N ?W
    case F => assumption
    case N => assumption
    case W => rw [show 228 + (if (i : Int) = 0 then g0 else g1) = (912 + 4 * (if (i : Int) = 0 then g0 else g1)) / 4 by omega]; assumption
theorem law5 {Q : Flow → Shared → Prop} {g0 g1 : Int} {r0 r1 y0 y1 y2 y3 : Tok} {n0 n1 n2 n3 : Nat}
  (hE : PassesOwn (model pw w) (callerA.deeper (envL L a cd)) (envL L a cd) E) (B : Below callerA base [] h₀) (X : (KF w.params).In h₀) (T : Top p loose mean mg mb h₀) (XB : (KF w.params).In base) (TB : Top p loose mean mg mb base)
  (F : Fr h₀ L s.heap (fun y => if y = Str.ofString "goals" then some (.ref GT) else if y = Str.ofString "roots" then some (.ref RT) else if y = Str.ofString "own" then some (.ref D) else if y = Str.ofString "table" then some (.ref c.t) else if y = Str.ofString "walker" then some (.ref c.k) else if y = Str.ofString "memory" then some (.ref c.m) else mm y))
  (N : News h₀ L s.heap ((c.w, oW) :: (D, oD) :: (tl ++ rest))) (S : Std c rest) (loD : (D == sysModules) = false)
  (hRT : (RT, listOf (List.toArray [.int 896 r0, .int 912 r1]) n0) ∈ rest) (hGT : (GT, listOf (List.toArray [.ref G0, .ref G1]) n1) ∈ rest)
  (hG0 : (G0, listOf (List.toArray [.int 0 y0, .int 1 y1]) n2) ∈ rest) (hG1 : (G1, listOf (List.toArray [.int g0 y2, .int g1 y3]) n3) ∈ rest)
  (hw : Wd w oW M) (hi : ∀ x ∈ im, x ∈ tl) (W : Ow w im oD ds) (RR : Rel M ds g0 g1) (o1 : ∀ p ∈ (D, oD) :: (tl ++ rest), p.1 ≠ c.w)
  (hret : ∀ m' h' tk', Fr h₀ L h' m' → Q (.ret (.bool true)) { s with heap := h', toks := tk' }) :
  wpAny (model pw w) (callerA.deeper (envL L a cd)) (execs ((fnB (st 56)).drop 8) (envL L a cd)) Q E s := by
  have b0 := RR.b0
  have b1 := RR.b1
  have hs : ∀ x ∈ rest, x ∈ (D, oD) :: (tl ++ rest) := fun x hx => .tail _ (List.mem_append_right _ hx)
  show wpAny _ _ (execs (_ :: _) _) _ _ _
  k_steps
  unfold StopHere
  refine range_grow (n := 2) (fun i m nx => ∃ oW, nx = (c.w, oW) :: (D, oD) :: (tl ++ rest) ∧ Wd w oW (Mz M g0 g1 i) ∧ ∀ y, y ≠ Str.ofString "first" → m y = (fun y => if y = Str.ofString "goals" then some (.ref GT) else if y = Str.ofString "roots" then some (.ref RT) else if y = Str.ofString "own" then some (.ref D) else if y = Str.ofString "table" then some (.ref c.t) else if y = Str.ofString "walker" then some (.ref c.k) else if y = Str.ofString "memory" then some (.ref c.m) else mm y) y)
    rfl (by assumption) (by decide) (by decide) (by assumption) (by assumption) ⟨_, rfl, hw, fun _ _ => rfl⟩ ?_ ?_
  · rintro I oI i m₁ nx h2 tk2 t hi2 hoff ⟨oW2, rfl, hw2, hm⟩ F₁ N₁
    rw [Int.zero_add] at F₁
    have iw : I ≠ c.w := fun e => hoff (c.w, oW2) (.head _) e.symm
    refine endTurn (s := { s with heap := h2, toks := tk2 }) (G0 := G0) (G1 := G1) (RT := RT) (GT := GT) (n0 := n0) (n1 := n1) (n3 := n3) (t := t) B X T hi2
      (fr_ins (fr_ins (fr_ins (fr_ins F₁ (hm (Str.ofString "memory") (by decide))) (hm (Str.ofString "roots") (by decide))) (hm (Str.ofString "goals") (by decide))) rfl)
      N₁ S hs (hs _ hRT) (hs _ hGT) (hs _ hG1) b0 b1 hw2 iw o1 ?_
    rintro oW3 m3 h3 tk3 F3 hm3 N3 hw3
    refine ⟨h3, tk3, m3, _, rfl, F3, N3, fun p hp => ?_, oW3, rfl, hw3, ?_⟩
    · rcases List.mem_cons.mp hp with e | hp
      · rw [e]; exact fun z => iw z.symm
      · exact hoff p (.tail _ hp)
    · intro y hy
      rw [hm3]
      by_cases a1 : y = Str.ofString "goals"
      · subst a1; rfl
      by_cases a2 : y = Str.ofString "roots"
      · subst a2; rfl
      by_cases a3 : y = Str.ofString "memory"
      · subst a3; rfl
      have h0 := hm y hy
      simp only [if_neg a1, if_neg a2, if_neg a3, if_neg hy] at h0 ⊢
      exact h0
  · rintro h2 tk2 m₁ nx ⟨oW2, rfl, hw2, hm⟩ F₁ N₁
    have F₂ : Fr h₀ L h2 (fun y => if y = Str.ofString "goals" then some (.ref GT) else if y = Str.ofString "roots" then some (.ref RT) else if y = Str.ofString "own" then some (.ref D) else if y = Str.ofString "table" then some (.ref c.t) else if y = Str.ofString "walker" then some (.ref c.k) else if y = Str.ofString "memory" then some (.ref c.m) else m₁ y) := fr_ins (fr_ins (fr_ins (fr_ins (fr_ins (fr_ins F₁ (hm (Str.ofString "memory") (by decide))) (hm (Str.ofString "walker") (by decide))) (hm (Str.ofString "table") (by decide))) (hm (Str.ofString "own") (by decide))) (hm (Str.ofString "roots") (by decide))) (hm (Str.ofString "goals") (by decide))
    clear F₁
    have hlost : Mz M g0 g1 2 (912 / 4 + 64 * g0 / 64) = 0 := by
      rw [show 912 / 4 + 64 * g0 / 64 = 228 + g0 by lia]; exact mz_in RR g0 b0.1 b0.2
    have se0 := last_ents RR
    have se1 := last_ents1 RR
    have LM := last_leaf RR
    unfold LeafOk at LM
    have sp0 : (tabD (Mz M g0 g1 2) 896 4).Perm (ds.map (ownD 0 1)) := by rw [last_tab RR]; exact RR.side0.perm
    have ss0 := tabD_sorted (M := Mz M g0 g1 2) (r := 896) 4
    have hnil := last_none RR
    have k0 := RR.side0.keys
    have h01 : ∀ d ∈ ds, d.1.1 = 0 ∨ d.1.1 = 1 := fun d hd => (RR.keys d hd).1
    have hz : ds.length ≤ 60 := Nat.le_trans RR.len (by decide)
    have hi' : ∀ x ∈ im, x ∈ tl ++ rest := fun x hx => List.mem_append_left _ (hi x hx)
    have ht1 := TabIn.a (l' := tl ++ rest) (S.tab) (fun x hx => List.mem_append_right _ hx)
    have ht2 := TabIn.b (l' := tl ++ rest) (S.tab) (fun x hx => List.mem_append_right _ hx)
    k_steps
    unfold StopHere
    refine' tup_eq ?k1 ?k2 ?k3 ?k4 ?_
    case k1 => k_asm
    case k2 => exact List.Mem.tail _ (List.Mem.head _)
    case k3 => exact List.Mem.head _
    case k4 => (simp (config := {zetaDelta := true}) only [units_deeper, units_caller]; decide)
    k_steps
    unfold StopHere
    refine' eq_nil ?k1 ?k2 ?k3 ?k4 ?k5 ?k6 ?k7 ?_
    case k1 => k_asm
    case k2 => exact List.Mem.head _
    case k3 => exact List.Mem.tail _ (List.Mem.head _)
    case k4 => assumption
    case k5 => exact (fun p hp => List.mem_cons_of_mem _ (List.mem_cons_of_mem _ (List.mem_append_left _ hp)))
    case k6 => assumption
    case k7 => (simp (config := {zetaDelta := true}) only [units_deeper, units_caller]; decide)
    k_steps
    unfold StopHere
    refine' eq_rows ?k1 ?k2 ?k3 ?k4 ?k5 ?k6 ?k7 ?k8 ?k9 ?k10 ?_
    case k1 => k_asm
    case k2 => exact List.Mem.tail _ (List.mem_append_right _ (List.Mem.head _))
    case k5 => exact List.Mem.head _
    case k3 => assumption
    case k6 => assumption
    case k4 => exact fun p hp => List.Mem.tail _ (List.mem_append_right _ (List.Mem.tail _ (List.mem_append_left _ hp)))
    case k7 => exact fun p hp => List.Mem.tail _ (List.mem_append_left _ hp)
    case k8 => exact sorted_uniq_of (by assumption) sp0 ss0 (by assumption)
    case k9 => exact tabD_row
    case k10 => (simp (config := {zetaDelta := true}) only [units_deeper, units_caller]; decide)
    exact hret _ _ _ (by assumption)
end
end Mine

namespace Mine
theorem mst2 {g0 g1 : Int} (k : Int) : Mst g0 g1 2 k = if k = 228 + g1 then 60417 else if k = 236 then 1047 else if k = 225 then 60417 else if k = 228 + g0 then 59393 else if k = 232 then 23 else if k = 224 then 59393 else 0 := rfl
theorem rel_init {g0 g1 : Int} (b0 : 0 ≤ g0 ∧ g0 < 4) (b1 : 0 ≤ g1 ∧ g1 < 4) (hne : g0 ≠ g1) : Rel (Mst g0 g1 2) (dst 2) g0 g1 where
  nodup := by decide
  keys := by decide
  vals := fun d hd => by
    rcases List.mem_cons.mp hd with rfl | hd
    · exact ⟨by unfold PG; decide, by decide⟩
    · obtain rfl := List.mem_singleton.mp hd
      exact ⟨by unfold PG; decide, by decide⟩
  leaf := fun f u hf a b => by
    rw [mst2]
    rcases hf with rfl | rfl
    · rcases (by lia : u = 0 ∨ u = 1 ∨ u = 2 ∨ u = 3) with rfl | rfl | rfl | rfl
      · rw [if_neg (by lia), if_neg (by decide), if_neg (by decide), if_neg (by lia), if_pos (by decide)]; rfl
      · rw [if_neg (by lia), if_neg (by decide), if_neg (by decide), if_neg (by lia), if_neg (by decide), if_neg (by decide)]; rfl
      · rw [if_neg (by lia), if_neg (by decide), if_neg (by decide), if_neg (by lia), if_neg (by decide), if_neg (by decide)]; rfl
      · rw [if_neg (by lia), if_neg (by decide), if_neg (by decide), if_neg (by lia), if_neg (by decide), if_neg (by decide)]; rfl
    · rcases (by lia : u = 0 ∨ u = 1 ∨ u = 2 ∨ u = 3) with rfl | rfl | rfl | rfl
      · rw [if_neg (by lia), if_pos (by decide)]; rfl
      · rw [if_neg (by lia), if_neg (by decide), if_neg (by decide), if_neg (by lia), if_neg (by decide), if_neg (by decide)]; rfl
      · rw [if_neg (by lia), if_neg (by decide), if_neg (by decide), if_neg (by lia), if_neg (by decide), if_neg (by decide)]; rfl
      · rw [if_neg (by lia), if_neg (by decide), if_neg (by decide), if_neg (by lia), if_neg (by decide), if_neg (by decide)]; rfl
  r0 := fun j a b => by
    rw [mst2]
    rcases (by lia : j = 0 ∨ j = 1 ∨ j = 2 ∨ j = 3) with rfl | rfl | rfl | rfl
    · rw [if_neg (by lia), if_neg (by decide), if_neg (by decide), if_neg (by lia), if_neg (by decide), if_pos (by decide)]; rfl
    · rw [if_neg (by lia), if_neg (by decide), if_pos (by decide)]; rfl
    · rw [if_neg (by lia), if_neg (by decide), if_neg (by decide), if_neg (by lia), if_neg (by decide), if_neg (by decide)]; rfl
    · rw [if_neg (by lia), if_neg (by decide), if_neg (by decide), if_neg (by lia), if_neg (by decide), if_neg (by decide)]; rfl
  r1 := fun j a b => by
    rw [mst2]
    by_cases h1 : j = g1
    · have h0 : ¬ j = g0 := fun e => hne (e.symm.trans h1)
      rw [if_pos (by lia), if_neg h0, if_pos h1]
    · by_cases h0 : j = g0
      · rw [if_neg (by lia), if_neg (by lia), if_neg (by lia), if_pos (by lia), if_pos h0]
      · rw [if_neg (by lia), if_neg (by lia), if_neg (by lia), if_neg (by lia), if_neg (by lia), if_neg (by lia), if_neg h0, if_neg h1]
  b0 := b0
  b1 := b1
  ne := hne
theorem goals_ok {t : Int} (h : 0 ≤ t ∧ t < 3) : (0 ≤ (1 + t).fmod 4 ∧ (1 + t).fmod 4 < 4) ∧ (0 ≤ (2 + t).fmod 4 ∧ (2 + t).fmod 4 < 4) ∧ (1 + t).fmod 4 ≠ (2 + t).fmod 4 := by
  rw [Int.fmod_eq_emod_of_nonneg _ (by decide), Int.fmod_eq_emod_of_nonneg _ (by decide)]; omega
end Mine

namespace Mine
section
variable {h₀ h : Heap} {L : Addr} {a b d e f g x y z : Addr × Obj} {rest tl : Ledger}
theorem perm9 (N : News h₀ L h (a :: b :: d :: e :: f :: g :: x :: y :: z :: rest)) : News h₀ L h (x :: y :: z :: f :: (a :: b :: d :: e :: g :: rest)) := fun q hq => N q (by
  simp only [List.mem_cons] at hq ⊢
  rcases hq with h | h | h | h | h | h | h | h | h | h <;> simp [h])
theorem perm4 (N : News h₀ L h (a :: b :: d :: e :: (tl ++ rest))) : News h₀ L h (a :: e :: (tl ++ (b :: d :: rest))) := fun q hq => N q (by
  simp only [List.mem_cons, List.mem_append] at hq ⊢
  rcases hq with h | h | h | h | h | h <;> simp [h])
end
section
variable {w : World} {p : Program} {loose : List Str} {mean : ExcName → Option Value} {mg mb : Str → Option Value}
  {a : Addr} {base h₀ : Heap} {L : Addr} {s : Shared} {E : Value → Shared → Prop}
variable {c : Ads} {oW oH oD : Obj} {rest : Ledger} {cd : Value} {mk RT GT G0 G1 D : Addr} {ws : List Value} {ns : List Int} {nn : Nat} {mm : Str → Option Value}
theorem law345 {Q : Flow → Shared → Prop} {u4 gg : Nat} {g0 g1 : Int} {r0 r1 y0 y1 y2 y3 : Tok} {n0 n1 n2 n3 : Nat} {tv : Option Value}
  (XB : (KF w.params).In base) (TB : Top p loose mean mg mb base) (hns : ∀ n ∈ ns, 0 ≤ n) (hI : IntsAre ws ns) (bne : g0 ≠ g1) (hE : PassesOwn (model pw w) (callerA.deeper (envL L a cd)) (envL L a cd) E) (B : Below callerA base [] h₀) (X : (KF w.params).In h₀) (T : Top p loose mean mg mb h₀)
  (F : Fr h₀ L s.heap (fun y => if y = Str.ofString "goals" then some (.ref GT) else if y = Str.ofString "roots" then some (.ref RT) else if y = Str.ofString "own" then some (.ref D) else if y = Str.ofString "turn" then tv else if y = Str.ofString "table" then some (.ref c.t) else if y = Str.ofString "walker" then some (.ref c.k) else if y = Str.ofString "pool" then some (.ref c.p) else if y = Str.ofString "memory" then some (.ref c.m) else if y = Str.ofString "layout" then some (.ref c.l) else if y = Str.ofString "marks" then some (.ref mk) else mm y))
  (N : News h₀ L s.heap ((c.w, oW) :: (c.hd, oH) :: (c.pD, dictOf (poolE c u4 2) 8) :: (D, oD) :: rest))
  (S : Std c rest) (lo2 : (c.hd == sysModules) = false) (loD : (D == sysModules) = false) (hp : (c.p, instObj 834 c.pD) ∈ rest) (hg : (c.g, listOf (List.toArray []) gg) ∈ rest)
  (hRT : (RT, listOf (List.toArray [.int 896 r0, .int 912 r1]) n0) ∈ rest) (hGT : (GT, listOf (List.toArray [.ref G0, .ref G1]) n1) ∈ rest)
  (hG0 : (G0, listOf (List.toArray [.int 0 y0, .int 1 y1]) n2) ∈ rest) (hmk : (mk, listOf (List.toArray ws) nn) ∈ rest)
  (hG1 : (G1, listOf (List.toArray [.int g0 y2, .int g1 y3]) n3) ∈ rest)
  (b0 : 0 ≤ g0 ∧ g0 < 4) (b1 : 0 ≤ g1 ∧ g1 < 4)
  (hw : Wd w oW (fun _ => 0)) (hH : Hd w oH 2) (W : Ow w [] oD []) (o1 : ∀ p ∈ rest, p.1 ≠ c.w) (o2 : ∀ p ∈ rest, p.1 ≠ c.hd) (o3 : ∀ p ∈ rest, p.1 ≠ c.pD) (oD' : ∀ p ∈ rest, p.1 ≠ D)
  (o4 : @LT.lt Nat _ c.w c.pD) (o5 : @LT.lt Nat _ c.pD c.hd) (o6 : @LT.lt Nat _ c.w c.hd) (o7 : @LT.lt Nat _ c.hd D)
  (hret : ∀ m' h' tk', Fr h₀ L h' m' → Q (.ret (.bool true)) { s with heap := h', toks := tk' }) :
  wpAny (model pw w) (callerA.deeper (envL L a cd)) (execs ((fnB (st 56)).drop 6) (envL L a cd)) Q E s := by
  refine law3 (G0 := G0) hE B X T F N S lo2 loD hp hg hRT hGT hG1 b0 b1 hw hH W o1 o2 o3 oD' o4 o5 o6 o7 ?_
  intro oW4 oH4 u44 oD4 tl4 u4' h4' tk4 F4 N4 ht4 hta4 hw4 W4
  have N5 := perm4 N4
  have hsub : ∀ x ∈ rest, x ∈ (c.hd, oH4) :: (c.pD, dictOf (poolE c u44 4) 8) :: rest := fun x hx => .tail _ (.tail _ hx)
  have hro : ∀ q ∈ (c.hd, oH4) :: (c.pD, dictOf (poolE c u44 4) 8) :: rest, q.1 ≠ c.w := List.forall_mem_cons.mpr ⟨Nat.ne_of_gt o6, List.forall_mem_cons.mpr ⟨Nat.ne_of_gt o4, o1⟩⟩
  have hrD : ∀ q ∈ (c.hd, oH4) :: (c.pD, dictOf (poolE c u44 4) 8) :: rest, q.1 ≠ D := List.forall_mem_cons.mpr ⟨Nat.ne_of_lt o7, List.forall_mem_cons.mpr ⟨Nat.ne_of_lt (Nat.lt_trans o5 o7), oD'⟩⟩
  have hP4 : PoolIn c 4 ((c.hd, oH4) :: (c.pD, dictOf (poolE c u44 4) 8) :: rest) := ⟨_, _, hsub _ hp, .tail _ (.head _), hsub _ hg⟩
  refine law4 (s := { s with heap := h4', toks := tk4 }) (im := tl4) (ds := dst 2) hE B X T XB TB F4 N5 (S.mono hsub) hP4 loD
    (hsub _ hRT) (hsub _ hGT) (hsub _ hG0) (hsub _ hG1) (hsub _ hmk) hI hns hw4 hta4 (fun x hx => hx) W4 (rel_init b0 b1 bne) (Nat.lt_trans o6 o7) hro hrD ?_
  intro oW6 oD6 M6 ds6 im6 tl6 v6 h6' tk6 F6 N6 hta6 hw6 W6 hi6 R6
  have N7 : News h₀ L h6' (tl6 ++ ((c.w, oW6) :: (D, oD6) :: ((c.hd, oH4) :: (c.pD, dictOf (poolE c u44 4) 8) :: rest))) := fun q hq => N6 q (by
    simp only [List.mem_append, List.mem_cons] at hq ⊢
    rcases hq with e | e | e | e | e | e <;> simp [e])
  exact law5 (s := { s with heap := h6', toks := tk6 }) (im := im6) hE B X T XB TB
    (fr_ins (fr_ins (fr_ins (fr_ins (fr_ins (fr_ins F6 ((if_neg (by decide)).trans rfl)) ((if_neg (by decide)).trans rfl)) ((if_neg (by decide)).trans rfl)) ((if_neg (by decide)).trans rfl)) ((if_neg (by decide)).trans rfl)) ((if_neg (by decide)).trans rfl))
    N6 (S.mono hsub) loD (hsub _ hRT) (hsub _ hGT) (hsub _ hG0) (hsub _ hG1) hw6 hi6 W6 R6
    (List.forall_mem_cons.mpr ⟨Nat.ne_of_gt (Nat.lt_trans o6 o7), fun q hq => (List.mem_append.mp hq).elim (fun z => tup_off N7 hta6 (.head _) (by rw [wd_dict hw6]; decide) q z) (hro q)⟩) (fun m' h' tk' F' => hret m' h' tk' F')
end
end Mine

namespace Mine
theorem sumL {w : World} {A : Around} {E : Value → Shared → Prop} {s : Shared} {h₀ : Heap} {L : Addr} {m : Str → Option Value} {news : Ledger} {l : Addr} {vs : List Value} {ns : List Int} {n : Nat} {Q : Value → Shared → Prop} (hh : A.handled = none) (F : Fr h₀ L s.heap m) (N : News h₀ L s.heap news) (hl : (l, listOf (List.toArray vs) n) ∈ news) (hi : IntsAre vs ns)
    (h : ∀ h' tk t', Fr h₀ L h' m → News h₀ L h' news → Q (.int ns.sum t') { s with heap := h', toks := tk }) : wpAny (model pw w) A (call (.builtin "sum") [.ref l]) Q E s :=
  sumK hh F N ⟨_, (N _ hl).1, rfl, n, rfl⟩ hi h
section
variable {w : World} {p : Program} {loose : List Str} {mean : ExcName → Option Value} {mg mb : Str → Option Value}
  {dp un : Nat} {gd : Option (List Code)} {cn : Str} {cs : Scope} {a : Addr} {ccd : Value} {cl : List (Str × Addr)} {outer : List Env} {A₀ : Around} {base h₀ : Heap} {L : Addr} {m : Str → Option Value} {s : Shared} {Q E : Value → Shared → Prop} {news : List (Addr × Obj)}
variable {c : Ads} {oW oH oD : Obj} {rest : Ledger} {cd : Value} {mk : Addr} {ws : List Value} {ns : List Int} {nn : Nat} {mm : Str → Option Value}
theorem rulesZ20 : True := by
  k_with_none
  k_with "H11" => exact News.isTup (by assumption) (List.Mem.head _)
  k_with "H12" => first | assumption | exact ⟨by omega, by omega⟩
  k_with "H13" => first | with_reducible assumption | exact rfl
  k_with "H8" => first | exact binds_K (by k_in) rfl (by k_is) rfl rfl rfl | exact BindsTo.of_eq rfl
  k_with "HB" => (case k1 => k_asm); (case k2 => k_asm); (case k3 => k_asm); (case k4 => k_asm); (case k5 => k_asm)
  k_with "K_MEM" => first | with_reducible assumption | ktr_member | exact List.Mem.head _ | (refine List.mem_cons_of_mem _ ?_; k_mem) | (refine List.mem_append_right _ ?_; k_mem) | (refine List.mem_append_left _ ?_; with_reducible assumption)
  k_with "K_IN" => first | k_in_fast | with_reducible assumption | exact Frag.In.keeps (by with_reducible assumption) (Fr.keep (by with_reducible assumption))
  k_with "K_ROOM" => ((try simp (config := {zetaDelta := true}) only [depth_under_make, depth_under_kw, depth_in1, depth_deeper, depth_caller]); (try dsimp only [ktrTop]); (first | (refine' room0 ?rh; (case rh => assumption)) | (refine' room1 ?rh ?rk; (case rh => assumption); (case rk => exact Nat.le_of_ble_eq_true rfl)) | (refine' room2 ?rh ?rk; (case rh => assumption); (case rk => exact Nat.le_of_ble_eq_true rfl)) | (refine' room3 ?rh ?rk; (case rh => assumption); (case rk => exact Nat.le_of_ble_eq_true rfl)) | (refine' room4 ?rh ?rk; (case rh => assumption); (case rk => exact Nat.le_of_ble_eq_true rfl)) | omega))
  k_with "testChain" => first | refine test_link ?_ | refine test_last ?_
  k_with "K_ALL" => first | with_reducible assumption | (refine lt_ne ?_; with_reducible assumption)
  k_with "call ref" => (k_here; refine wpAny_call ?_; k_dflt (refine' code_defL ?k1 ?k2 ?k3 ?k4 ?k5 ?kA ?kF ?kK ?k6 ?k7 ?k8 ?k9 ?kB ?_ ?c2 ?c3 ?c4 ?c5; (case kA => exact rfl); (case kF => exact rfl); (case kK => first | assumption | exact rfl); k_extra "HB"; (case k6 => k_is); (case k7 => k_is); (case k8 => k_room); (case k9 => k_extra "H8"); (case c5 => decide); (case kB => exact locs rfl); (case c2 => exact rfl); (case c3 => exact rfl); (case c4 => exact rfl); k_whole; intro g'Z L'Z h'Z kEZ kAZ kMZ kQZ kXZ FG'Z F'Z N'Z B'Z X'Z T'Z; (try dsimp only); (try k_lift B'Z)))
  k_with "LeaveK" => (k_dflt (refine' leaveK_ ?k1 ?k2 ?_; (case k1 => k_asm); (case k2 => k_asm); k_whole); intro kFZ kNZ; (try (have kXZ := kFor kFZ (by k_asm))); (try dsimp only [PySem.W.InitBack, PySem.W.CmpBack, PySem.W.LenBack, PySem.W.StrBack, PySem.W.BoolBack]); (try refine ⟨rfl, ?_⟩); (try dsimp only [PySem.W.CmpBack, PySem.W.LenBack, PySem.W.StrBack, PySem.W.BoolBack]); (try (refine ⟨⟨by omega, by omega⟩, ?_⟩)); (try (refine handed_on rfl ?_; try dsimp only)))
  k_with "storeName" => (k_here; k_dflt ((refine' storeL ?F ?N ?_ ?a ?b; (case F => k_asm); (case N => k_asm); (case a => rfl); (case b => rfl); k_whole; intro h'Z kMZ F'Z N'Z; (try k_sweep))))
  k_with "eval Attribute Name" => (k_here; k_dflt (refine' selfAttr ?kF ?ka ?kb ?kv ?k2 ?k3 ?k4 ?k5 ?k6 ?k7 ?k8 ?k9 ?_ ?kd; (case kF => k_asm); (case ka => rfl); (case kb => rfl); (case kv => rfl); (case k2 => k_asm); (case k3 => k_inst); (case k4 => k_is); (case k5 => k_is); (case k6 => k_is); (case k7 => k_is); (case k8 => k_get); (case k9 => k_handed); (case kd => decide); k_whole))
  k_with "spliced" => (k_here; (with_reducible show wpAny _ _ (spliced (backTo _ (starEach [Expr.Name _ _] _))) _ _ _); k_dflt (refine' argN1 ?kF ?ka ?kb ?kv ?_ ?kd; (case kF => k_asm); (case ka => rfl); (case kb => rfl); (case kv => rfl); (case kd => decide); k_whole))
  k_with "spliced" => (k_here; (with_reducible show wpAny _ _ (spliced (backTo _ (starEach (Expr.Name _ _ :: _ :: _) _))) _ _ _); k_dflt (refine' argN ?kF ?ka ?kb ?kv ?_ ?kd; (case kF => k_asm); (case ka => rfl); (case kb => rfl); (case kv => rfl); (case kd => decide); k_whole))
  k_with "eval Dict nil nil" => (k_here; k_dflt (refine' newDict_K ?k1 ?k2 (TopRead.nolimit ?k3) ?_; (case k1 => k_asm); (case k2 => k_asm); (case k3 => k_asm); k_whole); intro d'Z h'Z o'Z F'Z N'Z l1Z lo'Z hs'Z fs'Z hi'Z fi'Z; (try k_lt l1Z); (try k_sweep))
  k_with "call ref" => (k_here; k_dflt (refine' call_cls ?k1 ?k2 ?k3 ?k4 ?k5 ?k6 ?_; (case k1 => k_asm); (case k2 => k_asm); (case k3 => k_asm); (case k4 => k_is); (case k5 => k_is); (case k6 => k_is); k_whole; intro x'Z d'Z h'Z F'Z N'Z l1Z l2Z; (try k_lt l1Z); (try k_lt2 l2Z); (try k_sweep); refine' code_def ?k1 ?k2 ?k3 ?k4 ?k5 ?kA ?kF ?kK ?k6 ?k7 ?k8 ?k9 ?kB ?_ ?c2 ?c3 ?c4 ?c5; (case kA => exact rfl); (case kF => exact rfl); (case kK => assumption); k_extra "HB"; (case k6 => k_is); (case k7 => k_is); (case k8 => k_room); (case k9 => k_extra "H8"); (case c5 => decide); (case kB => exact locs rfl); (case c2 => exact rfl); (case c3 => exact rfl); (case c4 => exact rfl); k_whole; intro g'Z L'Z h'Z FG'Z F'Z N'Z B'Z X'Z T'Z; (try dsimp only); (try k_lift B'Z); (try k_fold)))
  k_with "unpackItems ref none" => focus (rw [fm_names]; rotate_left; (focus kernel_rfl); (dsimp only [List.filterMap, nmO, List.length]))
  k_with "unpackItems ref" => (k_here; k_dflt (refine' unpackItemsN_ ?k1 ?k2 ?k3 ?k4 ?k5 ?_; (case k1 => k_asm); (case k2 => k_asm); (case k3 => k_extra "H11"); (case k4 => exact rfl); (case k5 => exact rfl); k_whole); intro h'Z F'Z N'Z; (try k_sweep))
  k_with "K_UPDF" => first | with_reducible assumption | (refine' updF_cons ?kua ?kub; (case kua => assumption); (case kub => k_updF)) | (refine' updF_allLt ?kua ?kub; (case kua => assumption); (case kub => k_updF)) | (refine' updF_ne ?kua ?kub; (case kua => assumption); (case kub => k_updF)) | (refine' updF_app ?kua ?kub; (case kua => assumption); (case kub => k_updF)) | (refine' updF_old ?kua ?kuc ?kub; (case kua => assumption); (case kuc => k_mem); (case kub => k_updF)) | (refine' updF_im ?kua ?kuc ?kub; (case kuc => assumption); (case kua => assumption); (case kub => k_updF))
  k_with "call ref" => (k_here; (with_reducible show wpAny _ _ (call (Value.ref 291) _) _ _ _); k_dflt (refine' newtable_spec ?k1 ?k2 ?k3 ?k4 ?k5 ?k6 ?k7 ?k8 ?k9 ?k10 ?k11 ?k12 ?k13 ?k14 ?k15 ?k16 ?k17 ?k18 ?k19 ?k20 ?k21 ?k22 ?k23 ?k24 ?k25 ?_; (case k1 => k_asm); (case k2 => k_asm); (case k3 => k_asm); (case k4 => k_asm); (case k5 => k_extra "H13"); (case k6 => k_room); (case k7 => k_asm); (case k8 => assumption); (case k9 => assumption); (case k10 => assumption); (case k11 => assumption); (case k12 => assumption); (case k13 => assumption); (case k14 => assumption); (case k15 => assumption); (case k16 => assumption); (case k17 => first | assumption | omega); (case k18 => k_extra "H12"); (case k19 => assumption); (case k20 => assumption); (case k21 => assumption); (case k22 => assumption); (case k23 => assumption); (case k24 => assumption); (case k25 => first | assumption | (intro jZ hj0Z hj4Z; first | rfl | omega))); intro oW2Z oH2Z t'Z h'Z tk'Z u4'Z F'Z N'Z hw2Z hH2Z; (try k_sweep))
  k_with "call builtin:sum" => (k_here; (with_reducible show wpAny _ _ (call (Value.builtin "sum") [Value.ref _]) _ _ _); (with_unfolding_all refine' sumL ?k0 ?k1 ?k2 ?k3 ?k4 ?_; (case k0 => with_unfolding_all rfl); (case k1 => k_asm); (case k2 => k_asm); (case k3 => k_mem); (case k4 => assumption); k_whole); intro h'Z tk'Z t'Z F'Z N'Z)
  k_with "execs cons" => (k_here; (with_reducible show wpAny _ _ (execs (Stmt.For (Expr.Name (Str.ofString "first") _) _ _ _ _ :: _) _) _ _ _); refine stop_here ?_)
  trivial
theorem law2 {Q : Flow → Shared → Prop} {u4 g1 : Nat}
  (hE : PassesOwn (model pw w) (callerA.deeper (envL L a cd)) (envL L a cd) E) (XB : (KF w.params).In base) (TB : Top p loose mean mg mb base) (hns : ∀ n ∈ ns, 0 ≤ n) (B : Below callerA base [] h₀) (X : (KF w.params).In h₀) (T : Top p loose mean mg mb h₀)
  (F : Fr h₀ L s.heap (fun y => if y = Str.ofString "table" then some (.ref c.t) else if y = Str.ofString "walker" then some (.ref c.k) else if y = Str.ofString "pool" then some (.ref c.p) else if y = Str.ofString "memory" then some (.ref c.m) else if y = Str.ofString "layout" then some (.ref c.l) else if y = Str.ofString "marks" then some (.ref mk) else mm y))
  (N : News h₀ L s.heap ((c.w, oW) :: (c.hd, oH) :: (c.pD, dictOf (poolE c u4 0) 8) :: rest))
  (S : Std c rest) (lo2 : (c.hd == sysModules) = false) (hp : (c.p, instObj 834 c.pD) ∈ rest) (hg : (c.g, listOf (List.toArray []) g1) ∈ rest) (hmk : (mk, listOf (List.toArray ws) nn) ∈ rest) (hi : IntsAre ws ns) (hlen : ns.length ≤ 12)
  (hw : Wd w oW (fun _ => 0)) (hH : Hd w oH 0) (o1 : ∀ p ∈ rest, p.1 ≠ c.w) (o2 : ∀ p ∈ rest, p.1 ≠ c.hd) (o3 : ∀ p ∈ rest, p.1 ≠ c.pD) (o4 : @LT.lt Nat _ c.w c.pD) (o5 : @LT.lt Nat _ c.pD c.hd) (o6 : @LT.lt Nat _ c.w c.hd)
  (hret : ∀ m' h' tk', Fr h₀ L h' m' → Q (.ret (.bool true)) { s with heap := h', toks := tk' }) :
  wpAny (model pw w) (callerA.deeper (envL L a cd)) (execs ((fnB (st 56)).drop 4) (envL L a cd)) Q E s := by
  have SM := S.mem
  have SL := S.lay
  have ST := S.tab
  have lo := S.low
  have ht1 := TabIn.a (S.tab) (fun _ h => h)
  have ht2 := TabIn.b (S.tab) (fun _ h => h)
  show wpAny _ _ (execs (_ :: _) _) _ _ _
  k_steps
  unfold StopHere
  rename Fr _ _ _ _ => FL
  rename News _ _ _ _ => NL
  rename Obj.IsDictOf (intKind _ _) _ _ => hDi
  rename Wd _ _ _ => hWl
  rename Hd _ _ _ => hHl
  have N3 := perm9 NL
  have tb : 0 ≤ ns.sum.fmod 3 ∧ ns.sum.fmod 3 < 3 := by rw [Int.fmod_eq_emod_of_nonneg _ (by decide)]; lia
  obtain ⟨b0, b1, bne⟩ := goals_ok tb
  have sub5 : ∀ {a b d e f : Addr × Obj}, ∀ x ∈ rest, x ∈ a :: b :: d :: e :: f :: rest := fun x hx => .tail _ (.tail _ (.tail _ (.tail _ (.tail _ hx))))
  have lD := ‹_ ∧ @LT.lt Nat _ c.w _ ∧ @LT.lt Nat _ c.hd _ ∧ @LT.lt Nat _ c.pD _ ∧ AllLt _ rest›
  refine' law345 (gg := g1) XB TB hns hi bne hE B X T FL N3 (S.mono sub5) lo2 ?loD (sub5 _ hp) (sub5 _ hg) (.tail _ (.tail _ (.tail _ (.tail _ (.head _))))) (.head _) (.tail _ (.tail _ (.head _))) (sub5 _ hmk) (.tail _ (.head _)) b0 b1 hWl hHl (ow_of_nil hDi) ?o1 ?o2 ?o3 ?oD o4 o5 o6 ?o7 (fun m' h' tk' F' => hret m' h' tk' F')
  case loD => assumption
  case o1 => exact List.forall_mem_cons.mpr ⟨by k_ne, List.forall_mem_cons.mpr ⟨by k_ne, List.forall_mem_cons.mpr ⟨by k_ne, List.forall_mem_cons.mpr ⟨by k_ne, List.forall_mem_cons.mpr ⟨by k_ne, o1⟩⟩⟩⟩⟩
  case o2 => exact List.forall_mem_cons.mpr ⟨by k_ne, List.forall_mem_cons.mpr ⟨by k_ne, List.forall_mem_cons.mpr ⟨by k_ne, List.forall_mem_cons.mpr ⟨by k_ne, List.forall_mem_cons.mpr ⟨by k_ne, o2⟩⟩⟩⟩⟩
  case o3 => exact List.forall_mem_cons.mpr ⟨by k_ne, List.forall_mem_cons.mpr ⟨by k_ne, List.forall_mem_cons.mpr ⟨by k_ne, List.forall_mem_cons.mpr ⟨by k_ne, List.forall_mem_cons.mpr ⟨by k_ne, o3⟩⟩⟩⟩⟩
  case oD => exact List.forall_mem_cons.mpr ⟨by k_ne, List.forall_mem_cons.mpr ⟨by k_ne, List.forall_mem_cons.mpr ⟨by k_ne, List.forall_mem_cons.mpr ⟨by k_ne, List.forall_mem_cons.mpr ⟨by k_ne, lt_ne (allLt_all lD.2.2.2.2)⟩⟩⟩⟩⟩
  case o7 => exact lD.2.2.1
end
end Mine

namespace Mine
/-- addresses in falling order -/
noncomputable def Desc : List Addr → Prop
  | [] => True
  | a :: r => (∀ b ∈ r.head?, @LT.lt Nat _ b a) ∧ Desc r
theorem desc_lt {a : Addr} : ∀ {r : List Addr}, Desc (a :: r) → ∀ b ∈ r, @LT.lt Nat _ b a
  | [], _, _, h => by cases h
  | c :: r, ⟨h1, h2⟩, b, hb => by
    have h1 := h1 c rfl
    rcases List.mem_cons.mp hb with rfl | hb
    · exact h1
    · exact Nat.lt_trans (desc_lt h2 b hb) h1
theorem desc_cons {a b : Addr} {r : List Addr} (h : @LT.lt Nat _ b a) (d : Desc (b :: r)) : Desc (a :: b :: r) := ⟨fun x e => by cases e; exact h, d⟩
theorem desc_one {a : Addr} : Desc [a] := ⟨fun x e => (nomatch e), trivial⟩
theorem desc_tail {l : List Addr} : ∀ {k : List Addr}, Desc (k ++ l) → Desc l
  | [], h => h
  | _ :: _, h => desc_tail (k := _) h.2
theorem desc_ne {a : Addr} {r : List Addr} : ∀ {k : List Addr}, Desc (k ++ a :: r) → ∀ b, b ∈ k ++ r → b ≠ a
  | [], h, b, hb => Nat.ne_of_lt (desc_lt h b hb)
  | c :: k, h, b, hb => by
    rcases List.mem_cons.mp hb with rfl | hb
    · exact Nat.ne_of_gt (desc_lt h a (List.mem_append_right _ (.head _)))
    · exact desc_ne (k := k) h.2 b hb
noncomputable def offs (l : Ledger) : List Addr := l.map (·.1)
theorem offs_app {a b : Ledger} : offs (a ++ b) = offs a ++ offs b := List.map_append
section
variable {A B C D : Ledger} {x y z : Addr × Obj}
theorem four_news {h₀ h : Heap} {L : Addr} (N : News h₀ L h (A ++ (x :: (B ++ (y :: (C ++ (z :: D))))))) : News h₀ L h (z :: x :: y :: (A ++ (B ++ (C ++ D)))) := fun q hq => N q (by
  simp only [List.mem_append, List.mem_cons] at hq ⊢
  rcases hq with e | e | e | e | e | e | e <;> simp [e])
theorem four_ne (O : Desc (offs (A ++ (x :: (B ++ (y :: (C ++ (z :: D)))))))) : (∀ p ∈ A ++ (B ++ (C ++ D)), p.1 ≠ z.1) ∧ (∀ p ∈ A ++ (B ++ (C ++ D)), p.1 ≠ x.1) ∧ (∀ p ∈ A ++ (B ++ (C ++ D)), p.1 ≠ y.1) ∧ @LT.lt Nat _ z.1 y.1 ∧ @LT.lt Nat _ y.1 x.1 ∧ @LT.lt Nat _ z.1 x.1 := by
  have mem : ∀ {p : Addr × Obj} {l : Ledger}, p ∈ l → p.1 ∈ offs l := fun h => List.mem_map_of_mem h
  have e1 : offs (A ++ (x :: (B ++ (y :: (C ++ (z :: D)))))) = offs (A ++ (x :: (B ++ (y :: C)))) ++ z.1 :: offs D := by simp [offs]
  have e2 : offs (A ++ (x :: (B ++ (y :: (C ++ (z :: D)))))) = offs A ++ x.1 :: offs (B ++ (y :: (C ++ (z :: D)))) := by simp [offs]
  have e3 : offs (A ++ (x :: (B ++ (y :: (C ++ (z :: D)))))) = offs (A ++ (x :: B)) ++ y.1 :: offs (C ++ (z :: D)) := by simp [offs]
  have O2 := O
  rw [e2] at O2
  have O3 := O
  rw [e3] at O3
  have l2 := desc_lt (desc_tail O2)
  have l3 := desc_lt (desc_tail O3)
  refine ⟨fun p hp => ?_, fun p hp => ?_, fun p hp => ?_, l3 _ (mem (List.mem_append_right _ (.head _))), l2 _ (mem (List.mem_append_right _ (.head _))), l2 _ (mem (List.mem_append_right _ (.tail _ (List.mem_append_right _ (.head _)))))⟩
  · rw [e1] at O
    refine desc_ne O _ ?_
    rw [← offs_app]
    refine mem ?_
    simp only [List.mem_append, List.mem_cons] at hp ⊢
    rcases hp with e | e | e | e <;> simp [e]
  · refine desc_ne O2 _ ?_
    rw [← offs_app]
    refine mem ?_
    simp only [List.mem_append, List.mem_cons] at hp ⊢
    rcases hp with e | e | e | e <;> simp [e]
  · refine desc_ne O3 _ ?_
    rw [← offs_app]
    refine mem ?_
    simp only [List.mem_append, List.mem_cons] at hp ⊢
    rcases hp with e | e | e | e <;> simp [e]
end
noncomputable abbrev lawA (c : Ads) (T2 : Addr) (oT2 : Obj) : Ledger := [(T2, oT2), (c.k, instObj 266 c.kD), (c.kD, dictOf (walE c) 2), (c.sl, listOf (List.toArray []) 0), (c.b, instObj 714 c.bD), (c.bD, dictOf (busE c) 2), (c.t, instObj 418 c.tD), (c.tD, dictOf (tabE c) 3)]
noncomputable abbrev lawB (c : Ads) : Ledger := [(c.g, listOf (List.toArray []) 0), (c.p, instObj 834 c.pD)]
noncomputable abbrev lawC (c : Ads) (T1 : Addr) (oT1 : Obj) : Ledger := [(T1, oT1), (c.l, instObj 182 c.lD), (c.lD, dictOf (layE c) 6)]
noncomputable abbrev lawD (c : Ads) (mk : Addr) (oM : Obj) : Ledger := [(c.m, instObj 607 c.mD), (c.mD, dictOf (memE c) 4), (mk, oM)]
theorem std_law {c : Ads} {T2 T1 mk : Addr} {oT2 oT1 oM : Obj} (lo : (c.w == sysModules) = false) : Std c (lawA c T2 oT2 ++ (lawB c ++ (lawC c T1 oT1 ++ lawD c mk oM))) where
  mem := ⟨(List.mem_append_right _ (List.mem_append_right _ (List.mem_append_right _ (.head _)))), (List.mem_append_right _ (List.mem_append_right _ (List.mem_append_right _ (.tail _ (.head _)))))⟩
  lay := ⟨(List.mem_append_right _ (List.mem_append_right _ (List.mem_append_left _ (.tail _ (.head _))))), (List.mem_append_right _ (List.mem_append_right _ (List.mem_append_left _ (.tail _ (.tail _ (.head _))))))⟩
  tab := ⟨(List.mem_append_left _ (.tail _ (.tail _ (.tail _ (.tail _ (.tail _ (.tail _ (.head _)))))))), (List.mem_append_left _ (.tail _ (.tail _ (.tail _ (.tail _ (.tail _ (.tail _ (.tail _ (.head _)))))))))⟩
  bus := ⟨(List.mem_append_left _ (.tail _ (.tail _ (.tail _ (.tail _ (.head _)))))), (List.mem_append_left _ (.tail _ (.tail _ (.tail _ (.tail _ (.tail _ (.head _)))))))⟩
  walk := ⟨(List.mem_append_left _ (.tail _ (.head _))), (List.mem_append_left _ (.tail _ (.tail _ (.head _))))⟩
  low := lo
section
variable {w : World} {p : Program} {loose : List Str} {mean : ExcName → Option Value} {mg mb : Str → Option Value}
  {a : Addr} {base h₀ : Heap} {L : Addr} {s : Shared} {E : Value → Shared → Prop}
theorem law1c {Q : Flow → Shared → Prop} {cd : Value} {mm : Str → Option Value} {ws : List Value} {ns : List Int} {nn u4 : Nat} {oW oH oT1 oT2 : Obj} {T1 T2 mk : Addr} {c : Ads}
  (hE : PassesOwn (model pw w) (callerA.deeper (envL L a cd)) (envL L a cd) E) (XB : (KF w.params).In base) (TB : Top p loose mean mg mb base) (hns : ∀ n ∈ ns, 0 ≤ n) (hlen : ns.length ≤ 12) (hi : IntsAre ws ns) (B : Below callerA base [] h₀) (X : (KF w.params).In h₀) (T : Top p loose mean mg mb h₀)
  (F : Fr h₀ L s.heap (fun y => if y = Str.ofString "table" then some (.ref c.t) else if y = Str.ofString "walker" then some (.ref c.k) else if y = Str.ofString "pool" then some (.ref c.p) else if y = Str.ofString "memory" then some (.ref c.m) else if y = Str.ofString "layout" then some (.ref c.l) else if y = Str.ofString "marks" then some (.ref mk) else mm y))
  (N : News h₀ L s.heap (lawA c T2 oT2 ++ ((c.hd, oH) :: (lawB c ++ ((c.pD, dictOf (poolE c u4 0) 8) :: (lawC c T1 oT1 ++ ((c.w, oW) :: lawD c mk (listOf (List.toArray ws) nn))))))))
  (O : Desc (offs (lawA c T2 oT2 ++ ((c.hd, oH) :: (lawB c ++ ((c.pD, dictOf (poolE c u4 0) 8) :: (lawC c T1 oT1 ++ ((c.w, oW) :: lawD c mk (listOf (List.toArray ws) nn)))))))))
  (lo1 : (c.w == sysModules) = false) (lo2 : (c.hd == sysModules) = false) (hw : Wd w oW (fun _ => 0)) (hH : Hd w oH 0)
  (hret : ∀ m' h' tk', Fr h₀ L h' m' → Q (.ret (.bool true)) { s with heap := h', toks := tk' }) :
  wpAny (model pw w) (callerA.deeper (envL L a cd)) (execs ((fnB (st 56)).drop 4) (envL L a cd)) Q E s :=
  have P := four_ne O
  law2 (c := c) (mk := mk) (nn := nn) (g1 := 0) (rest := lawA c T2 oT2 ++ (lawB c ++ (lawC c T1 oT1 ++ lawD c mk (listOf (List.toArray ws) nn)))) hE XB TB hns B X T F (four_news N) (std_law lo1) lo2 (List.mem_append_right _ (List.mem_append_left _ (.tail _ (.head _)))) (List.mem_append_right _ (List.mem_append_left _ (.head _))) (List.mem_append_right _ (List.mem_append_right _ (List.mem_append_right _ (.tail _ (.tail _ (.head _)))))) hi hlen hw hH P.1 P.2.1 P.2.2.1 P.2.2.2.1 P.2.2.2.2.1 P.2.2.2.2.2 hret
theorem law1b {Q : Flow → Shared → Prop} {cd : Value} {mm : Str → Option Value} {ws : List Value} {ns : List Int} {nn : Nat} {oW oH oT1 oT2 : Obj} {T1 T2 k kD sl b bD t tD hd g pp pD l lD wA m mD mk : Addr}
  {h1 h2 h3 h4 h5 h6 h7 h8 : Int} {t1 t2 t3 t4 t5 t6 t7 t8 u1 u2 u3 u4 : Nat} {kh1 kh2 : Int} {kt1 kt2 : Nat} {bh1 bh2 : Int} {bt1 bt2 : Nat} {th1 th2 th3 : Int} {tt1 tt2 tt3 : Nat} {lh1 lh2 lh3 lh4 lh5 lh6 : Int} {lt1 lt2 lt3 lt4 lt5 lt6 : Nat} {mh1 mh2 mh3 mh4 : Int} {mt1 mt2 mt3 mt4 : Nat} {lu1 lu2 lu3 lu4 lu5 lu6 mu1 mu2 mu3 : Nat}
  (hE : PassesOwn (model pw w) (callerA.deeper (envL L a cd)) (envL L a cd) E) (XB : (KF w.params).In base) (TB : Top p loose mean mg mb base) (hns : ∀ n ∈ ns, 0 ≤ n) (hlen : ns.length ≤ 12) (hi : IntsAre ws ns) (B : Below callerA base [] h₀) (X : (KF w.params).In h₀) (T : Top p loose mean mg mb h₀)
  (F : Fr h₀ L s.heap (fun y => if y = Str.ofString "table" then some (.ref t) else if y = Str.ofString "walker" then some (.ref k) else if y = Str.ofString "pool" then some (.ref pp) else if y = Str.ofString "memory" then some (.ref m) else if y = Str.ofString "layout" then some (.ref l) else if y = Str.ofString "marks" then some (.ref mk) else mm y))
  (N : News h₀ L s.heap [(T2, oT2), (k, instObj 266 kD), (kD, dictOf [⟨kh1, .str (Str.ofString "bus") kt1, .ref b⟩, ⟨kh2, .str (Str.ofString "layout") kt2, .ref l⟩] 2), (sl, listOf (List.toArray []) 0), (b, instObj 714 bD), (bD, dictOf [⟨bh1, .str (Str.ofString "memory") bt1, .ref m⟩, ⟨bh2, .str (Str.ofString "stretches") bt2, .ref sl⟩] 2), (t, instObj 418 tD), (tD, dictOf [⟨th1, .str (Str.ofString "memory") tt1, .ref m⟩, ⟨th2, .str (Str.ofString "layout") tt2, .ref l⟩, ⟨th3, .str (Str.ofString "pages") tt3, .ref pp⟩] 3), (hd, oH), (g, listOf (List.toArray []) 0), (pp, instObj 834 pD), (pD, dictOf [⟨h1, .str (Str.ofString "memory") t1, .ref m⟩, ⟨h2, .str (Str.ofString "begin") t2, .int 896 u1⟩, ⟨h3, .str (Str.ofString "count") t3, .int 8 u2⟩, ⟨h4, .str (Str.ofString "size") t4, .int 16 u3⟩, ⟨h5, .str (Str.ofString "fill") t5, .bool true⟩, ⟨h6, .str (Str.ofString "untouched") t6, .int 0 u4⟩, ⟨h7, .str (Str.ofString "given") t7, .ref g⟩, ⟨h8, .str (Str.ofString "held") t8, .ref hd⟩] 8), (T1, oT1), (l, instObj 182 lD), (lD, dictOf [⟨lh1, .str (Str.ofString "page_bits") lt1, .int 4 lu1⟩, ⟨lh2, .str (Str.ofString "level_bits") lt2, .int 2 lu2⟩, ⟨lh3, .str (Str.ofString "page") lt3, .int 16 lu3⟩, ⟨lh4, .str (Str.ofString "entries") lt4, .int 4 lu4⟩, ⟨lh5, .str (Str.ofString "large") lt5, .int 64 lu5⟩, ⟨lh6, .str (Str.ofString "end") lt6, .int 256 lu6⟩] 6), (wA, oW), (m, instObj 607 mD), (mD, dictOf [⟨mh1, .str (Str.ofString "size") mt1, .int 1024 mu1⟩, ⟨mh2, .str (Str.ofString "begin") mt2, .int 0 mu2⟩, ⟨mh3, .str (Str.ofString "end") mt3, .int 1024 mu3⟩, ⟨mh4, .str (Str.ofString "words") mt4, .ref wA⟩] 4), (mk, listOf (List.toArray ws) nn)]) (q0 : @LT.lt Nat _ mk mD) (q1 : @LT.lt Nat _ mD m) (q2 : @LT.lt Nat _ m wA) (q3 : @LT.lt Nat _ wA lD) (q4 : @LT.lt Nat _ lD l) (q5 : @LT.lt Nat _ l T1) (q6 : @LT.lt Nat _ T1 pD) (q7 : @LT.lt Nat _ pD pp) (q8 : @LT.lt Nat _ pp g) (q9 : @LT.lt Nat _ g hd) (q10 : @LT.lt Nat _ hd tD) (q11 : @LT.lt Nat _ tD t) (q12 : @LT.lt Nat _ t bD) (q13 : @LT.lt Nat _ bD b) (q14 : @LT.lt Nat _ b sl) (q15 : @LT.lt Nat _ sl kD) (q16 : @LT.lt Nat _ kD k) (q17 : @LT.lt Nat _ k T2)
  (lo1 : (wA == sysModules) = false) (lo2 : (hd == sysModules) = false) (hw : Wd w oW (fun _ => 0)) (hH : Hd w oH 0)
  (hret : ∀ m' h' tk', Fr h₀ L h' m' → Q (.ret (.bool true)) { s with heap := h', toks := tk' }) :
  wpAny (model pw w) (callerA.deeper (envL L a cd)) (execs ((fnB (st 56)).drop 4) (envL L a cd)) Q E s :=
  law1c (c := { w := wA, m := m, mD := mD, l := l, lD := lD, t := t, tD := tD, p := pp, pD := pD, g := g, hd := hd, k := k, kD := kD, b := b, bD := bD, sl := sl, hh := fun n => ([mh1, mh2, mh3, mh4, lh1, lh2, lh3, lh4, lh5, lh6, th1, th2, th3, bh1, bh2, kh1, kh2, h1, h2, h3, h4, h5, h6, h7, h8] : List Int).getD n 0, tk := fun n => ([mt1, mu1, mt2, mu2, mt3, mu3, mt4, lt1, lu1, lt2, lu2, lt3, lu3, lt4, lu4, lt5, lu5, lt6, lu6, tt1, tt2, tt3, bt1, bt2, kt1, kt2, t1, t2, t3, t4, t5, t6, t7, t8, u1, u2, u3] : List Nat).getD n 0 }) hE XB TB hns hlen hi B X T F N
    (desc_cons q17 (desc_cons q16 (desc_cons q15 (desc_cons q14 (desc_cons q13 (desc_cons q12 (desc_cons q11 (desc_cons q10 (desc_cons q9 (desc_cons q8 (desc_cons q7 (desc_cons q6 (desc_cons q5 (desc_cons q4 (desc_cons q3 (desc_cons q2 (desc_cons q1 (desc_cons q0 desc_one)))))))))))))))))) lo1 lo2 hw hH hret
end
end Mine

namespace Mine
section
variable {w : World} {p : Program} {loose : List Str} {mean : ExcName → Option Value} {mg mb : Str → Option Value}
  {dp un : Nat} {gd : Option (List Code)} {cn : Str} {cs : Scope} {a : Addr} {ccd : Value} {cl : List (Str × Addr)} {outer : List Env} {A₀ : Around} {base h₀ : Heap} {L : Addr} {m : Str → Option Value} {s : Shared} {Q E : Value → Shared → Prop} {news : List (Addr × Obj)}
theorem rulesZ10 : True := by
  k_with_none
  k_with "H11" => exact News.isTup (by assumption) (List.Mem.head _)
  k_with "H8" => first | exact binds_K (by k_in) rfl (by k_is) rfl rfl rfl | exact BindsTo.of_eq rfl
  k_with "HA" => (case k1 => k_asm); (case k2 => k_asm); (case k3 => k_asm); (case k4 => k_asm); (case k5 => k_asm); (case k6 => first | with_reducible assumption | exact rfl); (case k7 => k_room)
  k_with "HB" => (case k1 => k_asm); (case k2 => k_asm); (case k3 => k_asm); (case k4 => k_asm); (case k5 => k_asm)
  k_with "K_MEM" => first | with_reducible assumption | ktr_member | exact List.Mem.head _ | (refine List.mem_cons_of_mem _ ?_; k_mem) | (refine List.mem_append_right _ ?_; k_mem) | (refine List.mem_append_left _ ?_; with_reducible assumption)
  k_with "K_IN" => first | k_in_fast | with_reducible assumption | exact Frag.In.keeps (by with_reducible assumption) (Fr.keep (by with_reducible assumption))
  k_with "K_ROOM" => ((try simp (config := {zetaDelta := true}) only [depth_under_make, depth_under_kw, depth_in1, depth_deeper, depth_caller]); (try dsimp only [ktrTop]); (first | (refine' room0 ?rh; (case rh => assumption)) | (refine' room1 ?rh ?rk; (case rh => assumption); (case rk => exact Nat.le_of_ble_eq_true rfl)) | (refine' room2 ?rh ?rk; (case rh => assumption); (case rk => exact Nat.le_of_ble_eq_true rfl)) | (refine' room3 ?rh ?rk; (case rh => assumption); (case rk => exact Nat.le_of_ble_eq_true rfl)) | (refine' room4 ?rh ?rk; (case rh => assumption); (case rk => exact Nat.le_of_ble_eq_true rfl)) | omega))
  k_with "testChain" => first | refine test_link ?_ | refine test_last ?_
  k_with "K_ALL" => first | with_reducible assumption | (refine lt_ne ?_; with_reducible assumption)
  k_with "call ref" => (k_here; refine wpAny_call ?_; k_dflt (refine' code_defL ?k1 ?k2 ?k3 ?k4 ?k5 ?kA ?kF ?kK ?k6 ?k7 ?k8 ?k9 ?kB ?_ ?c2 ?c3 ?c4 ?c5; (case kA => exact rfl); (case kF => exact rfl); (case kK => first | assumption | exact rfl); k_extra "HB"; (case k6 => k_is); (case k7 => k_is); (case k8 => k_room); (case k9 => k_extra "H8"); (case c5 => decide); (case kB => exact locs rfl); (case c2 => exact rfl); (case c3 => exact rfl); (case c4 => exact rfl); k_whole; intro g'Z L'Z h'Z kEZ kAZ kMZ kQZ kXZ FG'Z F'Z N'Z B'Z X'Z T'Z; (try dsimp only); (try k_lift B'Z)))
  k_with "LeaveK" => (k_dflt (refine' leaveK_ ?k1 ?k2 ?_; (case k1 => k_asm); (case k2 => k_asm); k_whole); intro kFZ kNZ; (try (have kXZ := kFor kFZ (by k_asm))); (try dsimp only [PySem.W.InitBack, PySem.W.CmpBack, PySem.W.LenBack, PySem.W.StrBack, PySem.W.BoolBack]); (try refine ⟨rfl, ?_⟩); (try dsimp only [PySem.W.CmpBack, PySem.W.LenBack, PySem.W.StrBack, PySem.W.BoolBack]); (try (refine ⟨⟨by omega, by omega⟩, ?_⟩)); (try (refine handed_on rfl ?_; try dsimp only)))
  k_with "storeName" => (k_here; k_dflt ((refine' storeL ?F ?N ?_ ?a ?b; (case F => k_asm); (case N => k_asm); (case a => rfl); (case b => rfl); k_whole; intro h'Z kMZ F'Z N'Z; (try k_sweep))))
  k_with "eval Attribute Name" => (k_here; k_dflt (refine' selfAttr ?kF ?ka ?kb ?kv ?k2 ?k3 ?k4 ?k5 ?k6 ?k7 ?k8 ?k9 ?_ ?kd; (case kF => k_asm); (case ka => rfl); (case kb => rfl); (case kv => rfl); (case k2 => k_asm); (case k3 => k_inst); (case k4 => k_is); (case k5 => k_is); (case k6 => k_is); (case k7 => k_is); (case k8 => k_get); (case k9 => k_handed); (case kd => decide); k_whole))
  k_with "spliced" => (k_here; (with_reducible show wpAny _ _ (spliced (backTo _ (starEach [Expr.Name _ _] _))) _ _ _); k_dflt (refine' argN1 ?kF ?ka ?kb ?kv ?_ ?kd; (case kF => k_asm); (case ka => rfl); (case kb => rfl); (case kv => rfl); (case kd => decide); k_whole))
  k_with "spliced" => (k_here; (with_reducible show wpAny _ _ (spliced (backTo _ (starEach (Expr.Name _ _ :: _ :: _) _))) _ _ _); k_dflt (refine' argN ?kF ?ka ?kb ?kv ?_ ?kd; (case kF => k_asm); (case ka => rfl); (case kb => rfl); (case kv => rfl); (case kd => decide); k_whole))
  k_with "eval Dict nil nil" => (k_here; k_dflt (refine' newDict_K ?k1 ?k2 (TopRead.nolimit ?k3) ?_; (case k1 => k_asm); (case k2 => k_asm); (case k3 => k_asm); k_whole); intro d'Z h'Z o'Z F'Z N'Z l1Z lo'Z hs'Z fs'Z hi'Z fi'Z; (try k_lt l1Z); (try k_sweep))
  k_with "call ref" => (k_here; k_dflt (refine' call_cls ?k1 ?k2 ?k3 ?k4 ?k5 ?k6 ?_; (case k1 => k_asm); (case k2 => k_asm); (case k3 => k_asm); (case k4 => k_is); (case k5 => k_is); (case k6 => k_is); k_whole; intro x'Z d'Z h'Z F'Z N'Z l1Z l2Z; (try k_lt l1Z); (try k_lt2 l2Z); (try k_sweep); refine' code_def ?k1 ?k2 ?k3 ?k4 ?k5 ?kA ?kF ?kK ?k6 ?k7 ?k8 ?k9 ?kB ?_ ?c2 ?c3 ?c4 ?c5; (case kA => exact rfl); (case kF => exact rfl); (case kK => assumption); k_extra "HB"; (case k6 => k_is); (case k7 => k_is); (case k8 => k_room); (case k9 => k_extra "H8"); (case c5 => decide); (case kB => exact locs rfl); (case c2 => exact rfl); (case c3 => exact rfl); (case c4 => exact rfl); k_whole; intro g'Z L'Z h'Z FG'Z F'Z N'Z B'Z X'Z T'Z; (try dsimp only); (try k_lift B'Z); (try k_fold)))
  k_with "unpackItems ref none" => focus (rw [fm_names]; rotate_left; (focus kernel_rfl); (dsimp only [List.filterMap, nmO, List.length]))
  k_with "unpackItems ref" => (k_here; k_dflt (refine' unpackItemsN_ ?k1 ?k2 ?k3 ?k4 ?k5 ?_; (case k1 => k_asm); (case k2 => k_asm); (case k3 => k_extra "H11"); (case k4 => exact rfl); (case k5 => exact rfl); k_whole); intro h'Z F'Z N'Z; (try k_sweep))
  k_with "call ref" => (k_here; (with_reducible show wpAny _ _ (call (Value.ref 607) _) _ _ _); k_dflt (refine' memory_new ?k1 ?k2 ?k3 ?k4 ?k5 ?k6 ?k7 ?_; k_extra "HA"); intro x'Z d'Z W'Z oW'Z q1Z q2Z q3Z q4Z t1Z t2Z t3Z t4Z u1Z u2Z u3Z h'Z tk'Z F'Z l1Z l2Z l3Z N'Z loWZ hWZ; (try k_lt l1Z); (try k_sweep))
  k_with "call ref" => (k_here; (with_reducible show wpAny _ _ (call (Value.ref 182) _) _ _ _); k_dflt (refine' layout_new ?k1 ?k2 ?k3 ?k4 ?k5 ?k6 ?k7 ?_; k_extra "HA"); intro x'Z d'Z q1Z q2Z q3Z q4Z q5Z q6Z t1Z t2Z t3Z t4Z t5Z t6Z u1Z u2Z u3Z u4Z u5Z u6Z h'Z tk'Z F'Z l1Z l2Z N'Z; (try k_lt l1Z); (try k_sweep))
  k_with "call ref" => (k_here; (with_reducible show wpAny _ _ (call (Value.ref 418) _) _ _ _); k_dflt (refine' tables_new ?k1 ?k2 ?k3 ?k4 ?k5 ?k6 ?k7 ?_; k_extra "HA"); intro x'Z d'Z q1Z q2Z q3Z t1Z t2Z t3Z h'Z tk'Z F'Z l1Z l2Z N'Z; (try k_lt l1Z); (try k_sweep))
  k_with "call ref" => (k_here; (with_reducible show wpAny _ _ (call (Value.ref 714) _) _ _ _); k_dflt (refine' bus_new ?k1 ?k2 ?k3 ?k4 ?k5 ?k6 ?k7 ?_; k_extra "HA"); intro x'Z d'Z SL'Z q1Z q2Z t1Z t2Z h'Z tk'Z F'Z l1Z l2Z l3Z N'Z; (try k_lt l1Z); (try k_sweep))
  k_with "call ref" => (k_here; (with_reducible show wpAny _ _ (call (Value.ref 266) _) _ _ _); k_dflt (refine' walker_new ?k1 ?k2 ?k3 ?k4 ?k5 ?k6 ?k7 ?_; k_extra "HA"); intro x'Z d'Z q1Z q2Z t1Z t2Z h'Z tk'Z F'Z l1Z l2Z N'Z; (try k_lt l1Z); (try k_sweep))
  k_with "call ref" => (k_here; (with_reducible show wpAny _ _ (call (Value.ref 834) _) _ _ _); k_dflt (refine' pages_new ?k1 ?k2 ?k3 ?k4 ?k5 ?k6 ?k7 ?_; k_extra "HA"); intro x'Z d'Z G'Z H'Z oH'Z q1Z q2Z q3Z q4Z q5Z q6Z q7Z q8Z t1Z t2Z t3Z t4Z t5Z t6Z t7Z t8Z u1Z u2Z u3Z u4Z h'Z tk'Z F'Z l1Z l2Z l3Z l4Z N'Z loHZ hHZ; (try k_lt l1Z); (try k_sweep))
  k_with "execs cons" => (k_here; (with_reducible show wpAny _ _ (execs (Stmt.Assign [Expr.Tuple (Expr.Name (Str.ofString "roots") _ :: _) _ _] _ _ :: _) _) _ _ _); refine stop_here ?_)
  trivial
theorem law1 {Q : Flow → Shared → Prop} {cd : Value} {mk : Addr} {ws : List Value} {ns : List Int} {nn : Nat} {mm : Str → Option Value}
  (hE : PassesOwn (model pw w) (callerA.deeper (envL L a cd)) (envL L a cd) E) (XB : (KF w.params).In base) (TB : Top p loose mean mg mb base) (hns : ∀ n ∈ ns, 0 ≤ n) (hlen : ns.length ≤ 12) (hi : IntsAre ws ns) (B : Below callerA base [] h₀) (F : Fr h₀ L s.heap (fun y => if y = Str.ofString "marks" then some (.ref mk) else mm y)) (X : (KF w.params).In h₀) (N : News h₀ L s.heap [(mk, listOf (List.toArray ws) nn)]) (T : Top p loose mean mg mb h₀)
  (hret : ∀ m' h' tk', Fr h₀ L h' m' → Q (.ret (.bool true)) { s with heap := h', toks := tk' }) :
  wpAny (model pw w) (callerA.deeper (envL L a cd)) (execs ((fnB (st 56)).drop 1) (envL L a cd)) Q E s := by
  show wpAny _ _ (execs (_ :: _) _) _ _ _
  k_steps
  unfold StopHere
  rename Fr _ _ _ _ => FL
  rename News _ _ _ _ => NL
  rename Wd _ _ _ => hWl
  rename Hd _ _ _ => hHl
  refine' law1b hE XB TB hns hlen hi B X T FL NL ?q0 ?q1 ?q2 ?q3 ?q4 ?q5 ?q6 ?q7 ?q8 ?q9 ?q10 ?q11 ?q12 ?q13 ?q14 ?q15 ?q16 ?q17 ?lo1 ?lo2 hWl hHl (fun m' h' tk' F' => hret m' h' tk' F')
  case lo1 => assumption
  case lo2 => assumption
  all_goals lia
end
end Mine

namespace Mine
theorem marks_ok (l : List Int) (n : Nat) (hn : n ≤ 1) : (∀ x ∈ List.map (fun k' : Int => (if k' < 0 then -k' else k').fmod (10 ^ Int.toNat 9)) (List.take 10 l) ++ (List.replicate n [(1 : Int), 4]).flatten, 0 ≤ x) ∧
    (List.map (fun k' : Int => (if k' < 0 then -k' else k').fmod (10 ^ Int.toNat 9)) (List.take 10 l) ++ (List.replicate n [(1 : Int), 4]).flatten).length ≤ 12 := by
  constructor
  · intro x hx
    rcases List.mem_append.mp hx with hx | hx
    · obtain ⟨k, _, rfl⟩ := List.mem_map.mp hx
      rw [Int.fmod_eq_emod_of_nonneg _ (by decide)]
      exact Int.emod_nonneg _ (by decide)
    · obtain ⟨m, hm, hx⟩ := List.mem_flatten.mp hx
      obtain rfl := (List.mem_replicate.mp hm).2
      simp only [List.mem_cons, List.not_mem_nil, or_false] at hx
      lia
  · rw [List.length_append, List.length_map]
    have h1 : (List.take 10 l).length ≤ 10 := by rw [List.length_take]; lia
    have h2 : (List.replicate n [(1 : Int), 4]).flatten.length ≤ 2 := by
      rcases (by lia : n = 0 ∨ n = 1) with rfl | rfl <;> decide
    lia
section
variable {w : World} {p : Program} {loose : List Str} {mean : ExcName → Option Value} {mg mb : Str → Option Value}
  {dp un : Nat} {gd : Option (List Code)} {cn : Str} {cs : Scope} {a : Addr} {ccd : Value} {cl : List (Str × Addr)} {outer : List Env} {A₀ : Around} {base h₀ : Heap} {L : Addr} {m : Str → Option Value} {s : Shared} {Q E : Value → Shared → Prop} {news : List (Addr × Obj)}
theorem rulesZ00 : True := by
  k_with_none
  k_with "H11" => exact News.isTup (by assumption) (List.Mem.head _)
  k_with "H8" => first | exact binds_K (by k_in) rfl (by k_is) rfl rfl rfl | exact BindsTo.of_eq rfl
  k_with "HB" => (case k1 => k_asm); (case k2 => k_asm); (case k3 => k_asm); (case k4 => k_asm); (case k5 => k_asm)
  k_with "K_MEM" => first | with_reducible assumption | ktr_member | exact List.Mem.head _ | (refine List.mem_cons_of_mem _ ?_; k_mem) | (refine List.mem_append_right _ ?_; k_mem) | (refine List.mem_append_left _ ?_; with_reducible assumption)
  k_with "K_IN" => first | k_in_fast | with_reducible assumption | exact Frag.In.keeps (by with_reducible assumption) (Fr.keep (by with_reducible assumption))
  k_with "K_ROOM" => ((try simp (config := {zetaDelta := true}) only [depth_under_make, depth_under_kw, depth_in1, depth_deeper, depth_caller]); (try dsimp only [ktrTop]); (first | (refine' room0 ?rh; (case rh => assumption)) | (refine' room1 ?rh ?rk; (case rh => assumption); (case rk => exact Nat.le_of_ble_eq_true rfl)) | (refine' room2 ?rh ?rk; (case rh => assumption); (case rk => exact Nat.le_of_ble_eq_true rfl)) | (refine' room3 ?rh ?rk; (case rh => assumption); (case rk => exact Nat.le_of_ble_eq_true rfl)) | (refine' room4 ?rh ?rk; (case rh => assumption); (case rk => exact Nat.le_of_ble_eq_true rfl)) | omega))
  k_with "testChain" => first | refine test_link ?_ | refine test_last ?_
  k_with "K_ALL" => first | with_reducible assumption | (refine lt_ne ?_; with_reducible assumption)
  k_with "call ref" => (k_here; refine wpAny_call ?_; k_dflt (refine' code_defL ?k1 ?k2 ?k3 ?k4 ?k5 ?kA ?kF ?kK ?k6 ?k7 ?k8 ?k9 ?kB ?_ ?c2 ?c3 ?c4 ?c5; (case kA => exact rfl); (case kF => exact rfl); (case kK => first | assumption | exact rfl); k_extra "HB"; (case k6 => k_is); (case k7 => k_is); (case k8 => k_room); (case k9 => k_extra "H8"); (case c5 => decide); (case kB => exact locs rfl); (case c2 => exact rfl); (case c3 => exact rfl); (case c4 => exact rfl); k_whole; intro g'Z L'Z h'Z kEZ kAZ kMZ kQZ kXZ FG'Z F'Z N'Z B'Z X'Z T'Z; (try dsimp only); (try k_lift B'Z)))
  k_with "LeaveK" => (k_dflt (refine' leaveK_ ?k1 ?k2 ?_; (case k1 => k_asm); (case k2 => k_asm); k_whole); intro kFZ kNZ; (try (have kXZ := kFor kFZ (by k_asm))); (try dsimp only [PySem.W.InitBack, PySem.W.CmpBack, PySem.W.LenBack, PySem.W.StrBack, PySem.W.BoolBack]); (try refine ⟨rfl, ?_⟩); (try dsimp only [PySem.W.CmpBack, PySem.W.LenBack, PySem.W.StrBack, PySem.W.BoolBack]); (try (refine ⟨⟨by omega, by omega⟩, ?_⟩)); (try (refine handed_on rfl ?_; try dsimp only)))
  k_with "storeName" => (k_here; k_dflt ((refine' storeL ?F ?N ?_ ?a ?b; (case F => k_asm); (case N => k_asm); (case a => rfl); (case b => rfl); k_whole; intro h'Z kMZ F'Z N'Z; (try k_sweep))))
  k_with "eval Attribute Name" => (k_here; k_dflt (refine' selfAttr ?kF ?ka ?kb ?kv ?k2 ?k3 ?k4 ?k5 ?k6 ?k7 ?k8 ?k9 ?_ ?kd; (case kF => k_asm); (case ka => rfl); (case kb => rfl); (case kv => rfl); (case k2 => k_asm); (case k3 => k_inst); (case k4 => k_is); (case k5 => k_is); (case k6 => k_is); (case k7 => k_is); (case k8 => k_get); (case k9 => k_handed); (case kd => decide); k_whole))
  k_with "spliced" => (k_here; (with_reducible show wpAny _ _ (spliced (backTo _ (starEach [Expr.Name _ _] _))) _ _ _); k_dflt (refine' argN1 ?kF ?ka ?kb ?kv ?_ ?kd; (case kF => k_asm); (case ka => rfl); (case kb => rfl); (case kv => rfl); (case kd => decide); k_whole))
  k_with "spliced" => (k_here; (with_reducible show wpAny _ _ (spliced (backTo _ (starEach (Expr.Name _ _ :: _ :: _) _))) _ _ _); k_dflt (refine' argN ?kF ?ka ?kb ?kv ?_ ?kd; (case kF => k_asm); (case ka => rfl); (case kb => rfl); (case kv => rfl); (case kd => decide); k_whole))
  k_with "eval Dict nil nil" => (k_here; k_dflt (refine' newDict_K ?k1 ?k2 (TopRead.nolimit ?k3) ?_; (case k1 => k_asm); (case k2 => k_asm); (case k3 => k_asm); k_whole); intro d'Z h'Z o'Z F'Z N'Z l1Z lo'Z hs'Z fs'Z hi'Z fi'Z; (try k_lt l1Z); (try k_sweep))
  k_with "call ref" => (k_here; k_dflt (refine' call_cls ?k1 ?k2 ?k3 ?k4 ?k5 ?k6 ?_; (case k1 => k_asm); (case k2 => k_asm); (case k3 => k_asm); (case k4 => k_is); (case k5 => k_is); (case k6 => k_is); k_whole; intro x'Z d'Z h'Z F'Z N'Z l1Z l2Z; (try k_lt l1Z); (try k_lt2 l2Z); (try k_sweep); refine' code_def ?k1 ?k2 ?k3 ?k4 ?k5 ?kA ?kF ?kK ?k6 ?k7 ?k8 ?k9 ?kB ?_ ?c2 ?c3 ?c4 ?c5; (case kA => exact rfl); (case kF => exact rfl); (case kK => assumption); k_extra "HB"; (case k6 => k_is); (case k7 => k_is); (case k8 => k_room); (case k9 => k_extra "H8"); (case c5 => decide); (case kB => exact locs rfl); (case c2 => exact rfl); (case c3 => exact rfl); (case c4 => exact rfl); k_whole; intro g'Z L'Z h'Z FG'Z F'Z N'Z B'Z X'Z T'Z; (try dsimp only); (try k_lift B'Z); (try k_fold)))
  k_with "unpackItems ref none" => focus (rw [fm_names]; rotate_left; (focus kernel_rfl); (dsimp only [List.filterMap, nmO, List.length]))
  k_with "unpackItems ref" => (k_here; k_dflt (refine' unpackItemsN_ ?k1 ?k2 ?k3 ?k4 ?k5 ?_; (case k1 => k_asm); (case k2 => k_asm); (case k3 => k_extra "H11"); (case k4 => exact rfl); (case k5 => exact rfl); k_whole); intro h'Z F'Z N'Z; (try k_sweep))
  k_with "execs cons" => (k_here; (with_reducible show wpAny _ _ (execs (Stmt.Assign [Expr.Tuple (Expr.Name (Str.ofString "memory") _ :: _) _ _] _ _ :: _) _) _ _ _); refine stop_here ?_)
  trivial
theorem lawW : PySem.Challenge.rw_pf0220_01.Holds := by
  refine opens fun d kwd hdef => ?_
  cases hdef
  k_fill
  intro w s₀ s₁ mg mb G Y fa o pm cd doc dV kV ho hd hcd hD hmg hg args vals as hpre hlay hrd hwl hlo
  have KX := kIn_of Y
  have X := (Ground.X G).1
  have V := (Ground.X G).2
  refine Ground.open G ?_
  intro T B D TE TW
  try (refine guard_noD D (by decide +kernel) ?_; clear D)
  obtain ⟨_, _, M⟩ := bmod_of_top T
  have TA := at_of_top T
  try (obtain ⟨_, _, he, B0⟩ := based_of_top T rfl hmg ho hd; have he' : cd = _ := he; subst he'; clear he)
  clear hmg
  wrow_args hpre hlay hrd hwl hlo
  all_goals
    first | refine callC_kw (enter_call ?_) | refine enter_call ?_ | refine callC_kw (enter_callW ?_) | refine enter_callW ?_ | w_how
    w_top on
    try refine codeAny_mono ?_ (fun _ _ g => GoodW.toG g)
    have K0 := below_caller (Top.heap T)
    w_call any ho hd hcd hD T F
    clear hd TA
    k_drop
  (all_goals try k_fold)
  k_steps
  unfold StopHere
  rename Fr _ _ _ _ => FL
  rename News _ _ _ _ => NL
  rename IntsAre _ (_ ++ _) => hIL
  rename Below callerA _ [] _ => hB
  rename Frag.In _ _ => hX
  rename Top _ _ _ _ _ _ => hT
  refine' law1 ?hE hX hT ?hns ?hlen hIL hB FL hX ?N hT ?hret
  case hns => exact (marks_ok _ _ (by split <;> decide)).1
  case hlen => exact (marks_ok _ _ (by split <;> decide)).2
  case N => exact fun q hq => NL q (by
    rw [List.mem_singleton.mp hq]
    exact .head _)
  case hE => passes_own
  case hret =>
    intro m' h' tk' F'
    k_steps
end
end Mine

theorem PySem.Challenge.cw_pf0220_01_holds : PySem.Challenge.rw_pf0220_01.Holds :=
  Mine.lawW
